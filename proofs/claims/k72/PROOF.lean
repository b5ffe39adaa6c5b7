import PyProof.Rows.All
import Wide.All
import OpenK.AllK
import Wide.FinOn
import HandS.ForMost
import HandS.ForExc
import HandS.TupAny
import HandS.Wide
import HandS.SortInts
import HandS.ExcIs
import HandS.TryOnly
import HandS.Rev
import HandS.RevRange
import HandS.WordsExc
import HandS.SetFor
import HandS.Strs
import HandS.Conv
import HandS.IsInst
import HandS.RevTup
import HandS.NamedTupSort
import HandS.SortRule
import HandS.Deep
import HandS.WideBits
import KE.DataMinMax
import HandS.Iter
import KE.GoesMore
import KE.SortData
import HandS.More
import HandS.Dict
import HandS.Zip
import KE.GoesZip
import KE.KTurns
import KE.KTupSum
import HandS.TupLe
import KE.KDictSum
import KE.DataFind
import HandS.WordsDict
import HandS.EndBits
import KE.RegKIsAll
import PySem.Challenge.RW_spanrow_k72_rooted_forests
set_option Elab.async false
set_option linter.all false
set_option maxRecDepth 100000
namespace DL
open PySem L2

inductive D where
  | un | non | bl (b : Bool) | int (i : Int) | str (x : Str)
  | sc (xs : List D) | ls (xs : List D) | tp (xs : List D) | ob (c : Nat) (fs : List D)
  | ol (xs : List D) | bo (xs : List D)
  | od (ks : List Key) (xs : List D) | bd (ks : List Key) (xs : List D)
  | oo (o : Option Addr) (c : Nat) (fs : List D) | bb (c : Nat) (fs : List D)
  | rf (a : Addr)

abbrev Cls := Nat → Option (Addr × List Str)
abbrev Env := List D

inductive Res (α : Type) where
  | ok (a : α) | xc (c : Nat) | bad
inductive Out where
  | nx (g : Env) | rt (d : D) | bk (g : Env) | ct (g : Env) | xc (c : Nat) (g : Env) | bad

def excV (cls : Cls) (c : Nat) : Value := match cls c with
  | some (C, _) => .ref C
  | none => .none

mutual
inductive Rp (K : PySem.W.Frag) (cls : Cls) (F : Hp) : V → D → Prop
  | non : Rp K cls F .non .non
  | bl (b : Bool) : Rp K cls F (.bl b) (.bl b)
  | int (i : Int) : Rp K cls F (.int i) (.int i)
  | str (x : Str) : Rp K cls F (.str x) (.str x)
  | rf (a : Addr) : Rp K cls F (.ref a) (.rf a)
  | sc {a : Addr} {vs : List V} {ds : List D} : SqL K F a vs → Rps K cls F vs ds → Rp K cls F (.ref a) (.sc ds)
  | ls {a : Addr} {vs : List V} {ds : List D} : F a = some (.lst vs) → Rps K cls F vs ds → Rp K cls F (.ref a) (.ls ds)
  | tp {a : Addr} {vs : List V} {ds : List D} : SqT K F a vs → Rps K cls F vs ds → Rp K cls F (.ref a) (.tp ds)
  | ob {a C dx : Addr} {c : Nat} {ns : List Str} {vs : List V} {ds : List D} : cls c = some (C, ns) → F a = some (.ins C dx (ns.zip vs)) → vs.length ≤ ns.length → Rps K cls F vs ds → Rp K cls F (.ref a) (.ob c ds)
inductive Rps (K : PySem.W.Frag) (cls : Cls) (F : Hp) : List V → List D → Prop
  | nil : Rps K cls F [] []
  | cons {v : V} {d : D} {vs : List V} {ds : List D} : Rp K cls F v d → Rps K cls F vs ds → Rps K cls F (v :: vs) (d :: ds)
end

mutual
inductive Ow (K : PySem.W.Frag) (cls : Cls) (F H : Hp) : V → D → List Addr → Prop
  | sh {v : V} {d : D} : Rp K cls F v d → Ow K cls F H v d []
  | ol {a : Addr} {vs : List V} {ds : List D} {O : List Addr} : F a = none → H a = some (.lst vs) → a ∉ O → Ows K cls F H vs ds O → Ow K cls F H (.ref a) (.ol ds) (a :: O)
  | od {a : Addr} {ks : List Key} {vs : List V} {ds : List D} {O : List Addr} : F a = none → H a = some (.dK (ks.zip vs)) → ks.length = vs.length → a ∉ O → Ows K cls F H vs ds O → Ow K cls F H (.ref a) (.od ks ds) (a :: O)
  | oo {o : Option Addr} {a C dx : Addr} {c : Nat} {ns : List Str} {vs : List V} {ds : List D} {O : List Addr} : (∀ x, o = some x → x = a) → cls c = some (C, ns) → F a = none → H a = some (.ins C dx (ns.zip vs)) → vs.length ≤ ns.length → a ∉ O → Ows K cls F H vs ds O → Ow K cls F H (.ref a) (.oo o c ds) (a :: O)
inductive Ows (K : PySem.W.Frag) (cls : Cls) (F H : Hp) : List V → List D → List Addr → Prop
  | nil : Ows K cls F H [] [] []
  | cons {v : V} {d : D} {vs : List V} {ds : List D} {O1 O2 O : List Addr} : Ow K cls F H v d O1 → Ows K cls F H vs ds O2 → (∀ a ∈ O1, a ∉ O2) → O = O1 ++ O2 → Ows K cls F H (v :: vs) (d :: ds) O
end

mutual
inductive Bo (K : PySem.W.Frag) (cls : Cls) (F H : Hp) : V → D → Prop
  | sh {v : V} {d : D} : Rp K cls F v d → Bo K cls F H v d
  | bo {a : Addr} {vs : List V} {ds : List D} : H a = some (.lst vs) → Bos K cls F H vs ds → Bo K cls F H (.ref a) (.bo ds)
  | bd {a : Addr} {ks : List Key} {vs : List V} {ds : List D} : H a = some (.dK (ks.zip vs)) → ks.length = vs.length → Bos K cls F H vs ds → Bo K cls F H (.ref a) (.bd ks ds)
  | bb {a C dx : Addr} {c : Nat} {ns : List Str} {vs : List V} {ds : List D} : cls c = some (C, ns) → H a = some (.ins C dx (ns.zip vs)) → vs.length ≤ ns.length → Bos K cls F H vs ds → Bo K cls F H (.ref a) (.bb c ds)
inductive Bos (K : PySem.W.Frag) (cls : Cls) (F H : Hp) : List V → List D → Prop
  | nil : Bos K cls F H [] []
  | cons {v : V} {d : D} {vs : List V} {ds : List D} : Bo K cls F H v d → Bos K cls F H vs ds → Bos K cls F H (v :: vs) (d :: ds)
end

def Tm (K : PySem.W.Frag) (cls : Cls) (F H : Hp) (v : V) (d : D) (O : List Addr) : Prop := Ow K cls F H v d O ∨ (Bo K cls F H v d ∧ O = [])

inductive Sts (K : PySem.W.Frag) (cls : Cls) (F H : Hp) : St → Env → List Addr → Prop
  | nil : Sts K cls F H [] [] []
  | un {o : Option V} {σ : St} {g : Env} {O : List Addr} : Sts K cls F H σ g O → Sts K cls F H (o :: σ) (.un :: g) O
  | cons {v : V} {d : D} {σ : St} {g : Env} {O1 O2 O : List Addr} : Ow K cls F H v d O1 → Sts K cls F H σ g O2 → (∀ a ∈ O1, a ∉ O2) → O = O1 ++ O2 → Sts K cls F H (some v :: σ) (d :: g) O

def Fresh (H : Hp) (O : List Addr) : Prop := ∀ a ∈ O, H a = none

structure Ext (F H F' H' : Hp) : Prop where
  ff : Same F F'
  hh : Same H H'
  fh : Same F' H'
  ow : ∀ a, F a = none → H a ≠ none → F' a = none

structure SExt (F H : Hp) (O : List Addr) (F' H' : Hp) (O' : List Addr) : Prop where
  ff : Same F F'
  fh : Same F' H'
  fr : ∀ a o, H a = some o → a ∉ O → H' a = some o
  ow : ∀ a, F a = none → H a ≠ none → a ∉ O → F' a = none
  oo : ∀ a ∈ O', a ∈ O ∨ H a = none

section
variable {K : PySem.W.Frag} {cls : Cls} {F H F' H' F'' H'' : Hp} {O O' O'' : List Addr}

theorem Ext.refl (s : Same F H) : Ext F H F H := ⟨.refl F, .refl H, s, fun _ h _ => h⟩
theorem Ext.trans (x : Ext F H F' H') (y : Ext F' H' F'' H'') : Ext F H F'' H'' :=
  ⟨x.ff.trans y.ff, x.hh.trans y.hh, y.fh, fun a h1 h2 => y.ow a (x.ow a h1 h2) (fun e => by
    cases q : H a with
    | none => exact h2 q
    | some o => rw [x.hh a o q] at e; cases e)⟩
theorem Ext.some (x : Ext F H F' H') {a : Addr} (h : H a ≠ none) : H' a ≠ none := fun e => by
  cases q : H a with
  | none => exact h q
  | some o => rw [x.hh a o q] at e; cases e
theorem Ext.fresh (x : Ext F H F' H') (h : Fresh H' O) : Fresh H O := fun a ha => x.hh.free (h a ha)
theorem Fresh.mono (s : Same H H') (h : Fresh H' O) : Fresh H O := fun a ha => s.free (h a ha)
theorem Fresh.nil : Fresh H [] := fun _ h => nomatch h
theorem SExt.refl (s : Same F H) : SExt F H O F H O := ⟨.refl F, s, fun _ _ h _ => h, fun _ h _ _ => h, fun _ h => .inl h⟩
theorem SExt.trans (x : SExt F H O F' H' O') (y : SExt F' H' O' F'' H'' O'') : SExt F H O F'' H'' O'' := by
  have no : ∀ a o, H a = .some o → a ∉ O → a ∉ O' := fun a o h n h' => by
    rcases x.oo a h' with e | e
    · exact n e
    · rw [h] at e; cases e
  have ne : ∀ a, H a ≠ none → ∃ o, H a = .some o := fun a h => by
    cases q : H a with
    | none => exact (h q).elim
    | some o => exact ⟨o, rfl⟩
  refine ⟨x.ff.trans y.ff, y.fh, fun a o h n => y.fr a o (x.fr a o h n) (no a o h n), fun a h1 h2 n => ?_, fun a h => ?_⟩
  · obtain ⟨o, q⟩ := ne a h2
    exact y.ow a (x.ow a h1 h2 n) (by rw [x.fr a o q n]; exact fun e => nomatch e) (no a o q n)
  · rcases y.oo a h with e | e
    · exact x.oo a e
    · cases q : H a with
      | none => exact .inr rfl
      | some o =>
        by_cases n : a ∈ O
        · exact .inl n
        · rw [x.fr a o q n] at e; cases e
theorem Ext.sext (x : Ext F H F' H') (h : ∀ a ∈ O', a ∈ O ∨ H a = none) : SExt F H O F' H' O' := ⟨x.ff, x.fh, fun a o e _ => x.hh a o e, fun a h1 h2 _ => x.ow a h1 h2, h⟩
theorem SExt.ext (x : SExt F H [] F' H' O') : Ext F H F' H' := ⟨x.ff, fun a o e => x.fr a o e (by simp), x.fh, fun a h1 h2 => x.ow a h1 h2 (by simp)⟩

mutual
theorem Rp.mono (s : Same F F') : ∀ {v : V} {d : D}, Rp K cls F v d → Rp K cls F' v d
  | _, _, .non => .non
  | _, _, .bl b => .bl b
  | _, _, .int i => .int i
  | _, _, .str x => .str x
  | _, _, .rf x => .rf x
  | _, _, .sc h r => .sc (s.seq h) (Rps.mono s r)
  | _, _, .ls h r => .ls (s _ _ h) (Rps.mono s r)
  | _, _, .tp h r => .tp (by
      rcases h with (h | ⟨o, h⟩) | h
      · exact .inl (.inl (s _ _ h))
      · exact .inl (.inr ⟨o, s _ _ h⟩)
      · exact .inr h) (Rps.mono s r)
  | _, _, .ob c h l r => .ob c (s _ _ h) l (Rps.mono s r)
theorem Rps.mono (s : Same F F') : ∀ {v : List V} {d : List D}, Rps K cls F v d → Rps K cls F' v d
  | _, _, .nil => .nil
  | _, _, .cons h r => .cons (Rp.mono s h) (Rps.mono s r)
end
mutual
theorem Ow.frame (s : Same F F') : ∀ {v : V} {d : D} {O : List Addr}, Ow K cls F H v d O → (∀ a ∈ O, H' a = H a ∧ F' a = none) → Ow K cls F' H' v d O
  | _, _, _, .sh r, _ => .sh (r.mono s)
  | _, _, _, .ol h1 h2 h3 r, k => .ol (k _ (by simp)).2 ((k _ (by simp)).1.trans h2) h3 (Ows.frame s r fun a ha => k a (by simp [ha]))
  | _, _, _, .od h1 h2 hl h3 r, k => .od (k _ (by simp)).2 ((k _ (by simp)).1.trans h2) hl h3 (Ows.frame s r fun a ha => k a (by simp [ha]))
  | _, _, _, .oo ho hc h1 h2 hl h3 r, k => .oo ho hc (k _ (by simp)).2 ((k _ (by simp)).1.trans h2) hl h3 (Ows.frame s r fun a ha => k a (by simp [ha]))
theorem Ows.frame (s : Same F F') : ∀ {v : List V} {d : List D} {O : List Addr}, Ows K cls F H v d O → (∀ a ∈ O, H' a = H a ∧ F' a = none) → Ows K cls F' H' v d O
  | _, _, _, .nil, _ => .nil
  | _, _, _, .cons h r dj e, k => .cons (Ow.frame s h fun a ha => k a (by simp [e, ha])) (Ows.frame s r fun a ha => k a (by simp [e, ha])) dj e
end
mutual
theorem Ow.dom : ∀ {v : V} {d : D} {O : List Addr}, Ow K cls F H v d O → ∀ a ∈ O, F a = none ∧ H a ≠ none
  | _, _, _, .sh r, _, h => nomatch h
  | _, _, _, .ol h1 h2 h3 r, a, h => by
    rcases List.mem_cons.mp h with rfl | h
    · exact ⟨h1, by rw [h2]; exact fun e => nomatch e⟩
    · exact Ows.dom r a h
  | _, _, _, .od h1 h2 hl h3 r, a, h => by
    rcases List.mem_cons.mp h with rfl | h
    · exact ⟨h1, by rw [h2]; exact fun e => nomatch e⟩
    · exact Ows.dom r a h
  | _, _, _, .oo ho hc h1 h2 hl h3 r, a, h => by
    rcases List.mem_cons.mp h with rfl | h
    · exact ⟨h1, by rw [h2]; exact fun e => nomatch e⟩
    · exact Ows.dom r a h
theorem Ows.dom : ∀ {v : List V} {d : List D} {O : List Addr}, Ows K cls F H v d O → ∀ a ∈ O, F a = none ∧ H a ≠ none
  | _, _, _, .nil, _, h => nomatch h
  | _, _, _, .cons h r dj e, a, ha => by
    rw [e] at ha
    rcases List.mem_append.mp ha with q | q
    · exact Ow.dom h a q
    · exact Ows.dom r a q
end
theorem Ext.get (x : Ext F H F' H') {a : Addr} (h1 : F a = none) (h2 : H a ≠ none) : H' a = H a ∧ F' a = none := by
  refine ⟨?_, x.ow a h1 h2⟩
  cases q : H a with
  | none => exact (h2 q).elim
  | some o => exact x.hh a o q
theorem Ow.ext (x : Ext F H F' H') {v : V} {d : D} (h : Ow K cls F H v d O) : Ow K cls F' H' v d O :=
  h.frame x.ff fun a ha => x.get (h.dom a ha).1 (h.dom a ha).2
theorem Ows.ext (x : Ext F H F' H') {v : List V} {d : List D} (h : Ows K cls F H v d O) : Ows K cls F' H' v d O :=
  h.frame x.ff fun a ha => x.get (h.dom a ha).1 (h.dom a ha).2
mutual
theorem Bo.ext (x : Ext F H F' H') : ∀ {v : V} {d : D}, Bo K cls F H v d → Bo K cls F' H' v d
  | _, _, .sh r => .sh (r.mono x.ff)
  | _, _, .bo h r => .bo (x.hh _ _ h) (Bos.ext x r)
  | _, _, .bd h l r => .bd (x.hh _ _ h) l (Bos.ext x r)
  | _, _, .bb hc h l r => .bb hc (x.hh _ _ h) l (Bos.ext x r)
theorem Bos.ext (x : Ext F H F' H') : ∀ {v : List V} {d : List D}, Bos K cls F H v d → Bos K cls F' H' v d
  | _, _, .nil => .nil
  | _, _, .cons h r => .cons (Bo.ext x h) (Bos.ext x r)
end
theorem Tm.ext (x : Ext F H F' H') {v : V} {d : D} (h : Tm K cls F H v d O) : Tm K cls F' H' v d O := by
  rcases h with h | ⟨h, e⟩
  · exact .inl (h.ext x)
  · exact .inr ⟨h.ext x, e⟩
theorem Sts.dom : ∀ {σ : St} {g : Env} {O : List Addr}, Sts K cls F H σ g O → ∀ a ∈ O, F a = none ∧ H a ≠ none
  | _, _, _, .nil, _, h => nomatch h
  | _, _, _, .un r, a, h => r.dom a h
  | _, _, _, .cons h r dj e, a, ha => by
    rw [e] at ha
    rcases List.mem_append.mp ha with q | q
    · exact Ow.dom h a q
    · exact Sts.dom r a q
theorem Sts.frame (s : Same F F') : ∀ {σ : St} {g : Env} {O : List Addr}, Sts K cls F H σ g O → (∀ a ∈ O, H' a = H a ∧ F' a = none) → Sts K cls F' H' σ g O
  | _, _, _, .nil, _ => .nil
  | _, _, _, .un r, k => .un (r.frame s k)
  | _, _, _, .cons h r dj e, k => .cons (h.frame s fun a ha => k a (by simp [e, ha])) (r.frame s fun a ha => k a (by simp [e, ha])) dj e
theorem Sts.ext (x : Ext F H F' H') {σ : St} {g : Env} (h : Sts K cls F H σ g O) : Sts K cls F' H' σ g O :=
  h.frame x.ff fun a ha => x.get (h.dom a ha).1 (h.dom a ha).2
theorem Sts.len : ∀ {σ : St} {g : Env} {O : List Addr}, Sts K cls F H σ g O → σ.length = g.length
  | _, _, _, .nil => rfl
  | _, _, _, .un r => by simp [r.len]
  | _, _, _, .cons h r dj e => by simp [r.len]

theorem Sts.at : ∀ {σ : St} {g : Env} {O : List Addr} (i : Nat), Sts K cls F H σ g O → i < g.length → ∃ O1 : List Addr, (∀ a ∈ O1, a ∈ O) ∧
    (g[i]? = some .un ∧ O1 = [] ∨ ∃ v d, σ[i]? = some (some v) ∧ g[i]? = some d ∧ Ow K cls F H v d O1) ∧
    (∀ (F' H' : Hp) (v' : V) (d' : D) (O1' : List Addr), (∀ b ∈ O, b ∉ O1 → H' b = H b ∧ F' b = none) → Same F F' → Ow K cls F' H' v' d' O1' → (∀ a ∈ O1', a ∈ O → a ∈ O1) →
      ∃ O'', Sts K cls F' H' (σ.set i (some v')) (g.set i d') O'' ∧ ∀ a ∈ O'', a ∈ O ∨ a ∈ O1') ∧
    (∀ (F' H' : Hp) (o : Option V), (∀ b ∈ O, b ∉ O1 → H' b = H b ∧ F' b = none) → Same F F' →
      ∃ O'', Sts K cls F' H' (σ.set i o) (g.set i .un) O'' ∧ (∀ a ∈ O'', a ∈ O) ∧ ∀ a ∈ O'', a ∉ O1)
  | _, _, _, i, .nil, h => absurd h (Nat.not_lt_zero i)
  | _, _, _, 0, .un (o := o) (O := O) r, _ => by
    refine ⟨[], fun _ h => (nomatch h), .inl ⟨rfl, rfl⟩, fun F' H' v' d' O1' k s w dj => ⟨O1' ++ O, ?_, fun a ha => ?_⟩, fun F' H' o' k s => ⟨O, ?_, fun _ h => h, fun _ _ h => (nomatch h)⟩⟩
    · exact .cons w (r.frame s fun a ha => k a ha (by simp)) (fun a h1 h2 => (nomatch (dj a h1 h2))) rfl
    · rcases List.mem_append.mp ha with q | q
      · exact .inr q
      · exact .inl q
    · exact .un (r.frame s fun a ha => k a ha (by simp))
  | _, _, _, 0, .cons (v := v) (d := d) (O1 := O1) (O2 := O2) h r dj e, _ => by
    subst e
    refine ⟨O1, fun a h => List.mem_append_left _ h, .inr ⟨v, d, rfl, rfl, h⟩, fun F' H' v' d' O1' k s w dj' => ⟨O1' ++ O2, ?_, fun a ha => ?_⟩, fun F' H' o' k s => ⟨O2, ?_, fun a h => List.mem_append_right _ h, fun a h1 h2 => dj a h2 h1⟩⟩
    · refine .cons w (r.frame s fun a ha => k a (List.mem_append_right _ ha) fun q => dj a q ha) (fun a h1 h2 => ?_) rfl
      exact dj a (dj' a h1 (List.mem_append_right _ h2)) h2
    · rcases List.mem_append.mp ha with q | q
      · exact .inr q
      · exact .inl (List.mem_append_right _ q)
    · exact .un (r.frame s fun a ha => k a (List.mem_append_right _ ha) fun q => dj a q ha)
  | _, _, _, i + 1, .un (o := o) (O := O) r, hi => by
    obtain ⟨O1, h1, h2, h3, h4⟩ := r.at i (Nat.lt_of_succ_lt_succ hi)
    refine ⟨O1, h1, by simpa using h2, fun F' H' v' d' O1' k s w dj => ?_, fun F' H' o' k s => ?_⟩
    · obtain ⟨O'', q1, q2⟩ := h3 F' H' v' d' O1' k s w dj
      exact ⟨O'', .un q1, q2⟩
    · obtain ⟨O'', q1, q2⟩ := h4 F' H' o' k s
      exact ⟨O'', .un q1, q2⟩
  | _, _, _, i + 1, .cons (v := v) (d := d) (O1 := P1) (O2 := P2) h r dj e, hi => by
    subst e
    obtain ⟨O1, h1, h2, h3, h4⟩ := r.at i (Nat.lt_of_succ_lt_succ hi)
    have n1 : ∀ a ∈ P1, a ∉ O1 := fun a q q' => dj a q (h1 a q')
    refine ⟨O1, fun a q => List.mem_append_right _ (h1 a q), by simpa using h2, fun F' H' v' d' O1' k s w dj' => ?_, fun F' H' o' k s => ?_⟩
    · obtain ⟨O'', q1, q2⟩ := h3 F' H' v' d' O1' (fun b hb => k b (List.mem_append_right _ hb)) s w fun a q q' => dj' a q (List.mem_append_right _ q')
      refine ⟨P1 ++ O'', .cons (h.frame s fun a ha => k a (List.mem_append_left _ ha) (n1 a ha)) q1 (fun a ha hb => ?_) rfl, fun a ha => ?_⟩
      · rcases q2 a hb with z | z
        · exact dj a ha z
        · exact n1 a ha (dj' a z (List.mem_append_left _ ha))
      · rcases List.mem_append.mp ha with z | z
        · exact .inl (List.mem_append_left _ z)
        · rcases q2 a z with z | z
          · exact .inl (List.mem_append_right _ z)
          · exact .inr z
    · obtain ⟨O'', q1, q2, q3⟩ := h4 F' H' o' (fun b hb => k b (List.mem_append_right _ hb)) s
      refine ⟨P1 ++ O'', .cons (h.frame s fun a ha => k a (List.mem_append_left _ ha) (n1 a ha)) q1 (fun a ha hb => dj a ha (q2 a hb)) rfl, fun a ha => ?_, fun a ha hb => ?_⟩
      · rcases List.mem_append.mp ha with z | z
        · exact List.mem_append_left _ z
        · exact List.mem_append_right _ (q2 a z)
      · rcases List.mem_append.mp ha with z | z
        · exact n1 a z hb
        · exact q3 a z hb

mutual
/-- a value all of whose lists are shared from now on -/
def frz : D → D
  | .ol xs => .ls (frzs xs)
  | .oo _ c xs => .ob c (frzs xs)
  | d => d
def frzs : List D → List D
  | [] => []
  | d :: ds => frz d :: frzs ds
end
mutual
/-- how an owned value is read -/
def brw : D → D
  | .ol xs => .bo (brws xs)
  | .od ks xs => .bd ks (brws xs)
  | .oo _ c xs => .bb c (brws xs)
  | d => d
def brws : List D → List D
  | [] => []
  | d :: ds => brw d :: brws ds
end
mutual
/-- a borrowed value as plain data -/
def pln : D → D
  | .bo xs => .ls (plns xs)
  | .bb c xs => .ob c (plns xs)
  | d => d
def plns : List D → List D
  | [] => []
  | d :: ds => pln d :: plns ds
end
mutual
theorem Ow.brw (s : Same F H) : ∀ {v : V} {d : D} {O : List Addr}, Ow K cls F H v d O → Bo K cls F H v (brw d)
  | _, _, _, .sh r => by cases r <;> exact .sh (by first | assumption | constructor <;> assumption | constructor)
  | _, _, _, .ol h1 h2 h3 r => .bo h2 (Ows.brws s r)
  | _, _, _, .od h1 h2 hl h3 r => .bd h2 hl (Ows.brws s r)
  | _, _, _, .oo ho hc h1 h2 hl h3 r => .bb hc h2 hl (Ows.brws s r)
theorem Ows.brws (s : Same F H) : ∀ {v : List V} {d : List D} {O : List Addr}, Ows K cls F H v d O → Bos K cls F H v (brws d)
  | _, _, _, .nil => .nil
  | _, _, _, .cons h r _ _ => .cons (Ow.brw s h) (Ows.brws s r)
end
end
end DL

namespace DL
open PySem L2

def Res.bind {α β : Type} (r : Res α) (f : α → Res β) : Res β := match r with
  | .ok a => f a
  | .xc c => .xc c
  | .bad => .bad
@[simp] theorem Res.bind_ok {α β : Type} (a : α) (f : α → Res β) : (Res.ok a).bind f = f a := rfl
@[simp] theorem Res.bind_xc {α β : Type} (c : Nat) (f : α → Res β) : (Res.xc c : Res α).bind f = .xc c := rfl
@[simp] theorem Res.bind_bad {α β : Type} (f : α → Res β) : (Res.bad : Res α).bind f = .bad := rfl
def Res.of {α : Type} : Option α → Res α
  | some a => .ok a
  | none => .bad
@[simp] theorem Res.of_some {α : Type} (a : α) : Res.of (some a) = .ok a := rfl
@[simp] theorem Res.of_none {α : Type} : Res.of (none : Option α) = .bad := rfl

mutual
@[simp] def nod : D → Bool
  | .od _ _ => false
  | .ol xs => nods xs
  | .oo _ _ xs => nods xs
  | _ => true
@[simp] def nods : List D → Bool
  | [] => true
  | d :: ds => nod d && nods ds
end
section
variable {K : PySem.W.Frag} {cls : Cls} {F H F' H' F'' H'' : Hp} {O O' O'' : List Addr}
mutual
theorem Ow.freeze (s : Same F F') : ∀ {v : V} {d : D} {O : List Addr}, Ow K cls F H v d O → (∀ a ∈ O, F' a = H a) → nod d = true → Rp K cls F' v (frz d)
  | _, d, _, .sh r, _, _ => by
    have r' := r.mono s
    cases r <;> (simp only [frz]; exact r')
  | _, _, _, .ol (ds := ds) h1 h2 h3 r, k, n => by
    simp only [frz]
    exact .ls ((k _ (by simp)).trans h2) (Ows.freeze s r (fun a ha => k a (by simp [ha])) (by simpa using n))
  | _, _, _, .od h1 h2 hl h3 r, k, n => by simp at n
  | _, _, _, .oo (ds := ds) ho hc h1 h2 hl h3 r, k, n => by
    simp only [frz]
    exact .ob hc ((k _ (by simp)).trans h2) hl (Ows.freeze s r (fun a ha => k a (by simp [ha])) (by simpa using n))
theorem Ows.freeze (s : Same F F') : ∀ {v : List V} {d : List D} {O : List Addr}, Ows K cls F H v d O → (∀ a ∈ O, F' a = H a) → nods d = true → Rps K cls F' v (frzs d)
  | _, _, _, .nil, _, _ => .nil
  | _, _, _, .cons h r dj e, k, n => by
    simp only [nods, Bool.and_eq_true] at n
    simp only [frzs]
    exact .cons (Ow.freeze s h (fun a ha => k a (by simp [e, ha])) n.1) (Ows.freeze s r (fun a ha => k a (by simp [e, ha])) n.2)
end
def addF (F H : Hp) (O : List Addr) : Hp := fun a => if a ∈ O then H a else F a
theorem addF_ext {F0 H0 : Hp} (x : Ext F0 H0 F H) (f : Fresh H0 O) (n : ∀ a ∈ O, F a = none) : Ext F0 H0 (addF F H O) H := by
  have s1 : Same F (addF F H O) := fun a o e => by
    unfold addF
    split
    · rename_i q; rw [n a q] at e; cases e
    · exact e
  refine ⟨x.ff.trans s1, x.hh, fun a o e => ?_, fun a h1 h2 => ?_⟩
  · unfold addF at e
    split at e
    · exact e
    · exact x.fh a o e
  · unfold addF
    rw [if_neg (fun q => h2 (f a q))]
    exact x.ow a h1 h2
theorem addF_same (n : ∀ a ∈ O, F a = none) : Same F (addF F H O) := fun a o e => by
  unfold addF
  split
  · rename_i q; rw [n a q] at e; cases e
  · exact e
theorem addF_at : ∀ a ∈ O, addF F H O a = H a := fun a h => by unfold addF; rw [if_pos h]
theorem addF_no {a : Addr} (h : a ∉ O) : addF F H O a = F a := by unfold addF; rw [if_neg h]

def opd (d : D) : D := if nod d = true then frz d else brw d
theorem Rp.opd {v : V} {d : D} (r : Rp K cls F v d) : opd d = d := by cases r <;> rfl
theorem Bo.opd {v : V} {d : D} (r : Bo K cls F H v d) : opd d = d := by
  cases r with
  | sh r => exact r.opd
  | bo => rfl
  | bd => rfl
  | bb => rfl
@[simp] theorem opd_un : opd .un = .un := rfl
@[simp] theorem opd_non : opd .non = .non := rfl
@[simp] theorem opd_bl {b} : opd (.bl b) = .bl b := rfl
@[simp] theorem opd_int {b} : opd (.int b) = .int b := rfl
@[simp] theorem opd_str {b} : opd (.str b) = .str b := rfl
@[simp] theorem opd_sc {b} : opd (.sc b) = .sc b := rfl
@[simp] theorem opd_ls {b} : opd (.ls b) = .ls b := rfl
@[simp] theorem opd_tp {b} : opd (.tp b) = .tp b := rfl
@[simp] theorem opd_ob {c b} : opd (.ob c b) = .ob c b := rfl
@[simp] theorem opd_bo {b} : opd (.bo b) = .bo b := rfl
@[simp] theorem opd_bd {c b} : opd (.bd c b) = .bd c b := rfl
@[simp] theorem opd_od {c b} : opd (.od c b) = .bd c (brws b) := rfl
@[simp] theorem opd_rf {b} : opd (.rf b) = .rf b := rfl
@[simp] theorem opd_bb {c b} : opd (.bb c b) = .bb c b := rfl
@[simp] theorem opd_oo {o c b} : opd (.oo o c b) = if nods b = true then .ob c (frzs b) else .bb c (brws b) := rfl
@[simp] theorem opd_ol {b} : opd (.ol b) = if nods b = true then .ls (frzs b) else .bo (brws b) := by
  rfl
theorem Tm.operand {F0 H0 : Hp} {v : V} {d : D} (x : Ext F0 H0 F H) (f : Fresh H0 O) (t : Tm K cls F H v d O) : ∃ F', Ext F0 H0 F' H ∧ Same F F' ∧ (∀ a, a ∉ O → F' a = F a) ∧ Bo K cls F' H v (opd d) := by
  rcases t with t | ⟨t, e⟩
  · by_cases n : nod d = true
    · refine ⟨addF F H O, addF_ext x f fun a ha => (t.dom a ha).1, addF_same fun a ha => (t.dom a ha).1, fun a ha => addF_no ha, ?_⟩
      unfold DL.opd
      rw [if_pos n]
      exact .sh (t.freeze (addF_same fun a ha => (t.dom a ha).1) addF_at n)
    · refine ⟨F, x, .refl F, fun _ _ => rfl, ?_⟩
      unfold DL.opd
      rw [if_neg n]
      exact t.brw x.fh
  · refine ⟨F, x, .refl F, fun _ _ => rfl, ?_⟩
    rw [t.opd]
    exact t

@[simp] def kp : D → Res D
  | .bo _ => .bad
  | .bd _ _ => .bad
  | .bb _ _ => .bad
  | d => .ok d
theorem Tm.keep {v : V} {d d' : D} (t : Tm K cls F H v d O) (e : kp d = .ok d') : Ow K cls F H v d' O := by
  rcases t with t | ⟨t, rfl⟩
  · have : d' = d := by
      cases t with
      | sh r => cases r <;> (simp at e; exact e.symm)
      | ol => simp at e; exact e.symm
      | od => simp at e; exact e.symm
      | oo => simp at e; exact e.symm
    rw [this]; exact t
  · cases t with
    | sh r =>
      have : d' = d := by cases r <;> (simp at e; exact e.symm)
      rw [this]; exact .sh r
    | bo => simp at e
    | bd => simp at e
    | bb => simp at e

def PostE (K : PySem.W.Frag) (cls : Cls) (W : WX) (σ : St) (F H : Hp) (Q : VK) : Res D → Prop
  | .ok d => ∀ v F' H' O', Ext F H F' H' → Fresh H O' → Tm K cls F' H' v d O' → Q v H'
  | .xc c => ∀ F' H', Ext F H F' H' → W (excV cls c) none σ H'
  | .bad => False
def PostB (K : PySem.W.Frag) (cls : Cls) (W : WX) (σ : St) (F H : Hp) (Q : VK) : Res D → Prop
  | .ok d => ∀ v F' H', Ext F H F' H' → Bo K cls F' H' v d → Q v H'
  | .xc c => ∀ F' H', Ext F H F' H' → W (excV cls c) none σ H'
  | .bad => False
def PostO (K : PySem.W.Frag) (cls : Cls) (W : WX) (σ : St) (F H : Hp) (Q : VK) : Res D → Prop
  | .ok d => ∀ v F' H' O', Ext F H F' H' → Fresh H O' → Ow K cls F' H' v d O' → Q v H'
  | .xc c => ∀ F' H', Ext F H F' H' → W (excV cls c) none σ H'
  | .bad => False
def PostT (cls : Cls) (W : WX) (σ : St) (F H : Hp) (Q : Bool → Hp → Prop) : Res Bool → Prop
  | .ok b => ∀ F' H', Ext F H F' H' → Q b H'
  | .xc c => ∀ F' H', Ext F H F' H' → W (excV cls c) none σ H'
  | .bad => False
def PostA (K : PySem.W.Frag) (cls : Cls) (W : WX) (σ : St) (F H : Hp) (Q : List V → Hp → Prop) : Res (List D) → Prop
  | .ok d => ∀ v F' H', Ext F H F' H' → Bos K cls F' H' v d → Q v H'
  | .xc c => ∀ F' H', Ext F H F' H' → W (excV cls c) none σ H'
  | .bad => False
def PostAO (K : PySem.W.Frag) (cls : Cls) (W : WX) (σ : St) (F H : Hp) (Q : List V → Hp → Prop) : Res (List D) → Prop
  | .ok d => ∀ v F' H' O', Ext F H F' H' → Fresh H O' → Ows K cls F' H' v d O' → Q v H'
  | .xc c => ∀ F' H', Ext F H F' H' → W (excV cls c) none σ H'
  | .bad => False
def DE (K : PySem.W.Frag) (cls : Cls) (W : WX) (t : TE) (f : Env → Res D) : Prop :=
  ∀ σ F H g O Q, Same F H → Sts K cls F H σ g O → PostE K cls W σ F H Q (f g) → t σ H Q
def DB (K : PySem.W.Frag) (cls : Cls) (W : WX) (t : TE) (f : Env → Res D) : Prop :=
  ∀ σ F H g O Q, Same F H → Sts K cls F H σ g O → PostB K cls W σ F H Q (f g) → t σ H Q
def DO (K : PySem.W.Frag) (cls : Cls) (W : WX) (t : TE) (f : Env → Res D) : Prop :=
  ∀ σ F H g O Q, Same F H → Sts K cls F H σ g O → PostO K cls W σ F H Q (f g) → t σ H Q
def DT (K : PySem.W.Frag) (cls : Cls) (W : WX) (t : TT) (f : Env → Res Bool) : Prop :=
  ∀ σ F H g O Q, Same F H → Sts K cls F H σ g O → PostT cls W σ F H Q (f g) → t σ H Q
def DA (K : PySem.W.Frag) (cls : Cls) (W : WX) (t : TA) (f : Env → Res (List D)) : Prop :=
  ∀ σ F H g O Q, Same F H → Sts K cls F H σ g O → PostA K cls W σ F H Q (f g) → t σ H Q
def DAO (K : PySem.W.Frag) (cls : Cls) (W : WX) (t : TA) (f : Env → Res (List D)) : Prop :=
  ∀ σ F H g O Q, Same F H → Sts K cls F H σ g O → PostAO K cls W σ F H Q (f g) → t σ H Q

def bF (f : Env → Res D) : Env → Res D := fun g => (f g).bind fun d => .ok (opd d)
def oF (f : Env → Res D) : Env → Res D := fun g => (f g).bind kp
section
variable {f : Env → Res D} {g : Env}
theorem bF_ok {d : D} (e : f g = .ok d) : bF f g = .ok (opd d) := by unfold bF; rw [e]; rfl
theorem bF_xc {d : Nat} (e : f g = .xc d) : bF f g = .xc d := by unfold bF; rw [e]; rfl
theorem bF_bad (e : f g = .bad) : bF f g = .bad := by unfold bF; rw [e]; rfl
theorem oF_ok {d : D} (e : f g = .ok d) : oF f g = kp d := by unfold oF; rw [e]; rfl
theorem oF_xc {d : Nat} (e : f g = .xc d) : oF f g = .xc d := by unfold oF; rw [e]; rfl
theorem oF_bad (e : f g = .bad) : oF f g = .bad := by unfold oF; rw [e]; rfl
end
theorem kp_ok {d : D} : kp d = .ok d ∨ kp d = .bad := by cases d <;> simp
theorem DE.toB {W : WX} {t : TE} {f : Env → Res D} (h : DE K cls W t f) : DB K cls W t (bF f) := by
  intro σ F H g O Q s st p
  refine h σ F H g O Q s st ?_
  cases e : f g with
  | ok d =>
    rw [bF_ok e] at p
    intro v F' H' O' x fr tm
    obtain ⟨F2, x2, _, _, b⟩ := tm.operand x fr
    exact p v F2 H' x2 b
  | xc c => rw [bF_xc e] at p; exact p
  | bad => rw [bF_bad e] at p; exact p
theorem DE.toO {W : WX} {t : TE} {f : Env → Res D} (h : DE K cls W t f) : DO K cls W t (oF f) := by
  intro σ F H g O Q s st p
  refine h σ F H g O Q s st ?_
  cases e : f g with
  | ok d =>
    rw [oF_ok e] at p
    intro v F' H' O' x fr tm
    rcases kp_ok (d := d) with e2 | e2
    · rw [e2] at p; exact p v F' H' O' x fr (tm.keep e2)
    · rw [e2] at p; exact p.elim
  | xc c => rw [oF_xc e] at p; exact p
  | bad => rw [oF_bad e] at p; exact p

theorem PostE.mono {W : WX} {σ : St} {F H F1 H1 : Hp} {Q : VK} {r : Res D} (x : Ext F H F1 H1) (p : PostE K cls W σ F H Q r) : PostE K cls W σ F1 H1 Q r := by
  cases r with
  | ok d => exact fun v F' H' O' y fr tm => p v F' H' O' (x.trans y) (fr.mono x.hh) tm
  | xc c => exact fun F' H' y => p F' H' (x.trans y)
  | bad => exact p
theorem PostT.mono {W : WX} {σ : St} {F H F1 H1 : Hp} {Q : Bool → Hp → Prop} {r : Res Bool} (x : Ext F H F1 H1) (p : PostT cls W σ F H Q r) : PostT cls W σ F1 H1 Q r := by
  cases r with
  | ok d => exact fun F' H' y => p F' H' (x.trans y)
  | xc c => exact fun F' H' y => p F' H' (x.trans y)
  | bad => exact p
theorem PostA.mono {W : WX} {σ : St} {F H F1 H1 : Hp} {Q : List V → Hp → Prop} {r : Res (List D)} (x : Ext F H F1 H1) (p : PostA K cls W σ F H Q r) : PostA K cls W σ F1 H1 Q r := by
  cases r with
  | ok d => exact fun v F' H' y tm => p v F' H' (x.trans y) tm
  | xc c => exact fun F' H' y => p F' H' (x.trans y)
  | bad => exact p
theorem PostAO.mono {W : WX} {σ : St} {F H F1 H1 : Hp} {Q : List V → Hp → Prop} {r : Res (List D)} (x : Ext F H F1 H1) (p : PostAO K cls W σ F H Q r) : PostAO K cls W σ F1 H1 Q r := by
  cases r with
  | ok d => exact fun v F' H' O' y fr tm => p v F' H' O' (x.trans y) (fr.mono x.hh) tm
  | xc c => exact fun F' H' y => p F' H' (x.trans y)
  | bad => exact p

structure JE (X : Cx) (cls : Cls) (W : WX) (e : Expr) (f : Env → Res D) : Prop where
  ex : ∃ t, PE X e t ∧ DE X.K cls W t f
structure JT (X : Cx) (cls : Cls) (W : WX) (e : Expr) (f : Env → Res Bool) : Prop where
  ex : ∃ t, PT X e t ∧ DT X.K cls W t f
structure JW (X : Cx) (cls : Cls) (W : WX) (e : Expr) (f : Env → Res Bool) : Prop where
  ex : ∃ t, PW X e t ∧ DT X.K cls W t f
structure JA (X : Cx) (cls : Cls) (W : WX) (e : List Expr) (f : Env → Res (List D)) : Prop where
  ex : ∃ t, PA X e t ∧ DA X.K cls W t f
structure JAO (X : Cx) (cls : Cls) (W : WX) (e : List Expr) (f : Env → Res (List D)) : Prop where
  ex : ∃ t, PA X e t ∧ DAO X.K cls W t f
end

section
variable {X : Cx} {cls : Cls} {W : WX} {a b c : Expr} {es : List Expr} {fa fb fc : Env → Res D} {fs : Env → Res (List D)} {pos : Pos}
@[simp] def gv (g : Env) (i : Nat) : Res D := match g[i]? with
  | some .un => .bad
  | some d => .ok (brw d)
  | none => .bad
def eVar (i : Nat) : Env → Res D := fun g => gv g i
@[simp] theorem eVar_ (i : Nat) (g : Env) : eVar i g = gv g i := rfl
theorem de_var {K : PySem.W.Frag} (i : Nat) : DE K cls W (tVar i) (eVar i) := by
  intro σ F H g O Q s st p
  unfold eVar gv at p
  cases e : g[i]? with
  | none => rw [e] at p; exact p.elim
  | some d =>
    have hi : i < g.length := (List.getElem?_eq_some_iff.mp e).1
    obtain ⟨O1, h1, h2, _⟩ := st.at i hi
    rcases h2 with ⟨h2, _⟩ | ⟨v, d', h2, h3, ow⟩
    · rw [e] at h2; cases h2; rw [e] at p; exact p.elim
    · rw [e] at h3; cases h3
      refine ⟨v, h2, ?_⟩
      rw [e] at p
      have q : PostE K cls W σ F H Q (.ok (brw d)) := by
        cases d <;> first | exact p | exact p.elim
      exact q v F H [] (.refl s) Fresh.nil (.inr ⟨ow.brw s, rfl⟩)
theorem je_var (i : Nat) {x : Str} (hN : X.N[i]? = some x := by rfl) (hv : Vis X.env.scope x := by first | exact Or.inl rfl | exact Or.inr (Or.inl rfl) | exact Or.inr (Or.inr rfl)) (hd : (x == ("__debug__" : Str)) = false := by decide)
    (hcd : (x == ("__classdict__" : Str)) = false := by decide) : JE X cls W (.Name x pos) (eVar i) := ⟨_, pe_var hN hv hd hcd, de_var i⟩
def eC (d : D) : Env → Res D := fun _ => .ok d
@[simp] theorem eC_ (d : D) (g : Env) : eC d g = .ok d := rfl
theorem de_c {K : PySem.W.Frag} {v : V} {d : D} (h : ∀ F, Rp K cls F v d) : DE K cls W (tC v) (eC d) := by
  intro σ F H g O Q s st p
  exact p v F H [] (.refl s) Fresh.nil (.inl (.sh (h F)))
theorem je_int {i : Int} {j} : JE X cls W (.Constant (.int i) j pos) (eC (.int i)) := ⟨_, pe_int, de_c fun _ => .int i⟩
theorem je_bl {i : Bool} {j} : JE X cls W (.Constant (.bool i) j pos) (eC (.bl i)) := ⟨_, pe_bl, de_c fun _ => .bl i⟩
theorem je_non {j} : JE X cls W (.Constant .none j pos) (eC .non) := ⟨_, pe_non, de_c fun _ => .non⟩
theorem je_gint {x : Str} {i : Int} {t : Tok} (hm : X.mg x = some (.int i t)) (hg : Gl X x := by rfl) (hd : (x == ("__debug__" : Str)) = false := by decide) : JE X cls W (.Name x pos) (eC (.int i)) :=
  ⟨_, pe_glob (v := .int i) hg hm ⟨t, rfl⟩ hd, de_c fun _ => .int i⟩
def R2Ok (K : PySem.W.Frag) (cls : Cls) (r : R2) (op : D → D → Option D) : Prop :=
  ∀ F H x y a b d Q, Same F H → Bo K cls F H x a → Bo K cls F H y b → op a b = some d → (∀ v F' H' O', Ext F H F' H' → Fresh H O' → Tm K cls F' H' v d O' → Q v H') → r x y H Q
def eBin (op : D → D → Option D) (fa fb : Env → Res D) : Env → Res D := fun g => (fa g).bind fun a => (fb g).bind fun b => .of (op (opd a) (opd b))
@[simp] theorem eBin_ (op : D → D → Option D) (fa fb : Env → Res D) (g : Env) : eBin op fa fb g = (fa g).bind fun a => (fb g).bind fun b => .of (op (opd a) (opd b)) := rfl
theorem de_bin {K : PySem.W.Frag} {r : R2} {op : D → D → Option D} {ta tb : TE} (hr : R2Ok K cls r op) (ha : DE K cls W ta fa) (hb : DE K cls W tb fb) : DE K cls W (tOp r ta tb) (eBin op fa fb) := by
  intro σ F H g O Q s st p
  have e0 : eBin op fa fb g = (fa g).bind fun a => (fb g).bind fun b => .of (op (opd a) (opd b)) := rfl
  rw [e0] at p
  refine ha.toB σ F H g O _ s st ?_
  cases ea : fa g with
  | xc c => rw [ea] at p; rw [bF_xc ea]; exact p
  | bad => rw [ea] at p; exact p.elim
  | ok a =>
    rw [ea] at p
    rw [bF_ok ea]
    intro x F1 H1 x1 b1
    refine hb.toB σ F1 H1 g O _ x1.fh (st.ext x1) ?_
    simp only [Res.bind] at p
    cases eb : fb g with
    | xc c => rw [eb] at p; rw [bF_xc eb]; exact p.mono x1
    | bad => rw [eb] at p; exact p.elim
    | ok b =>
      rw [eb] at p
      rw [bF_ok eb]
      simp only [] at p
      intro y F2 H2 x2 b2
      cases eo : op (opd a) (opd b) with
      | none => rw [eo] at p; exact p.elim
      | some d =>
        rw [eo] at p
        exact hr F2 H2 x y _ _ d Q x2.fh (b1.ext x2) b2 eo fun v F' H' O' x3 fr tm => p v F' H' O' (x1.trans (x2.trans x3)) (fr.mono (x1.trans x2).hh) tm
theorem je_bin {o : Operator} {r : R2} {op : D → D → Option D} (ho : OpR X (binaryOp o) r) (hr : R2Ok X.K cls r op) (ha : JE X cls W a fa) (hb : JE X cls W b fb) : JE X cls W (.BinOp a o b pos) (eBin op fa fb) := by
  obtain ⟨ta, pa, da⟩ := ha.ex
  obtain ⟨tb, pb, db⟩ := hb.ex
  exact ⟨_, pe_op ho pa pb, de_bin hr da db⟩
def C2Ok (K : PySem.W.Frag) (cls : Cls) (r : R2) (op : D → D → Option Bool) : Prop :=
  ∀ F H x y a b d Q, Same F H → Bo K cls F H x a → Bo K cls F H y b → op a b = some d → Q (.bl d) H → r x y H Q
def tC2 (op : D → D → Option Bool) (fa fb : Env → Res D) : Env → Res Bool := fun g => (fa g).bind fun a => (fb g).bind fun b => .of (op (opd a) (opd b))
@[simp] theorem tC2_ (op : D → D → Option Bool) (fa fb : Env → Res D) (g : Env) : tC2 op fa fb g = (fa g).bind fun a => (fb g).bind fun b => .of (op (opd a) (opd b)) := rfl
def eB (f : Env → Res Bool) : Env → Res D := fun g => (f g).bind fun b => .ok (.bl b)
@[simp] theorem eB_ (f : Env → Res Bool) (g : Env) : eB f g = (f g).bind fun b => .ok (.bl b) := rfl
theorem de_c2 {K : PySem.W.Frag} {r : R2} {op : D → D → Option Bool} {ta tb : TE} (hr : C2Ok K cls r op) (ha : DE K cls W ta fa) (hb : DE K cls W tb fb) : DE K cls W (tOp r ta tb) (eB (tC2 op fa fb)) := by
  have h : R2Ok K cls r (fun a b => (op a b).map D.bl) := fun F H x y a b d Q s b1 b2 e q => by
    have e : (op a b).map D.bl = some d := e
    cases eo : op a b with
    | none => rw [eo] at e; cases e
    | some k =>
      rw [eo] at e
      cases e
      exact hr F H x y a b k Q s b1 b2 eo (q _ F H [] (.refl s) Fresh.nil (.inl (.sh (.bl k))))
  have q := de_bin (W := W) h ha hb
  have e : eBin (fun a b => (op a b).map D.bl) fa fb = eB (tC2 op fa fb) := by
    funext g
    unfold eBin eB tC2
    cases fa g with
    | ok a =>
      cases fb g with
      | ok b => simp only [Res.bind]; cases op (opd a) (opd b) <;> rfl
      | xc c => rfl
      | bad => rfl
    | xc c => rfl
    | bad => rfl
  rw [e] at q
  exact q
theorem dt_of {K : PySem.W.Frag} {t : TE} {f : Env → Res Bool} (h : DE K cls W t (eB f)) : DT K cls W (tTest t) f := by
  intro σ F H g O Q s st p
  refine h σ F H g O _ s st ?_
  unfold eB
  cases e : f g with
  | ok k =>
    rw [e] at p
    intro v F' H' O' x fr tm
    have : v = .bl k := by
      rcases tm with t | ⟨t, _⟩
      · cases t with
        | sh r => cases r; rfl
      · cases t with
        | sh r => cases r; rfl
    subst this
    exact ⟨k, rfl, p F' H' x⟩
  | xc c => rw [e] at p; exact p
  | bad => rw [e] at p; exact p
theorem je_cmp {o : CmpOp} {r : R2} {op : D → D → Option Bool} (ho : OpR X (compareOp o) r) (hr : C2Ok X.K cls r op) (ha : JE X cls W a fa) (hb : JE X cls W b fb) (hm : behindInMarks o b = false) : JE X cls W (.Compare a [o] [b] pos) (eB (tC2 op fa fb)) := by
  obtain ⟨ta, pa, da⟩ := ha.ex
  obtain ⟨tb, pb, db⟩ := hb.ex
  exact ⟨_, pe_cmpR ho pa pb hm, de_c2 hr da db⟩
theorem jt_cmp {o : CmpOp} {r : R2} {op : D → D → Option Bool} (ho : OpR X (compareOp o) r) (hr : C2Ok X.K cls r op) (ha : JE X cls W a fa) (hb : JE X cls W b fb) (hm : behindInMarks o b = false) : JT X cls W (.Compare a [o] [b] pos) (tC2 op fa fb) := by
  obtain ⟨ta, pa, da⟩ := ha.ex
  obtain ⟨tb, pb, db⟩ := hb.ex
  exact ⟨_, pt_cmpR ho pa pb hm, dt_of (de_c2 hr da db)⟩
end
end DL

namespace DL
open PySem L2
section
variable {K : PySem.W.Frag} {cls : Cls} {W : WX} {X : Cx} {a b c : Expr} {es : List Expr} {fa fb fc : Env → Res D} {ga gb : Env → Res Bool} {fs : Env → Res (List D)} {pos : Pos}
  {F H F1 H1 : Hp} {Q : VK} {σ : St}

def R1Ok (K : PySem.W.Frag) (cls : Cls) (r : V → Hp → VK → Prop) (op : D → Option D) : Prop :=
  ∀ F H x a d Q, Same F H → Bo K cls F H x a → op a = some d → (∀ v F' H' O', Ext F H F' H' → Fresh H O' → Tm K cls F' H' v d O' → Q v H') → r x H Q
def eUn (op : D → Option D) (fa : Env → Res D) : Env → Res D := fun g => (fa g).bind fun a => .of (op (opd a))
@[simp] theorem eUn_ (op : D → Option D) (fa : Env → Res D) (g : Env) : eUn op fa g = (fa g).bind fun a => .of (op (opd a)) := rfl
theorem de_un {r : V → Hp → VK → Prop} {op : D → Option D} {ta : TE} (hr : R1Ok K cls r op) (ha : DE K cls W ta fa) : DE K cls W (tUn r ta) (eUn op fa) := by
  intro σ F H g O Q s st p
  rw [eUn_] at p
  refine ha.toB σ F H g O _ s st ?_
  cases ea : fa g with
  | xc c => rw [ea] at p; rw [bF_xc ea]; exact p
  | bad => rw [ea] at p; exact p.elim
  | ok a =>
    rw [ea] at p
    rw [bF_ok ea]
    simp only [Res.bind] at p
    intro x F1 H1 x1 b1
    cases eo : op (opd a) with
    | none => rw [eo] at p; exact p.elim
    | some d =>
      rw [eo] at p
      exact hr F1 H1 x _ d Q x1.fh b1 eo fun v F' H' O' x3 fr tm => p v F' H' O' (x1.trans x3) (fr.mono x1.hh) tm
theorem je_un {o : UnaryOp} {r : V → Hp → VK → Prop} {op : D → Option D} (ho : UnR X (unaryOp o) r) (hr : R1Ok X.K cls r op) (ha : JE X cls W a fa) : JE X cls W (.UnaryOp o a pos) (eUn op fa) := by
  obtain ⟨ta, pa, da⟩ := ha.ex
  exact ⟨_, pe_un ho pa, de_un hr da⟩

def tru : D → Option Bool
  | .non => some false
  | .bl b => some b
  | .int i => some (i != 0)
  | .str y => if y.length ≤ 1000000 then some ((y.length : Int) != 0) else none
  | .sc xs => some (!xs.isEmpty)
  | .ls xs => some (!xs.isEmpty)
  | .bo xs => some (!xs.isEmpty)
  | .tp xs => some (!xs.isEmpty)
  | .bd ks xs => some (!ks.isEmpty)
  | _ => none
theorem Rps.empty {vs : List V} {ds : List D} (h : Rps K cls F vs ds) : (!vs.isEmpty) = !ds.isEmpty := by cases h <;> rfl
theorem Bos.empty {vs : List V} {ds : List D} (h : Bos K cls F H vs ds) : (!vs.isEmpty) = !ds.isEmpty := by cases h <;> rfl
theorem sameL {a : Addr} {xs : List V} (s : Same F H) (h : SqL K F a xs) : SqL K H a xs := s.seq h
theorem sameT {a : Addr} {xs : List V} (s : Same F H) (h : SqT K F a xs) : SqT K H a xs := by
  rcases h with (h | ⟨o, h⟩) | h
  · exact .inl (.inl (s _ _ h))
  · exact .inl (.inr ⟨o, s _ _ h⟩)
  · exact .inr h
theorem lim_line : (1000000 : Nat) < sizeLine := by rw [sizeLine_eq]; decide
theorem Bo.tru {v : V} {d : D} {k : Bool} (s : Same F H) (b : Bo K cls F H v d) (e : tru d = some k) : TruV K v H k := by
  cases b with
  | sh r =>
    cases r with
    | non => cases e; rfl
    | bl => cases e; rfl
    | int => cases e; rfl
    | str y =>
      have e : (if y.length ≤ 1000000 then some ((y.length : Int) != 0) else none) = some k := e
      split at e
      · rename_i hy
        cases e
        exact ⟨Nat.le_trans hy (Nat.le_of_lt lim_line), rfl⟩
      · cases e
    | sc h r => cases e; exact .inl ⟨_, sameL s h, r.empty.symm⟩
    | ls h r => cases e; exact .inl ⟨_, SqL.of (s _ _ h), r.empty.symm⟩
    | tp h r => cases e; exact .inr (.inl ⟨_, sameT s h, r.empty.symm⟩)
    | ob => cases e
    | rf => cases e
  | bo h r => cases e; exact .inl ⟨_, SqL.of h, r.empty.symm⟩
  | bd h l r =>
    cases e
    refine .inr (.inr ⟨_, h, ?_⟩)
    rename_i a ks vs ds
    cases ks <;> cases vs <;> first | rfl | (simp at l)
  | bb => cases e
def tTr (fa : Env → Res D) : Env → Res Bool := fun g => (fa g).bind fun a => .of (tru (opd a))
@[simp] theorem tTr_ (fa : Env → Res D) (g : Env) : tTr fa g = (fa g).bind fun a => .of (tru (opd a)) := rfl
theorem jt_truth (ha : JE X cls W a fa) (he : ∀ whole, isTrue a X.env whole = (do let v ← whole; standAt a.pos; holding [v] (truthy v)) := by intro _; rfl) : JT X cls W a (tTr fa) := by
  obtain ⟨ta, pa, da⟩ := ha.ex
  refine ⟨_, pt_truth pa he, ?_⟩
  intro σ F H g O Q s st p
  rw [tTr_] at p
  refine da.toB σ F H g O _ s st ?_
  cases ea : fa g with
  | xc c => rw [ea] at p; rw [bF_xc ea]; exact p
  | bad => rw [ea] at p; exact p.elim
  | ok a =>
    rw [ea] at p
    rw [bF_ok ea]
    simp only [Res.bind] at p
    intro x F1 H1 x1 b1
    cases eo : tru (opd a) with
    | none => rw [eo] at p; exact p.elim
    | some d =>
      rw [eo] at p
      exact ⟨d, b1.tru x1.fh eo, p F1 H1 x1⟩
def tAn (ga gb : Env → Res Bool) : Env → Res Bool := fun g => (ga g).bind fun k => if k = true then gb g else .ok false
def tOr_ (ga gb : Env → Res Bool) : Env → Res Bool := fun g => (ga g).bind fun k => if k = true then .ok true else gb g
def tNo (ga : Env → Res Bool) : Env → Res Bool := fun g => (ga g).bind fun k => .ok (!k)
@[simp] theorem tAn_ (ga gb : Env → Res Bool) (g : Env) : tAn ga gb g = (ga g).bind fun k => if k = true then gb g else .ok false := rfl
@[simp] theorem tOr__ (ga gb : Env → Res Bool) (g : Env) : tOr_ ga gb g = (ga g).bind fun k => if k = true then .ok true else gb g := rfl
@[simp] theorem tNo_ (ga : Env → Res Bool) (g : Env) : tNo ga g = (ga g).bind fun k => .ok (!k) := rfl
theorem DT.go {t : TT} (ha : DT K cls W t ga) {σ : St} {F H : Hp} {g : Env} {O : List Addr} {Q : Bool → Hp → Prop} (s : Same F H) (st : Sts K cls F H σ g O)
    (hx : ∀ c, ga g = .xc c → ∀ F' H', Ext F H F' H' → W (excV cls c) none σ H') (hb : ga g ≠ .bad) (hk : ∀ k, ga g = .ok k → ∀ F' H', Ext F H F' H' → Q k H') : t σ H Q := by
  refine ha σ F H g O Q s st ?_
  cases e : ga g with
  | ok k => exact hk k e
  | xc c => exact hx c e
  | bad => exact (hb e).elim
theorem dt_and {ta tb : TT} (ha : DT K cls W ta ga) (hb : DT K cls W tb gb) : DT K cls W (tAnd ta tb) (tAn ga gb) := by
  intro σ F H g O Q s st p
  rw [tAn_] at p
  refine ha.go s st (fun c e => by rw [e] at p; exact p) (fun e => by rw [e] at p; exact p) fun k e F1 H1 x => ?_
  rw [e] at p
  simp only [Res.bind] at p
  cases k with
  | true =>
    rw [if_pos rfl] at p
    rw [if_pos rfl]
    exact hb σ F1 H1 g O Q x.fh (st.ext x) (p.mono x)
  | false =>
    rw [if_neg (by decide)] at p
    rw [if_neg (by decide)]
    exact p F1 H1 x
theorem dt_or {ta tb : TT} (ha : DT K cls W ta ga) (hb : DT K cls W tb gb) : DT K cls W (tOr ta tb) (tOr_ ga gb) := by
  intro σ F H g O Q s st p
  rw [tOr__] at p
  refine ha.go s st (fun c e => by rw [e] at p; exact p) (fun e => by rw [e] at p; exact p) fun k e F1 H1 x => ?_
  rw [e] at p
  simp only [Res.bind] at p
  cases k with
  | true =>
    rw [if_pos rfl] at p
    rw [if_pos rfl]
    exact p F1 H1 x
  | false =>
    rw [if_neg (by decide)] at p
    rw [if_neg (by decide)]
    exact hb σ F1 H1 g O Q x.fh (st.ext x) (p.mono x)
theorem dt_not {ta : TT} (ha : DT K cls W ta ga) : DT K cls W (tNot ta) (tNo ga) := by
  intro σ F H g O Q s st p
  rw [tNo_] at p
  refine ha.go s st (fun c e => by rw [e] at p; exact p) (fun e => by rw [e] at p; exact p) fun k e F1 H1 x => ?_
  rw [e] at p
  exact p F1 H1 x
theorem jw_and1 (h : JT X cls W a ga) : JW X cls W (.BoolOp .And [a] pos) ga := by
  obtain ⟨ta, pa, da⟩ := h.ex
  exact ⟨_, pw_and1 pa, da⟩
theorem jw_or1 (h : JT X cls W a ga) : JW X cls W (.BoolOp .Or [a] pos) ga := by
  obtain ⟨ta, pa, da⟩ := h.ex
  exact ⟨_, pw_or1 pa, da⟩
theorem jw_and (h : JT X cls W a ga) (h2 : JW X cls W (.BoolOp .And (b :: es) pos) gb) : JW X cls W (.BoolOp .And (a :: b :: es) pos) (tAn ga gb) := by
  obtain ⟨ta, pa, da⟩ := h.ex
  obtain ⟨tb, pb, db⟩ := h2.ex
  exact ⟨_, pw_and pa pb, dt_and da db⟩
theorem jw_or (h : JT X cls W a ga) (h2 : JW X cls W (.BoolOp .Or (b :: es) pos) gb) : JW X cls W (.BoolOp .Or (a :: b :: es) pos) (tOr_ ga gb) := by
  obtain ⟨ta, pa, da⟩ := h.ex
  obtain ⟨tb, pb, db⟩ := h2.ex
  exact ⟨_, pw_or pa pb, dt_or da db⟩
theorem jt_w (h : JW X cls W a ga) : JT X cls W a ga := by
  obtain ⟨ta, pa, da⟩ := h.ex
  exact ⟨_, pa.pt, da⟩
theorem jt_not (h : JT X cls W a ga) : JT X cls W (.UnaryOp .Not a pos) (tNo ga) := by
  obtain ⟨ta, pa, da⟩ := h.ex
  exact ⟨_, pt_not pa, dt_not da⟩
theorem PostE.bl {k : Bool} {g : Env} (p : PostE K cls W σ F H Q (.ok (.bl k))) (x : Ext F H F1 H1) : Q (.bl k) H1 := p _ F1 H1 [] x Fresh.nil (.inl (.sh (.bl k)))
@[simp] def blv : D → Res Bool
  | .bl b => .ok b
  | _ => .bad
def tV (fa : Env → Res D) : Env → Res Bool := fun g => (fa g).bind blv
@[simp] theorem tV_ (fa : Env → Res D) (g : Env) : tV fa g = (fa g).bind blv := rfl
def eIf (ga : Env → Res Bool) (fa fb : Env → Res D) : Env → Res D := fun g => (ga g).bind fun k => if k = true then fa g else fb g
@[simp] theorem eIf_ (ga : Env → Res Bool) (fa fb : Env → Res D) (g : Env) : eIf ga fa fb g = (ga g).bind fun k => if k = true then fa g else fb g := rfl
def tCh (op op' : D → D → Option Bool) (fa fb fc : Env → Res D) : Env → Res Bool := fun g => (fa g).bind fun a => (fb g).bind fun b => (Res.of (op (opd a) (opd b))).bind fun k => if k = true then (fc g).bind fun c => .of (op' (opd b) (opd c)) else .ok false
@[simp] theorem tCh_ (op op' : D → D → Option Bool) (fa fb fc : Env → Res D) (g : Env) : tCh op op' fa fb fc g = (fa g).bind fun a => (fb g).bind fun b => (Res.of (op (opd a) (opd b))).bind fun k => if k = true then (fc g).bind fun c => .of (op' (opd b) (opd c)) else .ok false := rfl
theorem DE.go {t : TE} (ha : DE K cls W t fa) {σ : St} {F H : Hp} {g : Env} {O : List Addr} {Q : VK} (s : Same F H) (st : Sts K cls F H σ g O)
    (hx : ∀ c, fa g = .xc c → ∀ F' H', Ext F H F' H' → W (excV cls c) none σ H') (hb : fa g ≠ .bad) (hk : ∀ d, fa g = .ok d → ∀ v F' H', Ext F H F' H' → Bo K cls F' H' v (opd d) → Q v H') : t σ H Q := by
  refine ha.toB σ F H g O Q s st ?_
  cases e : fa g with
  | ok k => rw [bF_ok e]; exact hk k e
  | xc c => rw [bF_xc e]; exact hx c e
  | bad => exact (hb e).elim
theorem DE.goO {t : TE} (ha : DE K cls W t fa) {σ : St} {F H : Hp} {g : Env} {O : List Addr} {Q : VK} (s : Same F H) (st : Sts K cls F H σ g O)
    (hx : ∀ c, fa g = .xc c → ∀ F' H', Ext F H F' H' → W (excV cls c) none σ H') (hb : (fa g).bind kp ≠ .bad) (hk : ∀ d, (fa g).bind kp = .ok d → ∀ v F' H' O', Ext F H F' H' → Fresh H O' → Ow K cls F' H' v d O' → Q v H') : t σ H Q := by
  refine ha.toO σ F H g O Q s st ?_
  cases e : fa g with
  | ok k =>
    rw [oF_ok e]
    rw [e] at hb hk
    rcases kp_ok (d := k) with e2 | e2
    · rw [e2]; exact hk k e2
    · exact (hb e2).elim
  | xc c => rw [oF_xc e]; exact hx c e
  | bad => rw [e] at hb; exact (hb rfl).elim
theorem dt_chain {r r' : R2} {op op' : D → D → Option Bool} {ta tb tc : TE} (hr : C2Ok K cls r op) (hr' : C2Ok K cls r' op') (ha : DE K cls W ta fa) (hb : DE K cls W tb fb) (hc : DE K cls W tc fc) :
    DE K cls W (tChain r r' ta tb tc) (eB (tCh op op' fa fb fc)) := by
  intro σ F H g O Q s st p
  rw [eB_, tCh_] at p
  refine ha.go s st (fun c e => by rw [e] at p; exact p) (fun e => by rw [e] at p; exact p) fun da ea va F1 H1 x1 b1 => ?_
  rw [ea] at p
  simp only [Res.bind] at p
  refine hb.go x1.fh (st.ext x1) (fun c e F' H' x => by rw [e] at p; exact p F' H' (x1.trans x)) (fun e => by rw [e] at p; exact p) fun db eb vb F2 H2 x2 b2 => ?_
  rw [eb] at p
  simp only [] at p
  cases eo : op (opd da) (opd db) with
  | none => rw [eo] at p; exact p.elim
  | some k =>
    rw [eo] at p
    simp only [Res.of] at p
    refine hr F2 H2 va vb _ _ k _ x2.fh (b1.ext x2) b2 eo ⟨k, rfl, ?_⟩
    cases k with
    | true =>
      rw [if_pos rfl] at p
      rw [if_pos rfl]
      have x12 := x1.trans x2
      refine hc.go x2.fh ((st.ext x1).ext x2) (fun c e F' H' x => by rw [e] at p; exact p F' H' (x12.trans x)) (fun e => by rw [e] at p; exact p) fun dc ec vc F3 H3 x3 b3 => ?_
      rw [ec] at p
      simp only [] at p
      cases eo' : op' (opd db) (opd dc) with
      | none => rw [eo'] at p; exact p.elim
      | some k' =>
        rw [eo'] at p
        exact hr' F3 H3 vb vc _ _ k' _ x3.fh (b2.ext x3) b3 eo' (p _ F3 H3 [] (x12.trans x3) Fresh.nil (.inl (.sh (.bl k'))))
    | false =>
      rw [if_neg (by decide)] at p
      rw [if_neg (by decide)]
      exact p _ F2 H2 [] (x1.trans x2) Fresh.nil (.inl (.sh (.bl false)))
theorem jt_chain {o o' : CmpOp} {r r' : R2} {op op' : D → D → Option Bool} (ho : OpR X (compareOp o) r) (ho' : OpR X (compareOp o') r') (hr : C2Ok X.K cls r op) (hr' : C2Ok X.K cls r' op') (ha : JE X cls W a fa) (hb : JE X cls W b fb) (hc : JE X cls W c fc)
    (hm : lastMarks [o, o'] [b, c] = false := by with_unfolding_all rfl) : JT X cls W (.Compare a [o, o'] [b, c] pos) (tCh op op' fa fb fc) := by
  obtain ⟨ta, pa, da⟩ := ha.ex
  obtain ⟨tb, pb, db⟩ := hb.ex
  obtain ⟨tc, pc, dc⟩ := hc.ex
  exact ⟨_, pt_chain ho ho' pa pb pc hm, dt_of (dt_chain hr hr' da db dc)⟩
end
end DL

namespace DL
open PySem L2
def shd1 : D → Bool
  | .bo _ => false
  | .bd _ _ => false
  | .bb _ _ => false
  | _ => true
@[simp] theorem shd1_bo {b} : shd1 (.bo b) = false := rfl
@[simp] theorem shd1_bd {k b} : shd1 (.bd k b) = false := rfl
@[simp] theorem shd1_bb {k b} : shd1 (.bb k b) = false := rfl
@[simp] theorem shd1_un : shd1 .un = true := rfl
@[simp] theorem shd1_non : shd1 .non = true := rfl
@[simp] theorem shd1_bl {b} : shd1 (.bl b) = true := rfl
@[simp] theorem shd1_int {b} : shd1 (.int b) = true := rfl
@[simp] theorem shd1_str {b} : shd1 (.str b) = true := rfl
@[simp] theorem shd1_sc {b} : shd1 (.sc b) = true := rfl
@[simp] theorem shd1_ls {b} : shd1 (.ls b) = true := rfl
@[simp] theorem shd1_tp {b} : shd1 (.tp b) = true := rfl
@[simp] theorem shd1_ob {k b} : shd1 (.ob k b) = true := rfl
@[simp] theorem shd1_rf {b} : shd1 (.rf b) = true := rfl
def shd (l : List D) : Bool := l.all shd1
@[simp] theorem shd_nil : shd [] = true := rfl
@[simp] theorem shd_cons (d : D) (l : List D) : shd (d :: l) = (shd1 d && shd l) := rfl
@[simp] def lsv : D → Option (List D)
  | .ls xs => some xs
  | .bo xs => if shd xs = true then some xs else none
  | _ => none
@[simp] def sqL : D → Option (List D)
  | .ls xs => some xs
  | .sc xs => some xs
  | .bo xs => some xs
  | _ => none
@[simp] def sqK : D → Option (List D)
  | .ls xs => some xs
  | .sc xs => some xs
  | .bo xs => if shd xs = true then some xs else none
  | _ => none
@[simp] def intOf : D → Option Int
  | .int i => some i
  | _ => none
@[simp] def strOf : D → Option Str
  | .str i => some i
  | _ => none
@[simp] def blOf : D → Option Bool
  | .bl i => some i
  | _ => none
def intsOf : List D → Option (List Int)
  | [] => some []
  | d :: ds => match intOf d, intsOf ds with
    | some i, some is => some (i :: is)
    | _, _ => none
def strsOf : List D → Option (List Str)
  | [] => some []
  | d :: ds => match strOf d, strsOf ds with
    | some i, some is => some (i :: is)
    | _, _ => none
def blsOf : List D → Option (List Bool)
  | [] => some []
  | d :: ds => match blOf d, blsOf ds with
    | some i, some is => some (i :: is)
    | _, _ => none
theorem intsOf_eq : ∀ {ds : List D} {ns : List Int}, intsOf ds = some ns → ds = ns.map D.int
  | [], ns, h => by simp [intsOf] at h; subst h; rfl
  | d :: ds, ns, h => by
    unfold intsOf at h
    cases d <;> simp at h
    cases q : intsOf ds with
    | none => rw [q] at h; simp at h
    | some is => rw [q] at h; simp at h; subst h; rw [intsOf_eq q]; rfl
theorem blsOf_eq : ∀ {ds : List D} {ns : List Bool}, blsOf ds = some ns → ds = ns.map D.bl
  | [], ns, h => by simp [blsOf] at h; subst h; rfl
  | d :: ds, ns, h => by
    unfold blsOf at h
    cases d <;> simp at h
    cases q : blsOf ds with
    | none => rw [q] at h; simp at h
    | some is => rw [q] at h; simp at h; subst h; rw [blsOf_eq q]; rfl
@[simp] theorem intsOf_map : ∀ ns : List Int, intsOf (ns.map D.int) = some ns
  | [] => rfl
  | n :: ns => by simp [intsOf, intsOf_map ns]
@[simp] theorem intsOf_nil : intsOf [] = some [] := rfl
@[simp] theorem intsOf_cons (i : Int) (ds : List D) : intsOf (.int i :: ds) = (intsOf ds).map (i :: ·) := by
  simp only [intsOf, intOf]; cases intsOf ds <;> rfl
@[simp] theorem strsOf_map : ∀ ns : List Str, strsOf (ns.map D.str) = some ns
  | [] => rfl
  | n :: ns => by simp [strsOf, strsOf_map ns]
@[simp] theorem strsOf_nil : strsOf [] = some [] := rfl
@[simp] theorem strsOf_cons (i : Str) (ds : List D) : strsOf (.str i :: ds) = (strsOf ds).map (i :: ·) := by
  simp only [strsOf, strOf]; cases strsOf ds <;> rfl
@[simp] theorem blsOf_map : ∀ ns : List Bool, blsOf (ns.map D.bl) = some ns
  | [] => rfl
  | n :: ns => by simp [blsOf, blsOf_map ns]
@[simp] theorem blsOf_nil : blsOf [] = some [] := rfl
@[simp] theorem blsOf_cons (i : Bool) (ds : List D) : blsOf (.bl i :: ds) = (blsOf ds).map (i :: ·) := by
  simp only [blsOf, blOf]; cases blsOf ds <;> rfl

section
variable {K : PySem.W.Frag} {cls : Cls} {W : WX} {X : Cx} {F H F' H' : Hp} {Q : VK} {σ : St}
theorem Rps.len {vs : List V} {ds : List D} (h : Rps K cls F vs ds) : vs.length = ds.length := by
  induction ds generalizing vs with
  | nil => cases h; rfl
  | cons d ds ih => cases h with | cons a b => simp [ih b]
theorem Bos.len {vs : List V} {ds : List D} (h : Bos K cls F H vs ds) : vs.length = ds.length := by
  induction ds generalizing vs with
  | nil => cases h; rfl
  | cons d ds ih => cases h with | cons a b => simp [ih b]
theorem Ows.len {vs : List V} {ds : List D} {O : List Addr} (h : Ows K cls F H vs ds O) : vs.length = ds.length := by
  induction ds generalizing vs O with
  | nil => cases h; rfl
  | cons d ds ih => cases h with | cons a b => simp [ih b]
theorem Rps.toBos {vs : List V} {ds : List D} (h : Rps K cls F vs ds) : Bos K cls F H vs ds := by
  induction ds generalizing vs with
  | nil => cases h; exact .nil
  | cons d ds ih => cases h with | cons a b => exact .cons (.sh a) (ih b)
theorem Rps.toOws {vs : List V} {ds : List D} (h : Rps K cls F vs ds) : Ows K cls F H vs ds [] := by
  induction ds generalizing vs with
  | nil => cases h; exact .nil
  | cons d ds ih => cases h with | cons a b => exact .cons (.sh a) (ih b) (fun _ q => (nomatch q)) rfl
theorem Bo.toRp {v : V} {d : D} (h : Bo K cls F H v d) (e : shd1 d = true) : Rp K cls F v d := by
  cases h with
  | sh r => exact r
  | bo => simp at e
  | bd => simp at e
  | bb => simp at e
theorem Bos.toRps {vs : List V} {ds : List D} (h : Bos K cls F H vs ds) (e : shd ds = true) : Rps K cls F vs ds := by
  induction ds generalizing vs with
  | nil => cases h; exact .nil
  | cons d ds ih =>
    cases h with
    | cons a b =>
      simp only [shd, List.all_cons, Bool.and_eq_true] at e
      exact .cons (a.toRp e.1) (ih b e.2)
theorem Bos.get : ∀ {vs : List V} {ds : List D} {i : Nat} {d : D}, Bos K cls F H vs ds → ds[i]? = some d → ∃ v, vs[i]? = some v ∧ Bo K cls F H v d
  | _, _, _, _, .nil, e => by simp at e
  | _, _, 0, _, .cons r _, e => by simp at e; subst e; exact ⟨_, rfl, r⟩
  | _, _, i + 1, _, .cons _ t, e => by
    obtain ⟨v, h1, h2⟩ := Bos.get (i := i) t (by simpa using e)
    exact ⟨v, by simpa using h1, h2⟩
theorem Rps.get : ∀ {vs : List V} {ds : List D} {i : Nat} {d : D}, Rps K cls F vs ds → ds[i]? = some d → ∃ v, vs[i]? = some v ∧ Rp K cls F v d
  | _, _, _, _, .nil, e => by simp at e
  | _, _, 0, _, .cons r _, e => by simp at e; subst e; exact ⟨_, rfl, r⟩
  | _, _, i + 1, _, .cons _ t, e => by
    obtain ⟨v, h1, h2⟩ := Rps.get (i := i) t (by simpa using e)
    exact ⟨v, by simpa using h1, h2⟩
theorem Rps.append : ∀ {vs ws : List V} {ds es : List D}, Rps K cls F vs ds → Rps K cls F ws es → Rps K cls F (vs ++ ws) (ds ++ es)
  | _, _, _, _, .nil, h => h
  | _, _, _, _, .cons a b, h => .cons a (b.append h)
theorem Rps.take : ∀ {vs : List V} {ds : List D} (n : Nat), Rps K cls F vs ds → Rps K cls F (vs.take n) (ds.take n)
  | _, _, 0, _ => by simp; exact .nil
  | _, _, n + 1, .nil => by simp; exact .nil
  | _, _, n + 1, .cons a b => .cons a (b.take n)
theorem Rps.drop : ∀ {vs : List V} {ds : List D} (n : Nat), Rps K cls F vs ds → Rps K cls F (vs.drop n) (ds.drop n)
  | _, _, 0, h => h
  | _, _, n + 1, .nil => by simp; exact .nil
  | _, _, n + 1, .cons a b => b.drop n
theorem Rps.reverse {vs : List V} {ds : List D} (h : Rps K cls F vs ds) : Rps K cls F vs.reverse ds.reverse := by
  induction ds generalizing vs with
  | nil => cases h; exact .nil
  | cons d ds ih =>
    cases h with
    | cons a b =>
      rw [List.reverse_cons, List.reverse_cons]
      exact (ih b).append (.cons a .nil)
theorem Rps.ints {vs : List V} : ∀ {ns : List Int}, Rps K cls F vs (ns.map D.int) → vs = ns.map V.int := by
  intro ns
  induction ns generalizing vs with
  | nil => intro h; cases h; rfl
  | cons n ns ih => intro h; cases h with | cons a b => cases a; rw [ih b]; rfl
theorem Bos.ints {vs : List V} : ∀ {ns : List Int}, Bos K cls F H vs (ns.map D.int) → vs = ns.map V.int := by
  intro ns
  induction ns generalizing vs with
  | nil => intro h; cases h; rfl
  | cons n ns ih => intro h; cases h with | cons a b => cases a with | sh a => cases a; rw [ih b]; rfl
theorem Bos.bls {vs : List V} : ∀ {ns : List Bool}, Bos K cls F H vs (ns.map D.bl) → vs = ns.map V.bl := by
  intro ns
  induction ns generalizing vs with
  | nil => intro h; cases h; rfl
  | cons n ns ih => intro h; cases h with | cons a b => cases a with | sh a => cases a; rw [ih b]; rfl
theorem rps_ints : ∀ {ns : List Int}, Rps K cls F (ns.map V.int) (ns.map D.int)
  | [] => .nil
  | n :: ns => .cons (.int n) rps_ints
theorem Bo.lsv {v : V} {d : D} {xs : List D} (s : Same F H) (b : Bo K cls F H v d) (e : lsv d = some xs) : ∃ a vs, v = .ref a ∧ H a = some (.lst vs) ∧ Rps K cls F vs xs := by
  cases b with
  | sh r => cases r <;> simp at e <;> (subst e; exact ⟨_, _, rfl, s _ _ (by assumption), by assumption⟩)
  | bo h r =>
    simp at e
    obtain ⟨e1, e2⟩ := e
    subst e2
    exact ⟨_, _, rfl, h, r.toRps (by simpa using e1)⟩
  | bd => simp at e
  | bb => simp at e
theorem Bo.sqL {v : V} {d : D} {xs : List D} (s : Same F H) (b : Bo K cls F H v d) (e : sqL d = some xs) : ∃ a vs, v = .ref a ∧ SqL K H a vs ∧ Bos K cls F H vs xs := by
  cases b with
  | sh r =>
    cases r <;> simp at e
    · subst e; exact ⟨_, _, rfl, s.seq (by assumption), Rps.toBos (by assumption)⟩
    · subst e; exact ⟨_, _, rfl, SqL.of (s _ _ (by assumption)), Rps.toBos (by assumption)⟩
  | bo h r => simp at e; subst e; exact ⟨_, _, rfl, SqL.of h, r⟩
  | bd => simp at e
  | bb => simp at e
theorem Bo.sqK {v : V} {d : D} {xs : List D} (s : Same F H) (b : Bo K cls F H v d) (e : sqK d = some xs) : ∃ a vs, v = .ref a ∧ SqL K H a vs ∧ Rps K cls F vs xs := by
  cases b with
  | sh r =>
    cases r <;> simp at e
    · subst e; exact ⟨_, _, rfl, s.seq (by assumption), by assumption⟩
    · subst e; exact ⟨_, _, rfl, SqL.of (s _ _ (by assumption)), by assumption⟩
  | bo h r =>
    simp at e
    obtain ⟨e1, e2⟩ := e
    subst e2
    exact ⟨_, _, rfl, SqL.of h, r.toRps (by simpa using e1)⟩
  | bd => simp at e
  | bb => simp at e
@[simp] def tpv : D → Option (List D)
  | .tp xs => some xs
  | _ => none
theorem Bo.tpv {v : V} {d : D} {xs : List D} (s : Same F H) (b : Bo K cls F H v d) (e : tpv d = some xs) : ∃ a vs, v = .ref a ∧ SqT K H a vs ∧ SqT K F a vs ∧ Rps K cls F vs xs := by
  cases b with
  | sh r => cases r <;> simp at e <;> (subst e; exact ⟨_, _, rfl, sameT s (by assumption), by assumption, by assumption⟩)
  | bo => simp at e
  | bd => simp at e
  | bb => simp at e
theorem Bo.int {v : V} {i : Int} (b : Bo K cls F H v (.int i)) : v = .int i := by cases b with | sh r => cases r; rfl
theorem Bo.str {v : V} {i : Str} (b : Bo K cls F H v (.str i)) : v = .str i := by cases b with | sh r => cases r; rfl
theorem Bo.bl {v : V} {i : Bool} (b : Bo K cls F H v (.bl i)) : v = .bl i := by cases b with | sh r => cases r; rfl
theorem Bo.non {v : V} (b : Bo K cls F H v .non) : v = .non := by cases b with | sh r => cases r; rfl

theorem upd_same' {a : Addr} {o : HO} (hn : H a = none) : Same H (upd H a o) := fun b u e => by rw [upd_ne (ne_of_none e hn)]; exact e
theorem Ext.own {a : Addr} {o : HO} (s : Same F H) (hn : H a = none) : Ext F H F (upd H a o) := ⟨.refl F, upd_same' hn, s.trans (upd_same' hn), fun _ h _ => h⟩
theorem Ext.put {a : Addr} {o : HO} (s : Same F H) (hn : H a = none) : Ext F H (upd F a o) (upd H a o) := by
  have hf : F a = none := by
    cases q : F a with
    | none => rfl
    | some u => rw [s a u q] at hn; cases hn
  refine ⟨upd_same' hf, upd_same' hn, fun b u e => ?_, fun b h1 h2 => ?_⟩
  · by_cases hb : b = a
    · subst hb; rw [upd_same] at e ⊢; exact e
    · rw [upd_ne hb] at e ⊢; exact s b u e
  · have hb : b ≠ a := fun z => h2 (by rw [z]; exact hn)
    rw [upd_ne hb]; exact h1
theorem ow_new {a : Addr} {vs : List V} {ds : List D} {O : List Addr} (s : Same F H) (hn : H a = none) (r : Ows K cls F H vs ds O) : Ow K cls F (upd H a (.lst vs)) (.ref a) (.ol ds) (a :: O) := by
  have hf : F a = none := by
    cases q : F a with
    | none => rfl
    | some u => rw [s a u q] at hn; cases hn
  have no : a ∉ O := fun q => (r.dom a q).2 hn
  exact .ol hf upd_same no (r.frame (.refl F) fun b hb => ⟨upd_ne fun z => no (z ▸ hb), (r.dom b hb).1⟩)
theorem fresh_new {a : Addr} (hn : H a = none) : Fresh H [a] := fun b hb => by simp at hb; subst hb; exact hn

@[simp] def mulOk (i j : Int) : Prop := ((-(2 ^ 64) < i ∧ i < 2 ^ 64) ∨ (-(2 ^ 64) < j ∧ j < 2 ^ 64)) ∨ i.natAbs.log2 + j.natAbs.log2 < 100000000
def divOk (j : Int) : Prop := j ≠ 0 ∧ (j.natAbs < 1073741824 ∨ j.natAbs.log2 < 9000)
instance (i j : Int) : Decidable (mulOk i j) := by unfold mulOk; infer_instance
instance (j : Int) : Decidable (divOk j) := by unfold divOk; infer_instance
instance (i j : Int) : Decidable (CPow i j) := by unfold CPow; infer_instance
def lim : Nat := 1000000
theorem lim_ok {n : Nat} (h : n ≤ lim) : n ≤ sizeLine := Nat.le_trans h (Nat.le_of_lt lim_line)
theorem lim_lt {n : Nat} (h : n < lim) : n < sizeLine := Nat.lt_trans h lim_line

def opAddL (a b : D) : Option D := match lsv a, lsv b with
    | some xs, some ys => if xs.length + ys.length ≤ lim then some (.ol (xs ++ ys)) else none
    | _, _ => none
def opAdd : D → D → Option D
  | .int i, .int j => some (.int (i + j))
  | .str x, .str y => if x.length + y.length ≤ lim then some (.str (x ++ y)) else none
  | .tp xs, .tp ys => if xs.length + ys.length ≤ lim then some (.tp (xs ++ ys)) else none
  | a, b => opAddL a b
def opSub : D → D → Option D
  | .int i, .int j => some (.int (i - j))
  | _, _ => none
def opMul : D → D → Option D
  | .int i, .int j => if mulOk i j then some (.int (i * j)) else none
  | a, .int k => match lsv a with
    | some xs => if k < 2 ^ 63 ∧ -(2 ^ 63) ≤ k ∧ xs.length * k.toNat ≤ lim then some (.ol (List.replicate k.toNat xs).flatten) else none
    | none => none
  | _, _ => none
def opDiv : D → D → Option D
  | .int i, .int j => if divOk j then some (.int (if 0 < j then i / j else i.fdiv j)) else none
  | _, _ => none
def opMod : D → D → Option D
  | .int i, .int j => if j ≠ 0 then some (.int (if 0 < j then i % j else i.fmod j)) else none
  | _, _ => none
def opPow : D → D → Option D
  | .int i, .int j => if CPow i j then some (.int (i ^ j.toNat)) else none
  | _, _ => none
def opNeg : D → Option D
  | .int i => some (.int (-i))
  | _ => none
def rAdd4 (K : PySem.W.Frag) : R2 := fun x y H Q => ((rI0 fun i j => .int (i + j)) x y H Q ∨ (∃ i j, x = .str i ∧ y = .str j ∧ i.length + j.length ≤ sizeLine ∧ Q (.str (i ++ j)) H)) ∨ (rCat x y H Q ∨ rCatA K x y H Q)
theorem op_add4 : OpR X (binaryOp .Add) (rAdd4 X.K) := (op_add.or op_add_str).or (op_cat.or op_catA)
theorem pi1 {v : V} {d : D} (s : Same F H) (r : Rp K cls F v d) (q : ∀ v F' H' O', Ext F H F' H' → Fresh H O' → Tm K cls F' H' v d O' → Q v H') : Q v H := q v F H [] (.refl s) Fresh.nil (.inl (.sh r))
theorem ok_add : R2Ok K cls (rAdd4 K) opAdd := by
  intro F H x y a b d Q s b1 b2 e q
  unfold opAdd at e
  split at e
  · cases e
    obtain rfl := b1.int
    obtain rfl := b2.int
    exact .inl (.inl ⟨_, _, rfl, rfl, pi1 s (.int _) q⟩)
  · split at e
    · rename_i h
      cases e
      obtain rfl := b1.str
      obtain rfl := b2.str
      exact .inl (.inr ⟨_, _, rfl, rfl, lim_ok h, pi1 s (.str _) q⟩)
    · cases e
  · rename_i xs ys
    split at e
    · rename_i h
      cases e
      obtain ⟨a1, vs, rfl, h1, f1, r1⟩ := b1.tpv s (xs := xs) rfl
      obtain ⟨a2, ws, rfl, h2, f2, r2⟩ := b2.tpv s (xs := ys) rfl
      have l1 := r1.len
      have l2 := r2.len
      refine .inr (.inr ⟨_, _, vs, ws, rfl, rfl, h1, h2, lim_ok (by rw [l1, l2]; exact h), fun e => ?_, fun e1 e2 => ?_, fun e1 e2 p hp => ?_⟩)
      · subst e
        cases r1
        exact pi1 s (.tp f2 r2) q
      · subst e2
        cases r2
        rw [List.append_nil] at q
        exact pi1 s (.tp f1 r1) q
      · exact q _ _ _ [] (Ext.put s hp) Fresh.nil (.inl (.sh (.tp (SqT.of upd_same) ((r1.append r2).mono (Ext.put s hp).ff))))
    · cases e
  · unfold opAddL at e
    split at e
    · rename_i xs ys q1 q2
      split at e
      · rename_i h
        cases e
        obtain ⟨a1, vs, rfl, h1, r1⟩ := b1.lsv s q1
        obtain ⟨a2, ws, rfl, h2, r2⟩ := b2.lsv s q2
        refine .inr (.inl ⟨_, _, _, _, rfl, rfl, h1, h2, lim_ok (by rw [r1.len, r2.len]; exact h), fun p hp => ?_⟩)
        exact q _ _ _ [p] (Ext.own s hp) (fresh_new hp) (.inl (ow_new s hp (r1.append r2).toOws))
      · cases e
    · cases e
theorem ok_sub : R2Ok K cls (rI0 fun i j => .int (i - j)) opSub := by
  intro F H x y a b d Q s b1 b2 e q
  unfold opSub at e
  split at e
  · cases e
    obtain rfl := b1.int
    obtain rfl := b2.int
    exact ⟨_, _, rfl, rfl, pi1 s (.int _) q⟩
  · cases e
theorem mulW_ok {a b : Int} (h : a.natAbs.log2 + b.natAbs.log2 < 100000000) : IntMulOk a b := by
  unfold IntMulOk Builtin.Int.intTooBig
  have h1 : ∀ z : Int, Builtin.Int.intBits z ≤ z.natAbs.log2 + 1 := fun z => by unfold Builtin.Int.intBits; split <;> omega
  have h3 := h1 a
  have h4 := h1 b
  have h5 := bitsLine_eq
  simp only [Bool.and_eq_true, decide_eq_true_eq]
  omega
theorem op_mulX : OpR X (binaryOp .Mult) (rI mulOk fun i j => .int (i * j)) := opI fun _ _ _ _ _ _ _ hc q => PyProof.Rows.mul_int q (by
  rcases hc with hc | hc
  · exact CMul.ok hc
  · exact mulW_ok hc)
theorem op_mul4 : OpR X (binaryOp .Mult) (fun x y H Q => (rI mulOk fun i j => .int (i * j)) x y H Q ∨ rRep x y H Q) := op_mulX.or op_rep
theorem Rps.rep {vs : List V} {ds : List D} (h : Rps K cls F vs ds) : ∀ k : Nat, Rps K cls F (List.replicate k vs).flatten (List.replicate k ds).flatten
  | 0 => by simp; exact .nil
  | k + 1 => by rw [List.replicate_succ, List.replicate_succ, List.flatten_cons, List.flatten_cons]; exact h.append (h.rep k)
theorem ok_mul : R2Ok K cls (fun x y H Q => (rI mulOk fun i j => .int (i * j)) x y H Q ∨ rRep x y H Q) opMul := by
  intro F H x y a b d Q s b1 b2 e q
  unfold opMul at e
  split at e
  · split at e
    · rename_i h
      cases e
      obtain rfl := b1.int
      obtain rfl := b2.int
      exact .inl ⟨_, _, rfl, rfl, h, pi1 s (.int _) q⟩
    · cases e
  · split at e
    · rename_i xs q1
      split at e
      · rename_i h
        cases e
        obtain rfl := b2.int
        obtain ⟨a1, vs, rfl, h1, r1⟩ := b1.lsv s q1
        refine .inr ⟨_, _, _, rfl, rfl, h1, h.2.1, h.1, lim_ok (by rw [r1.len]; exact h.2.2), fun p hp => ?_⟩
        exact q _ _ _ [p] (Ext.own s hp) (fresh_new hp) (.inl (ow_new s hp (r1.rep _).toOws))
      · cases e
    · cases e
  · cases e
theorem op_divX : OpR X (binaryOp .FloorDiv) (rI (fun _ j => divOk j) fun i j => .int (if 0 < j then i / j else i.fdiv j)) := opI fun i j _ _ _ _ _ hc q => by
  have e : (if 0 < j then i / j else i.fdiv j) = i.fdiv j := by
    split
    · rw [Int.fdiv_eq_ediv_of_nonneg i (by omega)]
    · rfl
  rw [e] at q
  rcases hc with ⟨h0, h | h⟩
  · exact PyProof.Rows.floordiv_int h0 q (.inl (PyProof.noPylong_small h))
  · exact PyProof.Rows.floordiv_int h0 q (.inl (PyProof.noPylong_of_log2 h))
theorem ok_div : R2Ok K cls (rI (fun _ j => divOk j) fun i j => .int (if 0 < j then i / j else i.fdiv j)) opDiv := by
  intro F H x y a b d Q s b1 b2 e q
  unfold opDiv at e
  split at e
  · rename_i i j
    by_cases h : divOk j
    · rw [if_pos h] at e
      cases e
      obtain rfl := b1.int
      obtain rfl := b2.int
      exact ⟨_, _, rfl, rfl, h, pi1 s (.int _) q⟩
    · rw [if_neg h] at e; cases e
  · cases e
theorem op_modX : OpR X (binaryOp .Mod) (rI (fun _ j => j ≠ 0) fun i j => .int (if 0 < j then i % j else i.fmod j)) := opI fun i j _ _ _ _ _ hc q => by
  have e : (if 0 < j then i % j else i.fmod j) = i.fmod j := by
    split
    · rw [Int.fmod_eq_emod_of_nonneg i (by omega)]
    · rfl
  rw [e] at q
  exact PyProof.Rows.mod_int' hc q
theorem ok_mod : R2Ok K cls (rI (fun _ j => j ≠ 0) fun i j => .int (if 0 < j then i % j else i.fmod j)) opMod := by
  intro F H x y a b d Q s b1 b2 e q
  unfold opMod at e
  split at e
  · rename_i i j
    by_cases h : j ≠ 0
    · rw [if_pos h] at e
      cases e
      obtain rfl := b1.int
      obtain rfl := b2.int
      exact ⟨_, _, rfl, rfl, h, pi1 s (.int _) q⟩
    · rw [if_neg h] at e; cases e
  · cases e
theorem ok_pow : R2Ok K cls (rI CPow fun i j => .int (i ^ j.toNat)) opPow := by
  intro F H x y a b d Q s b1 b2 e q
  unfold opPow at e
  split at e
  · rename_i i j
    by_cases h : CPow i j
    · rw [if_pos h] at e
      cases e
      obtain rfl := b1.int
      obtain rfl := b2.int
      exact ⟨_, _, rfl, rfl, h, pi1 s (.int _) q⟩
    · rw [if_neg h] at e; cases e
  · cases e
theorem ok_neg : R1Ok K cls (rU fun i => .int (-i)) opNeg := by
  intro F H x a d Q s b1 e q
  unfold opNeg at e
  split at e
  · cases e
    obtain rfl := b1.int
    exact ⟨_, rfl, pi1 s (.int _) q⟩
  · cases e

def cLt : D → D → Option Bool
  | .int i, .int j => some (decide (i < j))
  | _, _ => none
def cLe : D → D → Option Bool
  | .int i, .int j => some (decide (i ≤ j))
  | _, _ => none
def cGt : D → D → Option Bool
  | .int i, .int j => some (decide (j < i))
  | _, _ => none
def cGe : D → D → Option Bool
  | .int i, .int j => some (decide (j ≤ i))
  | _, _ => none
theorem ok_lt : C2Ok K cls (rI0 fun i j => .bl (decide (i < j))) cLt := by
  intro F H x y a b d Q s b1 b2 e q
  unfold cLt at e
  split at e
  · cases e
    obtain rfl := b1.int
    obtain rfl := b2.int
    exact ⟨_, _, rfl, rfl, q⟩
  · cases e
theorem ok_le : C2Ok K cls (rI0 fun i j => .bl (decide (i ≤ j))) cLe := by
  intro F H x y a b d Q s b1 b2 e q
  unfold cLe at e
  split at e
  · cases e
    obtain rfl := b1.int
    obtain rfl := b2.int
    exact ⟨_, _, rfl, rfl, q⟩
  · cases e
theorem ok_gt : C2Ok K cls (rI0 fun i j => .bl (decide (j < i))) cGt := by
  intro F H x y a b d Q s b1 b2 e q
  unfold cGt at e
  split at e
  · cases e
    obtain rfl := b1.int
    obtain rfl := b2.int
    exact ⟨_, _, rfl, rfl, q⟩
  · cases e
mutual
def toPy : D → Option PyData
  | .non => some .none
  | .bl b => some (.bool b)
  | .int i => some (.int i)
  | .str x => some (.str x)
  | .sc xs => (toPys xs).map .list
  | .ls xs => (toPys xs).map .list
  | .bo xs => (toPys xs).map .list
  | .tp xs => (toPys xs).map .tuple
  | _ => none
def toPys : List D → Option (List PyData)
  | [] => some []
  | d :: ds => match toPy d, toPys ds with
    | some p, some ps => some (p :: ps)
    | _, _ => none
end
mutual
theorem Rp.dp (s : Same F H) : ∀ {v : V} {d : D} {p : PyData}, Rp K cls F v d → toPy d = some p → Dp K H v p
  | _, _, _, .non, e => by simp [toPy] at e; subst e; exact .non
  | _, _, _, .bl b, e => by simp [toPy] at e; subst e; exact .bl b
  | _, _, _, .int b, e => by simp [toPy] at e; subst e; exact .int b
  | _, _, _, .str b, e => by simp [toPy] at e; subst e; exact .str b
  | _, _, _, .sc (ds := ds) h r, e => by
    simp [toPy] at e
    obtain ⟨ps, e1, e2⟩ := e
    subst e2
    exact .lst (s.seq h) (Rps.dp s r e1)
  | _, _, _, .ls (ds := ds) h r, e => by
    simp [toPy] at e
    obtain ⟨ps, e1, e2⟩ := e
    subst e2
    exact .lst (SqL.of (s _ _ h)) (Rps.dp s r e1)
  | _, _, _, .tp (ds := ds) h r, e => by
    simp [toPy] at e
    obtain ⟨ps, e1, e2⟩ := e
    subst e2
    exact .tup (sameT s h) (Rps.dp s r e1)
  | _, _, _, .ob .., e => by simp [toPy] at e
theorem Rps.dp (s : Same F H) : ∀ {v : List V} {d : List D} {p : List PyData}, Rps K cls F v d → toPys d = some p → DpAll K H v p
  | _, _, _, .nil, e => by simp [toPys] at e; subst e; exact .nil
  | _, _, _, .cons (d := d) (ds := ds) a b, e => by
    unfold toPys at e
    cases q1 : toPy d with
    | none => rw [q1] at e; cases e
    | some p =>
      cases q2 : toPys ds with
      | none => rw [q1, q2] at e; cases e
      | some ps =>
        rw [q1, q2] at e
        cases e
        exact .cons (Rp.dp s a q1) (Rps.dp s b q2)
end
mutual
theorem Bo.dp (s : Same F H) : ∀ {v : V} {d : D} {p : PyData}, Bo K cls F H v d → toPy d = some p → Dp K H v p
  | _, _, _, .sh r, e => r.dp s e
  | _, _, _, .bo (ds := ds) h r, e => by
    simp [toPy] at e
    obtain ⟨ps, e1, e2⟩ := e
    subst e2
    exact .lst (SqL.of h) (Bos.dp s r e1)
  | _, _, _, .bd .., e => by simp [toPy] at e
theorem Bos.dp (s : Same F H) : ∀ {v : List V} {d : List D} {p : List PyData}, Bos K cls F H v d → toPys d = some p → DpAll K H v p
  | _, _, _, .nil, e => by simp [toPys] at e; subst e; exact .nil
  | _, _, _, .cons (d := d) (ds := ds) a b, e => by
    unfold toPys at e
    cases q1 : toPy d with
    | none => rw [q1] at e; cases e
    | some p =>
      cases q2 : toPys ds with
      | none => rw [q1, q2] at e; cases e
      | some ps =>
        rw [q1, q2] at e
        cases e
        exact .cons (Bo.dp s a q1) (Bos.dp s b q2)
end
def pyEq (a b : D) : Option Bool := match toPy a, toPy b with
  | some p, some q => if SeqAt.shaped p = true ∧ SeqAt.shaped q = true then some (PyData.eqv p q) else none
  | _, _ => none
def cEq : D → D → Option Bool
  | .int i, .int j => some (decide (i = j))
  | .str i, .str j => some (decide (i = j))
  | .bl i, .bl j => some (decide (i = j))
  | .non, .non => some true
  | .non, .int _ => some false
  | .int _, .non => some false
  | .int _, .str _ => some false
  | .str _, .int _ => some false
  | .non, .str _ => some false
  | .str _, .non => some false
  | a, b => pyEq a b
def cNe (a b : D) : Option Bool := (cEq a b).map (!·)
theorem cEq_ok {x y : V} {a b : D} {k : Bool} (s : Same F H) (b1 : Bo K cls F H x a) (b2 : Bo K cls F H y b) (e : cEq a b = some k) :
    (scal x y = true ∧ decide (x = y) = k) ∨ ∃ d e, Dp K H x d ∧ Dp K H y e ∧ SeqAt.shaped d = true ∧ SeqAt.shaped e = true ∧ PyData.eqv d e = k := by
  have py : ∀ {a b : D}, Bo K cls F H x a → Bo K cls F H y b → pyEq a b = some k → ∃ d e, Dp K H x d ∧ Dp K H y e ∧ SeqAt.shaped d = true ∧ SeqAt.shaped e = true ∧ PyData.eqv d e = k := fun {a b} b1 b2 e => by
    unfold pyEq at e
    split at e
    · rename_i p q h1 h2
      split at e
      · rename_i h
        cases e
        exact ⟨p, q, b1.dp s h1, b2.dp s h2, h.1, h.2, rfl⟩
      · cases e
    · cases e
  unfold cEq at e
  split at e
  · cases e; obtain rfl := b1.int; obtain rfl := b2.int; exact .inl ⟨rfl, by simp⟩
  · cases e; obtain rfl := b1.str; obtain rfl := b2.str; exact .inl ⟨rfl, by simp⟩
  · cases e; obtain rfl := b1.bl; obtain rfl := b2.bl; exact .inl ⟨rfl, by simp⟩
  · cases e; obtain rfl := b1.non; obtain rfl := b2.non; exact .inl ⟨rfl, by simp⟩
  · cases e; obtain rfl := b1.non; obtain rfl := b2.int; exact .inl ⟨rfl, by simp⟩
  · cases e; obtain rfl := b1.int; obtain rfl := b2.non; exact .inl ⟨rfl, by simp⟩
  · cases e; obtain rfl := b1.int; obtain rfl := b2.str; exact .inl ⟨rfl, by simp⟩
  · cases e; obtain rfl := b1.str; obtain rfl := b2.int; exact .inl ⟨rfl, by simp⟩
  · cases e; obtain rfl := b1.non; obtain rfl := b2.str; exact .inl ⟨rfl, by simp⟩
  · cases e; obtain rfl := b1.str; obtain rfl := b2.non; exact .inl ⟨rfl, by simp⟩
  · exact .inr (py b1 b2 e)
theorem ok_eq : C2Ok K cls (fun x y H Q => rEq x y H Q ∨ rEqD K x y H Q) cEq := by
  intro F H x y a b d Q s b1 b2 e q
  rcases cEq_ok s b1 b2 e with ⟨h1, h2⟩ | ⟨p, r, h1, h2, h3, h4, h5⟩
  · exact .inl ⟨h1, by rw [h2]; exact q⟩
  · exact .inr ⟨p, r, h1, h2, h3, h4, by rw [h5]; exact q⟩
theorem ok_ne : C2Ok K cls (fun x y H Q => rNe x y H Q ∨ rNeD K x y H Q) cNe := by
  intro F H x y a b d Q s b1 b2 e q
  unfold cNe at e
  cases e0 : cEq a b with
  | none => rw [e0] at e; cases e
  | some k =>
    rw [e0] at e
    cases e
    rcases cEq_ok s b1 b2 e0 with ⟨h1, h2⟩ | ⟨p, r, h1, h2, h3, h4, h5⟩
    · exact .inl ⟨h1, by rw [h2]; exact q⟩
    · exact .inr ⟨p, r, h1, h2, h3, h4, by rw [h5]; exact q⟩
theorem op_eq4 (hu : X.A.units + 64 < cLine) : OpR X (compareOp .Eq) (fun x y H Q => rEq x y H Q ∨ rEqD X.K x y H Q) := op_eq.or (op_eqD hu)
theorem op_ne4 (hu : X.A.units + 64 < cLine) : OpR X (compareOp .NotEq) (fun x y H Q => rNe x y H Q ∨ rNeD X.K x y H Q) := op_ne.or (op_neD hu)
def cIsN : D → D → Option Bool
  | .un, _ => none
  | a, .non => some (match a with | .non => true | _ => false)
  | _, _ => none
def cNotN (a b : D) : Option Bool := (cIsN a b).map (!·)
theorem cIsN_ok {x y : V} {a b : D} {k : Bool} (b1 : Bo K cls F H x a) (b2 : Bo K cls F H y b) (e : cIsN a b = some k) : y = .non ∧ decide (x = .non) = k := by
  unfold cIsN at e
  split at e
  · cases e
  · obtain rfl := b2.non
    refine ⟨rfl, ?_⟩
    cases e
    cases b1 with
    | sh r => cases r <;> simp
    | bo => simp
    | bd => simp
    | bb => simp
  · cases e
theorem ok_isN : C2Ok K cls (fun x y H Q => y = .non ∧ Q (.bl (decide (x = .non))) H) cIsN := by
  intro F H x y a b d Q s b1 b2 e q
  obtain ⟨h1, h2⟩ := cIsN_ok b1 b2 e
  exact ⟨h1, by rw [h2]; exact q⟩
end
end DL

namespace DL
open PySem L2
section
variable {K : PySem.W.Frag} {cls : Cls} {W : WX} {X : Cx} {F H F' H' : Hp} {Q : VK} {σ : St} {a b c e : Expr} {es : List Expr} {fa fb fc : Env → Res D} {ga gb : Env → Res Bool} {fs : Env → Res (List D)} {pos : Pos}

@[simp] def sqA : D → Option (List D)
  | .ls xs => some xs
  | .sc xs => some xs
  | .bo xs => some xs
  | .tp xs => some xs
  | _ => none
def cIn : D → D → Option Bool
  | .int i, s => match sqA s with
    | some xs => match intsOf xs with
      | some ns => some (decide (i ∈ ns))
      | none => none
    | none => none
  | .str i, s => match sqA s with
    | some xs => match strsOf xs with
      | some ns => some (decide (i ∈ ns))
      | none => none
    | none => none
  | _, _ => none
def cNIn (a b : D) : Option Bool := (cIn a b).map (!·)
theorem Bo.sqA {v : V} {d : D} {xs : List D} (s : Same F H) (b : Bo K cls F H v d) (e : sqA d = some xs) : ∃ a vs, v = .ref a ∧ (SqL K H a vs ∨ SqT K H a vs) ∧ Bos K cls F H vs xs := by
  cases d with
  | tp ys => obtain ⟨a, vs, e1, h1, h2, r⟩ := b.tpv s (xs := xs) (by simpa using e); exact ⟨a, vs, e1, .inr h1, r.toBos⟩
  | ls ys => obtain ⟨a, vs, e1, h1, r⟩ := b.sqL s (xs := xs) (by simpa using e); exact ⟨a, vs, e1, .inl h1, r⟩
  | sc ys => obtain ⟨a, vs, e1, h1, r⟩ := b.sqL s (xs := xs) (by simpa using e); exact ⟨a, vs, e1, .inl h1, r⟩
  | bo ys => obtain ⟨a, vs, e1, h1, r⟩ := b.sqL s (xs := xs) (by simpa using e); exact ⟨a, vs, e1, .inl h1, r⟩
  | _ => simp at e
def opIx : D → D → Option D
  | .str z, .int i => if z.length ≤ lim then (atI z.cps.toList i).map fun c => .str ⟨#[c]⟩ else none
  | a, .int i => match sqA a with
    | some xs => atI xs i
    | none => none
  | _, _ => none
theorem atI_some {α : Type} {xs : List α} {i : Int} {d : α} (h : atI xs i = some d) : ∃ j, ixN xs.length i = some j ∧ xs[j]? = some d := by
  unfold atI at h
  cases q : ixN xs.length i with
  | none => rw [q] at h; cases h
  | some j => rw [q] at h; exact ⟨j, rfl, h⟩
theorem Bos.at {vs : List V} {ds : List D} {i : Int} {d : D} (h : Bos K cls F H vs ds) (e : atI ds i = some d) : ∃ v, atI vs i = some v ∧ Bo K cls F H v d := by
  obtain ⟨j, h1, h2⟩ := atI_some e
  obtain ⟨v, h3, h4⟩ := h.get h2
  refine ⟨v, ?_, h4⟩
  unfold atI
  rw [h.len, h1]
  exact h3
theorem ok_ix : R2Ok K cls (rIx K) opIx := by
  intro F H x y a b d Q s b1 b2 e q
  unfold opIx at e
  split at e
  · rename_i z i
    by_cases h : z.length ≤ lim
    · rw [if_pos h] at e
      obtain rfl := b1.str
      obtain rfl := b2.int
      cases e0 : atI z.cps.toList i with
      | none => rw [e0] at e; cases e
      | some c =>
        rw [e0] at e
        cases e
        exact .inr (.inr ⟨z, i, c, rfl, rfl, lim_ok h, e0, pi1 s (.str _) q⟩)
    · rw [if_neg h] at e; cases e
  · split at e
    · rename_i xs h1
      obtain rfl := b2.int
      obtain ⟨p, vs, rfl, h3, r⟩ := b1.sqA s h1
      obtain ⟨v, h4, h5⟩ := r.at e
      have q' : Q v H := q v F H [] (.refl s) Fresh.nil (.inr ⟨h5, rfl⟩)
      rcases h3 with h3 | h3
      · exact .inl ⟨p, vs, _, v, rfl, rfl, h3, h4, q'⟩
      · exact .inr (.inl ⟨p, vs, _, v, rfl, rfl, h3, h4, q'⟩)
    · cases e
  · cases e
theorem je_ix (ha : JE X cls W a fa) (hb : JE X cls W b fb) (hs : PlainIx b := by exact fun _ _ => rfl) : JE X cls W (.Subscript a b pos) (eBin opIx fa fb) := by
  obtain ⟨ta, pa, da⟩ := ha.ex
  obtain ⟨tb, pb, db⟩ := hb.ex
  exact ⟨_, pe_ix ix_seq pa pb hs, de_bin ok_ix da db⟩

def sIx (n d : Nat) : Option Int → Nat := HT.sIx n d
def cut {α : Type} (xs : List α) (lo hi : Option Int) : List α := (xs.drop (HT.sIx xs.length 0 lo)).take (HT.sIx xs.length xs.length hi - HT.sIx xs.length 0 lo)
def opSl (a : D) (lo hi : Option Int) : Option D := match a with
  | .tp xs => some (.tp (cut xs lo hi))
  | a => match sqK a with
    | some xs => some (.ol (cut xs lo hi))
    | none => none
def ePart (o : Option (Env → Res D)) : Env → Res (Option Int) := fun g => match o with
  | none => .ok none
  | some f => (f g).bind fun d => (Res.of (intOf (opd d))).bind fun i => .ok (some i)
@[simp] theorem ePart_none (g : Env) : ePart none g = .ok none := rfl
@[simp] theorem ePart_some (f : Env → Res D) (g : Env) : ePart (some f) g = (f g).bind fun d => (Res.of (intOf (opd d))).bind fun i => .ok (some i) := rfl
structure JP (X : Cx) (cls : Cls) (W : WX) (e : Option Expr) (f : Env → Res (Option Int)) : Prop where
  ex : ∃ t, PO X e t ∧ ∀ σ F H g O (Q : Option Int → Hp → Prop), Same F H → Sts X.K cls F H σ g O → (match f g with
    | .ok o => ∀ F' H', Ext F H F' H' → Q o H'
    | .xc c => ∀ F' H', Ext F H F' H' → W (excV cls c) none σ H'
    | .bad => False) → t σ H Q
theorem jp_none : JP X cls W none (ePart none) := ⟨_, po_none, fun σ F H g O Q s st p => p F H (.refl s)⟩
theorem jp_some (ha : JE X cls W a fa) : JP X cls W (some a) (ePart (some fa)) := by
  obtain ⟨ta, pa, da⟩ := ha.ex
  refine ⟨_, po_some pa, fun σ F H g O Q s st p => ?_⟩
  rw [ePart_some] at p
  refine da.go s st (fun c e => by rw [e] at p; exact p) (fun e => by rw [e] at p; exact p) fun d e v F' H' x b => ?_
  rw [e] at p
  simp only [Res.bind] at p
  cases e2 : intOf (opd d) with
  | none => rw [e2] at p; exact p.elim
  | some i =>
    rw [e2] at p
    have e3 : opd d = .int i := by
      cases e4 : opd d <;> rw [e4] at e2 <;> simp at e2
      rw [e2]
    rw [e3] at b
    exact ⟨i, b.int, p F' H' x⟩
def eSl (fa : Env → Res D) (lo hi : Env → Res (Option Int)) : Env → Res D := fun g => (fa g).bind fun a => (lo g).bind fun l => (hi g).bind fun h => .of (opSl (opd a) l h)
@[simp] theorem eSl_ (fa : Env → Res D) (lo hi : Env → Res (Option Int)) (g : Env) : eSl fa lo hi g = (fa g).bind fun a => (lo g).bind fun l => (hi g).bind fun h => .of (opSl (opd a) l h) := rfl
theorem Rps.cut {vs : List V} {ds : List D} (h : Rps K cls F vs ds) (lo hi : Option Int) : Rps K cls F (cutV vs lo hi) (cut ds lo hi) := by
  unfold cutV DL.cut
  rw [h.len]
  exact (h.drop _).take _
theorem cut_whole {α : Type} {xs : List α} {lo hi : Option Int} (h : HT.sIx xs.length 0 lo = 0 ∧ HT.sIx xs.length xs.length hi = xs.length) : cut xs lo hi = xs := by
  unfold cut
  rw [h.1, h.2]
  simp
theorem je_sl {lo hi : Option Expr} {fl fh : Env → Res (Option Int)} {p2 : Pos} (ha : JE X cls W a fa) (hl : JP X cls W lo fl) (hh : JP X cls W hi fh) : JE X cls W (.Subscript a (.Slice lo hi none p2) pos) (eSl fa fl fh) := by
  obtain ⟨ta, pa, da⟩ := ha.ex
  obtain ⟨tl, pl, dl⟩ := hl.ex
  obtain ⟨th, ph, dh⟩ := hh.ex
  refine ⟨_, pe_slice (sl_list.or sl_tupA) pa pl ph, ?_⟩
  intro σ F H g O Q s st p
  rw [eSl_] at p
  refine da.go s st (fun c e => by rw [e] at p; exact p) (fun e => by rw [e] at p; exact p) fun d e v F1 H1 x1 b1 => ?_
  rw [e] at p
  simp only [Res.bind] at p
  refine dl σ F1 H1 g O _ x1.fh (st.ext x1) ?_
  cases el : fl g with
  | bad => rw [el] at p; exact p.elim
  | xc c => rw [el] at p; exact fun F' H' x => p F' H' (x1.trans x)
  | ok l =>
    rw [el] at p
    simp only [] at p ⊢
    intro F2 H2 x2
    refine dh σ F2 H2 g O _ x2.fh ((st.ext x1).ext x2) ?_
    cases eh : fh g with
    | bad => rw [eh] at p; exact p.elim
    | xc c => rw [eh] at p; exact fun F' H' x => p F' H' ((x1.trans x2).trans x)
    | ok h =>
      rw [eh] at p
      simp only [] at p ⊢
      intro F3 H3 x3
      have x23 := x2.trans x3
      have x13 := x1.trans x23
      have b3 := b1.ext x23
      cases eo : opSl (opd d) l h with
      | none => rw [eo] at p; exact p.elim
      | some r =>
        rw [eo] at p
        have q : ∀ v F' H' O', Ext F3 H3 F' H' → Fresh H3 O' → Tm X.K cls F' H' v r O' → Q v H' := fun v F' H' O' y fr tm => p v F' H' O' (x13.trans y) (fr.mono x13.hh) tm
        unfold opSl at eo
        split at eo
        · rename_i xs ed
          cases eo
          rw [ed] at b3
          obtain ⟨a1, vs, rfl, h1, f1, r1⟩ := b3.tpv x3.fh (xs := xs) rfl
          refine .inr ⟨a1, vs, rfl, h1, fun w => ?_, fun w p hp => ?_⟩
          · rw [r1.len] at w
            exact q _ F3 H3 [] (.refl x3.fh) Fresh.nil (.inl (.sh (by rw [cut_whole w]; exact .tp f1 r1)))
          · exact q _ _ _ [] (Ext.put x3.fh hp) Fresh.nil (.inl (.sh (.tp (SqT.of upd_same) ((r1.cut l h).mono (Ext.put x3.fh hp).ff))))
        · split at eo
          · rename_i xs ek
            cases eo
            obtain ⟨a1, vs, rfl, h1, r1⟩ := b3.sqK x3.fh ek
            refine .inl ⟨a1, vs, rfl, h1, fun p hp => ?_⟩
            exact q _ _ _ [p] (Ext.own x3.fh hp) (fresh_new hp) (.inl (ow_new x3.fh hp (r1.cut l h).toOws))
          · cases eo

def aNil : Env → Res (List D) := fun _ => .ok []
def aCons (fa : Env → Res D) (fs : Env → Res (List D)) : Env → Res (List D) := fun g => (fa g).bind fun a => (fs g).bind fun r => .ok (opd a :: r)
def aConsO (fa : Env → Res D) (fs : Env → Res (List D)) : Env → Res (List D) := fun g => (fa g).bind fun a => (kp a).bind fun a => (fs g).bind fun r => .ok (a :: r)
@[simp] theorem aNil_ (g : Env) : aNil g = .ok [] := rfl
@[simp] theorem aCons_ (fa : Env → Res D) (fs : Env → Res (List D)) (g : Env) : aCons fa fs g = (fa g).bind fun a => (fs g).bind fun r => .ok (opd a :: r) := rfl
@[simp] theorem aConsO_ (fa : Env → Res D) (fs : Env → Res (List D)) (g : Env) : aConsO fa fs g = (fa g).bind fun a => (kp a).bind fun a => (fs g).bind fun r => .ok (a :: r) := rfl
theorem ja_nil : JA X cls W [] aNil := ⟨_, pa_nil, fun σ F H g O Q s st p => p [] F H (.refl s) .nil⟩
theorem jao_nil : JAO X cls W [] aNil := ⟨_, pa_nil, fun σ F H g O Q s st p => p [] F H [] (.refl s) Fresh.nil .nil⟩
theorem DA.go {t : TA} (ha : DA K cls W t fs) {σ : St} {F H : Hp} {g : Env} {O : List Addr} {Q : List V → Hp → Prop} (s : Same F H) (st : Sts K cls F H σ g O)
    (hx : ∀ c, fs g = .xc c → ∀ F' H', Ext F H F' H' → W (excV cls c) none σ H') (hb : fs g ≠ .bad) (hk : ∀ d, fs g = .ok d → ∀ v F' H', Ext F H F' H' → Bos K cls F' H' v d → Q v H') : t σ H Q := by
  refine ha σ F H g O Q s st ?_
  cases e : fs g with
  | ok k => exact hk k e
  | xc c => exact hx c e
  | bad => exact (hb e).elim
theorem DAO.go {t : TA} (ha : DAO K cls W t fs) {σ : St} {F H : Hp} {g : Env} {O : List Addr} {Q : List V → Hp → Prop} (s : Same F H) (st : Sts K cls F H σ g O)
    (hx : ∀ c, fs g = .xc c → ∀ F' H', Ext F H F' H' → W (excV cls c) none σ H') (hb : fs g ≠ .bad) (hk : ∀ d, fs g = .ok d → ∀ v F' H' O', Ext F H F' H' → Fresh H O' → Ows K cls F' H' v d O' → Q v H') : t σ H Q := by
  refine ha σ F H g O Q s st ?_
  cases e : fs g with
  | ok k => exact hk k e
  | xc c => exact hx c e
  | bad => exact (hb e).elim
theorem ja_cons (ha : JE X cls W a fa) (hr : JA X cls W es fs) (hs : starEach (a :: es) X.env = (false, eval a X.env) :: starEach es X.env := by rfl) : JA X cls W (a :: es) (aCons fa fs) := by
  obtain ⟨ta, pa, da⟩ := ha.ex
  obtain ⟨tr, pr, dr⟩ := hr.ex
  refine ⟨_, pa_cons pa pr hs, ?_⟩
  intro σ F H g O Q s st p
  rw [aCons_] at p
  refine da.go s st (fun c e => by rw [e] at p; exact p) (fun e => by rw [e] at p; exact p) fun d e v F1 H1 x1 b1 => ?_
  rw [e] at p
  simp only [Res.bind] at p
  refine dr.go x1.fh (st.ext x1) (fun c e F' H' x => by rw [e] at p; exact p F' H' (x1.trans x)) (fun e => by rw [e] at p; exact p) fun ds es vs F2 H2 x2 b2 => ?_
  rw [es] at p
  exact p _ F2 H2 (x1.trans x2) (.cons (b1.ext x2) b2)
theorem jao_cons (ha : JE X cls W a fa) (hr : JAO X cls W es fs) (hs : starEach (a :: es) X.env = (false, eval a X.env) :: starEach es X.env := by rfl) : JAO X cls W (a :: es) (aConsO fa fs) := by
  obtain ⟨ta, pa, da⟩ := ha.ex
  obtain ⟨tr, pr, dr⟩ := hr.ex
  refine ⟨_, pa_cons pa pr hs, ?_⟩
  intro σ F H g O Q s st p
  rw [aConsO_] at p
  refine da.goO s st (fun c e => by rw [e] at p; exact p) (fun e => ?_) fun d e v F1 H1 O1 x1 fr1 b1 => ?_
  · cases q : fa g with
    | ok d => rw [q] at e p; simp only [Res.bind] at e p; rw [e] at p; exact p
    | xc c => rw [q] at e; cases e
    | bad => rw [q] at p; exact p
  have p : PostAO X.K cls W σ F H Q ((fs g).bind fun r => .ok (d :: r)) := by
    cases q : fa g with
    | ok d => rw [q] at e p; simp only [Res.bind] at e p; rw [e] at p; exact p
    | xc c => rw [q] at e; cases e
    | bad => rw [q] at e; cases e
  refine dr.go x1.fh (st.ext x1) (fun c e F' H' x => by rw [e] at p; exact p F' H' (x1.trans x)) (fun e => by rw [e] at p; exact p) fun ds es vs F2 H2 O2 x2 fr2 b2 => ?_
  rw [es] at p
  refine p _ F2 H2 (O1 ++ O2) (x1.trans x2) (fun a ha => ?_) (.cons (b1.ext x2) b2 (fun a h1 h2 => ?_) rfl)
  · rcases List.mem_append.mp ha with q | q
    · exact fr1 a q
    · exact x1.hh.free (fr2 a q)
  · exact (b1.dom a h1).2 (fr2 a h2)
def eLst (fs : Env → Res (List D)) : Env → Res D := fun g => (fs g).bind fun ds => if ds.length ≤ lim then .ok (.ol ds) else .bad
def eTup (fs : Env → Res (List D)) : Env → Res D := fun g => (fs g).bind fun ds => if ds.length ≤ lim ∧ nods ds = true then .ok (.tp (frzs ds)) else .bad
@[simp] theorem eLst_ (fs : Env → Res (List D)) (g : Env) : eLst fs g = (fs g).bind fun ds => if ds.length ≤ lim then .ok (.ol ds) else .bad := rfl
@[simp] theorem eTup_ (fs : Env → Res (List D)) (g : Env) : eTup fs g = (fs g).bind fun ds => if ds.length ≤ lim ∧ nods ds = true then .ok (.tp (frzs ds)) else .bad := rfl
theorem je_lst (h : JAO X cls W es fs) : JE X cls W (.List es pos) (eLst fs) := by
  obtain ⟨ta, pa, da⟩ := h.ex
  refine ⟨_, pe_lst pa, ?_⟩
  intro σ F H g O Q s st p
  rw [eLst_] at p
  refine da.go s st (fun c e => by rw [e] at p; exact p) (fun e => by rw [e] at p; exact p) fun ds e vs F1 H1 O1 x1 fr1 b1 => ?_
  rw [e] at p
  simp only [Res.bind] at p
  split at p
  · rename_i hl
    refine ⟨lim_ok (by rw [b1.len]; exact hl), fun q hq => ?_⟩
    exact p _ _ _ (q :: O1) (x1.trans (Ext.own x1.fh hq)) (fun a ha => by
      rcases List.mem_cons.mp ha with rfl | ha
      · exact x1.hh.free hq
      · exact fr1 a ha) (.inl (ow_new x1.fh hq b1))
  · exact p.elim
theorem je_tup {k : Nat} (h : JAO X cls W es fs) : JE X cls W (.Tuple es k pos) (eTup fs) := by
  obtain ⟨ta, pa, da⟩ := h.ex
  refine ⟨_, pe_tup pa, ?_⟩
  intro σ F H g O Q s st p
  rw [eTup_] at p
  refine da.go s st (fun c e => by rw [e] at p; exact p) (fun e => by rw [e] at p; exact p) fun ds e vs F1 H1 O1 x1 fr1 b1 => ?_
  rw [e] at p
  simp only [Res.bind] at p
  split at p
  · rename_i hl
    refine ⟨lim_ok (by rw [b1.len]; exact hl.1), fun q hq => ?_⟩
    have no : ∀ a ∈ O1, F1 a = none := fun a ha => (b1.dom a ha).1
    have x2 := addF_ext x1 fr1 no
    have r2 := b1.freeze (addF_same no) addF_at hl.2
    exact p _ _ _ [] (x2.trans (Ext.put x2.fh hq)) Fresh.nil (.inl (.sh (.tp (SqT.of upd_same) (r2.mono (Ext.put x2.fh hq).ff))))
  · exact p.elim

def CaOk (K : PySem.W.Frag) (cls : Cls) (r : List V → Hp → VK → Prop) (op : List D → Option D) : Prop :=
  ∀ F H vs ds d Q, Same F H → Bos K cls F H vs ds → op ds = some d → (∀ v F' H' O', Ext F H F' H' → Fresh H O' → Tm K cls F' H' v d O' → Q v H') → r vs H Q
def eCall (op : List D → Option D) (fs : Env → Res (List D)) : Env → Res D := fun g => (fs g).bind fun ds => .of (op ds)
@[simp] theorem eCall_ (op : List D → Option D) (fs : Env → Res (List D)) (g : Env) : eCall op fs g = (fs g).bind fun ds => .of (op ds) := rfl
theorem de_call {r : List V → Hp → VK → Prop} {op : List D → Option D} {t : TA} (hr : CaOk K cls r op) (ha : DA K cls W t fs) : DE K cls W (tCB r t) (eCall op fs) := by
  intro σ F H g O Q s st p
  rw [eCall_] at p
  refine ha.go s st (fun c e => by rw [e] at p; exact p) (fun e => by rw [e] at p; exact p) fun ds e vs F1 H1 x1 b1 => ?_
  rw [e] at p
  simp only [Res.bind] at p
  cases eo : op ds with
  | none => rw [eo] at p; exact p.elim
  | some d =>
    rw [eo] at p
    exact hr F1 H1 vs ds d Q x1.fh b1 eo fun v F' H' O' y fr tm => p v F' H' O' (x1.trans y) (fr.mono x1.hh) tm
theorem je_callB {x : Str} {id : String} {p : Pos} {r : List V → Hp → VK → Prop} {op : List D → Option D} (hc : CallR X (.builtin id) r) (hr : CaOk X.K cls r op) (hm : X.mg x = none) (hv : bootBuiltins x = some (.builtin id)) (ha : JA X cls W (e :: es) fs)
    (hg : Gl X x := by rfl) (hn : x ≠ "__name__" := by decide) (hdb : (x == ("__debug__" : Str)) = false := by decide)
    (he : starEach (e :: es) X.env = (false, eval e X.env) :: starEach es X.env := by rfl) (hpl : (backTo pos (starEach es X.env)).any (·.1) = false := by rfl) : JE X cls W (.Call (.Name x p) (e :: es) [] pos) (eCall op fs) := by
  obtain ⟨ta, pa, da⟩ := ha.ex
  exact ⟨_, pe_callB hc hg hm hv pa hn hdb he hpl, de_call hr da⟩
theorem je_callTy {x : Str} {T : String} {p : Pos} {r : List V → Hp → VK → Prop} {op : List D → Option D} (hc : CallR X (.type T) r) (hr : CaOk X.K cls r op) (hm : X.mg x = none) (hv : bootBuiltins x = some (.type T)) (ha : JA X cls W (e :: es) fs)
    (hg : Gl X x := by rfl) (hn : x ≠ "__name__" := by decide) (hdb : (x == ("__debug__" : Str)) = false := by decide)
    (he : starEach (e :: es) X.env = (false, eval e X.env) :: starEach es X.env := by rfl) (hpl : (backTo pos (starEach es X.env)).any (·.1) = false := by rfl) : JE X cls W (.Call (.Name x p) (e :: es) [] pos) (eCall op fs) := by
  obtain ⟨ta, pa, da⟩ := ha.ex
  exact ⟨_, pe_callTy hc hg hm hv pa hn hdb he hpl, de_call hr da⟩
def caLen : List D → Option D
  | [.str z] => if z.length ≤ lim then some (.int z.length) else none
  | [d] => match sqA d with
    | some xs => some (.int xs.length)
    | none => match d with
      | .bd ks _ => none
      | _ => none
  | _ => none
theorem Bos.one {vs : List V} {d : D} (h : Bos K cls F H vs [d]) : ∃ v, vs = [v] ∧ Bo K cls F H v d := by
  cases h with | cons a b => cases b; exact ⟨_, rfl, a⟩
theorem Bos.two {vs : List V} {d d' : D} (h : Bos K cls F H vs [d, d']) : ∃ v v', vs = [v, v'] ∧ Bo K cls F H v d ∧ Bo K cls F H v' d' := by
  cases h with | cons a b => cases b with | cons a' b' => cases b'; exact ⟨_, _, rfl, a, a'⟩
theorem ok_len : CaOk K cls (fun xs H Q => ∃ x n, xs = [x] ∧ LenV K x H n ∧ Q (.int n) H) caLen := by
  intro F H vs ds d Q s b e q
  unfold caLen at e
  split at e
  · rename_i z
    by_cases h : z.length ≤ lim
    · rw [if_pos h] at e
      cases e
      obtain ⟨v, rfl, b1⟩ := b.one
      obtain rfl := b1.str
      exact ⟨_, _, rfl, ⟨lim_ok h, rfl⟩, pi1 s (.int _) q⟩
    · rw [if_neg h] at e; cases e
  · split at e
    · rename_i xs h1
      cases e
      obtain ⟨v, rfl, b1⟩ := b.one
      obtain ⟨p, vs, rfl, h3, r⟩ := b1.sqA s h1
      have q' : Q (.int (xs.length : Int)) H := pi1 s (.int _) q
      rw [← r.len] at q'
      rcases h3 with h3 | h3
      · exact ⟨_, vs.length, rfl, .inl ⟨vs, h3, rfl⟩, q'⟩
      · exact ⟨_, vs.length, rfl, .inr ⟨vs, h3, rfl⟩, q'⟩
    · split at e <;> cases e
  · cases e
def caMax2 : List D → Option D
  | [.int i, .int j] => some (.int (if j > i then j else i))
  | _ => none
def caMin2 : List D → Option D
  | [.int i, .int j] => some (.int (if j < i then j else i))
  | _ => none
theorem ok_max2 : CaOk K cls (fun xs H Q => ∃ i j, xs = [.int i, .int j] ∧ Q (.int (if j > i then j else i)) H) caMax2 := by
  intro F H vs ds d Q s b e q
  unfold caMax2 at e
  split at e
  · cases e
    obtain ⟨v, v', rfl, b1, b2⟩ := b.two
    obtain rfl := b1.int
    obtain rfl := b2.int
    exact ⟨_, _, rfl, pi1 s (.int _) q⟩
  · cases e
theorem ok_min2 : CaOk K cls (fun xs H Q => ∃ i j, xs = [.int i, .int j] ∧ Q (.int (if j < i then j else i)) H) caMin2 := by
  intro F H vs ds d Q s b e q
  unfold caMin2 at e
  split at e
  · cases e
    obtain ⟨v, v', rfl, b1, b2⟩ := b.two
    obtain rfl := b1.int
    obtain rfl := b2.int
    exact ⟨_, _, rfl, pi1 s (.int _) q⟩
  · cases e
def caAbs : List D → Option D
  | [.int i] => some (.int (if i < 0 then -i else i))
  | _ => none
theorem ok_abs : CaOk K cls (fun xs H Q => ∃ i, xs = [.int i] ∧ Q (.int (if i < 0 then -i else i)) H) caAbs := by
  intro F H vs ds d Q s b e q
  unfold caAbs at e
  split at e
  · cases e
    obtain ⟨v, rfl, b1⟩ := b.one
    obtain rfl := b1.int
    exact ⟨_, rfl, pi1 s (.int _) q⟩
  · cases e
def caInt : List D → Option D
  | [.int i] => some (.int i)
  | [.bl k] => some (.int (if k = true then 1 else 0))
  | _ => none
@[simp] def sqKA : D → Option (List D)
  | .tp xs => some xs
  | d => sqK d
theorem Bo.sqKA {v : V} {d : D} {xs : List D} (s : Same F H) (b : Bo K cls F H v d) (e : sqKA d = some xs) : ∃ a vs, v = .ref a ∧ (SqL K H a vs ∨ SqT K H a vs) ∧ Rps K cls F vs xs := by
  cases d with
  | tp ys => obtain ⟨a, vs, e1, h1, h2, r⟩ := b.tpv s (xs := xs) (by simpa using e); exact ⟨a, vs, e1, .inr h1, r⟩
  | ls ys => obtain ⟨a, vs, e1, h1, r⟩ := b.sqK s (xs := xs) (by simpa using e); exact ⟨a, vs, e1, .inl h1, r⟩
  | sc ys => obtain ⟨a, vs, e1, h1, r⟩ := b.sqK s (xs := xs) (by simpa using e); exact ⟨a, vs, e1, .inl h1, r⟩
  | bo ys => obtain ⟨a, vs, e1, h1, r⟩ := b.sqK s (xs := xs) (by simpa using e); exact ⟨a, vs, e1, .inl h1, r⟩
  | _ => simp at e
def caList : List D → Option D
  | [d] => (sqKA d).map .ol
  | _ => none
theorem ok_list : CaOk K cls (fun xs H Q => ∃ p ys, xs = [.ref p] ∧ (SqL K H p ys ∨ SqT K H p ys) ∧ ∀ l, H l = none → Q (.ref l) (upd H l (.lst ys))) caList := by
  intro F H vs ds d Q s b e q
  unfold caList at e
  split at e
  · rename_i d0
    cases h1 : sqKA d0 with
    | none => rw [h1] at e; cases e
    | some xs =>
      rw [h1] at e
      cases e
      obtain ⟨v, rfl, b1⟩ := b.one
      obtain ⟨p, ws, rfl, h2, r⟩ := b1.sqKA s h1
      exact ⟨p, ws, rfl, h2, fun l hl => q _ _ _ [l] (Ext.own s hl) (fresh_new hl) (.inl (ow_new s hl r.toOws))⟩
  · cases e
def caTuple : List D → Option D
  | [d] => (sqKA d).map .tp
  | _ => none
theorem ok_tuple : CaOk K cls (fun xs H Q => ∃ p ys, xs = [.ref p] ∧ ((SqL K H p ys ∧ ∀ l, H l = none → Q (.ref l) (upd H l (.tup ys))) ∨ (SqT K H p ys ∧ Q (.ref p) H))) caTuple := by
  intro F H vs ds d Q s b e q
  unfold caTuple at e
  split at e
  · rename_i d0
    cases h1 : sqKA d0 with
    | none => rw [h1] at e; cases e
    | some xs =>
      rw [h1] at e
      cases e
      obtain ⟨v, rfl, b1⟩ := b.one
      have lst : ∀ {a : Addr} {ws : List V}, SqL K H a ws → Rps K cls F ws xs → ∀ l, H l = none → Q (.ref l) (upd H l (.tup ws)) := fun {a ws} h r l hl =>
        q _ _ _ [] (Ext.put s hl) Fresh.nil (.inl (.sh (.tp (SqT.of upd_same) (r.mono (Ext.put s hl).ff))))
      cases d0 with
      | tp ys =>
        obtain ⟨a, ws, rfl, h2, h3, r⟩ := b1.tpv s (xs := xs) (by simpa using h1)
        exact ⟨a, ws, rfl, .inr ⟨h2, pi1 s (.tp h3 r) q⟩⟩
      | ls ys => obtain ⟨a, ws, rfl, h2, r⟩ := b1.sqK s (xs := xs) (by simpa using h1); exact ⟨a, ws, rfl, .inl ⟨h2, lst h2 r⟩⟩
      | sc ys => obtain ⟨a, ws, rfl, h2, r⟩ := b1.sqK s (xs := xs) (by simpa using h1); exact ⟨a, ws, rfl, .inl ⟨h2, lst h2 r⟩⟩
      | bo ys => obtain ⟨a, ws, rfl, h2, r⟩ := b1.sqK s (xs := xs) (by simpa using h1); exact ⟨a, ws, rfl, .inl ⟨h2, lst h2 r⟩⟩
      | _ => simp at h1
  · cases e
def caSum : List D → Option D
  | [d] => match sqL d with
    | some xs => (intsOf xs).map fun ns => .int ns.sum
    | none => none
  | _ => none
theorem Bo.sqI {v : V} {d : D} {xs : List D} {ns : List Int} (s : Same F H) (b : Bo K cls F H v d) (e : DL.sqL d = some xs) (e2 : intsOf xs = some ns) : ∃ a, v = .ref a ∧ L2.SqL K H a (ns.map V.int) := by
  obtain ⟨a, vs, e1, h, r⟩ := Bo.sqL s b e
  rw [intsOf_eq e2] at r
  rw [r.ints] at h
  exact ⟨a, e1, h⟩
theorem ok_sum : CaOk K cls (rSum K) caSum := by
  intro F H vs ds d Q s b e q
  unfold caSum at e
  split at e
  · split at e
    · rename_i xs h1
      cases h2 : intsOf xs with
      | none => rw [h2] at e; cases e
      | some ns =>
        rw [h2] at e
        cases e
        obtain ⟨v, rfl, b1⟩ := b.one
        obtain ⟨a, rfl, h3⟩ := b1.sqI s h1 h2
        exact ⟨a, ns, rfl, h3, pi1 s (.int _) q⟩
    · cases e
  · cases e
def gst : List Int → Int
  | [] => 0
  | [x] => x
  | x :: xs => if gst xs > x then gst xs else x
def lst_ : List Int → Int
  | [] => 0
  | [x] => x
  | x :: xs => if lst_ xs < x then lst_ xs else x
def caMax : List D → Option D
  | [d] => match sqL d with
    | some xs => match intsOf xs with
      | some ns => if ns.isEmpty = true then none else some (.int (gst ns))
      | none => none
    | none => none
  | _ => none
def caMin : List D → Option D
  | [d] => match sqL d with
    | some xs => match intsOf xs with
      | some ns => if ns.isEmpty = true then none else some (.int (lst_ ns))
      | none => none
    | none => none
  | _ => none
def ins (x : Int) : List Int → List Int
  | [] => [x]
  | y :: r => if x ≤ y then x :: y :: r else y :: ins x r
def srt : List Int → List Int
  | [] => []
  | x :: r => ins x (srt r)
def caSorted : List D → Option D
  | [d] => match sqL d with
    | some xs => (intsOf xs).map fun ns => .ol ((srt ns).map D.int)
    | none => none
  | _ => none
def caAll : List D → Option D
  | [d] => match sqL d with
    | some xs => (blsOf xs).map fun ns => .bl (ns.all id)
    | none => none
  | _ => none
theorem ok_all : CaOk K cls (rAll K) caAll := by
  intro F H vs ds d Q s b e q
  unfold caAll at e
  split at e
  · split at e
    · rename_i xs h1
      cases h2 : blsOf xs with
      | none => rw [h2] at e; cases e
      | some ns =>
        rw [h2] at e
        cases e
        obtain ⟨v, rfl, b1⟩ := b.one
        obtain ⟨a, vs, rfl, h3, r⟩ := b1.sqL s h1
        rw [blsOf_eq h2] at r
        rw [r.bls] at h3
        exact ⟨a, ns, rfl, h3, pi1 s (.bl _) q⟩
    · cases e
  · cases e
end
end DL

namespace DL
open PySem L2
theorem set_self {α : Type} : ∀ {l : List α} {i : Nat} {a : α}, l[i]? = some a → l.set i a = l
  | [], _, _, h => by simp at h
  | x :: l, 0, a, h => by simp at h; subst h; rfl
  | x :: l, i + 1, a, h => by rw [List.set_cons_succ, set_self (by simpa using h)]
structure Cn (X : Cx) (W : WX) (k : Nat) : Prop where
  tk : Takes X W
  hp : PassesOwn (model X.prog X.w) X.A X.env X.xe
  calm : X.calm = true
  nd : X.N.Nodup
  hr : Room k X.A
theorem Cn.mono {X : Cx} {W : WX} {j k : Nat} (c : Cn X W k) (h : j ≤ k) : Cn X W j := ⟨c.tk, c.hp, c.calm, c.nd, c.hr.mono h⟩
theorem Cn.eq {X : Cx} {W : WX} {k : Nat} (c : Cn X W k) : X.A.units + 64 < cLine := c.hr.units
abbrev W0 : WX := fun _ _ _ _ => False
theorem Cn.blk {X : Cx} {W : WX} {k : Nat} (c : Cn X W k) {s : Shared} {H : Hp} {scope : Scope} {cenv : PySem.Env} {fp : List Addr} : Cn (X.blk s H scope cenv fp) W0 k :=
  ⟨takes0, PassesOwn.never, c.calm, c.nd, c.hr⟩

structure ClsOk (K : PySem.W.Frag) (cls : Cls) (c : Nat) (C : Addr) (ns : List Str) : Prop where
  e : cls c = some (C, ns)
  nd : ns.Nodup
  cl : L2.Cls K C
  na : ∀ f ∈ ns, NoAttr K C f
theorem lookup_zip : ∀ {ns : List Str} {vs : List V} {i : Nat} {f : Str} {v : V}, ns.Nodup → ns[i]? = some f → vs[i]? = some v → (ns.zip vs).lookup f = some v
  | [], _, _, _, _, _, h, _ => by simp at h
  | n :: ns, [], _, _, _, _, _, h => by simp at h
  | n :: ns, w :: vs, 0, f, v, nd, h1, h2 => by
    simp at h1 h2
    subst h1 h2
    simp [List.lookup]
  | n :: ns, w :: vs, i + 1, f, v, nd, h1, h2 => by
    obtain ⟨a1, a2⟩ := List.nodup_cons.mp nd
    have h1' : ns[i]? = some f := by simpa using h1
    have : ¬ f = n := fun e => a1 (e ▸ List.mem_of_getElem? h1')
    rw [List.zip_cons_cons, List.lookup]
    have e : (f == n) = false := by simpa using this
    rw [e]
    exact lookup_zip a2 h1' (by simpa using h2)
def opFld (c i : Nat) : D → Option D
  | .ob c' ds => if c' = c then ds[i]? else none
  | .bb c' ds => if c' = c then ds[i]? else none
  | _ => none
section
variable {K : PySem.W.Frag} {cls : Cls} {W : WX} {X : Cx} {F H F' H' F1 H1 : Hp} {O O1 : List Addr} {Q : VK} {σ : St} {a b e : Expr} {es : List Expr} {fa fb fc : Env → Res D} {ga gb : Env → Res Bool} {fs : Env → Res (List D)} {pos : Pos}
theorem Bo.fld {c i : Nat} {C : Addr} {ns : List Str} {f : Str} {v : V} {d r : D} (s : Same F H) (T : ClsOk K cls c C ns) (hi : ns[i]? = some f) (b : Bo K cls F H v d) (e : opFld c i d = some r) :
    ∃ a dx fs w, v = .ref a ∧ H a = some (.ins C dx fs) ∧ fs.lookup f = some w ∧ Bo K cls F H w r := by
  cases d with
  | ob c' ds =>
    have e2 : (if c' = c then ds[i]? else none) = some r := e
    split at e2
    · rename_i hc
      subst hc
      cases b with
      | sh rr =>
        cases rr with
        | ob he hF hl hr =>
          have := he.symm.trans T.e
          cases this
          obtain ⟨w, h1, h2⟩ := hr.get e2
          exact ⟨_, _, _, w, rfl, s _ _ hF, lookup_zip T.nd hi h1, .sh h2⟩
    · cases e2
  | bb c' ds =>
    have e2 : (if c' = c then ds[i]? else none) = some r := e
    split at e2
    · rename_i hc
      subst hc
      cases b with
      | sh rr => cases rr
      | bb he hF hl hr =>
        have := he.symm.trans T.e
        cases this
        obtain ⟨w, h1, h2⟩ := hr.get e2
        exact ⟨_, _, _, w, rfl, hF, lookup_zip T.nd hi h1, h2⟩
    · cases e2
  | _ => cases e
theorem je_fld {c i : Nat} {C : Addr} {ns : List Str} {f : Str} (T : ClsOk X.K cls c C ns) (hi : ns[i]? = some f) (ha : JE X cls W a fa) (hb : attributeBase a f X.env (eval a X.env) = eval a X.env := by rfl) : JE X cls W (.Attribute a f pos) (eUn (opFld c i) fa) := by
  obtain ⟨ta, pa, da⟩ := ha.ex
  refine ⟨_, pe_fld pa hb, ?_⟩
  intro σ F H g O Q s st p
  rw [eUn_] at p
  refine da.go s st (fun c e => by rw [e] at p; exact p) (fun e => by rw [e] at p; exact p) fun d e v F1 H1 x1 b1 => ?_
  rw [e] at p
  simp only [Res.bind] at p
  cases eo : opFld c i (opd d) with
  | none => rw [eo] at p; exact p.elim
  | some r =>
    rw [eo] at p
    obtain ⟨a, dx, fs, w, rfl, h1, h2, h3⟩ := b1.fld x1.fh T hi eo
    exact ⟨_, _, _, _, w, rfl, h1, T.cl, T.na f (List.mem_of_getElem? hi), h2, p w F1 H1 [] x1 Fresh.nil (.inr ⟨h3, rfl⟩)⟩

def spD (K : PySem.W.Frag) (cls : Cls) (n : Nat) (g : List D → Res D) : Sp := fun vs H Q E => ∃ F ds, Same F H ∧ Rps K cls F vs ds ∧ ds.length = n ∧
  match g ds with
  | .ok d => ∀ v F' H' O', Ext F H F' H' → Fresh H O' → Ow K cls F' H' v d O' → Q v H'
  | .xc c => ∀ F' H', Ext F H F' H' → E (excV cls c) none H'
  | .bad => False
mutual
/-- nothing but scalars, in new lists -/
@[simp] def flat : D → Bool
  | .non => true
  | .bl _ => true
  | .int _ => true
  | .str _ => true
  | .ol xs => flats xs
  | _ => false
@[simp] def flats : List D → Bool
  | [] => true
  | d :: ds => flat d && flats ds
end
mutual
@[simp] def plok : D → Bool
  | .bd _ _ => false
  | .bo xs => ploks xs
  | .bb _ xs => ploks xs
  | _ => true
@[simp] def ploks : List D → Bool
  | [] => true
  | d :: ds => plok d && ploks ds
end
mutual
theorem Bo.pln (s : Same F H) : ∀ {v : V} {d : D}, Bo K cls F H v d → plok d = true → Rp K cls H v (pln d)
  | _, _, .sh r, _ => by
    have r' := r.mono s
    cases r <;> exact r'
  | _, _, .bo h r, e => by
    simp only [DL.pln]
    exact .ls h (Bos.plns s r (by simpa using e))
  | _, _, .bb hc h l r, e => by
    simp only [DL.pln]
    exact .ob hc h l (Bos.plns s r (by simpa using e))
  | _, _, .bd .., e => by simp at e
theorem Bos.plns (s : Same F H) : ∀ {v : List V} {d : List D}, Bos K cls F H v d → ploks d = true → Rps K cls H v (plns d)
  | _, _, .nil, _ => .nil
  | _, _, .cons a b, e => by
    simp only [ploks, Bool.and_eq_true] at e
    simp only [DL.plns]
    exact .cons (Bo.pln s a e.1) (Bos.plns s b e.2)
end
mutual
theorem Ow.flat : ∀ {v : V} {d : D} {O : List Addr}, Ow K cls F' H' v d O → flat d = true → (∀ a ∈ O, F a = none) → Ow K cls F H' v d O
  | _, _, _, .sh r, e, _ => by
    cases r with
    | non => exact .sh .non
    | bl b => exact .sh (.bl b)
    | int b => exact .sh (.int b)
    | str b => exact .sh (.str b)
    | _ => simp at e
  | _, _, _, .ol h1 h2 h3 r, e, k => .ol (k _ (by simp)) h2 h3 (Ows.flats r (by simpa using e) fun a ha => k a (by simp [ha]))
  | _, _, _, .od .., e, _ => by simp at e
  | _, _, _, .oo .., e, _ => by simp at e
theorem Ows.flats : ∀ {v : List V} {d : List D} {O : List Addr}, Ows K cls F' H' v d O → flats d = true → (∀ a ∈ O, F a = none) → Ows K cls F H' v d O
  | _, _, _, .nil, _, _ => .nil
  | _, _, _, .cons a b dj q, e, k => by
    simp only [DL.flats, Bool.and_eq_true] at e
    exact .cons (Ow.flat a e.1 fun x hx => k x (by simp [q, hx])) (Ows.flats b e.2 fun x hx => k x (by simp [q, hx])) dj q
end
def calD (g : List D → Res D) (ds : List D) : Res D :=
  if shd ds = true then g ds
  else if ploks ds = true then (g (plns ds)).bind fun d => if flat d = true then .ok d else .bad
  else .bad
def eOwn (g : List D → Res D) (fs : Env → Res (List D)) : Env → Res D := fun e => (fs e).bind fun ds => calD g ds
@[simp] theorem eOwn_ (g : List D → Res D) (fs : Env → Res (List D)) (e : Env) : eOwn g fs e = (fs e).bind fun ds => calD g ds := rfl
theorem plns_len : ∀ ds : List D, (plns ds).length = ds.length
  | [] => rfl
  | d :: ds => by simp [plns, plns_len ds]
theorem spD_call {n : Nat} {g : List D → Res D} {vs : List V} {ds : List D} {E : XK} (s : Same F H) (b : Bos K cls F H vs ds) (hn : ds.length = n)
    (p : match calD g ds with
      | .ok d => ∀ v F' H' O', Ext F H F' H' → Fresh H O' → Ow K cls F' H' v d O' → Q v H'
      | .xc c => ∀ F' H', Ext F H F' H' → E (excV cls c) none H'
      | .bad => False) : spD K cls n g vs H Q E := by
  unfold calD at p
  by_cases h1 : shd ds = true
  · rw [if_pos h1] at p
    exact ⟨F, ds, s, b.toRps h1, hn, p⟩
  · rw [if_neg h1] at p
    by_cases h2 : ploks ds = true
    · rw [if_pos h2] at p
      refine ⟨H, plns ds, .refl H, b.plns s h2, by rw [plns_len]; exact hn, ?_⟩
      have up : ∀ {F' H'}, Ext H H F' H' → Ext F H F H' := fun x => ⟨.refl F, x.hh, s.trans x.hh, fun _ h _ => h⟩
      cases e : g (plns ds) with
      | ok d =>
        rw [e] at p
        simp only [Res.bind] at p ⊢
        by_cases h3 : flat d = true
        · rw [if_pos h3] at p
          intro v F' H' O' x fr ow
          refine p v F H' O' (up x) fr (ow.flat h3 fun a ha => ?_)
          cases q : F a with
          | none => rfl
          | some o => have := fr a ha; rw [s a o q] at this; cases this
        · rw [if_neg h3] at p; exact p.elim
      | xc c =>
        rw [e] at p
        exact fun F' H' x => p F H' (up x)
      | bad => rw [e] at p; exact p.elim
    · rw [if_neg h2] at p; exact p.elim
theorem je_own {x : Str} {f : Addr} {fd : FuncData} {ps : List Str} {k n : Nat} {g : List D → Res D} {p : Pos} (c : Cn X W k) (G : FnOk X.prog X.w X.K X.mg X.base (L2.CX X.prog X.w) k f fd ps (spD X.K cls n g))
    (hm : X.mg x = some (.ref f)) (hk : PySem.W.keepIn X.K (.ref f) = true) (hb : Binds X.K fd ps []) (ha : JA X cls W (e :: es) fs) (hn : ∀ g ds, fs g = .ok ds → ds.length = n) (hg : Gl X x := by rfl)
    (hdb : (x == ("__debug__" : Str)) = false := by decide) (he : starEach (e :: es) X.env = (false, eval e X.env) :: starEach es X.env := by rfl) (hpl : (backTo pos (starEach es X.env)).any (·.1) = false := by rfl) :
    JE X cls W (.Call (.Name x p) (e :: es) [] pos) (eOwn g fs) := by
  obtain ⟨ta, pa, da⟩ := ha.ex
  refine ⟨_, pe_callS G c.hr hg hm hk hb (fun σ => passAt c.tk σ) pa hdb he hpl, ?_⟩
  intro σ F H env O Q s st p
  rw [eOwn_] at p
  refine da.go s st (fun c e => by rw [e] at p; exact p) (fun e => by rw [e] at p; exact p) fun ds e vs F1 H1 x1 b1 => ?_
  rw [e] at p
  simp only [Res.bind] at p
  refine spD_call x1.fh b1 (hn env ds e) ?_
  cases eo : calD g ds with
  | ok d => rw [eo] at p; exact fun v F' H' O' y fr ow => p v F' H' O' (x1.trans y) (fr.mono x1.hh) (.inl ow)
  | xc c => rw [eo] at p; exact fun F' H' y => p F' H' (x1.trans y)
  | bad => rw [eo] at p; exact p
theorem an_len {g : Env} {ds : List D} {n : Nat} (h : ∀ g ds, fs g = .ok ds → ds.length = n) (e : aCons fa fs g = .ok ds) : ds.length = n + 1 := by
  rw [aCons_] at e
  cases q1 : fa g with
  | ok d =>
    rw [q1] at e
    simp only [Res.bind] at e
    cases q2 : fs g with
    | ok r => rw [q2] at e; cases e; simp [h g r q2]
    | xc c => rw [q2] at e; cases e
    | bad => rw [q2] at e; cases e
  | xc c => rw [q1] at e; cases e
  | bad => rw [q1] at e; cases e
theorem al0 : ∀ g ds, aNil g = .ok ds → ds.length = 0 := fun g ds e => by cases e; rfl
theorem alS {n : Nat} (h : ∀ g ds, fs g = .ok ds → ds.length = n) : ∀ g ds, aCons fa fs g = .ok ds → ds.length = n + 1 := fun g ds e => an_len h e

def PostS (K : PySem.W.Frag) (cls : Cls) (W : WX) (D : Ends) (F H : Hp) (O : List Addr) : Out → Prop
  | .nx g => ∀ σ' F' H' O', SExt F H O F' H' O' → Sts K cls F' H' σ' g O' → D.nx σ' H'
  | .rt d => ∀ v F' H' O', SExt F H O F' H' O' → Ow K cls F' H' v d O' → D.rt v H'
  | .bk g => ∀ σ' F' H' O', SExt F H O F' H' O' → Sts K cls F' H' σ' g O' → D.bk σ' H'
  | .ct g => ∀ σ' F' H' O', SExt F H O F' H' O' → Sts K cls F' H' σ' g O' → D.ct σ' H'
  | .xc c g => ∀ σ' F' H' O', SExt F H O F' H' O' → Sts K cls F' H' σ' g O' → W (excV cls c) none σ' H'
  | .bad => False
def DS (K : PySem.W.Frag) (cls : Cls) (W : WX) (t : TS) (f : Env → Out) : Prop :=
  ∀ D σ F H g O, Same F H → Sts K cls F H σ g O → PostS K cls W D F H O (f g) → t D σ H
structure JS (X : Cx) (cls : Cls) (W : WX) (st : Stmt) (f : Env → Out) : Prop where
  ex : ∃ t, PS X st t ∧ DS X.K cls W t f
structure JSs (X : Cx) (cls : Cls) (W : WX) (st : List Stmt) (f : Env → Out) : Prop where
  ex : ∃ t, PSs X st t ∧ DS X.K cls W t f
theorem PostS.mono {D : Ends} {r : Out} (x : SExt F H O F1 H1 O1) (p : PostS K cls W D F H O r) : PostS K cls W D F1 H1 O1 r := by
  cases r with
  | nx g => exact fun σ' F' H' O' y => p σ' F' H' O' (x.trans y)
  | rt d => exact fun v F' H' O' y => p v F' H' O' (x.trans y)
  | bk g => exact fun σ' F' H' O' y => p σ' F' H' O' (x.trans y)
  | ct g => exact fun σ' F' H' O' y => p σ' F' H' O' (x.trans y)
  | xc c g => exact fun σ' F' H' O' y => p σ' F' H' O' (x.trans y)
  | bad => exact p
def Res.st {α : Type} (r : Res α) (g : Env) (f : α → Out) : Out := match r with
  | .ok a => f a
  | .xc c => .xc c g
  | .bad => .bad
@[simp] theorem Res.st_ok {α : Type} (a : α) (g : Env) (f : α → Out) : (Res.ok a).st g f = f a := rfl
@[simp] theorem Res.st_xc {α : Type} (c : Nat) (g : Env) (f : α → Out) : (Res.xc c : Res α).st g f = .xc c g := rfl
@[simp] theorem Res.st_bad {α : Type} (g : Env) (f : α → Out) : (Res.bad : Res α).st g f = .bad := rfl
theorem xc_st {D : Ends} {c : Nat} {g : Env} (st : Sts K cls F H σ g O) (p : PostS K cls W D F H O (.xc c g)) : ∀ F' H', Ext F H F' H' → W (excV cls c) none σ H' :=
  fun F' H' x => p σ F' H' O (x.sext fun a h => .inl h) (st.ext x)
def sSeq (f u : Env → Out) : Env → Out := fun g => match f g with
  | .nx g' => u g'
  | o => o
@[simp] theorem sSeq_ (f u : Env → Out) (g : Env) : sSeq f u g = match f g with
  | .nx g' => u g'
  | o => o := rfl
def sNil : Env → Out := fun g => .nx g
@[simp] theorem sNil_ (g : Env) : sNil g = .nx g := rfl
theorem ds_seq {t u : TS} {f1 f2 : Env → Out} (h1 : DS K cls W t f1) (h2 : DS K cls W u f2) : DS K cls W (tSeq t u) (sSeq f1 f2) := by
  intro D σ F H g O s st p
  rw [sSeq_] at p
  refine h1 _ σ F H g O s st ?_
  cases e : f1 g with
  | nx g' => rw [e] at p; exact fun σ' F' H' O' x st' => h2 D σ' F' H' g' O' x.fh st' (PostS.mono x p)
  | rt d => rw [e] at p; exact p
  | bk g' => rw [e] at p; exact p
  | ct g' => rw [e] at p; exact p
  | xc c g' => rw [e] at p; exact p
  | bad => rw [e] at p; exact p
theorem jss_nil : JSs X cls W [] sNil := ⟨_, pss_nil, fun D σ F H g O s st p => p σ F H O (.refl s) st⟩
theorem jss_cons {st : Stmt} {sts : List Stmt} {f1 f2 : Env → Out} (h1 : JS X cls W st f1) (h2 : JSs X cls W sts f2) : JSs X cls W (st :: sts) (sSeq f1 f2) := by
  obtain ⟨t, p, d⟩ := h1.ex
  obtain ⟨u, q, d'⟩ := h2.ex
  exact ⟨_, pss_cons p q, ds_seq d d'⟩
theorem jss_one {st : Stmt} {f1 : Env → Out} (h1 : JS X cls W st f1) : JSs X cls W [st] f1 := by
  obtain ⟨t, p, d⟩ := h1.ex
  exact ⟨_, pss_one p, d⟩
def sNever : Env → Out := fun _ => .bad
@[simp] theorem sNever_ (g : Env) : sNever g = .bad := rfl
def sBreak : Env → Out := fun g => .bk g
@[simp] theorem sBreak_ (g : Env) : sBreak g = .bk g := rfl
def sCont : Env → Out := fun g => .ct g
@[simp] theorem sCont_ (g : Env) : sCont g = .ct g := rfl
def sIf (c : Env → Res Bool) (f1 f2 : Env → Out) : Env → Out := fun g => (c g).st g fun k => if k = true then f1 g else f2 g
@[simp] theorem sIf_ (c : Env → Res Bool) (f1 f2 : Env → Out) (g : Env) : sIf c f1 f2 g = (c g).st g fun k => if k = true then f1 g else f2 g := rfl
theorem js_if {c : Expr} {s1 s2 : List Stmt} {f1 f2 : Env → Out} (hc : JT X cls W c ga) (h1 : JSs X cls W s1 f1) (h2 : JSs X cls W s2 f2) : JS X cls W (.If c s1 s2 pos) (sIf ga f1 f2) := by
  obtain ⟨tc, pc, dc⟩ := hc.ex
  obtain ⟨t1, p1, d1⟩ := h1.ex
  obtain ⟨t2, p2, d2⟩ := h2.ex
  refine ⟨_, ps_if pc p1 p2, ?_⟩
  intro D σ F H g O s st p
  rw [sIf_] at p
  refine dc.go s st (fun c e => by rw [e] at p; exact xc_st st p) (fun e => by rw [e] at p; exact p) fun k e F1 H1 x => ?_
  rw [e, Res.st_ok] at p
  have x' : SExt F H O F1 H1 O := x.sext fun a h => .inl h
  cases k with
  | true =>
    rw [if_pos rfl] at p
    rw [if_pos rfl]
    exact d1 D σ F1 H1 g O x.fh (st.ext x) (p.mono x')
  | false =>
    rw [if_neg (by decide)] at p
    rw [if_neg (by decide)]
    exact d2 D σ F1 H1 g O x.fh (st.ext x) (p.mono x')
theorem DE.goS {t : TE} (ha : DE K cls W t fa) {σ : St} {F H : Hp} {g : Env} {O : List Addr} {Q : VK} {Dn : Ends} {f : D → Out} (s : Same F H) (st : Sts K cls F H σ g O)
    (p : PostS K cls W Dn F H O (((fa g).bind kp).st g f)) (hk : ∀ d, (fa g).bind kp = .ok d → PostS K cls W Dn F H O (f d) → ∀ v F' H' O', Ext F H F' H' → Fresh H O' → Ow K cls F' H' v d O' → Q v H') : t σ H Q := by
  refine ha.goO s st (fun c e => ?_) (fun e => by rw [e] at p; exact p) fun d e => ?_
  · have e' : (fa g).bind kp = .xc c := by rw [e]; rfl
    rw [e'] at p
    exact xc_st st p
  · rw [e] at p
    exact hk d e p
def sAsg (i : Nat) (fa : Env → Res D) : Env → Out := fun g => ((fa g).bind kp).st g fun d => .nx (g.set i d)
@[simp] theorem sAsg_ (i : Nat) (fa : Env → Res D) (g : Env) : sAsg i fa g = ((fa g).bind kp).st g fun d => .nx (g.set i d) := rfl
def sAsgF (i : Nat) (fa : Env → Res D) : Env → Out := fun g => ((fa g).bind kp).st g fun d => if nod d = true then .nx (g.set i (frz d)) else .bad
@[simp] theorem sAsgF_ (i : Nat) (fa : Env → Res D) (g : Env) : sAsgF i fa g = ((fa g).bind kp).st g fun d => if nod d = true then .nx (g.set i (frz d)) else .bad := rfl
theorem Sts.put {i : Nat} {v : V} {d : D} {g : Env} {Od : List Addr} (st : Sts K cls F H σ g O) (x : Ext F H F' H') (fr : Fresh H Od) (w : Ow K cls F' H' v d Od) :
    ∃ O'', Sts K cls F' H' (σ.set i (some v)) (g.set i d) O'' ∧ SExt F H O F' H' O'' := by
  have ne : ∀ a ∈ O, H a ≠ none := fun a ha => (st.dom a ha).2
  by_cases hi : i < g.length
  · obtain ⟨O1, h1, h2, h3, h4⟩ := st.at i hi
    obtain ⟨O'', q1, q2⟩ := h3 F' H' v d Od (fun b hb _ => x.get (st.dom b hb).1 (ne b hb)) x.ff w (fun a h1 h2 => absurd (fr a h1) (ne a h2))
    exact ⟨O'', q1, x.sext fun a ha => (q2 a ha).imp id (fr a)⟩
  · have hl := st.len
    rw [List.set_eq_of_length_le (by omega), List.set_eq_of_length_le (by omega)]
    exact ⟨O, st.ext x, x.sext fun a h => .inl h⟩
theorem Sts.putS {i : Nat} {v : V} {d : D} {g : Env} (s : Same F H) (st : Sts K cls F H σ g O) (w : Rp K cls F v d) :
    ∃ O'', Sts K cls F H (σ.set i (some v)) (g.set i d) O'' ∧ SExt F H O F H O'' := st.put (.refl s) Fresh.nil (.sh w)
theorem ds_asg {t : TE} {i : Nat} (ha : DE K cls W t fa) : DS K cls W (tAsg t (gName i)) (sAsg i fa) := by
  intro D σ F H g O s st p
  refine ha.goS s st p fun d e p v F1 H1 O1 x fr w => ?_
  obtain ⟨O'', q1, q2⟩ := st.put (i := i) x fr w
  exact p _ F1 H1 O'' q2 q1
theorem ds_asgF {t : TE} {i : Nat} (ha : DE K cls W t fa) : DS K cls W (tAsg t (gName i)) (sAsgF i fa) := by
  intro D σ F H g O s st p
  refine ha.goS s st p fun d e p v F1 H1 O1 x fr w => ?_
  split at p
  · rename_i n
    have no : ∀ a ∈ O1, F1 a = none := fun a ha => (w.dom a ha).1
    have x2 := addF_ext x fr no
    obtain ⟨O'', q1, q2⟩ := st.put (i := i) x2 Fresh.nil (.sh (w.freeze (addF_same no) addF_at n))
    exact p _ _ H1 O'' q2 q1
  · exact p.elim
theorem js_set {i : Nat} {x : Str} {pos' : Pos} {k : Nat} (c : Cn X W k) (hi : X.N[i]? = some x) (hx : Loc X.env.scope x) (ha : JE X cls W a fa) (hs : swapsWith a (some (.Name x pos')) pos.line X.env = pure false := by rfl)
    (hf : X.fn x = true ∨ X.env.scope.names.lookup x = some .local := by first | exact .inl rfl | exact .inr rfl) : JS X cls W (.Assign [.Name x pos'] a pos) (sAsg i fa) := by
  obtain ⟨t, p, d⟩ := ha.ex
  exact ⟨_, ps_set c.nd hi hx p hs hf, ds_asg d⟩
theorem js_setF {i : Nat} {x : Str} {pos' : Pos} {k : Nat} (c : Cn X W k) (hi : X.N[i]? = some x) (hx : Loc X.env.scope x) (ha : JE X cls W a fa) (hs : swapsWith a (some (.Name x pos')) pos.line X.env = pure false := by rfl)
    (hf : X.fn x = true ∨ X.env.scope.names.lookup x = some .local := by first | exact .inl rfl | exact .inr rfl) : JS X cls W (.Assign [.Name x pos'] a pos) (sAsgF i fa) := by
  obtain ⟨t, p, d⟩ := ha.ex
  exact ⟨_, ps_set c.nd hi hx p hs hf, ds_asgF d⟩
def sRet (fa : Env → Res D) : Env → Out := fun g => ((fa g).bind kp).st g .rt
@[simp] theorem sRet_ (fa : Env → Res D) (g : Env) : sRet fa g = ((fa g).bind kp).st g .rt := rfl
theorem js_ret (ha : JE X cls W a fa) : JS X cls W (.Return (some a) pos) (sRet fa) := by
  obtain ⟨t, p, d⟩ := ha.ex
  refine ⟨_, ps_ret p, ?_⟩
  intro D σ F H g O s st p
  exact d.goS s st p fun d e p v F1 H1 O1 x fr w => p v F1 H1 O1 (x.sext fun a h => .inr (fr a h)) w
def sRetV (i : Nat) : Env → Out := fun g => match g[i]? with
  | some .un => .bad
  | some d => .rt d
  | none => .bad
@[simp] theorem sRetV_ (i : Nat) (g : Env) : sRetV i g = match g[i]? with
  | some .un => .bad
  | some d => .rt d
  | none => .bad := rfl
theorem js_retV (i : Nat) {x : Str} {pos' : Pos} (hN : X.N[i]? = some x := by rfl) (hv : Vis X.env.scope x := by first | exact Or.inl rfl | exact Or.inr (Or.inl rfl) | exact Or.inr (Or.inr rfl)) (hd : (x == ("__debug__" : Str)) = false := by decide)
    (hcd : (x == ("__classdict__" : Str)) = false := by decide) : JS X cls W (.Return (some (.Name x pos')) pos) (sRetV i) := by
  refine ⟨_, ps_ret (pe_var hN hv hd hcd), ?_⟩
  intro D σ F H g O s st p
  rw [sRetV_] at p
  cases e : g[i]? with
  | none => rw [e] at p; exact p.elim
  | some d =>
    have hi : i < g.length := (List.getElem?_eq_some_iff.mp e).1
    obtain ⟨O1, h1, h2, _⟩ := st.at i hi
    rcases h2 with ⟨h2, _⟩ | ⟨v, d', h2, h3, ow⟩
    · rw [e] at h2; cases h2; rw [e] at p; exact p.elim
    · rw [e] at h3; cases h3
      rw [e] at p
      have q : PostS X.K cls W D F H O (.rt d) := by cases d <;> first | exact p | exact p.elim
      exact ⟨v, h2, q v F H O1 ⟨.refl F, s, fun _ _ h _ => h, fun _ h _ _ => h, fun a ha => .inl (h1 a ha)⟩ ow⟩
def sRetN : Env → Out := fun _ => .rt .non
@[simp] theorem sRetN_ (g : Env) : sRetN g = .rt .non := rfl
def sExp (fa : Env → Res D) : Env → Out := fun g => (fa g).st g fun _ => .nx g
@[simp] theorem sExp_ (fa : Env → Res D) (g : Env) : sExp fa g = (fa g).st g fun _ => .nx g := rfl
theorem js_exp (ha : JE X cls W a fa) (hs : swapsWith a none pos.line X.env = pure false := by rfl) : JS X cls W (.Expr a pos) (sExp fa) := by
  obtain ⟨t, p, d⟩ := ha.ex
  refine ⟨_, ps_expr p hs, ?_⟩
  intro D σ F H g O s st p
  rw [sExp_] at p
  exact d.go s st (fun c e => by rw [e] at p; exact xc_st st p) (fun e => by rw [e] at p; exact p) fun d e v F1 H1 x b => by
    rw [e] at p
    exact p σ F1 H1 O (x.sext fun a h => .inl h) (st.ext x)
def frzAt (g : Env) (i : Nat) : Env := match g[i]? with
  | some d => if nod d = true then g.set i (frz d) else g
  | none => g
def sFrz (i : Nat) (f : Env → Out) : Env → Out := fun g => f (frzAt g i)
@[simp] theorem sFrz_ (i : Nat) (f : Env → Out) (g : Env) : sFrz i f g = f (frzAt g i) := rfl
theorem Sts.frzAt (s : Same F H) {g : Env} (i : Nat) (st : Sts K cls F H σ g O) : ∃ F' O', SExt F H O F' H O' ∧ Sts K cls F' H σ (frzAt g i) O' := by
  unfold DL.frzAt
  cases e : g[i]? with
  | none => exact ⟨F, O, .refl s, st⟩
  | some d =>
    simp only []
    by_cases n : nod d = true
    · rw [if_pos n]
      have hi : i < g.length := (List.getElem?_eq_some_iff.mp e).1
      obtain ⟨O1, h1, h2, h3, h4⟩ := st.at i hi
      rcases h2 with ⟨h2, _⟩ | ⟨v, d', h2, h3', ow⟩
      · rw [e] at h2; cases h2
        rw [show frz .un = .un from rfl, set_self e]
        exact ⟨F, O, .refl s, st⟩
      · rw [e] at h3'; cases h3'
        have no : ∀ a ∈ O1, F a = none := fun a ha => (ow.dom a ha).1
        obtain ⟨O'', q1, q2⟩ := h3 (addF F H O1) H v (frz d) [] (fun b hb hn => ⟨rfl, by rw [addF_no hn]; exact (st.dom b hb).1⟩) (addF_same no) (.sh (ow.freeze (addF_same no) addF_at n)) (fun _ h => nomatch h)
        rw [set_self h2] at q1
        refine ⟨_, O'', ⟨addF_same no, fun a o e => ?_, fun _ _ h _ => h, fun a ha hb hc => ?_, fun a ha => .inl ((q2 a ha).resolve_right (fun h => nomatch h))⟩, q1⟩
        · unfold addF at e
          split at e
          · exact e
          · exact s a o e
        · rw [addF_no fun q => hc (h1 a q)]; exact ha
    · rw [if_neg n]; exact ⟨F, O, .refl s, st⟩
theorem ds_frz {t : TS} {f : Env → Out} {i : Nat} (h : DS K cls W t f) : DS K cls W t (sFrz i f) := by
  intro D σ F H g O s st p
  obtain ⟨F', O', x, st'⟩ := st.frzAt s i
  exact h D σ F' H (frzAt g i) O' x.fh st' (p.mono x)
theorem js_frz {st : Stmt} {f : Env → Out} (i : Nat) (h : JS X cls W st f) : JS X cls W st (sFrz i f) := by
  obtain ⟨t, p, d⟩ := h.ex
  exact ⟨t, p, ds_frz d⟩
end
end DL

namespace DL
open PySem L2
theorem wipe_set {σ : St} {i : Nat} {o : Option V} : ∀ {vs : List Nat}, wipe (σ.set i o) vs = if i ∈ vs then wipe σ vs else (wipe σ vs).set i o
  | [] => by simp [wipe]
  | v :: vs => by
    unfold wipe
    rw [wipe_set (vs := vs)]
    by_cases h : i = v
    · subst h
      simp only [List.mem_cons, true_or, if_true]
      split
      · rfl
      · rw [List.set_set]
    · by_cases h2 : i ∈ vs
      · simp [h2]
      · have : ¬ i ∈ v :: vs := by simp [h, h2]
        rw [if_neg this, if_neg h2, List.set_comm _ _ h]
theorem wipe_in {σ : St} {i : Nat} {o : Option V} {vs : List Nat} (h : i ∈ vs) : wipe (σ.set i o) vs = wipe σ vs := by rw [wipe_set, if_pos h]
theorem wipe_wipe {σ : St} : ∀ {us vs : List Nat}, (∀ i ∈ us, i ∈ vs) → wipe (wipe σ us) vs = wipe σ vs
  | [], _, _ => rfl
  | u :: us, vs, h => by
    show wipe ((wipe σ us).set u none) vs = _
    rw [wipe_in (h u (by simp))]
    exact wipe_wipe fun i hi => h i (by simp [hi])
def wipeG (g : Env) : List Nat → Env
  | [] => g
  | v :: vs => (wipeG g vs).set v .un
@[simp] theorem wipeG_nil (g : Env) : wipeG g [] = g := rfl
@[simp] theorem wipeG_cons (g : Env) (v : Nat) (vs : List Nat) : wipeG g (v :: vs) = (wipeG g vs).set v .un := rfl
section
variable {K : PySem.W.Frag} {cls : Cls} {W : WX} {X : Cx} {F H F' H' F1 H1 : Hp} {O O1 : List Addr} {Q : VK} {σ : St} {a b e tg iter : Expr} {es : List Expr} {fa fb fc : Env → Res D} {ga gb : Env → Res Bool} {fs : Env → Res (List D)} {pos : Pos}
theorem Sts.wipe (s : Same F H) {g : Env} (st : Sts K cls F H σ g O) : ∀ vs : List Nat, ∃ O', Sts K cls F H (wipe σ vs) (wipeG g vs) O' ∧ ∀ a ∈ O', a ∈ O
  | [] => ⟨O, st, fun _ h => h⟩
  | v :: vs => by
    obtain ⟨O', st', h'⟩ := st.wipe s vs
    by_cases hi : v < (wipeG g vs).length
    · obtain ⟨O1, h1, h2, h3, h4⟩ := st'.at v hi
      obtain ⟨O'', q1, q2, _⟩ := h4 F H none (fun b hb _ => ⟨rfl, (st'.dom b hb).1⟩) (.refl F)
      exact ⟨O'', q1, fun a ha => h' a (q2 a ha)⟩
    · have hl := st'.len
      refine ⟨O', ?_, h'⟩
      show Sts K cls F H ((L2.wipe σ vs).set v none) ((wipeG g vs).set v .un) O'
      rw [List.set_eq_of_length_le (by omega), List.set_eq_of_length_le (by omega)]
      exact st'

def DG (K : PySem.W.Frag) (cls : Cls) (t : TG) (f : D → Env → Option Env) (ss : List Nat) : Prop :=
  ∀ v d σ F H g O g' Q, Same F H → Sts K cls F H σ g O → Rp K cls F v d → f d g = some g' →
    (∀ σ' O', SExt F H O F H O' → Sts K cls F H σ' g' O' → (∀ vs : List Nat, (∀ i ∈ ss, i ∈ vs) → wipe σ' vs = wipe σ vs) → Q σ' H) → t v σ H Q
def DGs (K : PySem.W.Frag) (cls : Cls) (t : TGs) (f : List D → Env → Option Env) (ss : List Nat) : Prop :=
  ∀ v d σ F H g O g' Q, Same F H → Sts K cls F H σ g O → Rps K cls F v d → f d g = some g' →
    (∀ σ' O', SExt F H O F H O' → Sts K cls F H σ' g' O' → (∀ vs : List Nat, (∀ i ∈ ss, i ∈ vs) → wipe σ' vs = wipe σ vs) → Q σ' H) → t v σ H Q
structure JG (X : Cx) (cls : Cls) (e : Expr) (f : D → Env → Option Env) (ss : List Nat) : Prop where
  ex : ∃ t, PG X e t ∧ DG X.K cls t f ss
structure JGs (X : Cx) (cls : Cls) (e : List Expr) (f : List D → Env → Option Env) (ss : List Nat) : Prop where
  ex : ∃ t, PGs X e t ∧ DGs X.K cls t f ss
def gtN (i : Nat) : D → Env → Option Env := fun d g => some (g.set i d)
@[simp] theorem gtN_ (i : Nat) (d : D) (g : Env) : gtN i d g = some (g.set i d) := rfl
def gtNil : List D → Env → Option Env := fun ds g => match ds with | [] => some g | _ => none
@[simp] theorem gtNil_nil (g : Env) : gtNil [] g = some g := rfl
def gtCons (f : D → Env → Option Env) (fs : List D → Env → Option Env) : List D → Env → Option Env := fun ds g => match ds with
  | d :: r => match f d g with
    | some g1 => fs r g1
    | none => none
  | [] => none
@[simp] theorem gtCons_cons (f : D → Env → Option Env) (fs : List D → Env → Option Env) (d : D) (r : List D) (g : Env) : gtCons f fs (d :: r) g = match f d g with
    | some g1 => fs r g1
    | none => none := rfl
def gtT (n : Nat) (fs : List D → Env → Option Env) : D → Env → Option Env := fun d g => match d with
  | .tp ds => if ds.length = n then fs ds g else none
  | .ls ds => if ds.length = n then fs ds g else none
  | _ => none
@[simp] theorem gtT_tp (n : Nat) (fs : List D → Env → Option Env) (ds : List D) (g : Env) : gtT n fs (.tp ds) g = if ds.length = n then fs ds g else none := rfl
@[simp] theorem gtT_ls (n : Nat) (fs : List D → Env → Option Env) (ds : List D) (g : Env) : gtT n fs (.ls ds) g = if ds.length = n then fs ds g else none := rfl
theorem jg_name {i : Nat} {x : Str} (hN : X.N.Nodup) (hi : X.N[i]? = some x) (hx : Loc X.env.scope x) (hf : X.fn x = true ∨ X.env.scope.names.lookup x = some .local := by first | exact .inl rfl | exact .inr rfl) : JG X cls (.Name x pos) (gtN i) [i] := by
  refine ⟨_, pg_name hN hi hx hf, ?_⟩
  intro v d σ F H g O g' Q s st r e k
  cases e
  obtain ⟨O', q1, q2⟩ := st.putS (i := i) s r
  exact k _ O' q2 q1 fun vs h => wipe_in (h i (by simp))
theorem jgs_nil : JGs X cls [] gtNil [] := by
  refine ⟨_, pgs_nil, ?_⟩
  intro v d σ F H g O g' Q s st r e k
  cases r with
  | nil => cases e; exact ⟨rfl, k σ O (.refl s) st fun _ _ => rfl⟩
  | cons => cases e
theorem jgs_cons {f : D → Env → Option Env} {fs : List D → Env → Option Env} {ss us : List Nat} (h1 : JG X cls e f ss) (h2 : JGs X cls es fs us) (hs : (assignEach (e :: es) X.env).map (·.2) = assign e X.env :: (assignEach es X.env).map (·.2) := by rfl) :
    JGs X cls (e :: es) (gtCons f fs) (ss ++ us) := by
  obtain ⟨t, p, d⟩ := h1.ex
  obtain ⟨u, q, d'⟩ := h2.ex
  refine ⟨_, pgs_cons p q hs, ?_⟩
  intro v ds σ F H g O g' Q s st r e k
  cases r with
  | nil => cases e
  | cons r1 r2 =>
    rename_i v1 d1 vs1 ds1
    rw [gtCons_cons] at e
    cases e1 : f d1 g with
    | none => rw [e1] at e; cases e
    | some g1 =>
      rw [e1] at e
      refine ⟨v1, vs1, rfl, d v1 d1 σ F H g O g1 _ s st r1 e1 fun σ1 O1 x1 st1 w1 => ?_⟩
      refine d' vs1 ds1 σ1 F H g1 O1 g' _ s st1 r2 e fun σ2 O2 x2 st2 w2 => ?_
      exact k σ2 O2 (x1.trans x2) st2 fun vs h => (w2 vs fun i hi => h i (List.mem_append_right _ hi)).trans (w1 vs fun i hi => h i (List.mem_append_left _ hi))
theorem pg_or {t u : TG} (h : PG X tg t) (h' : PG X tg u) : PG X tg (fun v σ H Q => t v σ H Q ∨ u v σ H Q) :=
  ⟨fun pins s σ H v uu Q I r q => q.elim (h.run pins s σ H v uu Q I r) (h'.run pins s σ H v uu Q I r)⟩
theorem jg_tup {kk n : Nat} {fs : List D → Env → Option Env} {ss : List Nat} (hc : X.calm = true) (h : JGs X cls es fs ss)
    (hn : (assignEach es X.env).length = n := by rfl) (hst : (assignEach es X.env).findIdx? (·.1) = none := by rfl) : JG X cls (.Tuple es kk pos) (gtT n fs) ss := by
  obtain ⟨t, p, d⟩ := h.ex
  refine ⟨_, pg_or (pg_tup hc p hn hst) (pg_lst hc p hn hst), ?_⟩
  intro v dd σ F H g O g' Q s st r e k
  cases r with
  | tp hT hr =>
    rw [gtT_tp] at e
    split at e
    · rename_i hl
      exact .inl ⟨_, _, rfl, sameT s hT, by rw [hr.len]; exact hl, d _ _ σ F H g O g' Q s st hr e k⟩
    · cases e
  | ls hT hr =>
    rw [gtT_ls] at e
    split at e
    · rename_i hl
      exact .inr ⟨_, _, rfl, SqL.of (s _ _ hT), by rw [hr.len]; exact hl, d _ _ σ F H g O g' Q s st hr e k⟩
    · cases e
  | _ => cases e
def sAsgT (tg : D → Env → Option Env) (fa : Env → Res D) : Env → Out := fun g => ((fa g).bind kp).st g fun d => if nod d = true then match tg (frz d) g with
  | some g' => .nx g'
  | none => .bad else .bad
@[simp] theorem sAsgT_ (tg : D → Env → Option Env) (fa : Env → Res D) (g : Env) : sAsgT tg fa g = ((fa g).bind kp).st g fun d => if nod d = true then match tg (frz d) g with
  | some g' => .nx g'
  | none => .bad else .bad := rfl
theorem js_asgT {ft : D → Env → Option Env} {ss : List Nat} (ha : JE X cls W a fa) (hg : JG X cls tg ft ss) (hs : swapsWithSole [tg] a pos.line X.env = pure false := by rfl) (hw : swappedStores [tg] a X.env = pure none := by rfl)
    (h1 : (assignEach [tg] X.env).map (·.2) = [assign tg X.env] := by rfl) : JS X cls W (.Assign [tg] a pos) (sAsgT ft fa) := by
  obtain ⟨t, p, d⟩ := ha.ex
  obtain ⟨u, q, d'⟩ := hg.ex
  refine ⟨_, ps_asg p q hs hw h1, ?_⟩
  intro D σ F H g O s st p
  rw [sAsgT_] at p
  refine d.goS s st p fun dd e p v F1 H1 O1 x fr w => ?_
  split at p
  · rename_i n
    have no : ∀ a ∈ O1, F1 a = none := fun a ha => (w.dom a ha).1
    have x2 := addF_ext x fr no
    have r := w.freeze (addF_same no) addF_at n
    cases eo : ft (frz dd) g with
    | none => rw [eo] at p; exact p.elim
    | some g' =>
      rw [eo] at p
      refine d' v (frz dd) σ _ H1 g O g' _ x2.fh (st.ext x2) r eo fun σ' O' y st' _ => ?_
      exact p σ' _ H1 O' ((x2.sext fun a h => .inl h).trans y) st'
  · exact p.elim
def sPar (i j : Nat) (fs : Env → Res (List D)) : Env → Out := fun g => (fs g).st g fun ds => if nods ds = true then match frzs ds with
  | [d, d'] => .nx ((g.set i d).set j d')
  | _ => .bad else .bad
@[simp] theorem sPar_ (i j : Nat) (fs : Env → Res (List D)) (g : Env) : sPar i j fs g = (fs g).st g fun ds => if nods ds = true then match frzs ds with
  | [d, d'] => .nx ((g.set i d).set j d')
  | _ => .bad else .bad := rfl
theorem js_par {i j : Nat} {x y : Str} {px py pt : Pos} {kt k2 pt2} {k : Nat} (c : Cn X W k) (hi : X.N[i]? = some x) (hj : X.N[j]? = some y) (hij : i ≠ j)
    (hx : X.env.scope.names.lookup x = some .local) (hy : X.env.scope.names.lookup y = some .local) (ha : JAO X cls W [a, b] fs)
    (hw : swappedStores [.Tuple [.Name x px, .Name y py] kt pt] (.Tuple [a, b] k2 pt2) X.env = pure (some [x, y]) := by rfl)
    (hs : swapsWithSole [.Tuple [.Name x px, .Name y py] kt pt] (.Tuple [a, b] k2 pt2) pos.line X.env = pure false := by rfl) :
    JS X cls W (.Assign [.Tuple [.Name x px, .Name y py] kt pt] (.Tuple [a, b] k2 pt2) pos) (sPar i j fs) := by
  obtain ⟨t, p, d⟩ := ha.ex
  refine ⟨_, ps_par c.calm c.nd hi hj hij hx hy p hw hs, ?_⟩
  intro D σ F H g O s st p
  rw [sPar_] at p
  refine d.go s st (fun c e => by rw [e] at p; exact xc_st st p) (fun e => by rw [e] at p; exact p) fun ds e vs F1 H1 O1 x fr w => ?_
  rw [e, Res.st_ok] at p
  split at p
  · rename_i n
    have no : ∀ a ∈ O1, F1 a = none := fun a ha => (w.dom a ha).1
    have x2 := addF_ext x fr no
    have r := w.freeze (addF_same no) addF_at n
    split at p
    · rename_i d1 d2 eq
      rw [eq] at r
      cases r with
      | cons r1 r2 =>
        cases r2 with
        | cons r2 r3 =>
          cases r3
          obtain ⟨O2, q1, q2⟩ := st.put (i := i) x2 Fresh.nil (.sh r1)
          obtain ⟨O3, z1, z2⟩ := q1.putS (i := j) x2.fh r2
          exact ⟨_, _, rfl, p _ _ H1 O3 (q2.trans z2) z1⟩
    · exact p.elim
  · exact p.elim
end
end DL

namespace DL
open PySem L2
section
variable {K : PySem.W.Frag} {cls : Cls} {W : WX} {X : Cx} {F H F' H' F1 H1 : Hp} {O O1 : List Addr} {Q : VK} {σ : St} {a b e tg iter : Expr} {es : List Expr} {fa fb fc : Env → Res D} {ga gb : Env → Res Bool} {fs : Env → Res (List D)} {pos : Pos}
structure Feeds (K : PySem.W.Frag) (cls : Cls) (F : Hp) (J : It) (ds : List D) : Prop where
  go : ∀ i d, ds[i]? = some d → ∀ F' H', Same F F' → Same F' H' → J.go i H' ∧ ∀ x H'', J.yld i H' x H'' → ∃ F'', Ext F' H' F'' H'' ∧ Rp K cls F'' x d
  stop : ∀ F' H', Same F F' → Same F' H' → J.stop ds.length H'
def PostI (K : PySem.W.Frag) (cls : Cls) (W : WX) (σ : St) (F H : Hp) (R : It → Hp → Prop) : Res (List D) → Prop
  | .ok ds => ∀ J F' H', Ext F H F' H' → Feeds K cls F' J ds → R J H'
  | .xc c => ∀ F' H', Ext F H F' H' → W (excV cls c) none σ H'
  | .bad => False
def DI (K : PySem.W.Frag) (cls : Cls) (W : WX) (wi : TI) (f : Env → Res (List D)) : Prop :=
  ∀ σ F H g O (R : It → Hp → Prop), Same F H → Sts K cls F H σ g O → PostI K cls W σ F H R (f g) → wi σ H R
structure JI (X : Cx) (cls : Cls) (W : WX) (tg e : Expr) (f : Env → Res (List D)) : Prop where
  ex : ∃ wi, PI X tg e wi ∧ DI X.K cls W wi f
theorem pi_or {w1 w2 : TI} (h1 : PI X tg iter w1) (h2 : PI X tg iter w2) : PI X tg iter (fun σ H R => w1 σ H R ∨ w2 σ H R) :=
  ⟨fun pins s σ H R I q => q.elim (h1.run pins s σ H R I) (h2.run pins s σ H R I)⟩
theorem feeds_list {a : Addr} {vs : List V} {ds : List D} (h : SqL K F a vs) (r : Rps K cls F vs ds) : Feeds K cls F (Itl K a) ds where
  go := fun i d e F' H' s1 s2 => by
    obtain ⟨v, h1, h2⟩ := r.get e
    have h' : SqL K H' a vs := (s1.trans s2).seq h
    refine ⟨⟨vs, v, h', h1⟩, fun x H'' y => ?_⟩
    obtain ⟨e1, y⟩ := y
    subst e1
    have := y vs h'
    rw [h1] at this
    cases this
    exact ⟨F', .refl s2, h2.mono s1⟩
  stop := fun F' H' s1 s2 => ⟨vs, (s1.trans s2).seq h, by rw [r.len]; exact Nat.le_refl _⟩
theorem feeds_tup {a : Addr} {vs : List V} {ds : List D} (h : SqT K F a vs) (r : Rps K cls F vs ds) : Feeds K cls F (Itt K a) ds where
  go := fun i d e F' H' s1 s2 => by
    obtain ⟨v, h1, h2⟩ := r.get e
    have h' : SqT K H' a vs := sameT (s1.trans s2) h
    refine ⟨⟨vs, v, h', h1⟩, fun x H'' y => ?_⟩
    obtain ⟨e1, y⟩ := y
    subst e1
    have := y vs h'
    rw [h1] at this
    cases this
    exact ⟨F', .refl s2, h2.mono s1⟩
  stop := fun F' H' s1 s2 => ⟨vs, sameT (s1.trans s2) h, by rw [r.len]; exact Nat.le_refl _⟩
@[simp] def lsS : D → Option (List D)
  | .ls xs => some xs
  | .sc xs => some xs
  | _ => none
theorem Bo.lsS {v : V} {d : D} {xs : List D} (b : Bo K cls F H v d) (e : lsS d = some xs) : ∃ a vs, v = .ref a ∧ SqL K F a vs ∧ Rps K cls F vs xs := by
  cases b with
  | sh r =>
    cases r <;> simp at e
    · subst e; exact ⟨_, _, rfl, by assumption, by assumption⟩
    · subst e; exact ⟨_, _, rfl, SqL.of (by assumption), by assumption⟩
  | bo => simp at e
  | bd => simp at e
  | bb => simp at e
@[simp] def sqS : D → Option (List D)
  | .ls xs => some xs
  | .sc xs => some xs
  | .tp xs => some xs
  | _ => none
def iSeq (fa : Env → Res D) : Env → Res (List D) := fun g => (fa g).bind fun a => .of (sqS (opd a))
@[simp] theorem iSeq_ (fa : Env → Res D) (g : Env) : iSeq fa g = (fa g).bind fun a => .of (sqS (opd a)) := rfl
theorem ji_seq (ha : JE X cls W iter fa) : JI X cls W tg iter (iSeq fa) := by
  obtain ⟨t, p, d⟩ := ha.ex
  refine ⟨_, pi_or (pi_list p) (pi_tup p), ?_⟩
  intro σ F H g O R s st p
  rw [iSeq_] at p
  cases ea : fa g with
  | xc c =>
    rw [ea] at p
    exact .inl (d.go s st (fun c e => by rw [ea] at e; cases e; exact p) (fun e => by rw [ea] at e; cases e) fun d e => by rw [ea] at e; cases e)
  | bad => rw [ea] at p; exact p.elim
  | ok dd =>
    rw [ea] at p
    simp only [Res.bind] at p
    have side : (∃ xs, lsS (opd dd) = some xs ∧ sqS (opd dd) = some xs) ∨ (∃ xs, tpv (opd dd) = some xs ∧ sqS (opd dd) = some xs) ∨ sqS (opd dd) = none := by
      cases opd dd <;> simp
    rcases side with ⟨xs, e1, e2⟩ | ⟨xs, e1, e2⟩ | e2
    · rw [e2] at p
      refine .inl (d.go s st (fun c e => by rw [ea] at e; cases e) (fun e => by rw [ea] at e; cases e) fun d e v F1 H1 x b => ?_)
      rw [ea] at e; cases e
      obtain ⟨a, vs, rfl, h, r⟩ := b.lsS e1
      exact ⟨a, rfl, ⟨vs, x.fh.seq h⟩, p _ F1 H1 x (feeds_list h r)⟩
    · rw [e2] at p
      refine .inr (d.go s st (fun c e => by rw [ea] at e; cases e) (fun e => by rw [ea] at e; cases e) fun d e v F1 H1 x b => ?_)
      rw [ea] at e; cases e
      obtain ⟨a, vs, rfl, h, h', r⟩ := b.tpv x.fh e1
      exact ⟨a, rfl, ⟨vs, h⟩, p _ F1 H1 x (feeds_tup h' r)⟩
    · rw [e2] at p; exact p.elim
def rng (lo : Int) (n : Nat) : List D := (List.range n).map fun i : Nat => D.int (lo + (i : Int))
theorem rng_len (lo : Int) (n : Nat) : (rng lo n).length = n := by unfold rng; simp
theorem rng_get {lo : Int} {n i : Nat} {d : D} (h : (rng lo n)[i]? = some d) : i < n ∧ d = .int (lo + (i : Int)) := by
  unfold rng at h
  rw [List.getElem?_map] at h
  by_cases hi : i < n
  · rw [List.getElem?_range hi] at h
    cases h
    exact ⟨hi, rfl⟩
  · rw [List.getElem?_eq_none (by simpa using hi)] at h; cases h
theorem feeds_rng (lo : Int) (n : Nat) : Feeds K cls F (Itr lo n) (rng lo n) where
  go := fun i d e F' H' s1 s2 => by
    obtain ⟨h1, rfl⟩ := rng_get e
    refine ⟨h1, fun x H'' y => ?_⟩
    obtain ⟨e1, e2⟩ := y
    subst e1 e2
    exact ⟨F', .refl s2, .int _⟩
  stop := fun F' H' s1 s2 => by rw [rng_len]; exact Nat.le_refl _
def rgOk (i : Int) : Prop := i.natAbs ≤ 1000000000
theorem rgOk.lo {i : Int} (h : rgOk i) : -(2 ^ 62) ≤ i := by unfold rgOk at h; omega
theorem rgOk.hi {i : Int} (h : rgOk i) : i < 2 ^ 62 := by unfold rgOk at h; omega
instance (i : Int) : Decidable (rgOk i) := by unfold rgOk; infer_instance
theorem rgOk_of {i : Int} (h : -1000000000 ≤ i) (h' : i ≤ 1000000000) : rgOk i := by unfold rgOk; omega
def iRg1 (fs : Env → Res (List D)) : Env → Res (List D) := fun g => (fs g).bind fun ds => match ds with
  | [.int j] => if rgOk j then .ok (rng 0 j.toNat) else .bad
  | _ => .bad
def iRg2 (fs : Env → Res (List D)) : Env → Res (List D) := fun g => (fs g).bind fun ds => match ds with
  | [.int i, .int j] => if rgOk i ∧ rgOk j then .ok (rng i (j - i).toNat) else .bad
  | _ => .bad
@[simp] theorem iRg1_ (fs : Env → Res (List D)) (g : Env) : iRg1 fs g = (fs g).bind fun ds => match ds with
  | [.int j] => if rgOk j then .ok (rng 0 j.toNat) else .bad
  | _ => .bad := rfl
@[simp] theorem iRg2_ (fs : Env → Res (List D)) (g : Env) : iRg2 fs g = (fs g).bind fun ds => match ds with
  | [.int i, .int j] => if rgOk i ∧ rgOk j then .ok (rng i (j - i).toNat) else .bad
  | _ => .bad := rfl
theorem ji_rg1 {p : Pos} (hm : X.mg "range" = none) (ha : JA X cls W [a] fs) (hg : Gl X "range" := by rfl) (hs : starEach [a] X.env = [(false, eval a X.env)] := by rfl) : JI X cls W tg (.Call (.Name "range" p) [a] [] pos) (iRg1 fs) := by
  obtain ⟨t, p, d⟩ := ha.ex
  refine ⟨_, pi_range1 hg hm p hs, ?_⟩
  intro σ F H g O R s st p
  rw [iRg1_] at p
  refine d.go s st (fun c e => by rw [e] at p; exact p) (fun e => by rw [e] at p; exact p) fun ds e vs F1 H1 x b => ?_
  rw [e] at p
  simp only [Res.bind] at p
  split at p
  · rename_i j
    split at p
    · rename_i hj
      obtain ⟨v, rfl, b1⟩ := b.one
      obtain rfl := b1.int
      exact ⟨j, rfl, hj.lo, hj.hi, p _ F1 H1 x (feeds_rng 0 j.toNat)⟩
    · exact p.elim
  · exact p.elim
theorem ji_rg2 {p : Pos} (hm : X.mg "range" = none) (ha : JA X cls W [a, b] fs) (hg : Gl X "range" := by rfl) (hs : starEach [a, b] X.env = [(false, eval a X.env), (false, eval b X.env)] := by rfl) (hs2 : starEach [b] X.env = [(false, eval b X.env)] := by rfl) :
    JI X cls W tg (.Call (.Name "range" p) [a, b] [] pos) (iRg2 fs) := by
  obtain ⟨t, p, d⟩ := ha.ex
  refine ⟨_, pi_range2 hg hm p hs hs2, ?_⟩
  intro σ F H g O R s st p
  rw [iRg2_] at p
  refine d.go s st (fun c e => by rw [e] at p; exact p) (fun e => by rw [e] at p; exact p) fun ds e vs F1 H1 x b => ?_
  rw [e] at p
  simp only [Res.bind] at p
  split at p
  · rename_i i j
    split at p
    · rename_i hj
      obtain ⟨v, v', rfl, b1, b2⟩ := b.two
      obtain rfl := b1.int
      obtain rfl := b2.int
      exact ⟨i, j, rfl, ⟨hj.1.lo, hj.1.hi, hj.2.lo, hj.2.hi⟩, p _ F1 H1 x (feeds_rng i _)⟩
    · exact p.elim
  · exact p.elim
def enm (i : Nat) : List D → List D
  | [] => []
  | d :: ds => .tp [.int (i : Int), d] :: enm (i + 1) ds
def iEnm (fs : Env → Res (List D)) : Env → Res (List D) := fun g => (fs g).bind fun ds => match ds with
  | [d] => (Res.of (lsS d)).bind fun xs => .ok (enm 0 xs)
  | _ => .bad
@[simp] theorem iEnm_ (fs : Env → Res (List D)) (g : Env) : iEnm fs g = (fs g).bind fun ds => match ds with
  | [d] => (Res.of (lsS d)).bind fun xs => .ok (enm 0 xs)
  | _ => .bad := rfl
def zipD : List D → List D → List D
  | a :: xs, b :: ys => .tp [a, b] :: zipD xs ys
  | _, _ => []
theorem zipD_len : ∀ (xs ys : List D), (zipD xs ys).length = min xs.length ys.length
  | [], _ => by simp [zipD]
  | _ :: _, [] => by simp [zipD]
  | a :: xs, b :: ys => by simp [zipD, zipD_len xs ys]
theorem zipD_get : ∀ {xs ys : List D} {i : Nat} {d : D}, (zipD xs ys)[i]? = some d → ∃ x y, xs[i]? = some x ∧ ys[i]? = some y ∧ d = .tp [x, y]
  | [], _, _, _, h => by simp [zipD] at h
  | _ :: _, [], _, _, h => by simp [zipD] at h
  | a :: xs, b :: ys, 0, _, h => by simp [zipD] at h; exact ⟨a, b, rfl, rfl, h.symm⟩
  | a :: xs, b :: ys, i + 1, d2, h => by
    have h' : (zipD xs ys)[i]? = some d2 := by simpa [zipD] using h
    obtain ⟨x, y, h1, h2, h3⟩ := zipD_get h'
    exact ⟨x, y, by simpa using h1, by simpa using h2, h3⟩
theorem feeds_zip {a b : Addr} {vs ws : List V} {ds es : List D} (h : SqL K F a vs) (r : Rps K cls F vs ds) (h2 : SqL K F b ws) (r2 : Rps K cls F ws es) : Feeds K cls F (Itz K a b) (zipD ds es) where
  go := fun i d e F' H' s1 s2 => by
    obtain ⟨x, y, e1, e2, rfl⟩ := zipD_get e
    obtain ⟨v, q1, q2⟩ := r.get e1
    obtain ⟨w, q3, q4⟩ := r2.get e2
    have h' : SqL K H' a vs := (s1.trans s2).seq h
    have h2' : SqL K H' b ws := (s1.trans s2).seq h2
    refine ⟨⟨vs, ws, v, w, h', h2', q1, q3⟩, fun x H'' z => ?_⟩
    obtain ⟨T, v', w', e1, e2, e3, z1, z2⟩ := z
    subst e1 e3
    have := z1 vs h'
    rw [q1] at this
    cases this
    have := z2 ws h2'
    rw [q3] at this
    cases this
    have px := Ext.put (o := .tup [v, w]) s2 e2
    exact ⟨_, px, .tp (SqT.of upd_same) (.cons (q2.mono (s1.trans px.ff)) (.cons (q4.mono (s1.trans px.ff)) .nil))⟩
  stop := fun F' H' s1 s2 => ⟨vs, ws, (s1.trans s2).seq h, (s1.trans s2).seq h2, by rw [zipD_len, r.len, r2.len]; omega⟩
def iZp (fs : Env → Res (List D)) : Env → Res (List D) := fun g => (fs g).bind fun ds => match ds with
  | [d, e] => (Res.of (lsS d)).bind fun xs => (Res.of (lsS e)).bind fun ys => .ok (zipD xs ys)
  | _ => .bad
@[simp] theorem iZp_ (fs : Env → Res (List D)) (g : Env) : iZp fs g = (fs g).bind fun ds => match ds with
  | [d, e] => (Res.of (lsS d)).bind fun xs => (Res.of (lsS e)).bind fun ys => .ok (zipD xs ys)
  | _ => .bad := rfl
def forL (tg : D → Env → Option Env) (b : Env → Out) : List D → Env → Out
  | [], g => .nx g
  | d :: ds, g => match tg d g with
    | none => .bad
    | some g1 => match b g1 with
      | .nx g' => forL tg b ds g'
      | .ct g' => forL tg b ds g'
      | .bk g' => .nx g'
      | o => o
@[simp] theorem forL_nil (tg : D → Env → Option Env) (b : Env → Out) (g : Env) : forL tg b [] g = .nx g := rfl
theorem forL_cons (tg : D → Env → Option Env) (b : Env → Out) (d : D) (ds : List D) (g : Env) : forL tg b (d :: ds) g = match tg d g with
    | none => .bad
    | some g1 => match b g1 with
      | .nx g' => forL tg b ds g'
      | .ct g' => forL tg b ds g'
      | .bk g' => .nx g'
      | o => o := rfl
def sFor (fi : Env → Res (List D)) (tg : D → Env → Option Env) (b : Env → Out) : Env → Out := fun g => (fi g).st g fun ds => forL tg b ds g
@[simp] theorem sFor_ (fi : Env → Res (List D)) (tg : D → Env → Option Env) (b : Env → Out) (g : Env) : sFor fi tg b g = (fi g).st g fun ds => forL tg b ds g := rfl
theorem ds_for {wi : TI} {t : TG} {tb : TS} {ft : D → Env → Option Env} {fbo : Env → Out} {ss : List Nat} (hi : DI K cls W wi fs) (hg : DG K cls t ft ss) (hb : DS K cls W tb fbo) : DS K cls W (tFor wi t tb) (sFor fs ft fbo) := by
  intro D σ F H g O s st p
  rw [sFor_] at p
  refine hi σ F H g O _ s st ?_
  cases e : fs g with
  | bad => rw [e] at p; exact p
  | xc c => rw [e] at p; exact xc_st st p
  | ok ds =>
    rw [e, Res.st_ok] at p
    intro J F1 H1 x1 fd
    have x1' : SExt F H O F1 H1 O := x1.sext fun a h => .inl h
    refine ⟨fun i m σ2 H2 => m = ds.length - i ∧ i ≤ ds.length ∧ ∃ F2 g2 O2, SExt F1 H1 O F2 H2 O2 ∧ Sts K cls F2 H2 σ2 g2 O2 ∧ PostS K cls W D F1 H1 O (forL ft fbo (ds.drop i) g2),
      ⟨ds.length, rfl, Nat.zero_le _, F1, g, O, .refl x1.fh, st.ext x1, by rw [List.drop_zero]; exact p.mono x1'⟩, ?_⟩
    rintro i m σ2 H2 ⟨rfl, hi, F2, g2, O2, x2, st2, p2⟩
    by_cases hlt : i < ds.length
    · have ed : ds.drop i = ds[i] :: ds.drop (i + 1) := List.drop_eq_getElem_cons hlt
      rw [ed, forL_cons] at p2
      obtain ⟨g0, y0⟩ := fd.go i ds[i] (by simp [hlt]) F2 H2 x2.ff x2.fh
      have nxt : ∀ {g' : Env} {F3 H3 O3 : _} {σ3 : St}, SExt F1 H1 O F3 H3 O3 → Sts K cls F3 H3 σ3 g' O3 → PostS K cls W D F1 H1 O (forL ft fbo (ds.drop (i + 1)) g') →
          ∃ m', m' < ds.length - i ∧ m' = ds.length - (i + 1) ∧ i + 1 ≤ ds.length ∧ ∃ F2 g2 O2, SExt F1 H1 O F2 H3 O2 ∧ Sts K cls F2 H3 σ3 g2 O2 ∧ PostS K cls W D F1 H1 O (forL ft fbo (ds.drop (i + 1)) g2) :=
        fun {g' F3 H3 O3 σ3} x st' q => ⟨ds.length - (i + 1), by omega, rfl, hlt, F3, g', O3, x, st', q⟩
      refine .inr ⟨g0, fun σ3 H3 => ∃ F3 g' O3, SExt F1 H1 O F3 H3 O3 ∧ Sts K cls F3 H3 σ3 g' O3 ∧ PostS K cls W D F1 H1 O (forL ft fbo (ds.drop (i + 1)) g'), fun σ3 H3 ⟨F3, g', O3, x, st', q⟩ => nxt x st' q, fun v H3 yv => ?_⟩
      obtain ⟨F3, x3, rv⟩ := y0 v H3 yv
      cases et : ft ds[i] g2 with
      | none => rw [et] at p2; exact p2.elim
      | some g3 =>
        rw [et] at p2
        simp only [] at p2
        refine hg v ds[i] σ2 F3 H3 g2 O2 g3 _ x3.fh (st2.ext x3) rv et fun σ4 O4 x4 st4 _ => ?_
        have x34 : SExt F1 H1 O F3 H3 O4 := x2.trans ((x3.sext fun a h => .inl h).trans x4)
        refine hb _ σ4 F3 H3 g3 O4 x3.fh st4 ?_
        cases eb : fbo g3 with
        | nx g' => rw [eb] at p2; exact fun σ5 F5 H5 O5 x5 st5 => ⟨F5, g', O5, x34.trans x5, st5, p2⟩
        | ct g' => rw [eb] at p2; exact fun σ5 F5 H5 O5 x5 st5 => ⟨F5, g', O5, x34.trans x5, st5, p2⟩
        | bk g' => rw [eb] at p2; exact fun σ5 F5 H5 O5 x5 st5 => p2 σ5 F5 H5 O5 (x34.trans x5) st5
        | rt d => rw [eb] at p2; exact fun v F5 H5 O5 x5 w => p2 v F5 H5 O5 (x34.trans x5) w
        | xc c g' => rw [eb] at p2; exact fun σ5 F5 H5 O5 x5 st5 => p2 σ5 F5 H5 O5 (x34.trans x5) st5
        | bad => rw [eb] at p2; exact p2
    · have ei : i = ds.length := by omega
      subst ei
      rw [List.drop_length] at p2
      exact .inl ⟨fd.stop F2 H2 x2.ff x2.fh, p2 σ2 F2 H2 O2 x2 st2⟩
theorem js_for {body : List Stmt} {ft : D → Env → Option Env} {fbo : Env → Out} {ss : List Nat} {k : Nat} (c : Cn X W k) (hi : JI X cls W tg iter fs) (hg : JG X cls tg ft ss) (hb : JSs X cls W body fbo)
    (hs : ∀ x, foldedSetIterable iter X.env x = pure x := by intro _; rfl) : JS X cls W (.For tg iter body [] pos) (sFor fs ft fbo) := by
  obtain ⟨wi, p, d⟩ := hi.ex
  obtain ⟨t, q, d'⟩ := hg.ex
  obtain ⟨tb, r, d''⟩ := hb.ex
  exact ⟨_, ps_for c.hp c.calm p q r hs, ds_for d d' d''⟩

def whileN (c : Env → Res Bool) (b : Env → Out) : Nat → Env → Out
  | 0, _ => .bad
  | n + 1, g => (c g).st g fun k => if k = true then match b g with
      | .nx g' => whileN c b n g'
      | .ct g' => whileN c b n g'
      | .bk g' => .nx g'
      | o => o
    else .nx g
theorem whileN_succ (c : Env → Res Bool) (b : Env → Out) (n : Nat) (g : Env) : whileN c b (n + 1) g = (c g).st g fun k => if k = true then match b g with
      | .nx g' => whileN c b n g'
      | .ct g' => whileN c b n g'
      | .bk g' => .nx g'
      | o => o
    else .nx g := rfl
def fuel : Nat := 1000000000
def sWhile (c : Env → Res Bool) (b : Env → Out) : Env → Out := fun g => whileN c b fuel g
@[simp] theorem sWhile_ (c : Env → Res Bool) (b : Env → Out) (g : Env) : sWhile c b g = whileN c b fuel g := rfl
theorem ds_while {tc : TT} {tb : TS} {fbo : Env → Out} (hc : DT K cls W tc ga) (hb : DS K cls W tb fbo) : DS K cls W (tWhile tc tb) (sWhile ga fbo) := by
  intro D σ F H g O s st p
  rw [sWhile_] at p
  refine ⟨fun m σ2 H2 => ∃ F2 g2 O2, SExt F H O F2 H2 O2 ∧ Sts K cls F2 H2 σ2 g2 O2 ∧ PostS K cls W D F H O (whileN ga fbo m g2), ⟨fuel, F, g, O, .refl s, st, p⟩, ?_⟩
  rintro m σ2 H2 ⟨F2, g2, O2, x2, st2, p2⟩
  cases m with
  | zero => exact p2.elim
  | succ m =>
    rw [whileN_succ] at p2
    refine hc.go x2.fh st2 (fun c e F' H' y => by rw [e] at p2; exact p2 σ2 F' H' O2 (x2.trans (y.sext fun a h => .inl h)) (st2.ext y)) (fun e => by rw [e] at p2; exact p2) fun k e F3 H3 y => ?_
    rw [e, Res.st_ok] at p2
    have x3 : SExt F H O F3 H3 O2 := x2.trans (y.sext fun a h => .inl h)
    cases k with
    | true =>
      rw [if_pos rfl] at p2
      rw [if_pos rfl]
      refine ⟨fun σ3 H3 => ∃ F3 g' O3, SExt F H O F3 H3 O3 ∧ Sts K cls F3 H3 σ3 g' O3 ∧ PostS K cls W D F H O (whileN ga fbo m g'), fun σ3 H3 ⟨F3, g', O3, x, st', q⟩ => ⟨m, Nat.lt_succ_self m, F3, g', O3, x, st', q⟩, ?_⟩
      refine hb _ σ2 F3 H3 g2 O2 y.fh (st2.ext y) ?_
      cases eb : fbo g2 with
      | nx g' => rw [eb] at p2; exact fun σ5 F5 H5 O5 x5 st5 => ⟨F5, g', O5, x3.trans x5, st5, p2⟩
      | ct g' => rw [eb] at p2; exact fun σ5 F5 H5 O5 x5 st5 => ⟨F5, g', O5, x3.trans x5, st5, p2⟩
      | bk g' => rw [eb] at p2; exact fun σ5 F5 H5 O5 x5 st5 => p2 σ5 F5 H5 O5 (x3.trans x5) st5
      | rt d => rw [eb] at p2; exact fun v F5 H5 O5 x5 w => p2 v F5 H5 O5 (x3.trans x5) w
      | xc c g' => rw [eb] at p2; exact fun σ5 F5 H5 O5 x5 st5 => p2 σ5 F5 H5 O5 (x3.trans x5) st5
      | bad => rw [eb] at p2; exact p2
    | false =>
      rw [if_neg (by decide)] at p2
      rw [if_neg (by decide)]
      exact p2 σ2 F3 H3 O2 x3 (st2.ext y)
theorem js_while {c : Expr} {body : List Stmt} {fbo : Env → Out} {k : Nat} (n : Cn X W k) (hc : JT X cls W c ga) (hb : JSs X cls W body fbo) : JS X cls W (.While c body [] pos) (sWhile ga fbo) := by
  obtain ⟨tc, p, d⟩ := hc.ex
  obtain ⟨tb, q, d'⟩ := hb.ex
  exact ⟨_, ps_while n.hp p q, ds_while d d'⟩

def lcL (tg : D → Env → Option Env) (tt : Env → Res Bool) (te : Env → Res D) (g : Env) : List D → Res (List D)
  | [] => .ok []
  | d :: ds => match tg d g with
    | none => .bad
    | some g1 => (tt g1).bind fun b => if b = true then ((te g1).bind kp).bind fun y => (lcL tg tt te g ds).bind fun r => .ok (y :: r) else lcL tg tt te g ds
@[simp] theorem lcL_nil (tg : D → Env → Option Env) (tt : Env → Res Bool) (te : Env → Res D) (g : Env) : lcL tg tt te g [] = .ok [] := rfl
theorem lcL_cons (tg : D → Env → Option Env) (tt : Env → Res Bool) (te : Env → Res D) (g : Env) (d : D) (ds : List D) : lcL tg tt te g (d :: ds) = match tg d g with
    | none => .bad
    | some g1 => (tt g1).bind fun b => if b = true then ((te g1).bind kp).bind fun y => (lcL tg tt te g ds).bind fun r => .ok (y :: r) else lcL tg tt te g ds := rfl
def eLc (fi : Env → Res (List D)) (own : List Nat) (tg : D → Env → Option Env) (tt : Env → Res Bool) (te : Env → Res D) : Env → Res D := fun g => (fi g).bind fun ds => if ds.length ≤ lim then
  match lcL tg tt te (wipeG g own) ds with
  | .ok r => .ok (.ol r)
  | _ => .bad
  else .bad
@[simp] theorem eLc_ (fi : Env → Res (List D)) (own : List Nat) (tg : D → Env → Option Env) (tt : Env → Res Bool) (te : Env → Res D) (g : Env) : eLc fi own tg tt te g = (fi g).bind fun ds => if ds.length ≤ lim then
  match lcL tg tt te (wipeG g own) ds with
  | .ok r => .ok (.ol r)
  | _ => .bad
  else .bad := rfl
def tYesG : Env → Res Bool := fun _ => .ok true
@[simp] theorem tYesG_ (g : Env) : tYesG g = .ok true := rfl
theorem Ows.snoc {vs : List V} {ds : List D} {O1 O2 : List Addr} {v : V} {d : D} (h : Ows K cls F H vs ds O1) (w : Ow K cls F H v d O2) (dj : ∀ a ∈ O1, a ∉ O2) : Ows K cls F H (vs ++ [v]) (ds ++ [d]) (O1 ++ O2) := by
  induction ds generalizing vs O1 with
  | nil => cases h; exact .cons w .nil (fun _ _ q => nomatch q) (by simp)
  | cons d' ds ih =>
    cases h with
    | cons a b dj' e =>
      subst e
      refine .cons a (ih b fun x hx => dj x (List.mem_append_right _ hx)) (fun x h1 h2 => ?_) (by simp)
      rcases List.mem_append.mp h2 with q | q
      · exact dj' x h1 q
      · exact dj x (List.mem_append_left _ h1) q
theorem de_lc {wi : TI} {t : TG} {tt : TT} {te : TE} {ft : D → Env → Option Env} {gt : Env → Res Bool} {fe : Env → Res D} {ss own : List Nat} (hi : DI K cls W wi fs) (hg : DG K cls t ft ss) (ht : DT K cls W0 tt gt) (he : DE K cls W0 te fe) (hss : ∀ i ∈ ss, i ∈ own) :
    DE K cls W (tLc wi t tt te own) (eLc fs own ft gt fe) := by
  intro σ F H g O Q s st p
  rw [eLc_] at p
  refine hi σ F H g O _ s st ?_
  cases e : fs g with
  | bad => rw [e] at p; exact p
  | xc c => rw [e] at p; exact p
  | ok ds =>
    rw [e] at p
    simp only [Res.bind] at p
    intro J F1 H1 x1 fd A hA
    by_cases hlen : ds.length ≤ lim
    · rw [if_pos hlen] at p
      -- the env within the block
      obtain ⟨Ow1, stw, hw⟩ := (st.ext x1).wipe x1.fh own
      have fA : F1 A = none := by
        cases q : F1 A with
        | none => rfl
        | some u => rw [x1.fh A u q] at hA; cases hA
      have sA : Same H1 (upd H1 A (.lst [])) := upd_same' hA
      let Inv := fun (i : Nat) (H2 : Hp) => ∃ F2 acc es' O2, Ext F1 H1 F2 H2 ∧ H2 A = some (.lst acc) ∧ F2 A = none ∧ A ∉ O2 ∧ Fresh H1 O2 ∧ Ows K cls F2 H2 acc es' O2 ∧ es'.length ≤ i ∧
        ∃ r, lcL ft gt fe (wipeG g own) (ds.drop i) = .ok r ∧ lcL ft gt fe (wipeG g own) ds = .ok (es' ++ r)
      cases er : lcL ft gt fe (wipeG g own) ds with
      | bad => rw [er] at p; exact p.elim
      | xc c => rw [er] at p; exact p.elim
      | ok r0 =>
        rw [er] at p
        simp only [] at p
        refine ⟨fun i m H2 => m = ds.length - i ∧ i ≤ ds.length ∧ Inv i H2, ⟨ds.length, rfl, Nat.zero_le _, F1, [], [], [], Ext.own x1.fh hA, upd_same, fA, by simp, Fresh.nil, .nil, Nat.zero_le _, r0, by rw [List.drop_zero]; exact er, by simpa using er⟩, ?_⟩
        rintro i m H2 ⟨rfl, hi, F2, acc, es', O2, x2, h2, f2, n2, fr2, w2, hl2, r, e1, e2⟩
        by_cases hlt : i < ds.length
        · have ed : ds.drop i = ds[i] :: ds.drop (i + 1) := List.drop_eq_getElem_cons hlt
          rw [ed, lcL_cons] at e1
          obtain ⟨g0, y0⟩ := fd.go i ds[i] (by simp [hlt]) F2 H2 x2.ff x2.fh
          refine .inr ⟨g0, fun H3 => Inv (i + 1) H3, fun H3 q => ⟨ds.length - (i + 1), by omega, rfl, hlt, q⟩, fun v H3 yv => ?_⟩
          obtain ⟨F3, x3, rv⟩ := y0 v H3 yv
          cases et : ft ds[i] (wipeG g own) with
          | none => rw [et] at e1; cases e1
          | some g3 =>
            rw [et] at e1
            simp only [] at e1
            have stw3 := (stw.ext x2).ext x3
            refine hg v ds[i] _ F3 H3 (wipeG g own) Ow1 g3 _ x3.fh stw3 rv et fun σ4 O4 x4 st4 w4 => ⟨?_, ?_⟩
            · exact (w4 own hss).trans (wipe_wipe fun _ h => h)
            · have h3 : H3 A = some (.lst acc) := x3.hh _ _ h2
              have f3 : F3 A = none := x3.ow A f2 (by rw [h2]; exact fun e => nomatch e)
              refine ht σ4 F3 H3 g3 O4 _ x3.fh st4 ?_
              cases eb : gt g3 with
              | bad => rw [eb] at e1; cases e1
              | xc c => rw [eb] at e1; cases e1
              | ok b =>
                rw [eb, Res.bind_ok] at e1
                intro F5 H5 x5
                have h5 : H5 A = some (.lst acc) := x5.hh _ _ h3
                have f5 : F5 A = none := x5.ow A f3 (by rw [h3]; exact fun e => nomatch e)
                have x25 := x2.trans (x3.trans x5)
                cases b with
                | false =>
                  rw [if_neg (by decide)] at e1
                  rw [if_neg (by decide)]
                  exact ⟨F5, acc, es', O2, x25, h5, f5, n2, fr2, (w2.ext x3).ext x5, Nat.le_succ_of_le hl2, r, e1, e2⟩
                | true =>
                  rw [if_pos rfl] at e1
                  rw [if_pos rfl]
                  refine he.goO x5.fh (st4.ext x5) (fun c e => by rw [e] at e1; cases e1) (fun e => by rw [e] at e1; cases e1) fun d e v F6 H6 O6 x6 fr6 w6 => ?_
                  rw [e, Res.bind_ok] at e1
                  cases er2 : lcL ft gt fe (wipeG g own) (ds.drop (i + 1)) with
                  | bad => rw [er2] at e1; cases e1
                  | xc c => rw [er2] at e1; cases e1
                  | ok r2 =>
                    rw [er2] at e1
                    cases e1
                    have h6 : H6 A = some (.lst acc) := x6.hh _ _ h5
                    have f6 : F6 A = none := x6.ow A f5 (by rw [h5]; exact fun e => nomatch e)
                    have x26 := x25.trans x6
                    have n6 : A ∉ O6 := fun q => by have := fr6 A q; rw [h5] at this; cases this
                    refine ⟨acc, h6, ?_, F6, acc ++ [v], es' ++ [d], O2 ++ O6, ?_, upd_same, f6, ?_, ?_, ?_, by simp; omega, r2, er2, by rw [e2]; simp⟩
                    · rw [w2.len]; exact lim_lt (by omega)
                    · exact ⟨x26.ff, fun b o q => by rw [upd_ne (ne_of_none q hA)]; exact x26.hh b o q, fun b o q => by
                        rw [upd_ne (fun z => by rw [z, f6] at q; cases q)]; exact x26.fh b o q, x26.ow⟩
                    · intro q
                      rcases List.mem_append.mp q with q | q
                      · exact n2 q
                      · exact n6 q
                    · intro a ha
                      rcases List.mem_append.mp ha with q | q
                      · exact fr2 a q
                      · exact (x25.hh).free (fr6 a q)
                    · have w2' := ((w2.ext x3).ext x5).ext x6
                      have dj : ∀ a ∈ O2, a ∉ O6 := fun a h1 h2 => ((((w2.ext x3).ext x5).dom a h1).2) (fr6 a h2)
                      refine (w2'.snoc w6 dj).frame (.refl F6) fun a ha => ⟨upd_ne fun z => ?_, ((w2'.snoc w6 dj).dom a ha).1⟩
                      rcases List.mem_append.mp ha with q | q
                      · exact n2 (z ▸ q)
                      · exact n6 (z ▸ q)
        · have ei : i = ds.length := by omega
          subst ei
          rw [List.drop_length] at e1
          cases e1
          rw [List.append_nil, er] at e2
          cases e2
          refine .inl ⟨fd.stop F2 H2 x2.ff x2.fh, p _ F2 H2 (A :: O2) (x1.trans x2) (fun a ha => ?_) (.inl (.ol f2 h2 n2 w2))⟩
          rcases List.mem_cons.mp ha with rfl | ha
          · exact x1.hh.free hA
          · exact x1.hh.free (fr2 a ha)
    · rw [if_neg hlen] at p; exact p.elim
structure JTs (X : Cx) (cls : Cls) (W : WX) (e : List Expr) (f : Env → Res Bool) : Prop where
  ex : ∃ t, PTs X e t ∧ DT X.K cls W t f
theorem jts_nil : JTs X cls W [] tYesG := ⟨_, pts_nil, fun σ F H g O Q s st p => p F H (.refl s)⟩
end
end DL

namespace DL
open PySem L2
section
variable {K : PySem.W.Frag} {cls : Cls} {W : WX} {X : Cx} {F H F' H' F1 H1 : Hp} {O O1 : List Addr} {Q : VK} {σ : St} {a b e tg iter elt : Expr} {es : List Expr} {fa fb fc : Env → Res D} {ga gb : Env → Res Bool} {fs : Env → Res (List D)} {pos : Pos}
def cE (K : PySem.W.Frag) (cls : Cls) (W : WX) (f : Env → Res D) : TE := fun σ H Q => ∃ F g O, Same F H ∧ Sts K cls F H σ g O ∧ PostE K cls W σ F H Q (f g)
def cT (K : PySem.W.Frag) (cls : Cls) (W : WX) (f : Env → Res Bool) : TT := fun σ H Q => ∃ F g O, Same F H ∧ Sts K cls F H σ g O ∧ PostT cls W σ F H Q (f g)
def cG (K : PySem.W.Frag) (cls : Cls) (f : D → Env → Option Env) (ss : List Nat) : TG := fun v σ H Q => ∃ d F g O g', Same F H ∧ Sts K cls F H σ g O ∧ Rp K cls F v d ∧ f d g = some g' ∧
  (∀ σ' O', SExt F H O F H O' → Sts K cls F H σ' g' O' → (∀ vs : List Nat, (∀ i ∈ ss, i ∈ vs) → wipe σ' vs = wipe σ vs) → Q σ' H)
def cS (K : PySem.W.Frag) (cls : Cls) (f : Env → Out) (W : WX) : TS := fun D σ H => ∃ F g O, Same F H ∧ Sts K cls F H σ g O ∧ PostS K cls W D F H O (f g)
theorem de_cE {f : Env → Res D} : DE K cls W (cE K cls W f) f := fun σ F H g O Q s st p => ⟨F, g, O, s, st, p⟩
theorem dt_cT {f : Env → Res Bool} : DT K cls W (cT K cls W f) f := fun σ F H g O Q s st p => ⟨F, g, O, s, st, p⟩
theorem dg_cG {f : D → Env → Option Env} {ss : List Nat} : DG K cls (cG K cls f ss) f ss := fun v d σ F H g O g' Q s st r e k => ⟨d, F, g, O, g', s, st, r, e, k⟩
theorem JE.canon {f : Env → Res D} (h : JE X cls W e f) : PE X e (cE X.K cls W f) := by
  obtain ⟨t, p, d⟩ := h.ex
  exact ⟨fun pins s σ H Q I ⟨F, g, O, sm, st, q⟩ => p.run pins s σ H Q I (d σ F H g O Q sm st q)⟩
theorem JTs.canon {f : Env → Res Bool} (h : JTs X cls W es f) : PTs X es (cT X.K cls W f) := by
  obtain ⟨t, p, d⟩ := h.ex
  exact ⟨fun pins s σ H Q I ⟨F, g, O, sm, st, q⟩ => p.run pins s σ H Q I (d σ F H g O Q sm st q)⟩
theorem JG.canon {f : D → Env → Option Env} {ss : List Nat} (h : JG X cls e f ss) : PG X e (cG X.K cls f ss) := by
  obtain ⟨t, p, d⟩ := h.ex
  exact ⟨fun pins s σ H v u Q I r ⟨dd, F, g, O, g', sm, st, rr, ee, q⟩ => p.run pins s σ H v u Q I r (d v dd σ F H g O g' Q sm st rr ee q)⟩
theorem JSs.canon {st : List Stmt} {f : Env → Out} (h : JSs X cls W st f) : PSs X st (cS X.K cls f W) := by
  obtain ⟨t, p, d⟩ := h.ex
  exact ⟨fun pins s σ H D I ⟨F, g, O, sm, st, q⟩ => p.run pins s σ H D I (d D σ F H g O sm st q)⟩

theorem je_lc {ifs : List Expr} {scope : Scope} {ft : D → Env → Option Env} {gt : Env → Res Bool} {fe : Env → Res D} {ss : List Nat} {k : Nat} (own : List (Str × Nat)) (c : Cn X W k) (hi : JI X cls W tg iter fs) (ok : BlkOk X.N X.env.scope scope own)
    (hg : ∀ (s : Shared) (H : Hp) (C : Addr) (cl : List (Str × Addr)) (fp : List Addr), JG (X.blk s H scope (compEnvC scope cl C X.env) fp) cls tg ft ss)
    (ht : ∀ (s : Shared) (H : Hp) (C : Addr) (cl : List (Str × Addr)) (fp : List Addr), Cn (X.blk s H scope (compEnvC scope cl C X.env) fp) W0 k → JTs (X.blk s H scope (compEnvC scope cl C X.env) fp) cls W0 ifs gt)
    (he : ∀ (s : Shared) (H : Hp) (C : Addr) (cl : List (Str × Addr)) (fp : List Addr), Cn (X.blk s H scope (compEnvC scope cl C X.env) fp) W0 k → JE (X.blk s H scope (compEnvC scope cl C X.env) fp) cls W0 elt fe)
    (hss : ∀ i ∈ ss, i ∈ own.map (·.2)) (hs : ∀ x, foldedSetIterable iter X.env x = pure x := by intro _; rfl) :
    JE X cls W (.ListComp elt [⟨tg, iter, ifs, 0⟩] scope pos) (eLc fs (own.map (·.2)) ft gt fe) := by
  obtain ⟨wi, p, d⟩ := hi.ex
  exact ⟨_, pe_lc (own := own) c.calm c.nd p ok (fun s H C cl fp => (hg s H C cl fp).canon) (fun s H C cl fp => (ht s H C cl fp c.blk).canon) (fun s H C cl fp => (he s H C cl fp c.blk).canon) hs, de_lc d dg_cG dt_cT de_cE hss⟩
theorem js_setLc {i : Nat} {y : Str} {py spos : Pos} {ifs : List Expr} {scope : Scope} {ft : D → Env → Option Env} {gt : Env → Res Bool} {fe : Env → Res D} {ss : List Nat} {k : Nat} (own : List (Str × Nat)) (c : Cn X W k) (hy : X.N[i]? = some y) (hyl : X.env.scope.names.lookup y = some .local)
    (hsw : swapsWith (.ListComp elt [⟨tg, iter, ifs, 0⟩] scope pos) (some (.Name y py)) spos.line X.env = pure true) (hi : JI X cls W tg iter fs) (ok : BlkOk X.N X.env.scope scope own)
    (hg : ∀ (s : Shared) (H : Hp) (C : Addr) (cl : List (Str × Addr)) (fp : List Addr), JG (X.blk s H scope (compEnvC scope cl C X.env) fp) cls tg ft ss)
    (ht : ∀ (s : Shared) (H : Hp) (C : Addr) (cl : List (Str × Addr)) (fp : List Addr), Cn (X.blk s H scope (compEnvC scope cl C X.env) fp) W0 k → JTs (X.blk s H scope (compEnvC scope cl C X.env) fp) cls W0 ifs gt)
    (he : ∀ (s : Shared) (H : Hp) (C : Addr) (cl : List (Str × Addr)) (fp : List Addr), Cn (X.blk s H scope (compEnvC scope cl C X.env) fp) W0 k → JE (X.blk s H scope (compEnvC scope cl C X.env) fp) cls W0 elt fe)
    (hss : ∀ i ∈ ss, i ∈ own.map (·.2)) (hs : ∀ x, foldedSetIterable iter X.env x = pure x := by intro _; rfl) :
    JS X cls W (.Assign [.Name y py] (.ListComp elt [⟨tg, iter, ifs, 0⟩] scope pos) spos) (sAsg i (eLc fs (own.map (·.2)) ft gt fe)) := by
  obtain ⟨wi, p, d⟩ := hi.ex
  exact ⟨_, ps_setLc (own := own) c.calm c.nd hy hyl hsw p ok (fun s H C cl fp => (hg s H C cl fp).canon) (fun s H C cl fp => (ht s H C cl fp c.blk).canon) (fun s H C cl fp => (he s H C cl fp c.blk).canon) hs, ds_asg (de_lc d dg_cG dt_cT de_cE hss)⟩
theorem js_setLcF {i : Nat} {y : Str} {py spos : Pos} {ifs : List Expr} {scope : Scope} {ft : D → Env → Option Env} {gt : Env → Res Bool} {fe : Env → Res D} {ss : List Nat} {k : Nat} (own : List (Str × Nat)) (c : Cn X W k) (hy : X.N[i]? = some y) (hyl : X.env.scope.names.lookup y = some .local)
    (hsw : swapsWith (.ListComp elt [⟨tg, iter, ifs, 0⟩] scope pos) (some (.Name y py)) spos.line X.env = pure true) (hi : JI X cls W tg iter fs) (ok : BlkOk X.N X.env.scope scope own)
    (hg : ∀ (s : Shared) (H : Hp) (C : Addr) (cl : List (Str × Addr)) (fp : List Addr), JG (X.blk s H scope (compEnvC scope cl C X.env) fp) cls tg ft ss)
    (ht : ∀ (s : Shared) (H : Hp) (C : Addr) (cl : List (Str × Addr)) (fp : List Addr), Cn (X.blk s H scope (compEnvC scope cl C X.env) fp) W0 k → JTs (X.blk s H scope (compEnvC scope cl C X.env) fp) cls W0 ifs gt)
    (he : ∀ (s : Shared) (H : Hp) (C : Addr) (cl : List (Str × Addr)) (fp : List Addr), Cn (X.blk s H scope (compEnvC scope cl C X.env) fp) W0 k → JE (X.blk s H scope (compEnvC scope cl C X.env) fp) cls W0 elt fe)
    (hss : ∀ i ∈ ss, i ∈ own.map (·.2)) (hs : ∀ x, foldedSetIterable iter X.env x = pure x := by intro _; rfl) :
    JS X cls W (.Assign [.Name y py] (.ListComp elt [⟨tg, iter, ifs, 0⟩] scope pos) spos) (sAsgF i (eLc fs (own.map (·.2)) ft gt fe)) := by
  obtain ⟨wi, p, d⟩ := hi.ex
  exact ⟨_, ps_setLc (own := own) c.calm c.nd hy hyl hsw p ok (fun s H C cl fp => (hg s H C cl fp).canon) (fun s H C cl fp => (ht s H C cl fp c.blk).canon) (fun s H C cl fp => (he s H C cl fp c.blk).canon) hs, ds_asgF (de_lc d dg_cG dt_cT de_cE hss)⟩

theorem Sts.lst {g : Env} {i : Nat} {xs : List D} (st : Sts K cls F H σ g O) (e : g[i]? = some (.ol xs)) : ∃ p vs O1, σ[i]? = some (some (.ref p)) ∧ H p = some (.lst vs) ∧ F p = none ∧ p ∉ O1 ∧ Ows K cls F H vs xs O1 ∧ p ∈ O ∧ (∀ a ∈ O1, a ∈ O) ∧
    ∀ (F' H' : Hp) (ws : List V) (ys : List D) (O2 : List Addr), Ext F H F' H' → Ows K cls F' H' ws ys O2 → p ∉ O2 → (∀ a ∈ O2, a ∈ O1 ∨ H a = none) →
      ∃ O'', Sts K cls F' (upd H' p (.lst ws)) σ (g.set i (.ol ys)) O'' ∧ SExt F H O F' (upd H' p (.lst ws)) O'' := by
  obtain ⟨P, h1, h2, h3, _⟩ := st.at i (List.getElem?_eq_some_iff.mp e).1
  rcases h2 with ⟨h2, _⟩ | ⟨v, d, h2, h2', ow⟩
  · rw [e] at h2; cases h2
  · rw [e] at h2'; cases h2'
    cases ow with
    | sh r => cases r
    | @ol p vs _ O1 f1 f2 f3 f4 =>
      refine ⟨p, vs, O1, h2, f2, f1, f3, f4, h1 _ (by simp), fun a ha => h1 a (by simp [ha]), fun F' H' ws ys O2 x w n k => ?_⟩
      have hp : F' p = none := x.ow p f1 (by rw [f2]; exact fun e => nomatch e)
      have up : ∀ b, b ≠ p → upd H' p (.lst ws) b = H' b := fun b hb => upd_ne hb
      obtain ⟨O'', q1, q2⟩ := h3 F' (upd H' p (.lst ws)) (.ref p) (.ol ys) (p :: O2) (fun b hb hn => by
          obtain ⟨e1, e2⟩ := x.get (st.dom b hb).1 (st.dom b hb).2
          exact ⟨(up b fun z => hn (by simp [z])).trans e1, e2⟩) x.ff
        (.ol hp upd_same n (w.frame (.refl F') fun a ha => ⟨up a fun z => n (z ▸ ha), (w.dom a ha).1⟩)) (fun a ha hO => by
          rcases List.mem_cons.mp ha with rfl | ha
          · simp
          · rcases k a ha with z | z
            · simp [z]
            · exact absurd z (st.dom a hO).2)
      rw [set_self h2] at q1
      refine ⟨O'', q1, x.ff, fun b o q => ?_, fun b o q hn => ?_, fun b h1 h2 _ => x.ow b h1 h2, fun b hb => ?_⟩
      · rw [up b fun z => by rw [z, hp] at q; cases q]; exact x.fh b o q
      · rw [up b fun z => hn (z ▸ h1 p (by simp))]; exact x.hh b o q
      · rcases q2 b hb with z | z
        · exact .inl z
        · rcases List.mem_cons.mp z with rfl | z
          · exact .inl (h1 _ (by simp))
          · exact (k b z).imp (fun z => h1 b (by simp [z])) id
def sApp (i : Nat) (fa : Env → Res D) : Env → Out := fun g => match g[i]? with
  | some (.ol xs) => ((fa g).bind kp).st g fun d => if xs.length < lim then .nx (g.set i (.ol (xs ++ [d]))) else .bad
  | _ => .bad
@[simp] theorem sApp_ (i : Nat) (fa : Env → Res D) (g : Env) : sApp i fa g = match g[i]? with
  | some (.ol xs) => ((fa g).bind kp).st g fun d => if xs.length < lim then .nx (g.set i (.ol (xs ++ [d]))) else .bad
  | _ => .bad := rfl
theorem js_app {i : Nat} {x : Str} {npos apos cpos : Pos} (hN : X.N[i]? = some x) (hv : Vis X.env.scope x) (ha : JE X cls W a fa) (hd : (x == ("__debug__" : Str)) = false := by decide) (hcd : (x == ("__classdict__" : Str)) = false := by decide)
    (hbase : attributeBase (.Name x npos) "append" X.env (eval (.Name x npos) X.env) = eval (.Name x npos) X.env := by rfl)
    (hfew : ((backTo cpos (starEach (a :: []) X.env)).all (fun x => !x.1) && (backToKw cpos (keywordEach [] X.env)).all (fun x => x.1.isSome)
      && decide ((a :: []).length + ([] : List Keyword).length + (if ([] : List Keyword).isEmpty then 0 else 1) < 30)) = true := by rfl)
    (hline : (apos.endLine == cpos.line) = true := by rfl) (hs : starEach (a :: []) X.env = (false, eval a X.env) :: starEach [] X.env := by rfl) (hplain : (backTo cpos (starEach [] X.env)).any (·.1) = false := by rfl)
    (hsw : swapsWith (.Call (.Attribute (.Name x npos) "append" apos) [a] [] cpos) none pos.line X.env = pure false := by rfl) :
    JS X cls W (.Expr (.Call (.Attribute (.Name x npos) "append" apos) [a] [] cpos) pos) (sApp i fa) := by
  obtain ⟨t, p, d⟩ := ha.ex
  refine ⟨_, ps_expr (pe_bm PySem.F.plainAttrs_list PySem.F.slot_list_append PySem.F.type_list_append mt_append (pe_var hN hv hd hcd) (pa_cons p pa_nil hs) hbase hfew hline hs hplain) hsw, ?_⟩
  intro D σ F H g O s st p
  rw [sApp_] at p
  split at p
  · rename_i xs eg
    obtain ⟨q, vs, O1, h1, h2, h2', h3, h4, h5, h6, h7⟩ := st.lst eg
    refine ⟨.ref q, h1, .inl ⟨rfl, vs, SqL.of h2⟩, ?_⟩
    refine d.goS s st p fun dd e p v F1 H1 O2 x fr w => ?_
    split at p
    · rename_i hl
      refine ⟨q, vs, v, rfl, rfl, x.hh _ _ h2, by rw [h4.len]; exact lim_lt hl, ?_⟩
      obtain ⟨O'', z1, z2⟩ := h7 F1 H1 (vs ++ [v]) (xs ++ [dd]) (O1 ++ O2) x ((h4.ext x).snoc w fun a q1 q2 => (h4.dom a q1).2 (fr a q2)) (fun z => by
          rcases List.mem_append.mp z with z | z
          · exact h3 z
          · have := fr q z; rw [h2] at this; cases this) (fun a z => (List.mem_append.mp z).imp id (fr a))
      exact p σ F1 _ O'' z2 z1
    · exact p.elim
  · exact p.elim
theorem Ows.set : ∀ {vs : List V} {ds : List D} {O1 O2 : List Addr} {v : V} {d : D} (j : Nat), Ows K cls F H vs ds O1 → Ow K cls F H v d O2 → (∀ a ∈ O1, a ∉ O2) → ∃ O3, Ows K cls F H (vs.set j v) (ds.set j d) O3 ∧ ∀ a ∈ O3, a ∈ O1 ∨ a ∈ O2
  | _, _, _, O2, _, _, _, .nil, _, _ => ⟨[], .nil, fun _ h => nomatch h⟩
  | _, _, _, O2, _, _, 0, .cons (O1 := P1) (O2 := P2) a b dj e, w, n => by
    subst e
    refine ⟨O2 ++ P2, .cons w b (fun x h1 h2 => n x (List.mem_append_right _ h2) h1) rfl, fun x hx => ?_⟩
    rcases List.mem_append.mp hx with z | z
    · exact .inr z
    · exact .inl (List.mem_append_right _ z)
  | _, _, _, O2, _, _, j + 1, .cons (O1 := P1) (O2 := P2) a b dj e, w, n => by
    subst e
    obtain ⟨O3, h1, h2⟩ := b.set j w fun x hx => n x (List.mem_append_right _ hx)
    refine ⟨P1 ++ O3, .cons a h1 (fun x q1 q2 => ?_) rfl, fun x hx => ?_⟩
    · rcases h2 x q2 with z | z
      · exact dj x q1 z
      · exact n x (List.mem_append_left _ q1) z
    · rcases List.mem_append.mp hx with z | z
      · exact .inl (List.mem_append_left _ z)
      · exact (h2 x z).imp (fun z => List.mem_append_right _ z) id
def sSet (i : Nat) (fk fa : Env → Res D) : Env → Out := fun g => ((fa g).bind kp).st g fun d => match g[i]? with
  | some (.ol xs) => (fk g).st g fun k => match opd k with
    | .int k => match ixN xs.length k with
      | some j => .nx (g.set i (.ol (xs.set j d)))
      | none => .bad
    | _ => .bad
  | _ => .bad
@[simp] theorem sSet_ (i : Nat) (fk fa : Env → Res D) (g : Env) : sSet i fk fa g = ((fa g).bind kp).st g fun d => match g[i]? with
  | some (.ol xs) => (fk g).st g fun k => match opd k with
    | .int k => match ixN xs.length k with
      | some j => .nx (g.set i (.ol (xs.set j d)))
      | none => .bad
    | _ => .bad
  | _ => .bad := rfl
theorem js_setIx {i : Nat} {x : Str} {npos spos : Pos} {fk : Env → Res D} (hN : X.N[i]? = some x) (hv : Vis X.env.scope x) (ha : JE X cls W a fa) (hk : JE X cls W b fk) (hd : (x == ("__debug__" : Str)) = false := by decide) (hcd : (x == ("__classdict__" : Str)) = false := by decide)
    (hs : swapsWithSole [.Subscript (.Name x npos) b spos] a pos.line X.env = pure false := by rfl) (hw : swappedStores [.Subscript (.Name x npos) b spos] a X.env = pure none := by rfl)
    (h1 : (assignEach [.Subscript (.Name x npos) b spos] X.env).map (·.2) = [assign (.Subscript (.Name x npos) b spos) X.env] := by rfl)
    (hass : ∀ v, assign (.Subscript (.Name x npos) b spos) X.env v = (do
      let ov ← holding [v] (eval (.Name x npos) X.env)
      let iv ← holding [v, ov] (eval b X.env)
      standAt spos
      holding [v, ov, iv] (setItem ov iv v)
      release [v, ov, iv] []) := by intro _; rfl) : JS X cls W (.Assign [.Subscript (.Name x npos) b spos] a pos) (sSet i fk fa) := by
  obtain ⟨t, p, d⟩ := ha.ex
  obtain ⟨t2, p2, d2⟩ := hk.ex
  refine ⟨_, ps_asg p (pg_sub (pe_var hN hv hd hcd) p2 set_list hass) hs hw h1, ?_⟩
  intro D σ F H g O s st p
  rw [sSet_] at p
  refine d.goS s st p fun dd e p v F1 H1 O2 x fr w => ?_
  split at p
  · rename_i xs eg
    obtain ⟨q, vs, O1, h1, h2, h2', h3, h4, h5, h6, h7⟩ := st.lst eg
    refine ⟨.ref q, h1, ?_⟩
    refine d2.go x.fh (st.ext x) (fun c e F' H' y => by rw [e] at p; exact p σ F' H' O ((x.trans y).sext fun a h => .inl h) (st.ext (x.trans y))) (fun e => by rw [e] at p; exact p) fun kd e kv F3 H3 x3 b3 => ?_
    rw [e, Res.st_ok] at p
    split at p
    · rename_i k ek
      split at p
      · rename_i j ej
        rw [ek] at b3
        obtain rfl := b3.int
        have x13 := x.trans x3
        refine ⟨q, vs, k, j, rfl, rfl, x13.hh _ _ h2, by rw [h4.len]; exact ej, ?_⟩
        obtain ⟨O3, w3, n3⟩ := (h4.ext x13).set j (w.ext x3) fun a q1 q2 => (h4.dom a q1).2 (fr a q2)
        obtain ⟨O'', z1, z2⟩ := h7 F3 H3 (vs.set j v) (xs.set j dd) O3 x13 w3 (fun z => by
          rcases n3 _ z with z | z
          · exact h3 z
          · have := fr q z; rw [h2] at this; cases this) (fun a z => (n3 a z).imp id (fr a))
        exact p σ F3 _ O'' z2 z1
      · exact p.elim
    · exact p.elim
  · exact p.elim
def sAug (op : Int → Int → Int) (i : Nat) (fa : Env → Res D) : Env → Out := fun g => match g[i]? with
  | some (.int a) => (fa g).st g fun d => match opd d with
    | .int b => .nx (g.set i (.int (op a b)))
    | _ => .bad
  | _ => .bad
@[simp] theorem sAug_ (op : Int → Int → Int) (i : Nat) (fa : Env → Res D) (g : Env) : sAug op i fa g = match g[i]? with
  | some (.int a) => (fa g).st g fun d => match opd d with
    | .int b => .nx (g.set i (.int (op a b)))
    | _ => .bad
  | _ => .bad := rfl
end
end DL

namespace DL
open PySem L2
section
variable {K : PySem.W.Frag} {cls : Cls} {W : WX} {X : Cx} {F H F' H' F1 H1 : Hp} {O O1 : List Addr} {Q : VK} {σ : St} {a b e tg iter elt : Expr} {es : List Expr} {fa fb fc : Env → Res D} {ga gb : Env → Res Bool} {fs : Env → Res (List D)} {pos : Pos}
structure ExOk (K : PySem.W.Frag) (mg : Str → Option Value) (cls : Cls) (c : Nat) (x : Str) (C : Addr) : Prop where
  e : cls c = some (C, [])
  g : mg x = some (.ref C)
  x : PySem.W.excIn K C [.type "ValueError", .type "Exception", .type "BaseException", .type "object"] "ValueError.__new__" = true
  k : PySem.W.keepIn K (.ref C) = true
  b : PySem.W.subIn K (.ref C) (.type "BaseException") = some true
  t : PySem.W.typeIn K (.ref C) = some (.type "type")
theorem ExOk.v {mg : Str → Option Value} {c : Nat} {x : Str} {C : Addr} (h : ExOk K mg cls c x C) : excV cls c = .ref C := by unfold excV; rw [h.e]
def sRaise (c : Nat) : Env → Out := fun g => .xc c g
@[simp] theorem sRaise_ (c : Nat) (g : Env) : sRaise c g = .xc c g := rfl
theorem js_raise {c k : Nat} {x m : Str} {C : Addr} {j : Nat} {p p2 pos2 : Pos} (n : Cn X W k) (h : ExOk X.K X.mg cls c x C) (hg : Gl X x := by rfl) (hdb : (x == ("__debug__" : Str)) = false := by decide) :
    JS X cls W (.Raise (some (.Call (.Name x p) [.Constant (.str m) j p2] [] pos)) none pos2) (sRaise c) := by
  refine ⟨_, ps_raise n.calm n.tk (pmk_own PySem.F.excBase_ValueError h.x h.g h.k (raises_own h.b h.t) hg hdb), ?_⟩
  intro D σ F H g O s st p
  have q := p σ F H O (.refl s) st
  rw [h.v] at q
  exact q

def runF (f : Env → Out) (n : Nat) (ds : List D) : Res D := match f (ds ++ List.replicate (n - ds.length) .un) with
  | .rt d => .ok d
  | .nx _ => .ok .non
  | .xc c _ => .xc c
  | _ => .bad
theorem sts_start {vs : List V} {ds : List D} (h : Rps K cls F vs ds) (n : Nat) : Sts K cls F H (vs.map some ++ List.replicate n none) (ds ++ List.replicate n .un) [] := by
  induction ds generalizing vs with
  | nil =>
    cases h
    simp only [List.map_nil, List.nil_append]
    induction n with
    | zero => exact .nil
    | succ n ih => rw [List.replicate_succ, List.replicate_succ]; exact .un ih
  | cons d ds ih =>
    cases h with
    | cons a b => exact .cons (.sh a) (ih b) (fun _ q => nomatch q) rfl
theorem fnD_ok {P : Program} {w : World} {mg : Str → Option Value} {base : Heap} {x qual : Str} {st : Stmt} {f : Addr} {fd : FuncData} {N ps : List Str} {k n : Nat} {g : List D → Res D} {fb : Env → Out}
    (Fn : Fun K x qual st f fd) (S : FnScope N ps (defScope st)) (hn : ps.length = n)
    (hbody : ∀ (cdv : Value) (A : Around) (outer : List PySem.Env) (s : Shared) (H : Hp) (E : XK), Cn (cxOf (L2.CX P w) P w K mg base N qual (defScope st) f cdv A outer s H E) (fun c d _ H => E c d H) k →
      JSs (cxOf (L2.CX P w) P w K mg base N qual (defScope st) f cdv A outer s H E) cls (fun c d _ H => E c d H) (defBody st) fb)
    (heq : ∀ ds, ds.length = n → g ds = .bad ∨ runF fb N.length ds = g ds) : FnOk P w K mg base (L2.CX P w) (k + 1) f fd ps (spD K cls n g) := by
  refine Fn.okX S (fun vs H Q E h => ?_) (fun cdv A outer s H vs Q E hr h => ?_)
  · obtain ⟨F, ds, _, r, h1, _⟩ := h
    rw [r.len, h1, hn]
  · obtain ⟨F, ds, sm, r, hl, h⟩ := h
    obtain ⟨t, p, d⟩ := (hbody cdv A outer s H E ⟨takes_of rfl rfl rfl rfl, passes_of rfl, rfl, S.nd, hr⟩).ex
    refine ⟨t, p, d _ _ F H (ds ++ List.replicate (N.length - ds.length) .un) [] sm ?_ ?_⟩
    · unfold L2.start
      rw [r.len]
      exact sts_start r _
    · rcases heq ds hl with e | e
      · rw [e] at h; exact h.elim
      · rw [← e] at h
        unfold runF at h
        cases q : fb (ds ++ List.replicate (N.length - ds.length) .un) with
        | nx g' => rw [q] at h; exact fun σ' F' H' O' x st' => h .non F' H' [] x.ext Fresh.nil (.sh .non)
        | rt d => rw [q] at h; exact fun v F' H' O' x w => h v F' H' O' x.ext (fun a ha => (x.oo a ha).resolve_left (by simp)) w
        | xc c g' => rw [q] at h; exact fun σ' F' H' O' x st' => h F' H' x.ext
        | bk g' => rw [q] at h; exact h.elim
        | ct g' => rw [q] at h; exact h.elim
        | bad => rw [q] at h; exact h.elim

def spI (K : PySem.W.Frag) (cls : Cls) (c n : Nat) (g : List D → Res (List D)) : Sp := fun vs H Q E => ∃ F x C dx ns vs' ds, vs = .ref x :: vs' ∧ cls c = some (C, ns) ∧ Same F H ∧ F x = none ∧ H x = some (.ins C dx []) ∧ Rps K cls F vs' ds ∧ ds.length = n ∧
  match g ds with
  | .ok fs => ∀ F' H' O', SExt F H [x] F' H' O' → Ow K cls F' H' (.ref x) (.oo none c fs) O' → Q .non H'
  | .xc e => ∀ F' H' O', SExt F H [x] F' H' O' → E (excV cls e) none H'
  | .bad => False
def outI (c : Nat) (x : Addr) : Out → Res (List D)
  | .nx g => match (g : List D)[0]? with
    | some (D.oo (some y) c' fs) => if c' = c ∧ y = x then .ok fs else .bad
    | _ => .bad
  | .xc e _ => .xc e
  | _ => .bad
def runI (f : Env → Out) (c n : Nat) (x : Addr) (ds : List D) : Res (List D) := outI c x (f (.oo (some x) c [] :: ds ++ List.replicate (n - (ds.length + 1)) .un))
theorem fnI_ok {P : Program} {w : World} {mg : Str → Option Value} {base : Heap} {x qual : Str} {st : Stmt} {f : Addr} {fd : FuncData} {N ps : List Str} {k n c : Nat} {g : List D → Res (List D)} {fb : Env → Out}
    (Fn : Fun K x qual st f fd) (S : FnScope N ps (defScope st)) (hn : ps.length = n + 1)
    (hbody : ∀ (cdv : Value) (A : Around) (outer : List PySem.Env) (s : Shared) (H : Hp) (E : XK), Cn (cxOf (L2.CX P w) P w K mg base N qual (defScope st) f cdv A outer s H E) (fun c d _ H => E c d H) k →
      JSs (cxOf (L2.CX P w) P w K mg base N qual (defScope st) f cdv A outer s H E) cls (fun c d _ H => E c d H) (defBody st) fb)
    (heq : ∀ ds x, ds.length = n → g ds = .bad ∨ runI fb c N.length x ds = g ds) : FnOk P w K mg base (L2.CX P w) (k + 1) f fd ps (spI K cls c n g) := by
  refine Fn.okX S (fun vs H Q E h => ?_) (fun cdv A outer s H vs Q E hr h => ?_)
  · obtain ⟨F, x, C, dx, ns, vs', ds, rfl, _, _, _, _, r, h1, _⟩ := h
    rw [List.length_cons, r.len, h1, hn]
  · obtain ⟨F, x, C, dx, ns, vs', ds, rfl, hc, sm, fx, hx, r, hl, h⟩ := h
    obtain ⟨t, p, d⟩ := (hbody cdv A outer s H E ⟨takes_of rfl rfl rfl rfl, passes_of rfl, rfl, S.nd, hr⟩).ex
    have s0 : Sts K cls F H (L2.start N (V.ref x :: vs')) (.oo (some x) c [] :: ds ++ List.replicate (N.length - (ds.length + 1)) .un) [x] := by
      unfold L2.start
      rw [List.length_cons, r.len, List.map_cons, List.cons_append, List.cons_append]
      exact .cons (O1 := [x]) (O2 := []) (.oo (fun y e => by cases e; rfl) hc fx (by simpa using hx) (Nat.zero_le _) (by simp) .nil) (sts_start r _) (fun a _ h => nomatch h) rfl
    refine ⟨t, p, d _ _ F H _ [x] sm s0 ?_⟩
    rcases heq ds x hl with e | e
    · rw [e] at h; exact h.elim
    · rw [← e] at h
      unfold runI at h
      cases q : fb (.oo (some x) c [] :: ds ++ List.replicate (N.length - (ds.length + 1)) .un) with
      | nx g' =>
        rw [q] at h
        intro σ' F' H' O' y st'
        unfold outI at h
        simp only [] at h
        split at h
        · rename_i fs eo
          split at eo
          · rename_i y' c' fs' eg
            split at eo
            · rename_i hcc
              cases eo
              obtain ⟨rfl, rfl⟩ := hcc
              obtain ⟨P, h1, h2, _⟩ := st'.at 0 (List.getElem?_eq_some_iff.mp eg).1
              rcases h2 with ⟨h2, _⟩ | ⟨v, d2, h2, h2', ow⟩
              · rw [eg] at h2; cases h2
              · rw [eg] at h2'; cases h2'
                cases ow with
                | sh r => cases r
                | oo ho hc h1' h2o hl h3 r =>
                  have := ho _ rfl
                  subst this
                  exact h F' H' _ ⟨y.ff, y.fh, y.fr, y.ow, fun a ha => y.oo a (h1 a ha)⟩ (.oo (fun _ e => nomatch e) hc h1' h2o hl h3 r)
            · cases eo
          · cases eo
        · rename_i e' eo
          split at eo
          · split at eo <;> cases eo
          · cases eo
        · exact h.elim
      | xc e g' => rw [q] at h; exact fun σ' F' H' O' y st' => h F' H' O' y
      | rt d => rw [q] at h; exact h.elim
      | bk g' => rw [q] at h; exact h.elim
      | ct g' => rw [q] at h; exact h.elim
      | bad => rw [q] at h; exact h.elim

theorem putF_new : ∀ {ns : List Str} {vs : List V} {f : Str} {y : V}, ns.Nodup → vs.length ≤ ns.length → ns[vs.length]? = some f → putF f y (ns.zip vs) = ns.zip (vs ++ [y])
  | [], vs, f, y, _, hl, h => by simp at h
  | n :: ns, [], f, y, _, _, h => by
    simp at h
    subst h
    simp [putF]
  | n :: ns, v :: vs, f, y, nd, hl, h => by
    obtain ⟨a1, a2⟩ := List.nodup_cons.mp nd
    have h' : ns[vs.length]? = some f := by simpa using h
    have ne : ¬ n = f := fun e => a1 (e ▸ List.mem_of_getElem? h')
    rw [List.zip_cons_cons, List.cons_append, List.zip_cons_cons]
    show (if n = f then (n, y) :: ns.zip vs else (n, v) :: putF f y (ns.zip vs)) = _
    rw [if_neg ne, putF_new a2 (by simpa using hl) h']
def sFld (i c j : Nat) (fa : Env → Res D) : Env → Out := fun g => ((fa g).bind kp).st g fun d => match (g : List D)[i]? with
  | some (D.oo o c' ds) => if c' = c ∧ ds.length = j then .nx (g.set i (.oo o c (ds ++ [d]))) else .bad
  | _ => .bad
@[simp] theorem sFld_ (i c j : Nat) (fa : Env → Res D) (g : Env) : sFld i c j fa g = ((fa g).bind kp).st g fun d => match (g : List D)[i]? with
  | some (D.oo o c' ds) => if c' = c ∧ ds.length = j then .nx (g.set i (.oo o c (ds ++ [d]))) else .bad
  | _ => .bad := rfl
theorem js_fld {i c j : Nat} {C : Addr} {ns : List Str} {f x : Str} {npos pos' : Pos} (T : ClsOk X.K cls c C ns) (hj : ns[j]? = some f) (hj9 : j < 1000) (hN : X.N[i]? = some x) (hv : Vis X.env.scope x) (ha : JE X cls W a fa)
    (hd : (x == ("__debug__" : Str)) = false := by decide) (hcd : (x == ("__classdict__" : Str)) = false := by decide)
    (hs : swapsWith a (some (.Attribute (.Name x npos) f pos')) pos.line X.env = pure false := by rfl) : JS X cls W (.Assign [.Attribute (.Name x npos) f pos'] a pos) (sFld i c j fa) := by
  obtain ⟨t, p, d⟩ := ha.ex
  refine ⟨_, ps_fld (pe_var hN hv hd hcd) p hs, ?_⟩
  intro D σ F H g O s st p
  rw [sFld_] at p
  refine d.goS s st p fun dd e p v F1 H1 O2 xx fr w => ?_
  split at p
  · rename_i o c' ds eg
    split at p
    · rename_i hc
      obtain ⟨hc1, hc2⟩ := hc
      subst hc1
      obtain ⟨P, h1, h2, h3, _⟩ := st.at i (List.getElem?_eq_some_iff.mp eg).1
      rcases h2 with ⟨h2, _⟩ | ⟨v0, d0, h2, h2', ow⟩
      · rw [eg] at h2; cases h2
      · rw [eg] at h2'; cases h2'
        cases ow with
        | sh r => cases r
        | @oo _ q C' dx _ ns' vs _ O1 ho hcl f1 f2 hl f3 f4 =>
          have := hcl.symm.trans T.e
          cases this
          have hlen : vs.length = ds.length := f4.len
          have hf : F1 q = none := xx.ow q f1 (by rw [f2]; exact fun e => nomatch e)
          have hq : H1 q = some (.ins C dx (ns.zip vs)) := xx.hh _ _ f2
          refine ⟨.ref q, h2, q, C, dx, ns.zip vs, rfl, hq, T.cl, T.na f (List.mem_of_getElem? hj), ?_, ?_⟩
          · rw [List.length_zip]; omega
          · rw [putF_new T.nd hl (by rw [hlen, hc2]; exact hj)]
            have dj : ∀ a ∈ O1, a ∉ O2 := fun a q1 q2 => (f4.dom a q1).2 (fr a q2)
            have nq : q ∉ O1 ++ O2 := fun z => by
              rcases List.mem_append.mp z with z | z
              · exact f3 z
              · have := fr q z; rw [f2] at this; cases this
            have wv := (f4.ext xx).snoc w dj
            have hle : (vs ++ [v]).length ≤ ns.length := by
              have := (List.getElem?_eq_some_iff.mp hj).1
              rw [List.length_append, List.length_singleton]; omega
            have up : ∀ b, b ≠ q → upd H1 q (.ins C dx (ns.zip (vs ++ [v]))) b = H1 b := fun b hb => upd_ne hb
            obtain ⟨O'', q1, q2⟩ := h3 F1 (upd H1 q (.ins C dx (ns.zip (vs ++ [v])))) (.ref q) (.oo o c' (ds ++ [dd])) (q :: (O1 ++ O2)) (fun b hb hn => by
                obtain ⟨e1, e2⟩ := xx.get (st.dom b hb).1 (st.dom b hb).2
                exact ⟨(up b fun z => hn (by simp [z])).trans e1, e2⟩) xx.ff
              (.oo ho hcl hf upd_same hle nq (wv.frame (.refl F1) fun a ha => ⟨up a fun z => nq (z ▸ ha), (wv.dom a ha).1⟩)) (fun a ha hO => by
                rcases List.mem_cons.mp ha with rfl | ha
                · simp
                · rcases List.mem_append.mp ha with z | z
                  · simp [z]
                  · exact absurd (fr a z) (st.dom a hO).2)
            rw [set_self h2] at q1
            refine p σ F1 _ O'' ⟨xx.ff, fun b o e => ?_, fun b o e hn => ?_, fun b h1 h2 _ => xx.ow b h1 h2, fun b hb => ?_⟩ q1
            · rw [up b fun z => by rw [z, hf] at e; cases e]; exact xx.fh b o e
            · rw [up b fun z => hn (z ▸ h1 q (by simp))]; exact xx.hh b o e
            · rcases q2 b hb with z | z
              · exact .inl z
              · rcases List.mem_cons.mp z with rfl | z
                · exact .inl (h1 _ (by simp))
                · rcases List.mem_append.mp z with z | z
                  · exact .inl (h1 b (by simp [z]))
                  · exact .inr (fr b z)
    · exact p.elim
  · exact p.elim

theorem run_makeS {k : Nat} {f C : Addr} {fd : FuncData} {ps : List Str} {sp : Sp} {E : XK} {pins : List (Addr × Obj)} {s : Shared} {us : List Value} {vs : List V} {CXx : CXT} (M : Mk X.K C f) (G : FnOk X.prog X.w X.K X.mg X.base CXx k f fd ps sp) (hr : Room (k + 1) X.A) (hb : Binds X.K fd ps [])
    (hx : PassesAt CXx X σ E) (hx2 : ∀ H' s' e s'', Inv X pins σ H s → Inv X pins σ H' s' → CXx X.stack H' s' E e s'' → X.xe e s'') (I : Inv X pins σ H s) (r : Vals vs us)
    (h : ∀ x dx, H x = none → H dx = none → dx ≠ x → sp (.ref x :: vs) (upd (upd H dx (.own x)) x (.ins C dx [])) (fun v H2 => v = .non ∧ Q (.ref x) H2) E) :
    wpAny (model X.prog X.w) X.A (call (.ref C) us) (EP X pins σ Q) X.xe s := by
  have hq := h (s.heap.objs.size + 1) s.heap.objs.size (I.hok.fresh (Nat.le_succ _)) (I.hok.fresh (Nat.le_refl _)) (Nat.ne_of_lt (Nat.lt_succ_self _))
  have I2 := Inv.made (C := C) I
  have r2 : Vals (V.ref (s.heap.objs.size + 1) :: vs) (Value.ref (s.heap.objs.size + 1) :: us) := .cons rfl r
  have hl : (Value.ref (s.heap.objs.size + 1) :: us ++ []).length = ps.length := by
    have e := r2.length
    rw [G.len _ _ _ _ hq] at e
    rw [List.append_nil]
    exact e.symm
  refine wpAny_call (make_map (f := f) I.kIn M.makes M.init (beq_iff_eq.mp M.fn) (codeAny_mono (G.run _ X.stack _ _ ⟨Value.ref (s.heap.objs.size + 1) :: us, []⟩ (Value.ref (s.heap.objs.size + 1) :: us) _ _ E (hr.make C us [])
    (I2.env0.make C us []) (by have := hb _ (Value.ref (s.heap.objs.size + 1) :: us) I2.kIn hl; rw [List.append_nil] at this; exact this) r2 hq) fun r s' hq' => ?_))
  cases r with
  | error e => exact hx2 _ _ e s' I I2 hq'
  | ok fl =>
    cases fl with
    | ret u =>
      obtain ⟨v, H', I3, rv, ev, q3⟩ := I2.after hq'
      subst ev
      exact ⟨rv, ⟨V.ref (s.heap.objs.size + 1), H', I3, rfl, q3⟩⟩
    | next => exact False.elim hq'
    | brk => exact False.elim hq'
    | cont => exact False.elim hq'
def tMakeS (C : Addr) (sp : Sp) (E : St → XK) (t : TA) : TE := fun σ H Q => t σ H fun vs H1 => ∀ x dx, H1 x = none → H1 dx = none → dx ≠ x →
  sp (.ref x :: vs) (upd (upd H1 dx (.own x)) x (.ins C dx [])) (fun v H2 => v = .non ∧ Q (.ref x) H2) (E σ)
theorem pe_makeS {k : Nat} {f C : Addr} {fd : FuncData} {ps : List Str} {sp : Sp} {x : Str} {p : Pos} {t : TA} (M : Mk X.K C f) (G : FnOk X.prog X.w X.K X.mg X.base (L2.CX X.prog X.w) k f fd ps sp) (hr : Room (k + 1) X.A) (hg : Gl X x) (hm : X.mg x = some (.ref C)) (hb : Binds X.K fd ps [])
    (tk : Takes X W) (ha : PA X (e :: es) t) (hdb : (x == ("__debug__" : Str)) = false := by decide) (he : starEach (e :: es) X.env = (false, eval e X.env) :: starEach es X.env := by rfl) (hpl : (backTo pos (starEach es X.env)).any (·.1) = false := by rfl) :
    PE X (.Call (.Name x p) (e :: es) [] pos) (tMakeS C sp (fun σ => WE W σ) t) := by
  refine ⟨fun pins s σ H Q I h => ?_⟩
  refine wpAny_Call_Name_kw (ld_glob I hg hm ?_ hdb)
  refine PySem.W.callWith_K (h₀ := X.base) I.ok.mod.kin M.kp (thn (ha.run pos pins s σ H _ I h) fun us s1 ⟨vs, H1, I1, r, q⟩ => ⟨I1.kIn, ?_⟩) he hpl
  exact run_makeS M G hr hb (passAt tk σ) (fun H' s' e s'' _ I2 c => passAt tk σ pins H' s' e s'' I2 c) I1 r q
def eMkF (c : Nat) (g : List D → Res (List D)) (fs : Env → Res (List D)) : Env → Res D := fun e => (fs e).bind fun ds => if shd ds = true then (g ds).bind fun fl => if nods fl = true then .ok (.ob c (frzs fl)) else .bad else .bad
@[simp] theorem eMkF_ (c : Nat) (g : List D → Res (List D)) (fs : Env → Res (List D)) (e : Env) : eMkF c g fs e = (fs e).bind fun ds => if shd ds = true then (g ds).bind fun fl => if nods fl = true then .ok (.ob c (frzs fl)) else .bad else .bad := rfl
theorem je_make {k c n : Nat} {f C : Addr} {fd : FuncData} {ps ns : List Str} {g : List D → Res (List D)} {x : Str} {p : Pos} (cn : Cn X W (k + 1)) (hcl : cls c = some (C, ns)) (M : Mk X.K C f) (G : FnOk X.prog X.w X.K X.mg X.base (L2.CX X.prog X.w) k f fd ps (spI X.K cls c n g))
    (hm : X.mg x = some (.ref C)) (hb : Binds X.K fd ps []) (ha : JA X cls W (e :: es) fs) (hn : ∀ g ds, fs g = .ok ds → ds.length = n) (hg : Gl X x := by rfl)
    (hdb : (x == ("__debug__" : Str)) = false := by decide) (he : starEach (e :: es) X.env = (false, eval e X.env) :: starEach es X.env := by rfl) (hpl : (backTo pos (starEach es X.env)).any (·.1) = false := by rfl) :
    JE X cls W (.Call (.Name x p) (e :: es) [] pos) (eMkF c g fs) := by
  obtain ⟨ta, pa, da⟩ := ha.ex
  refine ⟨_, pe_makeS M G cn.hr hg hm hb cn.tk pa hdb he hpl, ?_⟩
  intro σ F H env O Q s st p
  rw [eMkF_] at p
  refine da.go s st (fun c e => by rw [e] at p; exact p) (fun e => by rw [e] at p; exact p) fun ds e vs F1 H1 x1 b1 => ?_
  rw [e, Res.bind_ok] at p
  split at p
  · rename_i hsh
    intro x dx hx hdx hne
    have r1 := b1.toRps hsh
    have nF : ∀ {a : Addr}, H1 a = none → F1 a = none := fun {a} h => by
      cases q : F1 a with
      | none => rfl
      | some u => rw [x1.fh a u q] at h; cases h
    have sF : Same F1 (upd (upd H1 dx (.own x)) x (.ins C dx [])) := fun b o q => by
      rw [upd_ne (fun z => by rw [z, nF hx] at q; cases q), upd_ne (fun z => by rw [z, nF hdx] at q; cases q)]
      exact x1.fh b o q
    have sH : Same H1 (upd (upd H1 dx (.own x)) x (.ins C dx [])) := fun b o q => by
      rw [upd_ne (ne_of_none q hx), upd_ne (ne_of_none q hdx)]
      exact q
    refine ⟨F1, x, C, dx, ns, vs, ds, rfl, hcl, sF, nF hx, upd_same, r1, hn env ds e, ?_⟩
    have ext : ∀ {F' H' O'}, SExt F1 (upd (upd H1 dx (.own x)) x (.ins C dx [])) [x] F' H' O' → Ext F H F' H' := fun {F' H' O'} y =>
      ⟨x1.ff.trans y.ff, fun b o q => by
        have q1 := x1.hh b o q
        exact y.fr b o (sH b o q1) (by simp; exact ne_of_none q1 hx), y.fh, fun b h1 h2 => by
        have h3 := x1.ow b h1 h2
        have h4 : H1 b ≠ none := x1.some h2
        have h5 : b ≠ x := fun z => h4 (z ▸ hx)
        refine y.ow b h3 ?_ (by simp; exact h5)
        cases q : H1 b with
        | none => exact (h4 q).elim
        | some o => rw [sH b o q]; exact fun e => nomatch e⟩
    cases eg : g ds with
    | bad => rw [eg] at p; exact p.elim
    | xc e => rw [eg] at p; exact fun F' H' O' y => p F' H' (ext y)
    | ok fl =>
      rw [eg, Res.bind_ok] at p
      intro F' H' O' y w
      refine ⟨rfl, ?_⟩
      split at p
      · rename_i n
        have fr : Fresh H O' := fun a ha => by
          rcases y.oo a ha with z | z
          · simp at z; subst z; exact x1.hh.free hx
          · exact x1.hh.free (sH.free z)
        have no : ∀ a ∈ O', F' a = none := fun a ha => (w.dom a ha).1
        have z := w.freeze (addF_same no) addF_at (show nod (.oo none c fl) = true from n)
        exact p _ _ H' [] (addF_ext (ext y) fr no) Fresh.nil (.inl (.sh z))
      · exact p.elim
  · exact p.elim

def sTry (fb : Env → Out) (fh : Nat → Env → Out) : Env → Out := fun g => match fb g with
  | .xc c g' => fh c g'
  | o => o
@[simp] theorem sTry_ (fb : Env → Out) (fh : Nat → Env → Out) (g : Env) : sTry fb fh g = match fb g with
  | .xc c g' => fh c g'
  | o => o := rfl
def eIs (i : Nat) (a : Addr) (b : Bool) : Env → Res D := fun g => match (g : List D)[i]? with
  | some (D.rf a') => if a' = a then .ok (.bl b) else .bad
  | _ => .bad
@[simp] theorem eIs_ (i : Nat) (a : Addr) (b : Bool) (g : Env) : eIs i a b g = match (g : List D)[i]? with
  | some (D.rf a') => if a' = a then .ok (.bl b) else .bad
  | _ => .bad := rfl
end
end DL

namespace DL
open PySem L2
section
variable {K : PySem.W.Frag} {cls : Cls} {W : WX} {X : Cx} {F H F' H' F1 H1 : Hp} {O O1 : List Addr} {Q : VK} {σ : St} {a b e tg iter elt : Expr} {es : List Expr} {fa fb fc : Env → Res D} {ga gb : Env → Res Bool} {fs : Env → Res (List D)} {pos : Pos}
end
theorem law_sp {K : PySem.W.Frag} {cls : Cls} {g : List D → Res D} {H : Hp} {a : Addr} {ns : List Int} (h : g [.sc (ns.map D.int)] = .ok (.bl true)) (hS : SqL K H a (ns.map V.int)) :
    spD K cls 1 g [.ref a] H (fun v _ => v = .bl true) fun _ _ _ => False := by
  refine ⟨H, [.sc (ns.map D.int)], .refl H, .cons (.sc hS rps_ints) .nil, rfl, ?_⟩
  rw [h]
  intro v F' H' O' _ _ w
  cases w with
  | sh r => cases r; rfl
theorem law_cx {P : Program} {w : World} {H : Hp} {s : Shared} {e : Value} {s' : Shared} (h : L2.CX P w [] H s (fun _ _ _ => False) e s') : False := by
  obtain ⟨_, _, _, _, _, _, _, _, _, _, _, _, z⟩ := h
  exact z
end DL

namespace DL
open PySem L2
@[simp] theorem brw_un : brw .un = .un := rfl
@[simp] theorem brw_non : brw .non = .non := rfl
@[simp] theorem brw_bl {b} : brw (.bl b) = .bl b := rfl
@[simp] theorem brw_int {b} : brw (.int b) = .int b := rfl
@[simp] theorem brw_str {b} : brw (.str b) = .str b := rfl
@[simp] theorem brw_sc {b} : brw (.sc b) = .sc b := rfl
@[simp] theorem brw_ls {b} : brw (.ls b) = .ls b := rfl
@[simp] theorem brw_tp {b} : brw (.tp b) = .tp b := rfl
@[simp] theorem brw_ob {c b} : brw (.ob c b) = .ob c b := rfl
@[simp] theorem brw_ol {b} : brw (.ol b) = .bo (brws b) := rfl
@[simp] theorem brw_od {k b} : brw (.od k b) = .bd k (brws b) := rfl
@[simp] theorem brw_oo {o c b} : brw (.oo o c b) = .bb c (brws b) := rfl
@[simp] theorem brw_rf {b} : brw (.rf b) = .rf b := rfl
@[simp] theorem brws_nil : brws [] = [] := rfl
@[simp] theorem brws_cons {d ds} : brws (d :: ds) = brw d :: brws ds := rfl
@[simp] theorem frz_un : frz .un = .un := rfl
@[simp] theorem frz_non : frz .non = .non := rfl
@[simp] theorem frz_bl {b} : frz (.bl b) = .bl b := rfl
@[simp] theorem frz_int {b} : frz (.int b) = .int b := rfl
@[simp] theorem frz_str {b} : frz (.str b) = .str b := rfl
@[simp] theorem frz_sc {b} : frz (.sc b) = .sc b := rfl
@[simp] theorem frz_ls {b} : frz (.ls b) = .ls b := rfl
@[simp] theorem frz_tp {b} : frz (.tp b) = .tp b := rfl
@[simp] theorem frz_ob {c b} : frz (.ob c b) = .ob c b := rfl
@[simp] theorem frz_ol {b} : frz (.ol b) = .ls (frzs b) := rfl
@[simp] theorem frz_oo {o c b} : frz (.oo o c b) = .ob c (frzs b) := rfl
@[simp] theorem frz_od {k b} : frz (.od k b) = .od k b := rfl
@[simp] theorem frzs_nil : frzs [] = [] := rfl
@[simp] theorem frzs_cons {d ds} : frzs (d :: ds) = frz d :: frzs ds := rfl
@[simp] theorem pln_bo {b} : pln (.bo b) = .ls (plns b) := rfl
@[simp] theorem pln_int {b} : pln (.int b) = .int b := rfl
@[simp] theorem pln_ls {b} : pln (.ls b) = .ls b := rfl
@[simp] theorem pln_sc {b} : pln (.sc b) = .sc b := rfl
@[simp] theorem pln_tp {b} : pln (.tp b) = .tp b := rfl
@[simp] theorem pln_bl {b} : pln (.bl b) = .bl b := rfl
@[simp] theorem pln_str {b} : pln (.str b) = .str b := rfl
@[simp] theorem pln_non : pln .non = .non := rfl
@[simp] theorem pln_ob {c b} : pln (.ob c b) = .ob c b := rfl
@[simp] theorem plns_nil : plns [] = [] := rfl
@[simp] theorem plns_cons {d ds} : plns (d :: ds) = pln d :: plns ds := rfl
def dull : D → Prop := fun d => brw d = d ∧ frz d = d ∧ pln d = d ∧ nod d = true ∧ shd1 d = true ∧ plok d = true
theorem dulls {α : Type} {f : α → D} (h : ∀ a, dull (f a)) : ∀ l : List α, brws (l.map f) = l.map f ∧ frzs (l.map f) = l.map f ∧ plns (l.map f) = l.map f ∧ nods (l.map f) = true ∧ shd (l.map f) = true ∧ ploks (l.map f) = true
  | [] => ⟨rfl, rfl, rfl, rfl, rfl, rfl⟩
  | a :: l => by
    obtain ⟨h1, h2, h3, h4, h5, h6⟩ := dulls h l
    obtain ⟨k1, k2, k3, k4, k5, k6⟩ := h a
    refine ⟨?_, ?_, ?_, ?_, ?_, ?_⟩
    · simp [h1, k1]
    · simp [h2, k2]
    · simp [h3, k3]
    · simp [h4, k4]
    · simp [h5, k5]
    · simp [h6, k6]
theorem dull_int (i : Int) : dull (.int i) := ⟨rfl, rfl, rfl, rfl, rfl, rfl⟩
theorem dull_bl (i : Bool) : dull (.bl i) := ⟨rfl, rfl, rfl, rfl, rfl, rfl⟩
@[simp] def dP (p : Int × Int) : D := .tp [.int p.1, .int p.2]
theorem dull_P (p : Int × Int) : dull (dP p) := ⟨rfl, rfl, rfl, rfl, rfl, rfl⟩
def dT (l : List Int) : D := .tp (l.map D.int)
theorem dull_T (l : List Int) : dull (dT l) := ⟨rfl, rfl, rfl, rfl, rfl, rfl⟩
section
variable (l : List Int)
@[simp] theorem brws_I : brws (l.map D.int) = l.map D.int := (dulls dull_int l).1
@[simp] theorem frzs_I : frzs (l.map D.int) = l.map D.int := (dulls dull_int l).2.1
@[simp] theorem plns_I : plns (l.map D.int) = l.map D.int := (dulls dull_int l).2.2.1
@[simp] theorem nods_I : nods (l.map D.int) = true := (dulls dull_int l).2.2.2.1
@[simp] theorem shd_I : shd (l.map D.int) = true := (dulls dull_int l).2.2.2.2.1
@[simp] theorem ploks_I : ploks (l.map D.int) = true := (dulls dull_int l).2.2.2.2.2
@[simp] theorem flats_I : flats (l.map D.int) = true := by
  induction l with
  | nil => rfl
  | cons a l ih => simp [ih]
end
section
variable (l : List (Int × Int))
@[simp] theorem brws_P : brws (l.map dP) = l.map dP := (dulls dull_P l).1
@[simp] theorem frzs_P : frzs (l.map dP) = l.map dP := (dulls dull_P l).2.1
@[simp] theorem plns_P : plns (l.map dP) = l.map dP := (dulls dull_P l).2.2.1
@[simp] theorem nods_P : nods (l.map dP) = true := (dulls dull_P l).2.2.2.1
@[simp] theorem shd_P : shd (l.map dP) = true := (dulls dull_P l).2.2.2.2.1
@[simp] theorem ploks_P : ploks (l.map dP) = true := (dulls dull_P l).2.2.2.2.2
end
@[simp] theorem atI_map {α β : Type} (f : α → β) (l : List α) (i : Int) : atI (l.map f) i = (atI l i).map f := by
  unfold atI
  rw [List.length_map]
  cases ixN l.length i with
  | none => rfl
  | some j => simp
theorem atI_of {α : Type} {l : List α} {i : Int} (h0 : 0 ≤ i) (h1 : i < l.length) : ∃ a, atI l i = some a ∧ l[i.toNat]? = some a := by
  have h : i.toNat < l.length := by omega
  refine ⟨l[i.toNat], ?_, by simp [h]⟩
  unfold atI ixN
  rw [if_pos h0, if_pos h1]
  simp [h]
theorem atI_natG {α : Type} {l : List α} {j : Nat} {i : Int} (e : i = (j : Int)) (h : j < l.length) : atI l i = l[j]? := by
  subst e
  unfold atI ixN
  rw [if_pos (by omega), if_pos (by omega)]
  simp
theorem ixN_nat {n : Nat} {i : Int} (h0 : 0 ≤ i) (h1 : i < n) : ixN n i = some i.toNat := by
  unfold ixN
  rw [if_pos h0, if_pos h1]
theorem forL_inv {tg : D → Env → Option Env} {b : Env → Out} (P : Nat → Env → Prop) : ∀ (ds : List D) (g : Env) (j : Nat), P j g →
    (∀ i d g, ds[i]? = some d → P (j + i) g → ∃ g1 g', tg d g = some g1 ∧ (b g1 = .nx g' ∨ b g1 = .ct g') ∧ P (j + i + 1) g') → ∃ g', forL tg b ds g = .nx g' ∧ P (j + ds.length) g'
  | [], g, j, h0, _ => ⟨g, rfl, h0⟩
  | d :: ds, g, j, h0, hs => by
    obtain ⟨g1, g', e1, e2, h1⟩ := hs 0 d g rfl h0
    obtain ⟨g2, e3, h2⟩ := forL_inv P ds g' (j + 1) h1 fun i d' g e h => by
      have := hs (i + 1) d' g (by simpa using e) (by rw [show j + (i + 1) = j + 1 + i by omega]; exact h)
      rw [show j + (i + 1) + 1 = j + 1 + i + 1 by omega] at this
      exact this
    refine ⟨g2, ?_, by rw [List.length_cons, show j + (ds.length + 1) = j + 1 + ds.length by omega]; exact h2⟩
    rw [forL_cons, e1]
    rcases e2 with e2 | e2 <;> (simp only [e2]; exact e3)
theorem for_rng {tg : D → Env → Option Env} {b : Env → Out} (P : Nat → Env → Prop) {lo : Int} {n : Nat} {g : Env} (h0 : P 0 g)
    (hs : ∀ i g, i < n → P i g → ∃ g1 g', tg (.int (lo + i)) g = some g1 ∧ (b g1 = .nx g' ∨ b g1 = .ct g') ∧ P (i + 1) g') : ∃ g', forL tg b (rng lo n) g = .nx g' ∧ P n g' := by
  obtain ⟨g', e, h⟩ := forL_inv (tg := tg) (b := b) P (rng lo n) g 0 h0 fun i d g e h => by
    obtain ⟨h1, rfl⟩ := rng_get e
    rw [Nat.zero_add] at h ⊢
    exact hs i g h1 h
  rw [rng_len, Nat.zero_add] at h
  exact ⟨g', e, h⟩
end DL

namespace DL
open PySem L2
def e60 : Int := 10 ^ 60
@[simp] theorem e60_pos : 0 < e60 := by decide
section
variable {a b i j : Int} {x y : Str} {xs ys : List D} {k l : Bool} {d e : D} {ks : List Key} {c n : Nat}
@[simp] theorem caLen_sc : caLen [.sc xs] = some (.int xs.length) := rfl
@[simp] theorem caLen_ls : caLen [.ls xs] = some (.int xs.length) := rfl
@[simp] theorem caLen_bo : caLen [.bo xs] = some (.int xs.length) := rfl
@[simp] theorem caLen_tp : caLen [.tp xs] = some (.int xs.length) := rfl
@[simp] theorem opIx_sc : opIx (.sc xs) (.int i) = atI xs i := rfl
@[simp] theorem opIx_ls : opIx (.ls xs) (.int i) = atI xs i := rfl
@[simp] theorem opIx_bo : opIx (.bo xs) (.int i) = atI xs i := rfl
@[simp] theorem opIx_tp : opIx (.tp xs) (.int i) = atI xs i := rfl
@[simp] theorem atI_two0 {α : Type} {p q : α} : atI [p, q] 0 = some p := rfl
@[simp] theorem atI_two1 {α : Type} {p q : α} : atI [p, q] 1 = some q := rfl
theorem opPow_eq : opPow (.int i) (.int j) = if CPow i j then some (.int (i ^ j.toNat)) else none := rfl
theorem opMod_eq : opMod (.int i) (.int j) = if j ≠ 0 then some (.int (if 0 < j then i % j else i.fmod j)) else none := rfl
theorem opDiv_eq : opDiv (.int i) (.int j) = if divOk j then some (.int (if 0 < j then i / j else i.fdiv j)) else none := rfl
theorem opMul_eq : opMul (.int i) (.int j) = if mulOk i j then some (.int (i * j)) else none := rfl
theorem opMul_ls : opMul (.ls xs) (.int i) = if i < 2 ^ 63 ∧ -(2 ^ 63) ≤ i ∧ xs.length * i.toNat ≤ lim then some (.ol (List.replicate i.toNat xs).flatten) else none := rfl
theorem caMax2_eq : caMax2 [.int a, .int b] = some (.int (if b > a then b else a)) := rfl
theorem caMin2_eq : caMin2 [.int a, .int b] = some (.int (if b < a then b else a)) := rfl
theorem caAbs_eq : caAbs [.int a] = some (.int (if a < 0 then -a else a)) := rfl
@[simp] theorem opPow_c : opPow (.int 10) (.int 60) = some (.int e60) := by
  rw [opPow_eq, if_pos (by unfold CPow; decide)]
  rfl
@[simp] theorem opMod_pos (h : 0 < b) : opMod (.int a) (.int b) = some (.int (a % b)) := by
  rw [opMod_eq, if_pos (by omega), if_pos h]
theorem divOk_small (h0 : b ≠ 0) (h : b.natAbs < 1073741824) : divOk b := ⟨h0, .inl h⟩
@[simp] theorem opDiv_pos (h : 0 < b) (h' : b < 1073741824) : opDiv (.int a) (.int b) = some (.int (a / b)) := by
  rw [opDiv_eq, if_pos (divOk_small (by omega) (by omega)), if_pos h]
@[simp] theorem opMul_l (h : -18446744073709551616 < a) (h' : a < 18446744073709551616) : opMul (.int a) (.int b) = some (.int (a * b)) := by
  rw [opMul_eq, if_pos (.inl (.inl ⟨by omega, by omega⟩))]
@[simp] theorem opMul_r (h : -18446744073709551616 < b) (h' : b < 18446744073709551616) : opMul (.int a) (.int b) = some (.int (a * b)) := by
  rw [opMul_eq, if_pos (.inl (.inr ⟨by omega, by omega⟩))]
@[simp] theorem opAdd_int : opAdd (.int a) (.int b) = some (.int (a + b)) := rfl
@[simp] theorem opSub_int : opSub (.int a) (.int b) = some (.int (a - b)) := rfl
@[simp] theorem opNeg_int : opNeg (.int a) = some (.int (-a)) := rfl
@[simp] theorem opAdd_tp (h : xs.length + ys.length ≤ lim) : opAdd (.tp xs) (.tp ys) = some (.tp (xs ++ ys)) := if_pos h
@[simp] theorem opAdd_ll (h : xs.length + ys.length ≤ lim) : opAdd (.ls xs) (.ls ys) = some (.ol (xs ++ ys)) := if_pos h
theorem opAdd_lst {d e : D} (h1 : lsv d = some xs) (h2 : lsv e = some ys) (h : xs.length + ys.length ≤ lim) : opAdd d e = some (.ol (xs ++ ys)) := by
  have e1 : opAdd d e = opAddL d e := by cases d <;> first | rfl | cases h1
  rw [e1]
  unfold opAddL
  rw [h1, h2]
  exact if_pos h
@[simp] theorem opAdd_lb (h2 : shd ys = true) (h : xs.length + ys.length ≤ lim) : opAdd (.ls xs) (.bo ys) = some (.ol (xs ++ ys)) := opAdd_lst rfl (by simp [h2]) h
@[simp] theorem opAdd_bl (h2 : shd xs = true) (h : xs.length + ys.length ≤ lim) : opAdd (.bo xs) (.ls ys) = some (.ol (xs ++ ys)) := opAdd_lst (by simp [h2]) rfl h
@[simp] theorem opAdd_bb (h1 : shd xs = true) (h2 : shd ys = true) (h : xs.length + ys.length ≤ lim) : opAdd (.bo xs) (.bo ys) = some (.ol (xs ++ ys)) := opAdd_lst (by simp [h1]) (by simp [h2]) h
@[simp] theorem opAdd_str (h : x.length + y.length ≤ lim) : opAdd (.str x) (.str y) = some (.str (x ++ y)) := if_pos h
@[simp] theorem opMul_rep (h : 0 ≤ a) (h' : a ≤ 100000) (h2 : xs.length ≤ 10) : opMul (.ls xs) (.int a) = some (.ol (List.replicate a.toNat xs).flatten) := by
  have : xs.length * a.toNat ≤ lim := by
    unfold lim
    have h1 : a.toNat ≤ 100000 := by omega
    exact Nat.le_trans (Nat.mul_le_mul h2 h1) (by decide)
  rw [opMul_ls, if_pos ⟨by omega, by omega, this⟩]
@[simp] theorem cLt_int : cLt (.int a) (.int b) = some (decide (a < b)) := rfl
@[simp] theorem cLe_int : cLe (.int a) (.int b) = some (decide (a ≤ b)) := rfl
@[simp] theorem cGt_int : cGt (.int a) (.int b) = some (decide (b < a)) := rfl
@[simp] theorem cGe_int : cGe (.int a) (.int b) = some (decide (b ≤ a)) := rfl
@[simp] theorem cEq_int : cEq (.int a) (.int b) = some (decide (a = b)) := rfl
@[simp] theorem cEq_str : cEq (.str x) (.str y) = some (decide (x = y)) := rfl
@[simp] theorem cEq_bl : cEq (.bl k) (.bl l) = some (decide (k = l)) := rfl
@[simp] theorem cNe_int : cNe (.int a) (.int b) = some (!decide (a = b)) := rfl
@[simp] theorem cNe_str : cNe (.str x) (.str y) = some (!decide (x = y)) := rfl
@[simp] theorem cNe_bl : cNe (.bl k) (.bl l) = some (!decide (k = l)) := rfl
@[simp] theorem cIsN_non : cIsN .non .non = some true := rfl
@[simp] theorem cIsN_int : cIsN (.int a) .non = some false := rfl
@[simp] theorem cIsN_tp : cIsN (.tp xs) .non = some false := rfl
@[simp] theorem cIsN_ls : cIsN (.ls xs) .non = some false := rfl
@[simp] theorem cIsN_bo : cIsN (.bo xs) .non = some false := rfl
@[simp] theorem cIsN_ob : cIsN (.ob c xs) .non = some false := rfl
@[simp] theorem cIsN_str : cIsN (.str x) .non = some false := rfl
@[simp] theorem cNotN_non : cNotN .non .non = some false := rfl
@[simp] theorem cNotN_int : cNotN (.int a) .non = some true := rfl
@[simp] theorem cNotN_tp : cNotN (.tp xs) .non = some true := rfl
@[simp] theorem cNotN_ls : cNotN (.ls xs) .non = some true := rfl
@[simp] theorem cNotN_ob : cNotN (.ob c xs) .non = some true := rfl
@[simp] theorem caMax2_int : caMax2 [.int a, .int b] = some (.int (max a b)) := by
  rw [caMax2_eq, show (if b > a then b else a) = max a b by split <;> omega]
@[simp] theorem caMin2_int : caMin2 [.int a, .int b] = some (.int (min a b)) := by
  rw [caMin2_eq, show (if b < a then b else a) = min a b by split <;> omega]
@[simp] theorem caAbs_int : caAbs [.int a] = some (.int (a.natAbs : Int)) := by
  rw [caAbs_eq, show (if a < 0 then -a else a) = (a.natAbs : Int) by split <;> omega]
@[simp] theorem caInt_int : caInt [.int a] = some (.int a) := rfl
@[simp] theorem caInt_bl : caInt [.bl k] = some (.int (if k = true then 1 else 0)) := rfl
@[simp] theorem caList_ls : caList [.ls xs] = some (.ol xs) := rfl
@[simp] theorem caList_sc : caList [.sc xs] = some (.ol xs) := rfl
@[simp] theorem caList_tp : caList [.tp xs] = some (.ol xs) := rfl
@[simp] theorem caList_bo (h : shd xs = true) : caList [.bo xs] = some (.ol xs) := by simp [caList, h]
@[simp] theorem caTuple_ls : caTuple [.ls xs] = some (.tp xs) := rfl
@[simp] theorem caTuple_sc : caTuple [.sc xs] = some (.tp xs) := rfl
@[simp] theorem caTuple_tp : caTuple [.tp xs] = some (.tp xs) := rfl
@[simp] theorem caTuple_bo (h : shd xs = true) : caTuple [.bo xs] = some (.tp xs) := by simp [caTuple, h]
variable {ns : List Int}
@[simp] theorem caSum_ls : caSum [.ls (ns.map D.int)] = some (.int ns.sum) := by simp [caSum]
@[simp] theorem caSum_bo : caSum [.bo (ns.map D.int)] = some (.int ns.sum) := by simp [caSum]
@[simp] theorem caSum_sc : caSum [.sc (ns.map D.int)] = some (.int ns.sum) := by simp [caSum]
@[simp] theorem caSorted_ls : caSorted [.ls (ns.map D.int)] = some (.ol ((srt ns).map D.int)) := by simp [caSorted]
@[simp] theorem caSorted_bo : caSorted [.bo (ns.map D.int)] = some (.ol ((srt ns).map D.int)) := by simp [caSorted]
@[simp] theorem opSl_tp {lo hi : Option Int} : opSl (.tp xs) lo hi = some (.tp (cut xs lo hi)) := rfl
@[simp] theorem opSl_ls {lo hi : Option Int} : opSl (.ls xs) lo hi = some (.ol (cut xs lo hi)) := rfl
@[simp] theorem opSl_sc {lo hi : Option Int} : opSl (.sc xs) lo hi = some (.ol (cut xs lo hi)) := rfl
@[simp] theorem opSl_bo {lo hi : Option Int} (h : shd xs = true) : opSl (.bo xs) lo hi = some (.ol (cut xs lo hi)) := by simp [opSl, h]
@[simp] theorem cut_map {α β : Type} (f : α → β) (l : List α) (lo hi : Option Int) : cut (l.map f) lo hi = (cut l lo hi).map f := by
  unfold cut
  simp
@[simp] theorem tru_bl : tru (.bl k) = some k := rfl
@[simp] theorem tru_int : tru (.int a) = some (a != 0) := rfl
@[simp] theorem tru_non : tru .non = some false := rfl
@[simp] theorem tru_ls : tru (.ls xs) = some (!xs.isEmpty) := rfl
@[simp] theorem tru_bo : tru (.bo xs) = some (!xs.isEmpty) := rfl
@[simp] theorem tru_tp : tru (.tp xs) = some (!xs.isEmpty) := rfl
@[simp] theorem cIn_ls : cIn (.int a) (.ls (ns.map D.int)) = some (decide (a ∈ ns)) := by simp [cIn]
@[simp] theorem cIn_tp : cIn (.int a) (.tp (ns.map D.int)) = some (decide (a ∈ ns)) := by simp [cIn]
@[simp] theorem cIn_bo : cIn (.int a) (.bo (ns.map D.int)) = some (decide (a ∈ ns)) := by simp [cIn]
@[simp] theorem cNIn_ls : cNIn (.int a) (.ls (ns.map D.int)) = some (!decide (a ∈ ns)) := by simp [cNIn]
@[simp] theorem cNIn_tp : cNIn (.int a) (.tp (ns.map D.int)) = some (!decide (a ∈ ns)) := by simp [cNIn]
@[simp] theorem cNIn_bo : cNIn (.int a) (.bo (ns.map D.int)) = some (!decide (a ∈ ns)) := by simp [cNIn]
@[simp] theorem opFld_ob : opFld c n (.ob c xs) = xs[n]? := if_pos rfl
@[simp] theorem opFld_bb : opFld c n (.bb c xs) = xs[n]? := if_pos rfl
@[simp] theorem calD_shd {g : List D → Res D} (h : shd xs = true) : calD g xs = g xs := if_pos h
end
end DL

namespace DL
open PySem L2
theorem for_rngN {s : Nat} {b : Env → Out} (P : Nat → Env → Prop) {lo : Int} {n : Nat} {g : Env} (h0 : P 0 g)
    (hs : ∀ (i : Nat) g, i < n → P i g → ∃ g', (b (g.set s (.int (lo + i))) = .nx g' ∨ b (g.set s (.int (lo + i))) = .ct g') ∧ P (i + 1) g') : ∃ g', forL (gtN s) b (rng lo n) g = .nx g' ∧ P n g' :=
  for_rng P h0 fun i g hi h => by
    obtain ⟨g', e, h'⟩ := hs i g hi h
    exact ⟨_, g', rfl, e, h'⟩
theorem lcL_map {α : Type} {tg : D → Env → Option Env} {te : Env → Res D} {g : Env} {f h : α → D} : ∀ (l : List α), (∀ a ∈ l, ∃ g1, tg (f a) g = some g1 ∧ (te g1).bind kp = .ok (h a)) → lcL tg tYesG te g (l.map f) = .ok (l.map h)
  | [], _ => rfl
  | a :: l, k => by
    obtain ⟨g1, e1, e2⟩ := k a (by simp)
    rw [List.map_cons, lcL_cons, e1]
    simp only [tYesG_, Res.bind_ok, if_true]
    rw [e2, lcL_map l fun b hb => k b (by simp [hb])]
    rfl
theorem lcL_mapN {α : Type} {s : Nat} {te : Env → Res D} {g : Env} {f h : α → D} (l : List α) (k : ∀ a ∈ l, (te (g.set s (f a))).bind kp = .ok (h a)) : lcL (gtN s) tYesG te g (l.map f) = .ok (l.map h) :=
  lcL_map l fun a ha => ⟨_, rfl, k a ha⟩
theorem map_int {α : Type} (h : α → Int) (l : List α) : l.map (fun a => D.int (h a)) = (l.map h).map D.int := by simp
theorem cut_len {α : Type} (l : List α) (lo hi : Option Int) : (cut l lo hi).length ≤ l.length := by
  unfold cut; rw [List.length_take, List.length_drop]; omega
theorem cut_from {α : Type} (l : List α) (i : Int) (h : 0 ≤ i) : cut l (some i) none = l.drop i.toNat := by
  unfold cut
  obtain ⟨n, rfl⟩ := Int.eq_ofNat_of_zero_le h
  rw [HT.sIx_nat, HT.sIx_none]
  simp only [Int.toNat_natCast]
  by_cases hn : n ≤ l.length
  · rw [Nat.min_eq_left hn, List.take_of_length_le (by simp)]
  · rw [Nat.min_eq_right (by omega), List.drop_length, List.drop_eq_nil_of_le (by omega)]; simp
theorem cut_to {α : Type} (l : List α) (i : Int) (h : 0 ≤ i) : cut l none (some i) = l.take i.toNat := by
  unfold cut
  obtain ⟨n, rfl⟩ := Int.eq_ofNat_of_zero_le h
  rw [HT.sIx_nat, HT.sIx_none]
  simp only [Int.toNat_natCast, List.drop_zero, Nat.sub_zero]
  by_cases hn : n ≤ l.length
  · rw [Nat.min_eq_left hn]
  · rw [Nat.min_eq_right (by omega), List.take_of_length_le (Nat.le_refl _), List.take_of_length_le (by omega)]
theorem rng_map (lo : Int) (n : Nat) : rng lo n = ((List.range n).map fun i : Nat => lo + (i : Int)).map D.int := by unfold rng; simp
theorem lim_eq : lim = 1000000 := rfl
@[simp] theorem lim_0 : 0 ≤ lim := by decide
@[simp] theorem lim_1 : 1 ≤ lim := by decide
@[simp] theorem lim_2 : 2 ≤ lim := by decide
@[simp] theorem lim_3 : 3 ≤ lim := by decide
@[simp] theorem lim_4 : 4 ≤ lim := by decide
@[simp] theorem lim_5 : 5 ≤ lim := by decide
@[simp] theorem lim_6 : 6 ≤ lim := by decide
@[simp] theorem lim_7 : 7 ≤ lim := by decide
@[simp] theorem lim_8 : 8 ≤ lim := by decide
@[simp] theorem lim_9 : 9 ≤ lim := by decide
@[simp] theorem lim_10 : 10 ≤ lim := by decide
@[simp] theorem lim_11 : 11 ≤ lim := by decide
@[simp] theorem lim_12 : 12 ≤ lim := by decide
@[simp] theorem lim_13 : 13 ≤ lim := by decide
@[simp] theorem lim_14 : 14 ≤ lim := by decide
@[simp] theorem lim_15 : 15 ≤ lim := by decide
@[simp] theorem lim_16 : 16 ≤ lim := by decide
@[simp] theorem lim_17 : 17 ≤ lim := by decide
@[simp] theorem lim_18 : 18 ≤ lim := by decide
@[simp] theorem lim_19 : 19 ≤ lim := by decide
@[simp] theorem lim_20 : 20 ≤ lim := by decide
end DL

namespace DL
open PySem L2
noncomputable def mirI (f : Env → Out) (c n : Nat) : List D → Res (List D) := fun ds => by
  classical exact if h : ∃ r, ∀ x, runI f c n x ds = r then h.choose else .bad
theorem mirI_eq {f : Env → Out} {c n : Nat} {ds : List D} {r : Res (List D)} (h : ∀ x, runI f c n x ds = r) : mirI f c n ds = r := by
  unfold mirI
  rw [dif_pos ⟨r, h⟩]
  have := (Exists.choose_spec (⟨r, h⟩ : ∃ r, ∀ x, runI f c n x ds = r)) 0
  rw [← this, h 0]
theorem mirI_ok {f : Env → Out} {c n k : Nat} : ∀ ds x, ds.length = k → mirI f c n ds = .bad ∨ runI f c n x ds = mirI f c n ds := by
  intro ds x _
  by_cases h : ∃ r, ∀ x, runI f c n x ds = r
  · right
    obtain ⟨r, h⟩ := h
    rw [mirI_eq h, h x]
  · left
    unfold mirI
    rw [dif_neg h]
end DL

namespace DL
open PySem L2
def Enc {α : Type} [DecidableEq α] (f : α → D) (n : Nat) : Prop := ∃ p : α → PyData, (∀ a, toPy (f a) = some (p a) ∧ (p a).canLay0 = true ∧ (p a).depth ≤ n) ∧ ∀ a b, PyData.eqv (p a) (p b) = decide (a = b)
section
variable {α : Type} [DecidableEq α] {f : α → D} {n : Nat}
theorem toPys_map {f : α → D} {p : α → PyData} (h : ∀ a, toPy (f a) = some (p a)) : ∀ l : List α, toPys (l.map f) = some (l.map p)
  | [] => by simp [toPys]
  | a :: l => by simp [toPys, h a, toPys_map h l]
theorem eqvAll_map {p : α → PyData} (h : ∀ a b, PyData.eqv (p a) (p b) = decide (a = b)) : ∀ l m : List α, PyData.eqvAll (l.map p) (m.map p) = decide (l = m)
  | [], [] => by simp [PyData.eqvAll]
  | [], _ :: _ => by simp [PyData.eqvAll]
  | _ :: _, [] => by simp [PyData.eqvAll]
  | a :: l, b :: m => by
    simp only [List.map_cons, PyData.eqvAll, h a b, eqvAll_map h l m]
    by_cases e : a = b <;> by_cases e' : l = m <;> simp [e, e']
theorem lay_map {p : α → PyData} (h : ∀ a, (p a).canLay0 = true) : ∀ l : List α, PyData.canLayAll0 (l.map p) = true
  | [] => by simp [PyData.canLayAll0]
  | a :: l => by simp [PyData.canLayAll0, h a, lay_map h l]
theorem dep_map {p : α → PyData} (h : ∀ a, (p a).depth ≤ n) : ∀ l : List α, PyData.depthAll (l.map p) ≤ n
  | [] => by simp [PyData.depthAll]
  | a :: l => by
    simp only [List.map_cons, PyData.depthAll]
    exact Nat.max_le.mpr ⟨h a, dep_map h l⟩
theorem enc_int : Enc D.int 0 := ⟨.int, fun a => ⟨by simp [toPy], by simp [PyData.canLay0], by simp [PyData.depth]⟩, fun a b => by simp only [PyData.eqv]; by_cases e : a = b <;> simp [e]⟩
theorem enc_bl : Enc D.bl 0 := ⟨.bool, fun a => ⟨by simp [toPy], by simp [PyData.canLay0], by simp [PyData.depth]⟩, fun a b => by simp only [PyData.eqv]; by_cases e : a = b <;> simp [e]⟩
theorem Enc.ls (h : Enc f n) : Enc (fun l : List α => D.ls (l.map f)) (n + 1) := by
  obtain ⟨p, h1, h2⟩ := h
  refine ⟨fun l => .list (l.map p), fun l => ⟨by simp [toPy, toPys_map fun a => (h1 a).1], ?_, ?_⟩, fun l m => ?_⟩
  · simp [PyData.canLay0, lay_map fun a => (h1 a).2.1]
  · have := dep_map (fun a => (h1 a).2.2) l
    simp only [PyData.depth]; omega
  · simp only [PyData.eqv]; exact eqvAll_map h2 l m
theorem Enc.tp (h : Enc f n) : Enc (fun l : List α => D.tp (l.map f)) (n + 1) := by
  obtain ⟨p, h1, h2⟩ := h
  refine ⟨fun l => .tuple (l.map p), fun l => ⟨by simp [toPy, toPys_map fun a => (h1 a).1], ?_, ?_⟩, fun l m => ?_⟩
  · simp [PyData.canLay0, lay_map fun a => (h1 a).2.1]
  · have := dep_map (fun a => (h1 a).2.2) l
    simp only [PyData.depth]; omega
  · simp only [PyData.eqv]; exact eqvAll_map h2 l m
theorem Enc.pair {β : Type} [DecidableEq β] {g : β → D} (h : Enc f n) (h' : Enc g n) : Enc (fun x : α × β => D.tp [f x.1, g x.2]) (n + 1) := by
  obtain ⟨p, h1, h2⟩ := h
  obtain ⟨q, h3, h4⟩ := h'
  refine ⟨fun x => .tuple [p x.1, q x.2], fun x => ⟨by simp [toPy, toPys, h1 x.1, h3 x.2], ?_, ?_⟩, fun x y => ?_⟩
  · simp [PyData.canLay0, PyData.canLayAll0, h1 x.1, h3 x.2]
  · have a := (h1 x.1).2.2
    have b := (h3 x.2).2.2
    simp only [PyData.depth, PyData.depthAll]; omega
  · simp only [PyData.eqv, PyData.eqvAll, h2, h4]
    obtain ⟨x1, x2⟩ := x
    obtain ⟨y1, y2⟩ := y
    by_cases e : x1 = y1 <;> by_cases e' : x2 = y2 <;> simp [e, e']
theorem Enc.eq (h : Enc f n) (hn : n ≤ 64) (a b : α) : pyEq (f a) (f b) = some (decide (a = b)) := by
  obtain ⟨p, h1, h2⟩ := h
  have s : ∀ a, SeqAt.shaped (p a) = true := fun a => by
    have := (h1 a).2.2
    simp only [SeqAt.shaped, (h1 a).2.1, Bool.true_and, decide_eq_true_eq]; omega
  simp [pyEq, (h1 a).1, (h1 b).1, s, h2]
end
theorem toPy_bo {xs : List D} : toPy (.bo xs) = toPy (.ls xs) := by simp [toPy]
theorem pyEq_bl {xs ys : List D} : pyEq (.bo xs) (.ls ys) = pyEq (.ls xs) (.ls ys) := by simp [pyEq, toPy_bo]
theorem pyEq_lb {xs ys : List D} : pyEq (.ls xs) (.bo ys) = pyEq (.ls xs) (.ls ys) := by simp [pyEq, toPy_bo]
theorem pyEq_bb {xs ys : List D} : pyEq (.bo xs) (.bo ys) = pyEq (.ls xs) (.ls ys) := by simp [pyEq, toPy_bo]
@[simp] theorem cEq_ll {xs ys : List D} : cEq (.ls xs) (.ls ys) = pyEq (.ls xs) (.ls ys) := rfl
@[simp] theorem cEq_lbo {xs ys : List D} : cEq (.ls xs) (.bo ys) = pyEq (.ls xs) (.ls ys) := pyEq_lb
@[simp] theorem cEq_bol {xs ys : List D} : cEq (.bo xs) (.ls ys) = pyEq (.ls xs) (.ls ys) := pyEq_bl
@[simp] theorem cEq_bobo {xs ys : List D} : cEq (.bo xs) (.bo ys) = pyEq (.ls xs) (.ls ys) := pyEq_bb
@[simp] theorem cEq_tt {xs ys : List D} : cEq (.tp xs) (.tp ys) = pyEq (.tp xs) (.tp ys) := rfl
@[simp] theorem cNe_eq {a b : D} : cNe a b = (cEq a b).map (!·) := rfl
@[simp] theorem pyEq_lsI {xs ys : List Int} : pyEq (.ls (xs.map D.int)) (.ls (ys.map D.int)) = some (decide (xs = ys)) := enc_int.ls.eq (by omega) xs ys
@[simp] theorem pyEq_tpI {xs ys : List Int} : pyEq (.tp (xs.map D.int)) (.tp (ys.map D.int)) = some (decide (xs = ys)) := enc_int.tp.eq (by omega) xs ys
theorem enc_P : Enc dP 1 := enc_int.pair enc_int
@[simp] theorem pyEq_lsP {xs ys : List (Int × Int)} : pyEq (.ls (xs.map dP)) (.ls (ys.map dP)) = some (decide (xs = ys)) := enc_P.ls.eq (by omega) xs ys
@[simp] theorem pyEq_tpP {xs ys : List (Int × Int)} : pyEq (.tp (xs.map dP)) (.tp (ys.map dP)) = some (decide (xs = ys)) := enc_P.tp.eq (by omega) xs ys
@[simp] theorem pyEq_lsB {xs ys : List Bool} : pyEq (.ls (xs.map D.bl)) (.ls (ys.map D.bl)) = some (decide (xs = ys)) := enc_bl.ls.eq (by omega) xs ys
@[simp] theorem pyEq_tpB {xs ys : List Bool} : pyEq (.tp (xs.map D.bl)) (.tp (ys.map D.bl)) = some (decide (xs = ys)) := enc_bl.tp.eq (by omega) xs ys
@[simp] theorem pyEq_bbb {a b c d e f : Bool} : pyEq (.ls [.bl a, .bl b, .bl c]) (.ls [.bl d, .bl e, .bl f]) = some (decide ([a, b, c] = [d, e, f])) := pyEq_lsB (xs := [a, b, c]) (ys := [d, e, f])
@[simp] theorem pyEq_bb2 {a b d e : Bool} : pyEq (.ls [.bl a, .bl b]) (.ls [.bl d, .bl e]) = some (decide ([a, b] = [d, e])) := pyEq_lsB (xs := [a, b]) (ys := [d, e])
@[simp] theorem pyEq_nn : pyEq (.ls []) (.ls []) = some true := pyEq_lsI (xs := []) (ys := [])
@[simp] theorem pyEq_bn {a b c : Bool} : pyEq (.ls [.bl a, .bl b, .bl c]) (.ls []) = some false := by rw [show (.ls [.bl a, .bl b, .bl c] : D) = .ls ([a, b, c].map D.bl) from rfl, show (.ls [] : D) = .ls (([] : List Bool).map D.bl) from rfl, pyEq_lsB]; rfl
@[simp] theorem pyEq_nb {a b c : Bool} : pyEq (.ls []) (.ls [.bl a, .bl b, .bl c]) = some false := by rw [show (.ls [.bl a, .bl b, .bl c] : D) = .ls ([a, b, c].map D.bl) from rfl, show (.ls [] : D) = .ls (([] : List Bool).map D.bl) from rfl, pyEq_lsB]; rfl
end DL

namespace DL
open PySem L2
section
variable {xs ys : List D}
@[simp] theorem nods_append : nods (xs ++ ys) = (nods xs && nods ys) := by induction xs <;> simp [*, Bool.and_assoc]
@[simp] theorem frzs_append : frzs (xs ++ ys) = frzs xs ++ frzs ys := by induction xs <;> simp [*]
@[simp] theorem brws_append : brws (xs ++ ys) = brws xs ++ brws ys := by induction xs <;> simp [*]
@[simp] theorem plns_append : plns (xs ++ ys) = plns xs ++ plns ys := by induction xs <;> simp [*]
@[simp] theorem shd_append : shd (xs ++ ys) = (shd xs && shd ys) := by induction xs <;> simp [*, Bool.and_assoc]
@[simp] theorem ploks_append : ploks (xs ++ ys) = (ploks xs && ploks ys) := by induction xs <;> simp [*, Bool.and_assoc]
@[simp] theorem flats_append : flats (xs ++ ys) = (flats xs && flats ys) := by induction xs <;> simp [*, Bool.and_assoc]
end
theorem rng_succ (lo : Int) (n : Nat) : rng lo (n + 1) = .int lo :: rng (lo + 1) n := by
  unfold rng
  rw [List.range_succ_eq_map, List.map_cons, List.map_map]
  congr 1
  · simp
  · refine List.map_congr_left fun a _ => ?_
    simp; omega
theorem rng_zero (lo : Int) : rng lo 0 = [] := rfl
end DL

namespace DL
open PySem PySem.Spec PyProof.Rows L2
section
variable {P : Program} {w : World} {A : Around} {E : Value → Shared → Prop} {s : Shared}
set_option maxHeartbeats 3200000 in
theorem call_set_listR {l : Addr} {items : Array Value} (ns : List Int) {Q : Value → Shared → Prop} (hh : A.handled = none) (hl : s.heap.IsList l items) (hit : IntsAre items.toList ns) (hb : ns.length + 1 < scanBound)
    (h : ∀ (h' : Heap) (tk c : Nat), SetR w h' s.heap.objs.size (fun j => decide (j ∈ ns)) c → c ≤ ns.length → (∀ b o, s.heap.get? b = some o → h'.get? b = some o) → Q (.ref s.heap.objs.size) { s with heap := h', toks := tk }) :
    wpAny (model P w) A (call (.type "set") [.ref l]) Q E s := by
  have hisz : items.size = ns.length := by
    have q := IntsAre.length hit
    rwa [Array.length_toList] at q
  obtain ⟨c, tl, hmro⟩ := F.called_set.mro
  have hmade := F.called_set.made
  have hsub := F.called_set.sub
  refine wpAny_call (codeAny_of_tree (wpAny_pure ⟨Code.quiet_builtin _ (by decide +kernel), codeAny_builtin F.entry_type_call ?_⟩))
  rw [Around.under_plain (weight_type_call_type "set" [.ref l] []) rfl]
  have h1 := F.called_set.notType
  have h2 := F.called_set.canCreate
  have hct := F.typeCall_set_1 (.ref l)
  repeat (any_goals (first | assumption | wp_step))
  generalize hO : ({ cls := .type "set", dict := none, data := .set #[] 0 (.fresh 0 0 (!w.params.followText "set-order")) } : Obj) = O
  refine codeAny_mono (code_set_led1 (.ref l) (E := E) (Q₁ := fun obj s₁ => obj = .ref s.heap.objs.size ∧ s₁ = { s with heap := s.heap.push O }) ⟨rfl, by rw [hO]⟩) fun r s₁ hr => ?_
  cases r with
  | error e => exact hr
  | ok fl =>
    cases fl with
    | ret obj =>
      obtain ⟨rfl, rfl⟩ := hr
      have hS : (s.heap.push O).get? s.heap.objs.size = some O := Heap.get?_push_size _ (by rw [← hO]; rfl)
      have hT : Shared.TypeIs { s with heap := s.heap.push O } (.ref s.heap.objs.size) "set" := ⟨_, hS, by rw [← hO]⟩
      have hli := F.called_set.init.lookup
      have hbi := F.called_set.init.bind (.ref s.heap.objs.size)
      repeat (any_goals (first | assumption | wp_step))
      refine codeAny_mono (codeAny_call_builtin (R := wants (fun r s₂ => r = .none ∧ ∃ h' tk c, s₂ = { s with heap := h', toks := tk } ∧ SetR w h' s.heap.objs.size (fun j => decide (j ∈ ns)) c ∧ c ≤ ns.length ∧
          (∀ b o, s.heap.get? b = some o → h'.get? b = some o)) E) F.called_set.init.plain F.entry_set_init (check_set_init_1 hT ?_)) fun r₂ s₂ hr₂ => ?_
      · have hlS : l < s.heap.objs.size := by
          obtain ⟨o, ho, _⟩ := hl
          exact Heap.lt_size ho
        have hl1 : (s.heap.push O).IsList l items := hl.push _
        obtain ⟨ol, hol', hcl, nl, hdl⟩ := hl1
        obtain ⟨ocls, odict, odata, oslots⟩ := ol
        simp only at hcl hdl
        subst hcl; subst hdl
        have hl2 : (s.heap.push O).IsList l items := ⟨_, hol', rfl, nl, rfl⟩
        have hsls := F.sub_list_set
        have hslf := F.sub_list_frozenset
        have hne : (Value.type "list" == Value.type "dict") = false := by decide
        have hneI : l ≠ (s.heap.push O).objs.size := by rw [Heap.size_push]; exact Nat.ne_of_lt (Nat.lt_succ_of_lt hlS)
        have hSf : s.heap.objs.size ∉ [(s.heap.push O).objs.size, l] := by
          rw [Heap.size_push]; simp only [List.mem_cons, List.not_mem_nil, or_false, not_or]
          exact ⟨Nat.ne_of_lt (Nat.lt_succ_self _), Nat.ne_of_gt hlS⟩
        subst hO
        unfold Builtin.«set.__init__» noKeywords Builtin.Frozenset.updateFrom
        generalize hPI : pyIter = PI
        wp_walk
        subst hPI
        refine wpAny_pyIter_list hl2 ?_
        refine wpAny_bind (wpAny_runValue ?_)
        have hval : ∀ (i : Nat) (v : Value), items[i]? = some v → ∃ k t, ns[i]? = some k ∧ v = .int k t := fun i v hv => by
          have hi : i < ns.length := by rw [← hisz]; exact (Array.getElem?_eq_some_iff.mp hv).1
          obtain ⟨t, e⟩ := PyProof.Rows.IntsAre.int_at hit i v (by rw [Array.getElem?_toList]; exact hv)
          exact ⟨ns[i], t, List.getElem?_eq_getElem hi, by rw [e, List.getD_eq_getElem?_getD, List.getElem?_eq_getElem hi] <;> rfl⟩
        refine set_update_ints ((Walks.list (by simp [hh]) _ l hneI items).toS) s.heap.objs.size hSf ns hisz hb hval (items.size - 0) 0 _ (by omega) (Nat.zero_le _)
          ⟨⟨_, Heap.get?_push_size _ rfl, rfl, rfl⟩, (hl2.push _)⟩ ⟨0, Nat.le_refl 0, setR_new_at (Heap.get?_push_of_some _ hS)⟩ fun s' c' hm hc' hS' => ?_
        obtain ⟨h', g2, d', tk', os'⟩ := s'
        have eg : g2 = s.gens := hm.gens
        have ed : d' = s.drawn := hm.drawn
        have eo : os' = s.os := hm.os
        subst eg; subst ed; subst eo
        refine wpAny_pure ?_
        rw [hisz] at hc'
        refine wpAny_pure ⟨rfl, h', tk', c', rfl, hS', hc', fun b o e => ?_⟩
        have hb0 : b < s.heap.objs.size := Heap.lt_size e
        refine hm.heap b o ?_ (Heap.get?_push_of_some _ (Heap.get?_push_of_some _ e))
        simp only [List.mem_cons, List.not_mem_nil, or_false, not_or, Heap.size_push]
        exact ⟨Nat.ne_of_lt hb0, Nat.ne_of_lt (Nat.lt_succ_of_lt hb0)⟩
      · cases r₂ with
        | error e => exact hr₂
        | ok fl₂ =>
          cases fl₂ with
          | ret r =>
            obtain ⟨rfl, h', tk, c', rfl, hS', hc', hk'⟩ := hr₂
            repeat (any_goals (first | assumption | wp_step))
            exact h _ _ _ hS' hc' hk'
          | _ => exact hr₂.elim
    | _ => exact hr.elim
end
end DL

namespace DL
open PySem PySem.Spec PyProof.Rows L2
section
variable {X : Cx} {cls : Cls} {W : WX} {K : PySem.W.Frag} {F H F' H' : Hp}
theorem rgV_ints (a b : Int) : rgV a b = ((List.range (b - a).toNat).map fun i : Nat => a + (i : Int)).map V.int := by unfold rgV; simp
def eLR1 (fa : Env → Res D) : Env → Res D := fun g => (fa g).bind fun d => match opd d with
  | .int n => if rgOk n ∧ n ≤ 1000000 then .ok (.ol (rng 0 n.toNat)) else .bad
  | _ => .bad
theorem je_lr1 {a : Expr} {p p2 pos q : Pos} {fa : Env → Res D} (c : Cn X W k) (hm : X.mg "list" = none) (hm2 : X.mg "range" = none) (ha : JE X cls W a fa)
    (hg : Gl X "list" := by rfl) (hg2 : Gl X "range" := by rfl) (na : starEach [a] X.env = (false, eval a X.env) :: starEach [] X.env := by rfl)
    (na2 : starEach [.Call (.Name "range" p2) [a] [] q] X.env = (false, eval (.Call (.Name "range" p2) [a] [] q) X.env) :: starEach [] X.env := by rfl) :
    JE X cls W (.Call (.Name "list" p) [.Call (.Name "range" p2) [a] [] q] [] pos) (eLR1 fa) := by
  obtain ⟨ta, pa, da⟩ := ha.ex
  refine ⟨_, pe_listRg c.calm hg hm (prg_1 hg2 hm2 pa na) na2, ?_⟩
  intro σ F H g O Q s st p
  unfold eLR1 at p
  refine da.go s st (fun c e => by rw [e] at p; exact p) (fun e => by rw [e] at p; exact p) fun d e v F1 H1 x1 b1 => ?_
  rw [e] at p
  simp only [Res.bind] at p
  cases eo : opd d with
  | int n =>
    rw [eo] at p b1
    simp only at p
    split at p
    · rename_i hn
      obtain rfl := b1.int
      refine ⟨n, rfl, ⟨by omega, by omega, hn.1.lo, hn.1.hi, by omega⟩, fun q hq => ?_⟩
      · refine p (.ref q) _ _ [q] (x1.trans (Ext.own x1.fh hq)) ((fresh_new hq).mono x1.hh) (.inl ?_)
        rw [rgV_ints, rng_map]
        rw [show (n - 0).toNat = n.toNat by omega]
        exact ow_new x1.fh hq rps_ints.toOws
    · exact p.elim
  | _ => rw [eo] at p; exact p.elim
end
end DL

namespace DL
open PySem PySem.Spec PyProof.Rows L2
section
variable {X : Cx} {cls : Cls} {W : WX} {K : PySem.W.Frag} {F H F' H' : Hp}
def eLR2 (fa fb : Env → Res D) : Env → Res D := fun g => (fa g).bind fun d => (fb g).bind fun e => match opd d, opd e with
  | .int i, .int j => if (rgOk i ∧ rgOk j) ∧ (j - i).toNat ≤ 1000000 then .ok (.ol (rng i (j - i).toNat)) else .bad
  | _, _ => .bad
theorem tyX_sqL {a : Addr} {xs : List V} (h : SqL K H a xs) : TyX K H (.ref a) (.type "list") := by
  rcases h with (h | ⟨o, h⟩) | ⟨o, its, n, h, c, _⟩
  · exact .base (.lst h)
  · exact .base (.frz h)
  · exact .kList h c
theorem tyX_sqT {a : Addr} {xs : List V} (h : SqT K H a xs) : TyX K H (.ref a) (.type "tuple") := by
  rcases h with (h | ⟨o, h⟩) | ⟨o, its, n, h, c, _⟩
  · exact .base (.tup h)
  · exact .fTuple h
  · exact .kTuple h c
def tyD : D → Option String
  | .non => some "NoneType"
  | .bl _ => some "bool"
  | .int _ => some "int"
  | .str _ => some "str"
  | .ls _ => some "list"
  | .bo _ => some "list"
  | .tp _ => some "tuple"
  | _ => none
theorem tyD_ok {v : V} {d : D} {T : String} (s : Same F H) (b : Bo K cls F H v d) (e : tyD d = some T) : TyX K H v (.type T) := by
  cases d with
  | non => cases e; obtain rfl := b.non; exact .base .non
  | bl k => cases e; obtain rfl := b.bl; exact .base (.bl k)
  | int k => cases e; obtain rfl := b.int; exact .base (.int k)
  | str k => cases e; obtain rfl := b.str; exact .base (.str k)
  | ls ys => cases e; obtain ⟨a, vs, rfl, h1, r⟩ := b.sqK s (xs := ys) rfl; exact tyX_sqL h1
  | bo ys => cases e; obtain ⟨a, vs, rfl, h1, r⟩ := b.sqL s (xs := ys) rfl; exact tyX_sqL h1
  | tp ys => cases e; obtain ⟨a, vs, rfl, h1, h2, r⟩ := b.tpv s (xs := ys) rfl; exact tyX_sqT h1
  | _ => cases e
def isTy (U T : String) : Option Bool := if U = T then some true else match U, T with
  | "int", "bool" => some false
  | "tuple", "bool" => some false
  | "list", "bool" => some false
  | "str", "bool" => some false
  | "NoneType", "bool" => some false
  | "bool", "int" => some true
  | "tuple", "int" => some false
  | "list", "int" => some false
  | "str", "int" => some false
  | "NoneType", "int" => some false
  | "tuple", "list" => some false
  | "int", "list" => some false
  | "list", "tuple" => some false
  | "int", "tuple" => some false
  | "NoneType", "tuple" => some false
  | "NoneType", "list" => some false
  | _, _ => none
theorem isTy_ok {U T : String} {b : Bool} (e : isTy U T = some b) : PySem.W.kitOne K (.type U) (.type T) = some b := by
  unfold isTy at e
  split at e
  · rename_i h
    subst h
    cases e
    unfold PySem.W.kitOne; rw [if_pos (by simp)]
  · split at e <;> first | (cases e; rfl) | cases e
def eIsT (T : String) (fa : Env → Res D) : Env → Res D := fun g => (fa g).bind fun d => match tyD (opd d) with
  | some U => match isTy U T with
    | some b => .ok (.bl b)
    | none => .bad
  | none => .bad
theorem je_isT {a : Expr} {T : String} {y : Str} {p p2 pos : Pos} {fa : Env → Res D} (hm : X.mg "isinstance" = none) (hm2 : X.mg y = none) (hv : bootBuiltins y = some (.type T)) (ha : JE X cls W a fa)
    (hg : Gl X "isinstance" := by rfl) (hg2 : Gl X y := by rfl) (hn : y ≠ "__name__" := by decide) (hdb : (y == ("__debug__" : Str)) = false := by decide)
    (he : starEach [a, .Name y p2] X.env = (false, eval a X.env) :: starEach [.Name y p2] X.env := by rfl) (he2 : starEach [.Name y p2] X.env = (false, eval (.Name y p2) X.env) :: starEach [] X.env := by rfl)
    (hpl : (backTo pos (starEach [.Name y p2] X.env)).any (·.1) = false := by rfl) :
    JE X cls W (.Call (.Name "isinstance" p) [a, .Name y p2] [] pos) (eIsT T fa) := by
  obtain ⟨ta, pa, da⟩ := ha.ex
  refine ⟨_, pe_callB call_isi hg hm (by rfl) (pa_cons pa (pa_cons (pe_bltn (v := .ty T) hg2 hm2 hv rfl hn hdb) pa_nil he2) he) (by decide) (by decide) he hpl, ?_⟩
  intro σ F H g O Q s st p
  unfold eIsT at p
  refine da.go s st (fun c e => by rw [e] at p; exact p) (fun e => by rw [e] at p; exact p) fun d e v F1 H1 x1 b1 => ?_
  rw [e] at p
  simp only [Res.bind] at p
  cases eo : tyD (opd d) with
  | none => rw [eo] at p; exact p.elim
  | some U =>
    rw [eo] at p
    simp only at p
    split at p
    · rename_i b hU
      exact ⟨v, .ty T, .type U, .type T, b, rfl, .ty T, tyD_ok x1.fh b1 eo, isTy_ok hU, p (.bl b) F1 H1 [] x1 (fun _ h => nomatch h) (.inl (.sh (.bl b)))⟩
    · exact p.elim
end
end DL

namespace DL
open PySem PySem.Spec PyProof.Rows L2
def insU (x : Int) : List Int → List Int
  | [] => [x]
  | y :: l => if x < y then x :: y :: l else if x = y then y :: l else y :: insU x l
def sset : List Int → List Int
  | [] => []
  | x :: l => insU x (sset l)
theorem insU_mem (x k : Int) : ∀ l : List Int, k ∈ insU x l ↔ k = x ∨ k ∈ l
  | [] => by simp [insU]
  | y :: l => by
    unfold insU
    split
    · simp
    · split
      · rename_i h; subst h; simp
      · simp only [List.mem_cons, insU_mem x k l]
        constructor
        · rintro (h | h | h) <;> simp [h]
        · rintro (h | h | h) <;> simp [h]
theorem insU_rise (x : Int) : ∀ l : List Int, l.Pairwise (· < ·) → (insU x l).Pairwise (· < ·)
  | [], _ => by simp [insU]
  | y :: l, h => by
    obtain ⟨h1, h2⟩ := List.pairwise_cons.mp h
    unfold insU
    split
    · rename_i hx
      exact List.pairwise_cons.mpr ⟨fun k hk => by rcases List.mem_cons.mp hk with rfl | hk; exact hx; exact Int.lt_trans hx (h1 k hk), h⟩
    · split
      · exact h
      · rename_i n1 n2
        refine List.pairwise_cons.mpr ⟨fun k hk => ?_, insU_rise x l h2⟩
        rcases (insU_mem x k l).mp hk with rfl | hk
        · omega
        · exact h1 k hk
theorem sset_mem (k : Int) : ∀ l : List Int, k ∈ sset l ↔ k ∈ l
  | [] => Iff.rfl
  | x :: l => by simp only [sset, insU_mem, sset_mem k l, List.mem_cons]
theorem sset_rise : ∀ l : List Int, (sset l).Pairwise (· < ·)
  | [] => .nil
  | x :: l => insU_rise x _ (sset_rise l)
theorem rise_uniq : ∀ {l m : List Int}, l.Pairwise (· < ·) → m.Pairwise (· < ·) → (∀ k, k ∈ l ↔ k ∈ m) → l = m
  | [], [], _, _, _ => rfl
  | [], y :: m, _, _, h => absurd ((h y).mpr (List.mem_cons_self ..)) (by simp)
  | x :: l, [], _, _, h => absurd ((h x).mp (List.mem_cons_self ..)) (by simp)
  | x :: l, y :: m, a, b, h => by
    obtain ⟨a1, a2⟩ := List.pairwise_cons.mp a
    obtain ⟨b1, b2⟩ := List.pairwise_cons.mp b
    have e : x = y := by
      rcases List.mem_cons.mp ((h x).mp (List.mem_cons_self ..)) with e | e
      · exact e
      · rcases List.mem_cons.mp ((h y).mpr (List.mem_cons_self ..)) with e' | e'
        · exact e'.symm
        · have := a1 y e'; have := b1 x e; omega
    subst e
    congr 1
    refine rise_uniq a2 b2 fun k => ⟨fun hk => ?_, fun hk => ?_⟩
    · rcases List.mem_cons.mp ((h k).mp (List.mem_cons_of_mem _ hk)) with e | e
      · have := a1 k hk; omega
      · exact e
    · rcases List.mem_cons.mp ((h k).mpr (List.mem_cons_of_mem _ hk)) with e | e
      · have := b1 k hk; omega
      · exact e
theorem rise_nodup {l : List Int} (h : l.Pairwise (· < ·)) : l.Nodup := h.imp fun h e => by omega
section
variable {X : Cx} {cls : Cls} {W : WX} {K : PySem.W.Frag} {F H F' H' : Hp}
theorem setR_len {w : World} {h : Heap} {a : Addr} {ns : List Int} {c : Nat} (R : SetR w h a (fun j => decide (j ∈ ns)) c) : c = (sset ns).length := by
  obtain ⟨o, es, ep, t, ho, hex, hd, g, nd, hm, hb, hf, hn, hr, hl⟩ := R
  have p : (es.toList.map keyOf).Perm (sset ns) := (List.perm_ext_iff_of_nodup nd (rise_nodup (sset_rise ns))).mpr fun k => by
    rw [sset_mem]
    have := hm k
    simpa using this.symm
  rw [← p.length_eq, List.length_map, Array.length_toList]
  exact hn.symm
def rSetIL (K : PySem.W.Frag) (w : World) : List V → Hp → VK → Prop := fun vs H Q => ∃ (l : Addr) (ns : List Int), vs = [.ref l] ∧ SqL K H l (ns.map V.int) ∧ ns.length ≤ 4000 ∧ ∀ p, H p = none → Q (.ref p) (upd H p (SetO w p (fun j => decide (j ∈ ns)) (sset ns).length))
theorem cr_setIL (hc : X.calm = true) : CallR X (.type "set") (rSetIL X.K X.w) := by
  intro pins s σ H vs us Q I r h
  obtain ⟨l, ns, rfl, hq, hz, q⟩ := h
  rw [Vals.ref1 r]
  obtain ⟨its, r, pl, _⟩ := I.list hq
  refine call_set_listR ns (I.ok.hd hc) pl.isList (by simpa using r.ints) (by unfold scanBound; omega) fun h' tk c hS hc' hk => ?_
  have e := setR_len hS
  subst e
  exact ⟨.ref s.heap.objs.size, upd H s.heap.objs.size (SetO X.w s.heap.objs.size (fun j => decide (j ∈ ns)) (sset ns).length), I.laid (t' := tk) hk (Nat.le_refl _) (setO_new hS), rfl, q _ (I.hok.fresh (Nat.le_refl _))⟩
def lsI (d : D) : Option (List Int) := match sqL (opd d) with
  | some xs => intsOf xs
  | none => none
theorem lsI_ok {v : V} {d : D} {ns : List Int} (s : Same F H) (b : Bo K cls F H v (opd d)) (e : lsI d = some ns) : ∃ a, v = .ref a ∧ SqL K H a (ns.map V.int) := by
  unfold lsI at e
  cases h1 : sqL (opd d) with
  | none => rw [h1] at e; cases e
  | some xs => rw [h1] at e; exact b.sqI s h1 e
@[simp] theorem lsI_ls (ns : List Int) : lsI (.ls (ns.map D.int)) = some ns := by simp [lsI]
@[simp] theorem lsI_bo (ns : List Int) : lsI (.bo (ns.map D.int)) = some ns := by simp [lsI]
@[simp] theorem lsI_ol (ns : List Int) : lsI (.ol (ns.map D.int)) = some ns := by simp [lsI]
def eLenSet (fa : Env → Res D) : Env → Res D := fun g => (fa g).bind fun d => match lsI d with
  | some ns => if ns.length ≤ 4000 then .ok (.int (sset ns).length) else .bad
  | none => .bad
def eSortedSet (fa : Env → Res D) : Env → Res D := fun g => (fa g).bind fun d => match lsI d with
  | some ns => if ns.length < 64 then .ok (.ol ((sset ns).map D.int)) else .bad
  | none => .bad
theorem je_sortedset {a : Expr} {p p2 q pos : Pos} {fa : Env → Res D} (c : Cn X W k) (hm : X.mg "sorted" = none) (hm2 : X.mg "set" = none) (ha : JE X cls W a fa) (hg : Gl X "sorted" := by rfl) (hg2 : Gl X "set" := by rfl)
    (na : starEach [a] X.env = (false, eval a X.env) :: starEach [] X.env := by rfl)
    (na2 : starEach [.Call (.Name "set" p2) [a] [] q] X.env = (false, eval (.Call (.Name "set" p2) [a] [] q) X.env) :: starEach [] X.env := by rfl) :
    JE X cls W (.Call (.Name "sorted" p) [.Call (.Name "set" p2) [a] [] q] [] pos) (eSortedSet fa) := by
  obtain ⟨ta, pa, da⟩ := ha.ex
  refine ⟨_, pe_callB (cr_sortedSet c.calm) hg hm (by decide +kernel) (pa_cons (pe_callTy (cr_setIL c.calm) hg2 hm2 (by decide +kernel) (pa_cons pa pa_nil na) (by decide) (by decide) na (by rfl)) pa_nil na2) (by decide) (by decide) na2 (by rfl), ?_⟩
  intro σ F H g O Q s st p
  unfold eSortedSet at p
  refine da.go s st (fun c e => by rw [e] at p; exact p) (fun e => by rw [e] at p; exact p) fun d e v F1 H1 x1 b1 => ?_
  rw [e] at p
  simp only [Res.bind] at p
  cases eo : lsI d with
  | none => rw [eo] at p; exact p.elim
  | some ns =>
    rw [eo] at p
    simp only at p
    split at p
    · rename_i hz
      obtain ⟨l, rfl, h⟩ := lsI_ok x1.fh b1 eo
      have hlen : (sset ns).length ≤ ns.length := by
        have : ∀ l : List Int, (sset l).length ≤ l.length := fun l => by
          induction l with
          | nil => exact Nat.le_refl _
          | cons x l ih =>
            have : ∀ m : List Int, (insU x m).length ≤ m.length + 1 := fun m => by
              induction m with
              | nil => exact Nat.le_refl _
              | cons y m ih => unfold insU; split; simp; split; simp; simp; omega
            have := this (sset l)
            simp only [sset, List.length_cons]; omega
        exact this ns
      refine ⟨l, ns, rfl, h, by omega, fun p1 hp1 => ⟨p1, _, _, rfl, upd_same, by omega, fun ns' q pw hm' _ hq => ?_⟩⟩
      obtain rfl : ns' = sset ns := rise_uniq pw (sset_rise ns) fun k => by rw [hm' k, sset_mem]; simp
      have s1 : Same F1 (upd H1 p1 (SetO X.w p1 (fun j => decide (j ∈ ns)) (sset ns).length)) := x1.fh.trans (upd_same' hp1)
      have E1 := Ext.own (o := SetO X.w p1 (fun j => decide (j ∈ ns)) (sset ns).length) x1.fh hp1
      exact p (.ref q) _ _ [q] ((x1.trans E1).trans (Ext.own s1 hq)) ((fresh_new hq).mono (x1.trans E1).hh) (.inl (ow_new s1 hq rps_ints.toOws))
    · exact p.elim
end
end DL
namespace DL
@[simp] theorem eLR1_ (fa : Env → Res D) (g : Env) : eLR1 fa g = (fa g).bind fun d => match opd d with
  | .int n => if rgOk n ∧ n ≤ 1000000 then .ok (.ol (rng 0 n.toNat)) else .bad
  | _ => .bad := rfl
@[simp] theorem eLR2_ (fa fb : Env → Res D) (g : Env) : eLR2 fa fb g = (fa g).bind fun d => (fb g).bind fun e => match opd d, opd e with
  | .int i, .int j => if (rgOk i ∧ rgOk j) ∧ (j - i).toNat ≤ 1000000 then .ok (.ol (rng i (j - i).toNat)) else .bad
  | _, _ => .bad := rfl
@[simp] theorem eIsT_ (T : String) (fa : Env → Res D) (g : Env) : eIsT T fa g = (fa g).bind fun d => match tyD (opd d) with
  | some U => match isTy U T with
    | some b => .ok (.bl b)
    | none => .bad
  | none => .bad := rfl
@[simp] theorem isTy_same (T : String) : isTy T T = some true := if_pos rfl
@[simp] theorem isTy_int_bool : isTy "int" "bool" = some false := by decide +kernel
@[simp] theorem isTy_tuple_bool : isTy "tuple" "bool" = some false := by decide +kernel
@[simp] theorem isTy_list_bool : isTy "list" "bool" = some false := by decide +kernel
@[simp] theorem isTy_str_bool : isTy "str" "bool" = some false := by decide +kernel
@[simp] theorem isTy_NoneType_bool : isTy "NoneType" "bool" = some false := by decide +kernel
@[simp] theorem isTy_bool_int : isTy "bool" "int" = some true := by decide +kernel
@[simp] theorem isTy_tuple_int : isTy "tuple" "int" = some false := by decide +kernel
@[simp] theorem isTy_list_int : isTy "list" "int" = some false := by decide +kernel
@[simp] theorem isTy_str_int : isTy "str" "int" = some false := by decide +kernel
@[simp] theorem isTy_NoneType_int : isTy "NoneType" "int" = some false := by decide +kernel
@[simp] theorem isTy_tuple_list : isTy "tuple" "list" = some false := by decide +kernel
@[simp] theorem isTy_int_list : isTy "int" "list" = some false := by decide +kernel
@[simp] theorem isTy_list_tuple : isTy "list" "tuple" = some false := by decide +kernel
@[simp] theorem isTy_int_tuple : isTy "int" "tuple" = some false := by decide +kernel
@[simp] theorem isTy_NoneType_tuple : isTy "NoneType" "tuple" = some false := by decide +kernel
@[simp] theorem isTy_NoneType_list : isTy "NoneType" "list" = some false := by decide +kernel
@[simp] theorem eLenSet_ (fa : Env → Res D) (g : Env) : eLenSet fa g = (fa g).bind fun d => match lsI d with
  | some ns => if ns.length ≤ 4000 then .ok (.int (sset ns).length) else .bad
  | none => .bad := rfl
@[simp] theorem eSortedSet_ (fa : Env → Res D) (g : Env) : eSortedSet fa g = (fa g).bind fun d => match lsI d with
  | some ns => if ns.length < 64 then .ok (.ol ((sset ns).map D.int)) else .bad
  | none => .bad := rfl
@[simp] theorem tyD_non : tyD .non = some "NoneType" := rfl
@[simp] theorem tyD_bl {b} : tyD (.bl b) = some "bool" := rfl
@[simp] theorem tyD_int {b} : tyD (.int b) = some "int" := rfl
@[simp] theorem tyD_str {b} : tyD (.str b) = some "str" := rfl
@[simp] theorem tyD_ls {b} : tyD (.ls b) = some "list" := rfl
@[simp] theorem tyD_bo {b} : tyD (.bo b) = some "list" := rfl
@[simp] theorem tyD_tp {b} : tyD (.tp b) = some "tuple" := rfl
def iota (n : Nat) : List Int := (List.range n).map fun i : Nat => (i : Int)
theorem rng_iota (n : Nat) : rng 0 n = (iota n).map D.int := by rw [rng_map]; unfold iota; simp
@[simp] theorem iota_len (n : Nat) : (iota n).length = n := by simp [iota]
end DL

namespace DL
open PySem PySem.Spec PyProof.Rows L2
section
variable {P : Program} {w : World} {A : Around} {E : Value → Shared → Prop} {s : Shared}
end
end DL
namespace SrtO
open PySem PyProof.Rows Srt
section
variable {prog : Program} {w : World} {A : Around} {E : Value → Shared → Prop} {s : Shared}
end
end SrtO
namespace DL
open PySem PySem.Spec PyProof.Rows L2
section
variable {X : Cx} {cls : Cls} {K : PySem.W.Frag}
def caSorted2 : List D → Option D
  | [.tp xs] => (intsOf xs).map fun ns => .ol ((srt ns).map D.int)
  | ds => caSorted ds
@[simp] theorem caSorted2_tp (ns : List Int) : caSorted2 [.tp (ns.map D.int)] = some (.ol ((srt ns).map D.int)) := by simp [caSorted2]
@[simp] theorem caSorted2_ls (ns : List Int) : caSorted2 [.ls (ns.map D.int)] = some (.ol ((srt ns).map D.int)) := by simp [caSorted2]
@[simp] theorem caSorted2_bo (ns : List Int) : caSorted2 [.bo (ns.map D.int)] = some (.ol ((srt ns).map D.int)) := by simp [caSorted2]
end
end DL

set_option maxHeartbeats 1000000
namespace RT
open PySem PySem.Spec PyProof.Rows
section
variable {prog : Program} {w : World} {A : Around} {E : Value → Shared → Prop} {s : Shared}
end
end RT

namespace DL
open PySem PySem.Spec PyProof.Rows L2
section
variable {X : Cx} {cls : Cls} {W : WX} {K : PySem.W.Frag}
def eLRev (fa : Env → Res D) : Env → Res D := fun g => (fa g).bind fun d => match lsv (opd d) with
  | some xs => .ok (.ol xs.reverse)
  | none => .bad
@[simp] theorem eLRev_ (fa : Env → Res D) (g : Env) : eLRev fa g = (fa g).bind fun d => match lsv (opd d) with
  | some xs => .ok (.ol xs.reverse)
  | none => .bad := rfl
end
end DL

namespace DL
open PySem L2
section
variable {K : PySem.W.Frag} {cls : Cls} {W : WX} {X : Cx} {F H F' H' F1 H1 : Hp} {O O1 : List Addr} {Q : VK} {σ : St} {a b e : Expr} {es : List Expr} {fa fb fc : Env → Res D} {pos : Pos}
def own1 : D → Bool
  | .ol _ => true
  | .od _ _ => true
  | .oo _ _ _ => true
  | _ => false
@[simp] theorem own1_int {i} : own1 (.int i) = false := rfl
@[simp] theorem own1_tp {i} : own1 (.tp i) = false := rfl
@[simp] theorem own1_ls {i} : own1 (.ls i) = false := rfl
@[simp] theorem own1_bl {i} : own1 (.bl i) = false := rfl
@[simp] theorem own1_str {i} : own1 (.str i) = false := rfl
theorem Ow.unown {v : V} {d : D} (h : Ow K cls F H v d O) (e : own1 d = false) : Rp K cls F v d ∧ O = [] := by
  cases h with
  | sh r => exact ⟨r, rfl⟩
  | ol => cases e
  | od => cases e
  | oo => cases e
theorem Ows.erase : ∀ {vs : List V} {ds : List D} {O : List Addr} {k : Nat} {d : D}, Ows K cls F H vs ds O → ds[k]? = some d → own1 d = false → ∃ v, vs[k]? = some v ∧ Rp K cls F v d ∧ Ows K cls F H (vs.eraseIdx k) (ds.eraseIdx k) O
  | _, _, _, _, _, .nil, e, _ => by simp at e
  | _, _, _, 0, d, .cons (v := v) h r dj eo, e, n => by
    simp at e
    subst e
    obtain ⟨h1, h2⟩ := h.unown n
    subst h2
    subst eo
    exact ⟨v, rfl, h1, by simpa using r⟩
  | _, _, _, k + 1, d, .cons h r dj eo, e, n => by
    obtain ⟨v, h1, h2, h3⟩ := Ows.erase (k := k) r (by simpa using e) n
    exact ⟨v, by simpa using h1, h2, by simpa using Ows.cons h h3 dj eo⟩
def sPop (j i : Nat) (fa : Env → Res D) : Env → Out := fun g => match g[i]? with
  | some (.ol xs) => ((fa g).bind kp).st g fun d => match d with
    | .int z => match ixN xs.length z with
      | some k => match xs[k]? with
        | some y => if own1 y = false ∧ xs.length ≤ lim then .nx ((g.set i (.ol (xs.eraseIdx k))).set j y) else .bad
        | none => .bad
      | none => .bad
    | _ => .bad
  | _ => .bad
@[simp] theorem sPop_ (j i : Nat) (fa : Env → Res D) (g : Env) : sPop j i fa g = match g[i]? with
  | some (.ol xs) => ((fa g).bind kp).st g fun d => match d with
    | .int z => match ixN xs.length z with
      | some k => match xs[k]? with
        | some y => if own1 y = false ∧ xs.length ≤ lim then .nx ((g.set i (.ol (xs.eraseIdx k))).set j y) else .bad
        | none => .bad
      | none => .bad
    | _ => .bad
  | _ => .bad := rfl
theorem Ow.int {v : V} {i : Int} (b : Ow K cls F H v (.int i) O) : v = .int i ∧ O = [] := by cases b with | sh r => cases r; exact ⟨rfl, rfl⟩
def sAppPop (m i : Nat) (fa : Env → Res D) : Env → Out := fun g => match g[m]?, g[i]? with
  | some (.ol ws), some (.ol xs) => ((fa g).bind kp).st g fun d => match d with
    | .int z => match ixN xs.length z with
      | some k => match xs[k]? with
        | some y => if own1 y = false ∧ xs.length ≤ lim ∧ ws.length < lim ∧ m ≠ i then .nx ((g.set i (.ol (xs.eraseIdx k))).set m (.ol (ws ++ [y]))) else .bad
        | none => .bad
      | none => .bad
    | _ => .bad
  | _, _ => .bad
@[simp] theorem sAppPop_ (m i : Nat) (fa : Env → Res D) (g : Env) : sAppPop m i fa g = match g[m]?, g[i]? with
  | some (.ol ws), some (.ol xs) => ((fa g).bind kp).st g fun d => match d with
    | .int z => match ixN xs.length z with
      | some k => match xs[k]? with
        | some y => if own1 y = false ∧ xs.length ≤ lim ∧ ws.length < lim ∧ m ≠ i then .nx ((g.set i (.ol (xs.eraseIdx k))).set m (.ol (ws ++ [y]))) else .bad
        | none => .bad
      | none => .bad
    | _ => .bad
  | _, _ => .bad := rfl
def eIndex (fa fb : Env → Res D) : Env → Res D := fun g => (fa g).bind fun d => match lsI d with
  | some ns => (fb g).bind fun e => match opd e with
    | .int x => if x ∈ ns then .ok (.int (ns.idxOf x : Nat)) else .bad
    | _ => .bad
  | none => .bad
@[simp] theorem eIndex_ (fa fb : Env → Res D) (g : Env) : eIndex fa fb g = (fa g).bind fun d => match lsI d with
  | some ns => (fb g).bind fun e => match opd e with
    | .int x => if x ∈ ns then .ok (.int (ns.idxOf x : Nat)) else .bad
    | _ => .bad
  | none => .bad := rfl
theorem Ows.inner : ∀ {vs : List V} {ds : List D} {O : List Addr} {k : Nat} {ys : List D}, Ows K cls F H vs ds O → ds[k]? = some (.ol ys) → ∃ p us O1, vs[k]? = some (.ref p) ∧ H p = some (.lst us) ∧ F p = none ∧ p ∉ O1 ∧ Ows K cls F H us ys O1 ∧ p ∈ O ∧ (∀ a ∈ O1, a ∈ O) ∧
    ∀ (F' H' : Hp) (ws : List V) (zs : List D) (O2 : List Addr), Ext F H F' H' → Ows K cls F' H' ws zs O2 → p ∉ O2 → (∀ a ∈ O2, a ∈ O1 ∨ H a = none) → ∃ O3, Ows K cls F' (upd H' p (.lst ws)) vs (ds.set k (.ol zs)) O3 ∧ ∀ a ∈ O3, a ∈ O ∨ H a = none
  | _, _, _, _, _, .nil, e => by simp at e
  | _, _, _, 0, ys, .cons (O1 := P1) (O2 := P2) h r dj eo, e => by
    simp at e
    subst e
    subst eo
    cases h with
    | sh r => cases r
    | @ol p us _ O1 f1 f2 f3 f4 =>
      refine ⟨p, us, O1, rfl, f2, f1, f3, f4, by simp, fun a ha => by simp [ha], fun F' H' ws zs O2 x w n k => ?_⟩
      have hp : F' p = none := x.ow p f1 (by rw [f2]; exact fun e => nomatch e)
      have up : ∀ b, b ≠ p → upd H' p (.lst ws) b = H' b := fun b hb => upd_ne hb
      refine ⟨(p :: O2) ++ P2, ?_, fun a ha => ?_⟩
      · refine Ows.cons (O1 := p :: O2) (O2 := P2) (.ol hp upd_same n (w.frame (.refl F') fun a ha => ⟨up a fun z => n (z ▸ ha), (w.dom a ha).1⟩)) ?_ (fun a h1 h2 => ?_) rfl
        · exact (r.ext x).frame (.refl F') fun a ha => ⟨up a fun z => dj a (by simp [z]) ha, ((r.ext x).dom a ha).1⟩
        · rcases List.mem_cons.mp h1 with z | z
          · exact dj a (by simp [z]) h2
          · rcases k a z with z | z
            · exact dj a (by simp [z]) h2
            · exact (r.dom a h2).2 z
      · rcases List.mem_append.mp ha with z | z
        · rcases List.mem_cons.mp z with z | z
          · exact .inl (by simp [z])
          · exact (k a z).imp (fun z => by simp [z]) id
        · exact .inl (by simp [z])
  | _, _, _, kk + 1, ys, .cons (O1 := P1) (O2 := P2) h r dj eo, e => by
    subst eo
    obtain ⟨p, us, O1, g1, g2, g3, g4, g5, g6, g7, g8⟩ := Ows.inner (k := kk) r (by simpa using e)
    refine ⟨p, us, O1, by simpa using g1, g2, g3, g4, g5, List.mem_append_right _ g6, fun a ha => List.mem_append_right _ (g7 a ha), fun F' H' ws zs O2 x w n k => ?_⟩
    obtain ⟨O3, w1, w2⟩ := g8 F' H' ws zs O2 x w n k
    have up : ∀ b, b ≠ p → upd H' p (.lst ws) b = H' b := fun b hb => upd_ne hb
    refine ⟨P1 ++ O3, ?_, fun a ha => ?_⟩
    · refine Ows.cons (O1 := P1) (O2 := O3) ((h.ext x).frame (.refl F') fun a ha => ⟨up a fun z => dj a ha (z ▸ g6), ((h.ext x).dom a ha).1⟩) (by simpa using w1) (fun a h1 h2 => ?_) rfl
      rcases w2 a h2 with z | z
      · exact dj a h1 z
      · exact (h.dom a h1).2 z
    · rcases List.mem_append.mp ha with z | z
      · exact .inl (List.mem_append_left _ z)
      · exact (w2 a z).imp (fun z => List.mem_append_right _ z) id
def sAppIx (i z : Nat) (fa : Env → Res D) : Env → Out := fun g => match g[i]? with
  | some (.ol xs) => match xs[z]? with
    | some (.ol ys) => ((fa g).bind kp).st g fun d => if ys.length < lim then .nx (g.set i (.ol (xs.set z (.ol (ys ++ [d]))))) else .bad
    | _ => .bad
  | _ => .bad
@[simp] theorem sAppIx_ (i z : Nat) (fa : Env → Res D) (g : Env) : sAppIx i z fa g = match g[i]? with
  | some (.ol xs) => match xs[z]? with
    | some (.ol ys) => ((fa g).bind kp).st g fun d => if ys.length < lim then .nx (g.set i (.ol (xs.set z (.ol (ys ++ [d]))))) else .bad
    | _ => .bad
  | _ => .bad := rfl
end
end DL

namespace TL
open PySem PySem.W PySem.Calls PyProof.Rows
def insL (x : List Int) : List (List Int) → List (List Int)
  | [] => [x]
  | y :: l => if HT.lexLt y x = true then y :: insL x l else x :: y :: l
def srtL : List (List Int) → List (List Int)
  | [] => []
  | x :: l => insL x (srtL l)
def kOf (h : Heap) : Value → List Int
  | .ref a => match h.get? a with
    | some o => match o.data with
      | .seq xs _ => xs.toList.map SrtO.iv
      | _ => []
    | none => []
  | _ => []
def IsTI (h : Heap) (v : Value) (ns : List Int) : Prop := ∃ a o xs n, v = .ref a ∧ h.get? a = some o ∧ o.cls = .type "tuple" ∧ o.data = .seq xs n ∧ IntsAre xs.toList ns
theorem IsTI.k {h : Heap} {v : Value} {ns : List Int} (x : IsTI h v ns) : kOf h v = ns := by
  obtain ⟨a, o, xs, n, rfl, ho, hc, hd, hi⟩ := x
  simp only [kOf, ho, hd]
  exact SrtO.iv_ints hi
section
variable {prog : Program} {w : World} {A : Around} {E : Value → Shared → Prop} {s : Shared}
end
end TL
namespace DL
open PySem PySem.Spec PyProof.Rows L2 TL
section
variable {X : Cx} {cls : Cls} {K : PySem.W.Frag}
def tupOf : D → Option (List Int)
  | .tp xs => intsOf xs
  | _ => none
def tupsOf : List D → Option (List (List Int))
  | [] => some []
  | d :: ds => match tupOf d, tupsOf ds with
    | some l, some L => some (l :: L)
    | _, _ => none
@[simp] theorem tupsOf_map : ∀ L : List (List Int), tupsOf (L.map dT) = some L
  | [] => rfl
  | l :: L => by simp [tupsOf, dT, tupOf, tupsOf_map L]
def caSorted3 (ds : List D) : Option D := match ds with
  | [d] => match sqK d with
    | some (.tp x :: xs) => match tupsOf (.tp x :: xs) with
      | some L => if L.length < 2 ∨ L.all (fun l => !l.isEmpty) = true then some (.ol ((srtL L).map dT)) else none
      | none => none
    | _ => caSorted2 ds
  | ds => caSorted2 ds
theorem Rps.zip {F : Hp} : ∀ {vs : List V} {L : List (List Int)}, Rps K cls F vs (L.map dT) → ∀ y l, (y, l) ∈ vs.zip L → Rp K cls F y (dT l)
  | _, [], .nil, _, _, h => by simp at h
  | _, l0 :: L, .cons a r, y, l, h => by
    rw [List.zip_cons_cons] at h
    rcases List.mem_cons.mp h with e | h
    · cases e; exact a
    · exact Rps.zip r y l h
@[simp] theorem caSorted3_tp (ns : List Int) : caSorted3 [.tp (ns.map D.int)] = some (.ol ((srt ns).map D.int)) := by
  unfold caSorted3
  split
  · rename_i h; cases h; simp
  · simp
@[simp] theorem caSorted3_ls (ns : List Int) : caSorted3 [.ls (ns.map D.int)] = some (.ol ((srt ns).map D.int)) := by
  cases ns with
  | nil => simp [caSorted3]; rfl
  | cons a l => simp [caSorted3]; exact caSorted2_ls (a :: l)
@[simp] theorem caSorted3_bo (ns : List Int) : caSorted3 [.bo (ns.map D.int)] = some (.ol ((srt ns).map D.int)) := by
  cases ns with
  | nil => simp [caSorted3]; rfl
  | cons a l => simp [caSorted3]; exact caSorted2_bo (a :: l)
end
end DL

namespace DL
open PySem PySem.Spec PyProof.Rows L2 TL
section
variable {K : PySem.W.Frag} {cls : Cls} {W : WX} {X : Cx} {F H F' H' F1 H1 : Hp} {O O1 : List Addr} {Q : VK} {a b e : Expr} {es : List Expr} {fa fb fc : Env → Res D} {pos : Pos}
def cIn2 : D → D → Option Bool
  | .tp xs, l => match toPy (.tp xs), toPy l with
    | some d, some (.list ds) => if SeqAt.shaped d = true ∧ SeqAt.shaped (.list ds) = true then some (ds.any fun z => PyData.eqv z d) else none
    | _, _ => none
  | x, l => cIn x l
def cNIn2 (a b : D) : Option Bool := (cIn2 a b).map (!·)
theorem eqv_tups {l : List Int} {L : List (List Int)} : (L.map fun l => PyData.tuple (l.map .int)).any (fun z => PyData.eqv z (.tuple (l.map .int))) = decide (l ∈ L) := by
  induction L with
  | nil => simp
  | cons a L ih =>
    rw [List.map_cons, List.any_cons, ih]
    have : PyData.eqv (.tuple (a.map .int)) (.tuple (l.map .int)) = decide (a = l) := by
      simp only [PyData.eqv]
      exact eqvAll_map (p := PyData.int) (fun a b => by simp only [PyData.eqv]; by_cases e : a = b <;> simp [e]) a l
    rw [this, ← Bool.decide_or]
    by_cases h : a = l
    · subst h; simp
    · have h' : ¬ l = a := fun z => h z.symm
      simp [h, h']
theorem toPy_T (l : List Int) : toPy (.tp (l.map D.int)) = some (.tuple (l.map .int)) := by
  have : toPys (l.map D.int) = some (l.map PyData.int) := toPys_map (fun a => by simp [toPy]) l
  simp [toPy, this]
theorem toPy_TL (L : List (List Int)) : toPy (.ls (L.map dT)) = some (.list (L.map fun l => PyData.tuple (l.map .int))) := by
  have : toPys (L.map dT) = some (L.map fun l => PyData.tuple (l.map .int)) := toPys_map (f := dT) (fun a => toPy_T a) L
  simp [toPy, this]
theorem shaped_T (l : List Int) : SeqAt.shaped (.tuple (l.map .int)) = true := by
  have a := lay_map (p := PyData.int) (fun a => by simp [PyData.canLay0]) l
  have b : PyData.depthAll (l.map PyData.int) ≤ 0 := dep_map (p := PyData.int) (fun a => by simp [PyData.depth]) l
  have c : PyData.depth (.tuple (l.map .int)) ≤ 1 := by simp only [PyData.depth]; omega
  have d : PyData.canLay0 (.tuple (l.map .int)) = true := by simp [PyData.canLay0, a]
  simp only [SeqAt.shaped, d, Bool.true_and, decide_eq_true_eq]
  omega
theorem shaped_TL (L : List (List Int)) : SeqAt.shaped (.list (L.map fun l => PyData.tuple (l.map .int))) = true := by
  have a := lay_map (p := fun l : List Int => PyData.tuple (l.map .int)) (fun l => by
    have := lay_map (p := PyData.int) (fun a => by simp [PyData.canLay0]) l
    simp [PyData.canLay0, this]) L
  have b : PyData.depthAll (L.map fun l : List Int => PyData.tuple (l.map .int)) ≤ 1 := dep_map (p := fun l : List Int => PyData.tuple (l.map .int)) (fun l => by
    have b : PyData.depthAll (l.map PyData.int) ≤ 0 := dep_map (p := PyData.int) (fun a => by simp [PyData.depth]) l
    simp only [PyData.depth]; omega) L
  have c : PyData.depth (.list (L.map fun l : List Int => PyData.tuple (l.map .int))) ≤ 2 := by simp only [PyData.depth]; omega
  have d : PyData.canLay0 (.list (L.map fun l : List Int => PyData.tuple (l.map .int))) = true := by simp [PyData.canLay0, a]
  simp only [SeqAt.shaped, d, Bool.true_and, decide_eq_true_eq]
  omega
theorem cIn2_TL (l : List Int) (L : List (List Int)) : cIn2 (.tp (l.map D.int)) (.ls (L.map dT)) = some (decide (l ∈ L)) := by
  simp only [cIn2, toPy_T, toPy_TL]
  rw [if_pos ⟨shaped_T l, shaped_TL L⟩, eqv_tups]
@[simp] theorem cNIn2_TL (l : List Int) (L : List (List Int)) : cNIn2 (.tp (l.map D.int)) (.ls (L.map dT)) = some (!decide (l ∈ L)) := by
  unfold cNIn2; rw [cIn2_TL]; rfl
end
end DL

set_option maxHeartbeats 1000000
namespace RT
open PySem PySem.Spec PyProof.Rows
section
variable {prog : Program} {w : World} {A : Around} {E : Value → Shared → Prop} {s : Shared}
end
end RT
namespace DL
open PySem PySem.Spec PyProof.Rows L2
section
variable {X : Cx} {cls : Cls} {W : WX} {K : PySem.W.Frag}
def lsT (d : D) : Option (List D) := match d with
  | .tp xs => some xs
  | d => lsv d
@[simp] theorem lsT_tp {xs} : lsT (.tp xs) = some xs := rfl
@[simp] theorem lsT_ls {xs} : lsT (.ls xs) = some xs := rfl
@[simp] theorem lsT_bo {xs} (h : shd xs = true) : lsT (.bo xs) = some xs := by simp [lsT, h]
def eLRev2 (fa : Env → Res D) : Env → Res D := fun g => (fa g).bind fun d => match lsT (opd d) with
  | some xs => .ok (.ol xs.reverse)
  | none => .bad
@[simp] theorem eLRev2_ (fa : Env → Res D) (g : Env) : eLRev2 fa g = (fa g).bind fun d => match lsT (opd d) with
  | some xs => .ok (.ol xs.reverse)
  | none => .bad := rfl
end
end DL

set_option maxHeartbeats 1000000
namespace RT
open PySem PySem.Spec PyProof.Rows
section
variable {prog : Program} {w : World} {A : Around} {E : Value → Shared → Prop} {s : Shared}
end
end RT
namespace DL
open PySem PySem.Spec PyProof.Rows L2
section
variable {X : Cx} {cls : Cls} {W : WX} {K : PySem.W.Frag}
theorem Bo.lsT {v : V} {d : D} {F H : Hp} {xs : List D} (s : Same F H) (b1 : Bo K cls F H v d) (eo : lsT d = some xs) : ∃ a vs, v = .ref a ∧ (SqL K H a vs ∨ SqT K H a vs) ∧ Rps K cls F vs xs := by
  cases d with
  | tp ys =>
    cases eo
    obtain ⟨a, vs, e1, h1, h2, r⟩ := b1.tpv s (xs := xs) rfl
    exact ⟨a, vs, e1, .inr h1, r⟩
  | ls ys =>
    obtain ⟨a', vs, rfl, h1, r⟩ := b1.sqK s (xs := xs) (by simpa [DL.lsT] using eo)
    exact ⟨a', vs, rfl, .inl h1, r⟩
  | bo ys =>
    obtain ⟨a', vs, rfl, h1, r⟩ := b1.sqK s (xs := xs) (by simp [DL.lsT] at eo ⊢; first | exact eo | (obtain ⟨e1, e2⟩ := eo; exact ⟨e1, e2⟩))
    exact ⟨a', vs, rfl, .inl h1, r⟩
  | _ => simp [DL.lsT] at eo
def eTRev2 (fa : Env → Res D) : Env → Res D := fun g => (fa g).bind fun d => match lsT (opd d) with
  | some xs => .ok (.tp xs.reverse)
  | none => .bad
@[simp] theorem eTRev2_ (fa : Env → Res D) (g : Env) : eTRev2 fa g = (fa g).bind fun d => match lsT (opd d) with
  | some xs => .ok (.tp xs.reverse)
  | none => .bad := rfl
end
end DL

namespace DL
open PySem PySem.Spec PyProof.Rows L2
section
variable {X : Cx} {cls : Cls} {W : WX} {K : PySem.W.Frag} {F H F' H' : Hp} {O : List Addr}
def eTR1 (fa : Env → Res D) : Env → Res D := fun g => (fa g).bind fun d => match opd d with
  | .int n => if rgOk n ∧ n ≤ 1000000 then .ok (.tp (rng 0 n.toNat)) else .bad
  | _ => .bad
@[simp] theorem eTR1_ (fa : Env → Res D) (g : Env) : eTR1 fa g = (fa g).bind fun d => match opd d with
  | .int n => if rgOk n ∧ n ≤ 1000000 then .ok (.tp (rng 0 n.toNat)) else .bad
  | _ => .bad := rfl
def opShr : D → D → Option D
  | .int i, .int j => if 0 ≤ j then some (.int (i / 2 ^ j.toNat)) else none
  | _, _ => none
def opAnd : D → D → Option D
  | .int i, .int j => if j = 1 then some (.int (i % 2)) else none
  | _, _ => none
@[simp] theorem opShr_int {i j : Int} (h : 0 ≤ j) : opShr (.int i) (.int j) = some (.int (i / 2 ^ j.toNat)) := if_pos h
@[simp] theorem opAnd_int {i : Int} : opAnd (.int i) (.int 1) = some (.int (i % 2)) := rfl
end
section
variable {K : PySem.W.Frag} {cls : Cls} {W : WX} {X : Cx} {F H F' H' F1 H1 : Hp} {O O1 : List Addr} {Q : VK} {a b e : Expr} {es : List Expr} {fa fb fc : Env → Res D} {pos : Pos}
def sExt (i : Nat) (fa : Env → Res D) : Env → Out := fun g => match g[i]? with
  | some (.ol xs) => (fa g).st g fun d => match lsv (opd d) with
    | some ys => if xs.length + ys.length ≤ lim then .nx (g.set i (.ol (xs ++ ys))) else .bad
    | none => .bad
  | _ => .bad
@[simp] theorem sExt_ (i : Nat) (fa : Env → Res D) (g : Env) : sExt i fa g = match g[i]? with
  | some (.ol xs) => (fa g).st g fun d => match lsv (opd d) with
    | some ys => if xs.length + ys.length ≤ lim then .nx (g.set i (.ol (xs ++ ys))) else .bad
    | none => .bad
  | _ => .bad := rfl
end
end DL

namespace DL
open PySem PySem.Spec PyProof.Rows L2 TL PySem.W
section
variable {K : PySem.W.Frag} {cls : Cls} {X : Cx} {F H F' H' F1 H1 : Hp} {O O1 : List Addr} {Q : VK}
mutual
/-- texts, numbers, truth values, and tuples of these -/
def flt : D → Bool
  | .int _ => true
  | .bl _ => true
  | .str _ => true
  | .tp xs => flts xs
  | _ => false
def flts : List D → Bool
  | [] => true
  | d :: ds => flt d && flts ds
end
def mfold : D → PyData → List D → List PyData → D
  | d, p, e :: ds, q :: ps => if dataLt q p = true then mfold e q ds ps else mfold d p ds ps
  | d, _, _, _ => d
def caMin3 (ds : List D) : Option D := match ds with
  | [d] => match sqK d with
    | some (.tp x :: xs) => match toPys (.tp x :: xs) with
      | some (p :: ps) => if flts (.tp x :: xs) = true ∧ ((p :: ps).all fun a => (p :: ps).all fun b => alike a b) = true ∧ PyData.depthAll (p :: ps) ≤ 60 then some (mfold (.tp x) p xs ps) else none
      | _ => none
    | _ => caMin ds
  | ds => caMin ds
def dNT (x : Int × List Int) : D := .tp [.int x.1, .tp (x.2.map D.int)]
end
end DL

namespace DL
open PySem PySem.Spec PyProof.Rows L2 PySem.W
section
variable {K : PySem.W.Frag} {cls : Cls} {W : WX} {X : Cx} {F H F' H' F1 H1 : Hp} {O O1 : List Addr} {Q : VK} {a b e : Expr} {es : List Expr} {fa fb fc : Env → Res D} {fs : Env → Res (List D)} {pos : Pos}
def argB : D → Option (List Int)
  | .bo xs => intsOf xs
  | _ => none
def calD2 (g : List D → Res D) (ds : List D) : Res D :=
  if (ds.all fun d => shd1 d || (argB d).isSome) = true then match g (plns ds) with
    | .ok (.ls xs) => match intsOf xs with
      | some ns => if (ds.all fun d => !decide (argB d = some ns)) = true then .ok (.ls xs) else .bad
      | none => .bad
    | .xc c => .xc c
    | _ => .bad
  else .bad
def eOwn2 (g : List D → Res D) (fs : Env → Res (List D)) : Env → Res D := fun e => (fs e).bind fun ds => calD2 g ds
@[simp] theorem eOwn2_ (g : List D → Res D) (fs : Env → Res (List D)) (e : Env) : eOwn2 g fs e = (fs e).bind fun ds => calD2 g ds := rfl
end
end DL

namespace DL
open PySem PySem.Spec PyProof.Rows L2 TL PySem.W
section
variable {K : PySem.W.Frag} {cls : Cls} {X : Cx} {F H F' H' F1 H1 : Hp} {O O1 : List Addr} {Q : VK}
def caMax3 (ds : List D) : Option D := match ds with
  | [.tp xs] => match intsOf xs with
    | some (n :: ns) => some (.int (ns.foldl max n))
    | _ => none
  | ds => caMax ds
@[simp] theorem caMax3_tp (n : Int) (ns : List Int) : caMax3 [.tp (.int n :: ns.map D.int)] = some (.int (ns.foldl max n)) := by
  have : intsOf (D.int n :: ns.map D.int) = some (n :: ns) := intsOf_map (n :: ns)
  simp [caMax3, this]
end
end DL

namespace PySem
open Sem (wp)
open AutoSeq1 (wpAny_loadPart')
section
variable {prog : Program} {w : World} {A : Around} {E : Value → Shared → Prop} {s : Shared}
end
end PySem
namespace DL
open PySem PySem.Spec PyProof.Rows L2 TL PySem.W
section
variable {K : PySem.W.Frag} {cls : Cls} {W : WX} {X : Cx} {F H F' H' F1 H1 : Hp} {O O1 : List Addr} {a : Expr} {fs : Env → Res (List D)} {pos : Pos}
def iEnm3 (fs : Env → Res (List D)) : Env → Res (List D) := fun g => (fs g).bind fun ds => match ds with
  | [d] => (Res.of (sqS d)).bind fun xs => .ok (enm 0 xs)
  | _ => .bad
@[simp] theorem iEnm3_ (fs : Env → Res (List D)) (g : Env) : iEnm3 fs g = (fs g).bind fun ds => match ds with
  | [d] => (Res.of (sqS d)).bind fun xs => .ok (enm 0 xs)
  | _ => .bad := rfl
end
end DL

namespace DL
open PySem PySem.Spec PyProof.Rows L2 TL PySem.W
section
variable {K : PySem.W.Frag} {cls : Cls} {W : WX} {X : Cx} {pos : Pos}
def sClr (i : Nat) : Env → Out := fun g => match g[i]? with
  | some (.ol _) => .nx (g.set i (.ol []))
  | _ => .bad
@[simp] theorem sClr_ (i : Nat) (g : Env) : sClr i g = match g[i]? with
  | some (.ol _) => .nx (g.set i (.ol []))
  | _ => .bad := rfl
end
end DL

namespace DL
open PySem PySem.Spec PyProof.Rows L2 TL PySem.W
section
variable {K : PySem.W.Frag} {cls : Cls} {X : Cx} {F H F' H' F1 H1 : Hp} {O O1 : List Addr} {Q : VK}
def leP {α : Type} (a b : α × PyData) : Bool := !dataLt b.2 a.2
def isT1 : PyData → Bool
  | .tuple (_ :: _) => true
  | _ => false
def isO1 : PyData → Bool
  | .none => false
  | .tuple _ => false
  | _ => true
def sortD (xs : List D) : Option D := match toPys xs with
  | some ps => if (ps.all fun a => ps.all fun b => alike a b) = true ∧ (ps.all isT1 || ps.all isO1) = true ∧ (ps.all fun p => decide (p.depth ≤ 60)) = true then some (.ol (((xs.zip ps).mergeSort leP).map (·.1))) else none
  | none => none
def caSorted4 (ds : List D) : Option D := match ds with
  | [d] => match sqK d with
    | some (.ls y :: xs) => sortD (.ls y :: xs)
    | some (.tp (.int i :: .tp y :: r) :: xs) => sortD (.tp (.int i :: .tp y :: r) :: xs)
    | _ => caSorted3 ds
  | ds => caSorted3 ds
@[simp] theorem caSorted4_tp (ns : List Int) : caSorted4 [.tp (ns.map D.int)] = some (.ol ((srt ns).map D.int)) := by
  simp [caSorted4]
@[simp] theorem caSorted4_ls (ns : List Int) : caSorted4 [.ls (ns.map D.int)] = some (.ol ((srt ns).map D.int)) := by
  cases ns with
  | nil => simp [caSorted4]; rfl
  | cons a l => simp [caSorted4]; exact caSorted3_ls (a :: l)
@[simp] theorem caSorted4_bo (ns : List Int) : caSorted4 [.bo (ns.map D.int)] = some (.ol ((srt ns).map D.int)) := by
  cases ns with
  | nil => simp [caSorted4]; rfl
  | cons a l => simp [caSorted4]; exact caSorted3_bo (a :: l)
end
end DL

namespace DL
open PySem PySem.Spec PyProof.Rows L2 TL PySem.W
section
variable {K : PySem.W.Frag} {cls : Cls} {W : WX} {X : Cx} {F H F' H' F1 H1 : Hp} {O O1 : List Addr} {Q : VK} {a b e : Expr} {es : List Expr} {fa fb fc : Env → Res D} {fs : Env → Res (List D)} {pos : Pos}
def sIns (i : Nat) (fs : Env → Res (List D)) : Env → Out := fun g => match g[i]? with
  | some (.ol xs) => (fs g).st g fun ds => match ds with
    | [.int j, .int n] => match intsOf xs with
      | some ns => if 0 ≤ j ∧ j ≤ 1000000000 ∧ xs.length < lim then .nx (g.set i (.ol ((ns.take j.toNat ++ [n] ++ ns.drop j.toNat).map D.int))) else .bad
      | none => .bad
    | _ => .bad
  | _ => .bad
@[simp] theorem sIns_ (i : Nat) (fs : Env → Res (List D)) (g : Env) : sIns i fs g = match g[i]? with
  | some (.ol xs) => (fs g).st g fun ds => match ds with
    | [.int j, .int n] => match intsOf xs with
      | some ns => if 0 ≤ j ∧ j ≤ 1000000000 ∧ xs.length < lim then .nx (g.set i (.ol ((ns.take j.toNat ++ [n] ++ ns.drop j.toNat).map D.int))) else .bad
      | none => .bad
    | _ => .bad
  | _ => .bad := rfl
def sDel (i : Nat) (fa : Env → Res D) : Env → Out := fun g => match g[i]? with
  | some (.ol xs) => (fa g).st g fun d => match opd d with
    | .int z => match ixN xs.length z with
      | some k => match xs[k]? with
        | some y => if own1 y = false ∧ xs.length ≤ lim then .nx (g.set i (.ol (xs.eraseIdx k))) else .bad
        | none => .bad
      | none => .bad
    | _ => .bad
  | _ => .bad
@[simp] theorem sDel_ (i : Nat) (fa : Env → Res D) (g : Env) : sDel i fa g = match g[i]? with
  | some (.ol xs) => (fa g).st g fun d => match opd d with
    | .int z => match ixN xs.length z with
      | some k => match xs[k]? with
        | some y => if own1 y = false ∧ xs.length ≤ lim then .nx (g.set i (.ol (xs.eraseIdx k))) else .bad
        | none => .bad
      | none => .bad
    | _ => .bad
  | _ => .bad := rfl
end
end DL

set_option maxHeartbeats 1000000
namespace DL
def iotaR (n : Nat) : List Int := (List.range n).map fun i : Nat => (n : Int) - 1 - (i : Int)
end DL
namespace RR
open PySem PySem.Spec PyProof.Rows
section
variable {prog : Program} {w : World} {A : Around} {E : Value → Shared → Prop} {s : Shared}
end
end RR
namespace DL
open PySem PySem.Spec PyProof.Rows L2
section
variable {X : Cx} {cls : Cls} {W : WX} {K : PySem.W.Frag}
variable {e : Expr} {te : L2.St → Hp → (Int → Int → Hp → Prop) → Prop}
def eLRR1 (fa : Env → Res D) : Env → Res D := fun g => (fa g).bind fun d => match opd d with
  | .int n => if rgOk n ∧ n ≤ 1000000 then .ok (.ol ((iotaR n.toNat).map D.int)) else .bad
  | _ => .bad
@[simp] theorem eLRR1_ (fa : Env → Res D) (g : Env) : eLRR1 fa g = (fa g).bind fun d => match opd d with
  | .int n => if rgOk n ∧ n ≤ 1000000 then .ok (.ol ((iotaR n.toNat).map D.int)) else .bad
  | _ => .bad := rfl
end
end DL

namespace DL
open PySem PySem.Spec PyProof.Rows L2
section
variable {P : Program} {w : World} {A : Around} {E : Value → Shared → Prop} {s : Shared}
end
end DL

namespace DL
open PySem PySem.Spec PyProof.Rows L2
section
variable {X : Cx} {cls : Cls} {W : WX} {K : PySem.W.Frag} {F H F' H' : Hp}
def tpI (d : D) : Option (List Int) := match opd d with
  | .tp xs => intsOf xs
  | _ => none
@[simp] theorem tpI_tp (ns : List Int) : tpI (.tp (ns.map D.int)) = some ns := by simp [tpI]
def eLenSetT (fa : Env → Res D) : Env → Res D := fun g => (fa g).bind fun d => match tpI d with
  | some ns => if ns.length ≤ 4000 then .ok (.int (sset ns).length) else .bad
  | none => .bad
@[simp] theorem eLenSetT_ (fa : Env → Res D) (g : Env) : eLenSetT fa g = (fa g).bind fun d => match tpI d with
  | some ns => if ns.length ≤ 4000 then .ok (.int (sset ns).length) else .bad
  | none => .bad := rfl
end
end DL

namespace DL
open PySem PySem.Spec PyProof.Rows L2
section
variable {κ β : Type} [DecidableEq κ]
def valG (kvs : List (κ × β)) (k : κ) : Option β := (kvs.find? fun kv => decide (kv.1 = k)).map (·.2)
def putG (kvs : List (κ × β)) (k : κ) (v : β) : List (κ × β) :=
  if (kvs.any fun kv => decide (kv.1 = k)) = true then kvs.map (fun kv => if kv.1 = k then (kv.1, v) else kv) else kvs ++ [(k, v)]
end
inductive PR (R : V → D → Prop) : List (Key × V) → List (Key × D) → Prop
  | nil : PR R [] []
  | cons {k : Key} {v : V} {d : D} {l : List (Key × V)} {m : List (Key × D)} : R v d → PR R l m → PR R ((k, v) :: l) ((k, d) :: m)
section
variable {R : V → D → Prop}
theorem PR.any {l : List (Key × V)} {m : List (Key × D)} (h : PR R l m) (k : Key) : (l.any fun kv => decide (kv.1 = k)) = m.any fun kv => decide (kv.1 = k) := by
  induction h with
  | nil => rfl
  | cons r _ ih => simp only [List.any_cons, ih]
theorem PR.rep {l : List (Key × V)} {m : List (Key × D)} (h : PR R l m) (k : Key) {v : V} {d : D} (r : R v d) : PR R (l.map fun kv => if kv.1 = k then (kv.1, v) else kv) (m.map fun kv => if kv.1 = k then (kv.1, d) else kv) := by
  induction h with
  | nil => exact .nil
  | @cons j v' d' l m r' t ih =>
    simp only [List.map_cons]
    by_cases q : j = k
    · rw [if_pos q, if_pos q]; exact .cons r ih
    · rw [if_neg q, if_neg q]; exact .cons r' ih
theorem PR.snoc {l : List (Key × V)} {m : List (Key × D)} (h : PR R l m) (k : Key) {v : V} {d : D} (r : R v d) : PR R (l ++ [(k, v)]) (m ++ [(k, d)]) := by
  induction h with
  | nil => exact .cons r .nil
  | cons r' t ih => exact .cons r' ih
theorem PR.put {l : List (Key × V)} {m : List (Key × D)} (h : PR R l m) (k : Key) {v : V} {d : D} (r : R v d) : PR R (putK l k v) (putG m k d) := by
  unfold putK putG
  rw [h.any k]
  split
  · exact h.rep k r
  · exact h.snoc k r
end
section
variable {K : PySem.W.Frag} {cls : Cls} {F H F' H' : Hp} {X : Cx} {W : WX} {O : List Addr}
def eDic : Env → Res D := fun _ => .ok (.od [] [])
@[simp] theorem eDic_ (g : Env) : eDic g = .ok (.od [] []) := rfl
def sDSet (i : Nat) (fk fa : Env → Res D) : Env → Out := fun g => ((fa g).bind kp).st g fun d => match g[i]? with
  | some (.od ks xs) => (fk g).st g fun k => match opd k with
    | .int k => if xs.all (fun d => !own1 d) = true ∧ own1 d = false ∧ ks.length < lim then .nx (g.set i (.od ((putG (ks.zip xs) (.inl k) d).map (·.1)) ((putG (ks.zip xs) (.inl k) d).map (·.2)))) else .bad
    | _ => .bad
  | _ => .bad
@[simp] theorem sDSet_ (i : Nat) (fk fa : Env → Res D) (g : Env) : sDSet i fk fa g = ((fa g).bind kp).st g fun d => match g[i]? with
  | some (.od ks xs) => (fk g).st g fun k => match opd k with
    | .int k => if xs.all (fun d => !own1 d) = true ∧ own1 d = false ∧ ks.length < lim then .nx (g.set i (.od ((putG (ks.zip xs) (.inl k) d).map (·.1)) ((putG (ks.zip xs) (.inl k) d).map (·.2)))) else .bad
    | _ => .bad
  | _ => .bad := rfl
end
def ddV (l : List (Int × D)) : List D := l.map (·.2)
end DL
namespace DL
end DL

namespace DL
open PySem PySem.Spec PyProof.Rows L2
section
variable {K : PySem.W.Frag} {cls : Cls} {W : WX} {X : Cx} {F H F' H' : Hp} {O : List Addr} {a b e tg iter elt : Expr} {fs : Env → Res (List D)} {fa fb : Env → Res D} {pos : Pos}
def sAsgI (i : Nat) (fa : Env → Res D) : Env → Out := fun g => ((fa g).bind kp).st g fun d => match d with
  | .ol xs => if nods xs = true then .nx (g.set i (.ol (frzs xs))) else .bad
  | _ => .bad
@[simp] theorem sAsgI_ (i : Nat) (fa : Env → Res D) (g : Env) : sAsgI i fa g = ((fa g).bind kp).st g fun d => match d with
  | .ol xs => if nods xs = true then .nx (g.set i (.ol (frzs xs))) else .bad
  | _ => .bad := rfl
theorem ds_asgI {t : TE} {i : Nat} (d : DE K cls W t fa) : DS K cls W (tAsg t (gName i)) (sAsgI i fa) := by
  intro D σ F H g O s st p
  rw [sAsgI_] at p
  refine d.goS s st p fun dd e p v F1 H1 O1 x fr w => ?_
  cases dd with
  | ol xs =>
    simp only at p
    split at p
    · rename_i n
      cases w with
      | sh r => cases r
      | @ol q vs _ O2 f1 f2 f3 f4 =>
        have no : ∀ a ∈ O2, F1 a = none := fun a ha => (f4.dom a ha).1
        have fr2 : Fresh H O2 := fun a ha => fr a (List.mem_cons_of_mem _ ha)
        have x2 := addF_ext x fr2 no
        have r := f4.freeze (addF_same no) addF_at n
        have ow : Ow K cls (addF F1 H1 O2) H1 (.ref q) (.ol (frzs xs)) [q] := .ol (O := []) (by rw [addF_no f3]; exact f1) f2 (fun h => nomatch h) r.toOws
        obtain ⟨O'', q1, q2⟩ := st.put (i := i) x2 (fun a ha => fr a (by rw [List.mem_singleton.mp ha]; exact List.mem_cons_self ..)) ow
        exact p _ _ _ O'' q2 q1
    · exact p.elim
  | _ => exact p.elim
theorem js_setLcI {i : Nat} {y : Str} {py spos : Pos} {ifs : List Expr} {scope : Scope} {ft : D → Env → Option Env} {gt : Env → Res Bool} {fe : Env → Res D} {ss : List Nat} {k : Nat} (own : List (Str × Nat)) (c : Cn X W k) (hy : X.N[i]? = some y) (hyl : X.env.scope.names.lookup y = some .local)
    (hsw : swapsWith (.ListComp elt [⟨tg, iter, ifs, 0⟩] scope pos) (some (.Name y py)) spos.line X.env = pure true) (hi : JI X cls W tg iter fs) (ok : BlkOk X.N X.env.scope scope own)
    (hg : ∀ (s : Shared) (H : Hp) (C : Addr) (cl : List (Str × Addr)) (fp : List Addr), JG (X.blk s H scope (compEnvC scope cl C X.env) fp) cls tg ft ss)
    (ht : ∀ (s : Shared) (H : Hp) (C : Addr) (cl : List (Str × Addr)) (fp : List Addr), Cn (X.blk s H scope (compEnvC scope cl C X.env) fp) W0 k → JTs (X.blk s H scope (compEnvC scope cl C X.env) fp) cls W0 ifs gt)
    (he : ∀ (s : Shared) (H : Hp) (C : Addr) (cl : List (Str × Addr)) (fp : List Addr), Cn (X.blk s H scope (compEnvC scope cl C X.env) fp) W0 k → JE (X.blk s H scope (compEnvC scope cl C X.env) fp) cls W0 elt fe)
    (hss : ∀ i ∈ ss, i ∈ own.map (·.2)) (hs : ∀ x, foldedSetIterable iter X.env x = pure x := by intro _; rfl) :
    JS X cls W (.Assign [.Name y py] (.ListComp elt [⟨tg, iter, ifs, 0⟩] scope pos) spos) (sAsgI i (eLc fs (own.map (·.2)) ft gt fe)) := by
  obtain ⟨wi, p, d⟩ := hi.ex
  exact ⟨_, ps_setLc (own := own) c.calm c.nd hy hyl hsw p ok (fun s H C cl fp => (hg s H C cl fp).canon) (fun s H C cl fp => (ht s H C cl fp c.blk).canon) (fun s H C cl fp => (he s H C cl fp c.blk).canon) hs, ds_asgI (de_lc d dg_cG dt_cT de_cE hss)⟩

def sSwp (i : Nat) (fk fl fa : Env → Res D) : Env → Out := fun g => ((fa g).bind kp).st g fun d => if nod d = true then match frz d, g[i]? with
  | .tp [d1, d2], some (.ol xs) => match fk g with
    | .ok k => match opd k with
      | .int k => match ixN xs.length k with
        | some j => match fl (g.set i (.ol (xs.set j d1))) with
          | .ok l => match opd l with
            | .int l => match ixN (xs.set j d1).length l with
              | some m => .nx (g.set i (.ol ((xs.set j d1).set m d2)))
              | none => .bad
            | _ => .bad
          | _ => .bad
        | none => .bad
      | _ => .bad
    | _ => .bad
  | _, _ => .bad else .bad
@[simp] theorem sSwp_ (i : Nat) (fk fl fa : Env → Res D) (g : Env) : sSwp i fk fl fa g = ((fa g).bind kp).st g fun d => if nod d = true then match frz d, g[i]? with
  | .tp [d1, d2], some (.ol xs) => match fk g with
    | .ok k => match opd k with
      | .int k => match ixN xs.length k with
        | some j => match fl (g.set i (.ol (xs.set j d1))) with
          | .ok l => match opd l with
            | .int l => match ixN (xs.set j d1).length l with
              | some m => .nx (g.set i (.ol ((xs.set j d1).set m d2)))
              | none => .bad
            | _ => .bad
          | _ => .bad
        | none => .bad
      | _ => .bad
    | _ => .bad
  | _, _ => .bad else .bad := rfl
theorem de_at {i : Nat} {t2 : TE} {fk : Env → Res D} (d2 : DE X.K cls W t2 fk) {σ : L2.St} {g : Env} {O : List Addr} {xs : List D} {k : Int} {j : Nat} {kd : D} {v : V} {dd : D} (s : Same F H) (st : Sts X.K cls F H σ g O) (eg : g[i]? = some (.ol xs)) (ek : fk g = .ok kd) (ek2 : opd kd = .int k) (ej : ixN xs.length k = some j)
    (r : Rp X.K cls F v dd) {Q : L2.St → Hp → Prop} (q : ∀ F' H' O', SExt F H O F' H' O' → Sts X.K cls F' H' σ (g.set i (.ol (xs.set j dd))) O' → Q σ H') : gSub (tVar i) t2 rSetL v σ H Q := by
  obtain ⟨p, vs, O1, h1, h2, h2', h3, h4, h5, h6, h7⟩ := st.lst eg
  refine ⟨.ref p, h1, ?_⟩
  refine d2.go s st (fun c e => by rw [ek] at e; cases e) (fun e => by rw [ek] at e; cases e) fun kd' e kv F3 H3 x3 b3 => ?_
  rw [ek] at e
  cases e
  rw [ek2] at b3
  obtain rfl := b3.int
  refine ⟨p, vs, k, j, rfl, rfl, x3.hh _ _ h2, by rw [h4.len]; exact ej, ?_⟩
  obtain ⟨O3, w3, n3⟩ := (h4.ext x3).set j (.sh (r.mono x3.ff) : Ow X.K cls F3 H3 v dd []) fun a _ q2 => nomatch q2
  obtain ⟨O'', z1, z2⟩ := h7 F3 H3 (vs.set j v) (xs.set j dd) O3 x3 w3 (fun z => by
    rcases n3 _ z with z | z
    · exact h3 z
    · exact nomatch z) (fun a z => (n3 a z).imp id (fun z => nomatch z))
  exact q F3 _ O'' z2 z1
theorem js_swp {i k kt : Nat} {x : Str} {n1 n2 s1 s2 pt : Pos} {b1 b2 : Expr} {fk fl : Env → Res D} (c : Cn X W k) (hN : X.N[i]? = some x) (hv : Vis X.env.scope x) (ha : JE X cls W a fa) (hk : JE X cls W b1 fk) (hl : JE X cls W b2 fl)
    (hd : (x == ("__debug__" : Str)) = false := by decide) (hcd : (x == ("__classdict__" : Str)) = false := by decide)
    (hs : swapsWithSole [.Tuple [.Subscript (.Name x n1) b1 s1, .Subscript (.Name x n2) b2 s2] kt pt] a pos.line X.env = pure false := by rfl)
    (hw : swappedStores [.Tuple [.Subscript (.Name x n1) b1 s1, .Subscript (.Name x n2) b2 s2] kt pt] a X.env = pure none := by rfl)
    (h1 : (assignEach [.Tuple [.Subscript (.Name x n1) b1 s1, .Subscript (.Name x n2) b2 s2] kt pt] X.env).map (·.2) = [assign (.Tuple [.Subscript (.Name x n1) b1 s1, .Subscript (.Name x n2) b2 s2] kt pt) X.env] := by rfl)
    (ha1 : ∀ v, assign (.Subscript (.Name x n1) b1 s1) X.env v = (do
      let ov ← holding [v] (eval (.Name x n1) X.env)
      let iv ← holding [v, ov] (eval b1 X.env)
      standAt s1
      holding [v, ov, iv] (setItem ov iv v)
      release [v, ov, iv] []) := by intro _; rfl)
    (ha2 : ∀ v, assign (.Subscript (.Name x n2) b2 s2) X.env v = (do
      let ov ← holding [v] (eval (.Name x n2) X.env)
      let iv ← holding [v, ov] (eval b2 X.env)
      standAt s2
      holding [v, ov, iv] (setItem ov iv v)
      release [v, ov, iv] []) := by intro _; rfl)
    (he1 : (assignEach [.Subscript (.Name x n1) b1 s1, .Subscript (.Name x n2) b2 s2] X.env).map (·.2) = assign (.Subscript (.Name x n1) b1 s1) X.env :: (assignEach [.Subscript (.Name x n2) b2 s2] X.env).map (·.2) := by rfl)
    (he2 : (assignEach [.Subscript (.Name x n2) b2 s2] X.env).map (·.2) = assign (.Subscript (.Name x n2) b2 s2) X.env :: (assignEach [] X.env).map (·.2) := by rfl)
    (hn : (assignEach [.Subscript (.Name x n1) b1 s1, .Subscript (.Name x n2) b2 s2] X.env).length = 2 := by rfl) (hst : (assignEach [.Subscript (.Name x n1) b1 s1, .Subscript (.Name x n2) b2 s2] X.env).findIdx? (·.1) = none := by rfl) :
    JS X cls W (.Assign [.Tuple [.Subscript (.Name x n1) b1 s1, .Subscript (.Name x n2) b2 s2] kt pt] a pos) (sSwp i fk fl fa) := by
  obtain ⟨t, p, d⟩ := ha.ex
  obtain ⟨t2, p2, d2⟩ := hk.ex
  obtain ⟨t3, p3, d3⟩ := hl.ex
  refine ⟨_, ps_asg p (pg_tup c.calm (pgs_cons (pg_sub (pe_var hN hv hd hcd) p2 set_list ha1) (pgs_cons (pg_sub (pe_var hN hv hd hcd) p3 set_list ha2) pgs_nil he2) he1) hn hst) hs hw h1, ?_⟩
  intro D σ F H g O s st p
  rw [sSwp_] at p
  refine d.goS s st p fun dd e p v F1 H1 O1 x fr w => ?_
  split at p
  · rename_i n
    have no : ∀ a ∈ O1, F1 a = none := fun a ha => (w.dom a ha).1
    have x2 := addF_ext x fr no
    have r := w.freeze (addF_same no) addF_at n
    split at p
    · rename_i d1 d2' xs ed eg
      rw [ed] at r
      cases r with
      | tp hT hr =>
        cases hr with
        | cons r1 hr =>
          cases hr with
          | cons r2 hr =>
            cases hr
            refine ⟨_, _, rfl, sameT x2.fh hT, rfl, ?_⟩
            split at p
            · rename_i kd ek
              split at p
              · rename_i k ek2
                split at p
                · rename_i j ej
                  split at p
                  · rename_i ld el
                    split at p
                    · rename_i l el2
                      split at p
                      · rename_i m em
                        refine ⟨_, _, rfl, ?_⟩
                        refine de_at (F := addF F1 H1 O1) (H := H1) d2 x2.fh (st.ext x2) eg ek ek2 ej r1 fun F3 H3 O3 x3 st3 => ?_
                        refine ⟨_, _, rfl, ?_⟩
                        have eg3 : (g.set i (.ol (xs.set j d1)))[i]? = some (.ol (xs.set j d1)) := by
                          rw [List.getElem?_set_self (List.getElem?_eq_some_iff.mp eg).1]
                        refine de_at (F := F3) (H := H3) d3 x3.fh st3 eg3 el el2 em (r2.mono x3.ff) fun F4 H4 O4 x4 st4 => ?_
                        refine ⟨rfl, ?_⟩
                        rw [List.set_set] at st4
                        exact p _ F4 H4 O4 (((x2.sext fun a h => .inl h).trans x3).trans x4) st4
                      · exact p.elim
                    · exact p.elim
                  · exact p.elim
                · exact p.elim
              · exact p.elim
            · exact p.elim
    · exact p.elim
  · exact p.elim
def rGetL : V → V → Hp → VK → Prop := fun x y H Q => ∃ p xs i v, x = .ref p ∧ y = .int i ∧ H p = some (.lst xs) ∧ 0 ≤ i ∧ i < 1000000000 ∧ xs[i.toNat]? = some v ∧ Q v H
theorem get_list0 : PGet X rGetL := by
  intro pins s σ H o i ov iv Q I ro ri h
  obtain ⟨p, xs, k, v, rfl, rfl, hp, h0, h1, hx, q⟩ := h
  cases ro
  obtain ⟨t, rfl⟩ := ri
  obtain ⟨its, r, pl, hz⟩ := I.list (SqL.of hp)
  obtain ⟨w, ew, rw'⟩ := r.get hx
  exact wpAny_getItem_list pl.isList h0 (by omega) (by simpa using ew) ⟨v, H, I, rw', q⟩
def sAug2 (op : Int → Int → Int) (i j1 j2 : Nat) (fa : Env → Res D) : Env → Out := fun g => match g[i]?, g[j1]?, g[j2]? with
  | some (.ol xs), some (.int k1), some (.int k2) => match ixN xs.length k1 with
    | some z => match xs[z]? with
      | some (.ol ys) => if 0 ≤ k2 ∧ k2 < 1000000000 then match ys[k2.toNat]? with
        | some (.int n) => (fa g).st g fun d => match opd d with
          | .int b => .nx (g.set i (.ol (xs.set z (.ol (ys.set k2.toNat (.int (op n b)))))))
          | _ => .bad
        | _ => .bad else .bad
      | _ => .bad
    | none => .bad
  | _, _, _ => .bad
@[simp] theorem sAug2_ (op : Int → Int → Int) (i j1 j2 : Nat) (fa : Env → Res D) (g : Env) : sAug2 op i j1 j2 fa g = match g[i]?, g[j1]?, g[j2]? with
  | some (.ol xs), some (.int k1), some (.int k2) => match ixN xs.length k1 with
    | some z => match xs[z]? with
      | some (.ol ys) => if 0 ≤ k2 ∧ k2 < 1000000000 then match ys[k2.toNat]? with
        | some (.int n) => (fa g).st g fun d => match opd d with
          | .int b => .nx (g.set i (.ol (xs.set z (.ol (ys.set k2.toNat (.int (op n b)))))))
          | _ => .bad
        | _ => .bad else .bad
      | _ => .bad
    | none => .bad
  | _, _, _ => .bad := rfl
theorem Sts.intAt {σ : L2.St} {g : Env} {j : Nat} {n : Int} (st : Sts K cls F H σ g O) (e : g[j]? = some (.int n)) : σ[j]? = some (some (.int n)) := by
  obtain ⟨P, _, h2, _⟩ := st.at j (List.getElem?_eq_some_iff.mp e).1
  rcases h2 with ⟨h2, _⟩ | ⟨v, d, h2, h2', ow⟩
  · rw [e] at h2; cases h2
  · rw [e] at h2'; cases h2'
    obtain ⟨rfl, _⟩ := ow.int
    exact h2
theorem Ows.intAt : ∀ {vs : List V} {ds : List D} {O : List Addr} {k : Nat} {n : Int}, Ows K cls F H vs ds O → ds[k]? = some (.int n) → vs[k]? = some (.int n)
  | _, _, _, _, _, .nil, e => by simp at e
  | _, _, _, 0, _, .cons h r dj eo, e => by
    simp at e
    subst e
    obtain ⟨rfl, _⟩ := h.int
    rfl
  | _, _, _, k + 1, _, .cons h r dj eo, e => by
    simp at e ⊢
    exact r.intAt e
theorem js_aug2 {i j1 j2 : Nat} {x y1 y2 : Str} {npos p1 p2 ip tpos : Pos} {o : Operator} {op : Int → Int → Int} (ho : PIp X o (ipI op)) (hN : X.N[i]? = some x) (hv : Vis X.env.scope x) (hN1 : X.N[j1]? = some y1) (hv1 : Vis X.env.scope y1) (hN2 : X.N[j2]? = some y2) (hv2 : Vis X.env.scope y2) (ha : JE X cls W a fa)
    (hd : (x == ("__debug__" : Str)) = false := by decide) (hcd : (x == ("__classdict__" : Str)) = false := by decide) (hd1 : (y1 == ("__debug__" : Str)) = false := by decide) (hcd1 : (y1 == ("__classdict__" : Str)) = false := by decide)
    (hd2 : (y2 == ("__debug__" : Str)) = false := by decide) (hcd2 : (y2 == ("__classdict__" : Str)) = false := by decide)
    (hps : PlainIx (.Name y1 p1) := by exact fun _ _ => rfl)
    (hst : ∀ ov iv new, augStore (.Name y2 p2) ov iv new = (do holding [new, ov, iv] (setItem ov iv new); release [new, ov, iv] []; pure .next) := by intros; rfl) :
    JS X cls W (.AugAssign (.Subscript (.Subscript (.Name x npos) (.Name y1 p1) ip) (.Name y2 p2) tpos) o a pos) (sAug2 op i j1 j2 fa) := by
  obtain ⟨t, p, d⟩ := ha.ex
  refine ⟨_, ps_augS (pe_ix ix_list (pe_var hN hv hd hcd) (pe_var hN1 hv1 hd1 hcd1) hps) (pe_var hN2 hv2 hd2 hcd2) get_list0 p ho set_list hst, ?_⟩
  intro D σ F H g O s st p
  rw [sAug2_] at p
  split at p
  · rename_i xs k1 k2 eg e1' e2'
    split at p
    · rename_i z ez
      split at p
      · rename_i ys ey
        split at p
        · rename_i hk
          split at p
          · rename_i n en
            obtain ⟨P, e1, e2, e3, _⟩ := st.at i (List.getElem?_eq_some_iff.mp eg).1
            rcases e2 with ⟨e2, _⟩ | ⟨v, dd, e2, e2'', ow⟩
            · rw [eg] at e2; cases e2
            · rw [eg] at e2''; cases e2''
              cases ow with
              | sh r => cases r
              | @ol q vs _ O1 f1 f2 f3 f4 =>
                obtain ⟨r, us, O2, g1, g2, g3, g4, g5, g6, g7, g8⟩ := f4.inner ey
                have hix : atI vs k1 = some (.ref r) := by
                  unfold atI; rw [f4.len, ez]; exact g1
                refine ⟨.ref q, e2, .int k1, st.intAt e1', ⟨q, vs, k1, .ref r, rfl, rfl, SqL.of f2, hix, ?_⟩⟩
                refine ⟨.int k2, st.intAt e2', ?_⟩
                have hu : us[k2.toNat]? = some (.int n) := g5.intAt en
                have hlt := (List.getElem?_eq_some_iff.mp hu).1
                refine ⟨r, us, k2, .int n, rfl, rfl, g2, hk.1, hk.2, hu, ?_⟩
                refine d.go s st (fun c e => by rw [e] at p; exact xc_st st p) (fun e => by rw [e] at p; exact p) fun dd e v F1 H1 x b => ?_
                rw [e, Res.st_ok] at p
                split at p
                · rename_i b' eb
                  rw [eb] at b
                  obtain rfl := b.int
                  refine ⟨n, b', rfl, rfl, r, us, k2, k2.toNat, rfl, rfl, x.hh _ _ g2, ixN_nat hk.1 (by omega), ?_⟩
                  obtain ⟨O3, w3, n3⟩ := (g5.ext x).set k2.toNat (.sh (.int (op n b')) : Ow X.K cls F1 H1 (.int (op n b')) (.int (op n b')) []) fun a _ q2 => nomatch q2
                  obtain ⟨O4, w1, w2⟩ := g8 F1 H1 (us.set k2.toNat (.int (op n b'))) (ys.set k2.toNat (.int (op n b'))) O3 x w3 (fun z => by
                    rcases n3 _ z with z | z
                    · exact g4 z
                    · exact nomatch z) (fun a z => (n3 a z).imp id (fun z => nomatch z))
                  have hqr : q ≠ r := fun z => f3 (z ▸ g6)
                  have up : ∀ b, b ≠ r → upd H1 r (.lst (us.set k2.toNat (.int (op n b')))) b = H1 b := fun b hb => upd_ne hb
                  have hF1r : F1 r = none := x.ow r g3 (by rw [g2]; exact fun e => nomatch e)
                  have hF1q : F1 q = none := x.ow q f1 (by rw [f2]; exact fun e => nomatch e)
                  have hq4 : q ∉ O4 := fun z => by
                    rcases w2 q z with z | z
                    · exact f3 z
                    · rw [f2] at z; cases z
                  obtain ⟨O'', q1, q2⟩ := e3 F1 (upd H1 r (.lst (us.set k2.toNat (.int (op n b'))))) (.ref q) (.ol (xs.set z (.ol (ys.set k2.toNat (.int (op n b')))))) (q :: O4) (fun b hb hn => by
                      obtain ⟨k1, k2⟩ := x.get (st.dom b hb).1 (st.dom b hb).2
                      exact ⟨(up b fun z => hn (by simp [z, g6])).trans k1, k2⟩) x.ff
                    (.ol hF1q ((up q hqr).trans (x.hh _ _ f2)) hq4 w1) (fun a ha hO => by
                      rcases List.mem_cons.mp ha with rfl | ha
                      · simp
                      · rcases w2 a ha with z | z
                        · simp [z]
                        · exact absurd z (st.dom a hO).2)
                  rw [set_self e2] at q1
                  refine p _ F1 _ O'' ⟨x.ff, fun b o k => ?_, fun b o k hn => ?_, fun b h1 h2 _ => x.ow b h1 h2, fun b hb => ?_⟩ q1
                  · rw [up b fun z => by rw [z, hF1r] at k; cases k]; exact x.fh b o k
                  · rw [up b fun z => hn (z ▸ e1 r (by simp [g6]))]; exact x.hh b o k
                  · rcases q2 b hb with z | z
                    · exact .inl z
                    · rcases List.mem_cons.mp z with rfl | z
                      · exact .inl (e1 _ (by simp))
                      · exact (w2 b z).imp (fun z => e1 b (by simp [z])) id
                · exact p.elim
          · exact p.elim
        · exact p.elim
      · exact p.elim
    · exact p.elim
  · exact p.elim
end
end DL

namespace DL
open PySem PySem.Spec PyProof.Rows L2
section
variable {K : PySem.W.Frag} {cls : Cls} {W : WX} {X : Cx} {F H F' H' : Hp} {O : List Addr} {a b e tg iter elt : Expr} {fs : Env → Res (List D)} {fa fb : Env → Res D} {pos : Pos}
def opAddS (a b : D) : Option D := match sqK a, sqK b with
    | some xs, some ys => if xs.length + ys.length ≤ lim then some (.ol (xs ++ ys)) else none
    | _, _ => none
@[simp] theorem opAddS_sl {xs ys : List D} (h : xs.length + ys.length ≤ lim) : opAddS (.sc xs) (.ls ys) = some (.ol (xs ++ ys)) := if_pos h
end
end DL

namespace PySem
open Sem (wp)
def oZ1 (h : Heap) (l : Addr) : Heap := h.push { cls := .type "list_iterator", data := .fields #[.ref l, .int 0 0] }
def oZ2 (h : Heap) (l t : Addr) : Heap := (oZ1 h l).push { cls := .type "tuple_iterator", data := .fields #[.ref t, .int 0 0] }
def oZ3 (h : Heap) (l t : Addr) : Heap := (oZ2 h l t).push { cls := .type "tuple", data := .seq #[.ref h.objs.size, .ref (oZ1 h l).objs.size] }
def oZ4 (h : Heap) (l t : Addr) : Heap := (oZ3 h l t).push { cls := .type "tuple", data := .seq #[.none, .none] }
def oZ5 (h : Heap) (l t : Addr) : Heap := (oZ4 h l t).push { cls := .type "zip", data := .fields #[.none, .bool false, .bool false, .ref (oZ2 h l t).objs.size, .ref (oZ3 h l t).objs.size] }
theorem own_zipLT (l t : Addr) (xs ys : Array Value) :
    Meets (Builtin.«zip.__new__» ⟨[.type "zip", .ref l, .ref t], []⟩) (fun _ R s => s.heap.IsList l xs ∧ s.heap.IsTuple t ys ∧
      R (.ok (.ret (.ref (oZ4 s.heap l t).objs.size))) { s with heap := oZ5 s.heap l t }) :=
  .of_wp fun prog w A R s h => by
    obtain ⟨hp, g, d, tk, os⟩ := s
    obtain ⟨q1, q2, h⟩ := h
    have sz := sub_zip
    have u1 : Heap.IsList (Shared.heap ⟨hp, g, d, tk, os⟩) l xs := q1
    have u2 : Heap.IsTuple (Shared.heap ⟨hp.push { cls := .type "list_iterator", data := .fields #[.ref l, .int 0 0] }, g, d, tk, os⟩) t ys := Heap.IsTuple.push q2 _
    wp_walk using wpAny_pyIter_list u1, wpAny_pyIter_tuple u2
    exact ⟨_, rfl, h⟩
section
variable {prog : Program} {w : World} {A : Around} {E : Value → Shared → Prop} {s : Shared}
theorem own_call_zipLT {l t : Addr} {xs ys : Array Value} {Q : Value → Shared → Prop} (q1 : s.heap.IsList l xs) (q2 : s.heap.IsTuple t ys)
    (h : ∀ h', IsZip h' (s.heap.objs.size + 4) (s.heap.objs.size + 2) (s.heap.objs.size + 3) .none → IsPair h' (s.heap.objs.size + 2) (.ref s.heap.objs.size) (.ref (s.heap.objs.size + 1)) →
      IsPair h' (s.heap.objs.size + 3) .none .none → h'.IsListIter s.heap.objs.size l 0 → h'.IsTupleIter (s.heap.objs.size + 1) t 0 →
      (∀ c o, s.heap.get? c = some o → h'.get? c = some o) → Q (.ref (s.heap.objs.size + 4)) { s with heap := h' }) :
    wpAny (model prog w) A (call (.type "zip") [.ref l, .ref t]) Q E s := by
  have n1 : (oZ1 s.heap l).objs.size = s.heap.objs.size + 1 := Heap.size_push ..
  have n2 : (oZ2 s.heap l t).objs.size = s.heap.objs.size + 2 := by unfold oZ2; rw [Heap.size_push, n1]
  have n3 : (oZ3 s.heap l t).objs.size = s.heap.objs.size + 3 := by unfold oZ3; rw [Heap.size_push, n2]
  have n4 : (oZ4 s.heap l t).objs.size = s.heap.objs.size + 4 := by unfold oZ4; rw [Heap.size_push, n3]
  have k5 : ∀ c o, (oZ4 s.heap l t).get? c = some o → (oZ5 s.heap l t).get? c = some o := fun _ _ e => Heap.get?_push_of_some _ e
  have k4 : ∀ c o, (oZ3 s.heap l t).get? c = some o → (oZ5 s.heap l t).get? c = some o := fun c o e => k5 c o (Heap.get?_push_of_some _ e)
  have k3 : ∀ c o, (oZ2 s.heap l t).get? c = some o → (oZ5 s.heap l t).get? c = some o := fun c o e => k4 c o (Heap.get?_push_of_some _ e)
  have k2 : ∀ c o, (oZ1 s.heap l).get? c = some o → (oZ5 s.heap l t).get? c = some o := fun c o e => k3 c o (Heap.get?_push_of_some _ e)
  have k1 : ∀ c o, s.heap.get? c = some o → (oZ5 s.heap l t).get? c = some o := fun c o e => k2 c o (Heap.get?_push_of_some _ e)
  have e5 : (oZ5 s.heap l t).get? (oZ4 s.heap l t).objs.size = some { cls := .type "zip", data := .fields #[.none, .bool false, .bool false, .ref (oZ2 s.heap l t).objs.size, .ref (oZ3 s.heap l t).objs.size] } := Heap.get?_push_size _ rfl
  have e4 : (oZ5 s.heap l t).get? (oZ3 s.heap l t).objs.size = some { cls := .type "tuple", data := .seq #[.none, .none] } := k5 _ _ (Heap.get?_push_size _ rfl)
  have e3 : (oZ5 s.heap l t).get? (oZ2 s.heap l t).objs.size = some { cls := .type "tuple", data := .seq #[.ref s.heap.objs.size, .ref (oZ1 s.heap l).objs.size] } := k4 _ _ (Heap.get?_push_size _ rfl)
  have e2 : (oZ5 s.heap l t).get? (oZ1 s.heap l).objs.size = some { cls := .type "tuple_iterator", data := .fields #[.ref t, .int 0 0] } := k3 _ _ (Heap.get?_push_size _ rfl)
  have e1 : (oZ5 s.heap l t).get? s.heap.objs.size = some { cls := .type "list_iterator", data := .fields #[.ref l, .int 0 0] } := k2 _ _ (Heap.get?_push_size _ rfl)
  rw [n4, n2, n3] at e5
  rw [n3] at e4
  rw [n2, n1] at e3
  rw [n1] at e2
  refine callType_new F.called_zip (by decide) (F.typeCall_zip_2 _ _) (F.newCall_zip_2 _ _) (fun obj => F.args_object_init_3 obj _ _) F.entry_zip_new (own_zipLT l t xs ys) ⟨q1, q2, ?_⟩
  show _ ∧ _
  rw [n4]
  exact ⟨⟨_, e5, rfl⟩, h _ e5 e3 e4 ⟨_, e1, rfl, rfl⟩ ⟨_, e2, rfl, rfl⟩ k1⟩
end
end PySem
namespace DL
open PySem PySem.Spec PyProof.Rows L2 TL PySem.W
def ItzM (K : PySem.W.Frag) (a b : Addr) : It :=
  ⟨fun i H => ∃ (xs ys : List V) (x y : V), (SqL K H a xs ∧ SqT K H b ys) ∧ xs[i]? = some x ∧ ys[i]? = some y,
    fun i H v H' => ∃ T x y, v = .ref T ∧ H T = none ∧ H' = upd H T (.tup [x, y]) ∧ (∀ xs, SqL K H a xs → xs[i]? = some x) ∧ ∀ ys, SqT K H b ys → ys[i]? = some y,
    fun i H => ∃ xs ys : List V, (SqL K H a xs ∧ SqT K H b ys) ∧ (xs.length ≤ i ∨ ys.length ≤ i) ∧ i ≤ xs.length ∧ i ≤ ys.length⟩
theorem sepM {z TI TO i1 i2 a b : Addr} (D : ZipApart z TI TO i1 i2 a b) : ZipSep2 z TI TO i1 i2 [i1, a] [i2, b] where
  TIz := D.TIz
  TOz := D.TOz
  TITO := D.TITO
  TIi1 := D.TIi1
  mem1 := by simp
  zf1 := by simp [D.i1z.symm, D.l1z.symm]
  Tf1 := by simp [D.TOi1, D.l1TO.symm]
  TIi2 := D.TIi2
  mem2 := by simp
  zf2 := by simp [D.i2z.symm, D.l2z.symm]
  Tf2 := by simp [D.TOi2, D.l2TO.symm]
  sep1_2 := by simp [D.i12, D.l2i1.symm]
  sep2_1 := by simp [D.i12.symm, D.l1i2.symm]
theorem turn_zipM {P : Program} {w : World} {K : PySem.W.Frag} {elts : List Expr} {kk : Nat} {tpos : Pos} {a b z TI TO i1 i2 : Addr} (D : ZipApart z TI TO i1 i2 a b) :
    Turn P w K (.Tuple elts kk tpos) (ItzM K a b) [z, TI, TO, i1, i2] z (fun i h => (IsZip h z TI TO .none ∧ IsPair h TI (.ref i1) (.ref i2)) ∧ (∃ x y, IsPair h TO x y) ∧ h.IsListIter i1 a i ∧ h.IsTupleIter i2 b i) where
  mem := by simp
  obj := fun i h st c hc => by
    obtain ⟨⟨g1, g2⟩, ⟨x, y, g3⟩, ⟨o1, e1, _, d1⟩, o2, e2, _, d2⟩ := st
    rcases (by simpa using hc : c = z ∨ c = TI ∨ c = TO ∨ c = i1 ∨ c = i2) with q | q | q | q | q
    · exact q ▸ ⟨_, g1, fun v q => nomatch q⟩
    · exact q ▸ ⟨_, g2, fun v q => nomatch q⟩
    · exact q ▸ ⟨_, g3, fun v q => nomatch q⟩
    · exact q ▸ ⟨o1, e1, fun v q => by rw [d1] at q; cases q⟩
    · exact q ▸ ⟨o2, e2, fun v q => by rw [d2] at q; cases q⟩
  keep := fun i h h' st k => by
    obtain ⟨⟨g1, g2⟩, ⟨x, y, g3⟩, g4, g5⟩ := st
    exact ⟨⟨k z (by simp) _ g1, k TI (by simp) _ g2⟩, ⟨x, y, k TO (by simp) _ g3⟩, g4.at fun o q => k i1 (by simp) o q, g5.at fun o q => k i2 (by simp) o q⟩
  item := by
    intro X hP hw hK hc i pins s σ H E I hf st hg
    subst hP hw hK
    obtain ⟨⟨g1, g2⟩, ⟨x0, y0, g3⟩, g4, g5⟩ := st
    obtain ⟨xs, ys, x, y, ⟨qx, qy⟩, hx, hy⟩ := hg
    obtain ⟨its, rv, p, _⟩ := I.list qx
    obtain ⟨its2, rv2, p2, _⟩ := I.tuple qy
    have p2' : s.heap.IsTuple b its2.toArray := p2
    obtain ⟨u, hu, ru⟩ := rv.get hx
    obtain ⟨u2, hu2, ru2⟩ := rv2.get hy
    have zl : z < s.heap.objs.size := Heap.lt_size g1
    have b1 : i < its.toArray.size := by have := (List.getElem?_eq_some_iff.mp hu).1; simpa using this
    have b2 : i < its2.toArray.size := by have := (List.getElem?_eq_some_iff.mp hu2).1; simpa using this
    refine wpAny_pyNext_zipD2_item (sepM D) (Draws.list (A := X.A.in1) (I.ok.hd hc) i1 a D.l1i1 its.toArray) (Draws.tuple (A := X.A.in1) (I.ok.hd hc) i2 b D.l2i2 its2.toArray) g1 g2 g3 ⟨g4, p.isList⟩ ⟨g5, p2'⟩ b1 b2 fun v1 v2 h' tk c1 c2 g1' g3' st1 st2 gT hsz hk => ?_
    obtain rfl : v1 = u := by
      have e1 : its[i]? = some v1 := by simpa using c1
      rw [hu] at e1; cases e1; rfl
    obtain rfl : v2 = u2 := by
      have e1 : its2[i]? = some v2 := by simpa using c2
      rw [hu2] at e1; cases e1; rfl
    refine ⟨_, rfl, wpAny_letOwnedTupleGo_zip (s := { s with heap := h', toks := tk }) g1' fun h'' g1'' sb => ?_⟩
    have gT2 : h''.get? s.heap.objs.size = some { cls := .type "tuple", data := .seq #[v1, v2] } := (sb.2 _ (Nat.ne_of_gt zl)).trans gT
    have new : ObjOk X.prog X.w (upd H s.heap.objs.size (.tup [x, y])) h'' s.heap.objs.size (.tup [x, y]) :=
      ⟨by show 2 ≤ sizeLine; decide, [v1, v2], .cons ru (.cons ru2 .nil), ⟨_, gT2, rfl, _, rfl⟩⟩
    have kk : ∀ c o, c ∉ [z, TI, TO, i1, i2] → s.heap.get? c = some o → h''.get? c = some o := fun c o hb q => by
      simp only [List.mem_cons, not_or] at hb
      exact (sb.2 c hb.1).trans (hk c o hb.1 hb.2.2.1 hb.2.2.2.1 hb.2.2.2.2.1 q)
    have I1 : Inv X pins σ (upd H s.heap.objs.size (.tup [x, y])) { s with heap := h'', toks := tk } :=
      I.turnedNew (ch := [z, TI, TO, i1, i2]) kk hf (Nat.le_refl _) new
    refine ⟨.ref s.heap.objs.size, _, I1, rfl, ⟨_, x, y, rfl, I.hok.fresh (Nat.le_refl _), rfl, fun ws hl => I.list_inj hl qx ▸ hx, fun ws hl => I.tuple_inj hl qy ▸ hy⟩, ⟨⟨g1'', (sb.2 _ D.TIz).trans (hk _ _ D.TIz D.TITO D.TIi1 D.TIi2 g2)⟩, ⟨v1, v2, (sb.2 _ D.TOz).trans g3'⟩, st1.1.at fun o q => (sb.2 _ D.i1z).trans q, st2.1.at fun o q => (sb.2 _ D.i2z).trans q⟩, fun c hcm => ?_⟩
    have lt : c < s.heap.objs.size := by
      rcases (by simpa using hcm : c = z ∨ c = TI ∨ c = TO ∨ c = i1 ∨ c = i2) with q | q | q | q | q
      · exact q ▸ zl
      · exact q ▸ Heap.lt_size g2
      · exact q ▸ Heap.lt_size g3
      · obtain ⟨_, e1, _⟩ := g4; exact q ▸ Heap.lt_size e1
      · obtain ⟨_, e2, _⟩ := g5; exact q ▸ Heap.lt_size e2
    rw [upd_ne (Nat.ne_of_lt lt)]
    exact (hf c hcm).1
  done := by
    intro X hP hw hK hc i pins s σ H E I hf st hg
    subst hP hw hK
    obtain ⟨⟨g1, g2⟩, ⟨x0, y0, g3⟩, g4, g5⟩ := st
    obtain ⟨xs, ys, ⟨qx, qy⟩, hend, hi1, hi2⟩ := hg
    obtain ⟨its, rv, p, _⟩ := I.list qx
    obtain ⟨its2, rv2, p2, _⟩ := I.tuple qy
    have p2' : s.heap.IsTuple b its2.toArray := p2
    have l1 := rv.length
    have l2 := rv2.length
    refine wpAny_pyNext_zipD2_end (sepM D) (Draws.list (A := X.A.in1) (I.ok.hd hc) i1 a D.l1i1 its.toArray) (Draws.tuple (A := X.A.in1) (I.ok.hd hc) i2 b D.l2i2 its2.toArray) g1 g2 g3 ⟨g4, p.isList⟩ ⟨g5, p2'⟩ (by simp; omega) (by simp; omega) (by simp; omega) fun h' tk hk => ⟨rfl, ?_⟩
    refine I.turnedL (t' := tk) (ch := [z, TI, TO, i1, i2]) (fun c o hb q => ?_) hf
    simp only [List.mem_cons, not_or] at hb
    exact hk c o hb.1 hb.2.2.1 hb.2.2.2.1 hb.2.2.2.2.1 q
  self := fun A i s Q E st h => wpAny_pyIter_zip st.1.1 h
def iZipM (K : PySem.W.Frag) (ta : TA) : TI := fun σ H R => ta σ H fun vs H1 => ∃ a b xs ys, vs = [.ref a, .ref b] ∧ SqL K H1 a xs ∧ SqT K H1 b ys ∧ R (ItzM K a b) H1
theorem pi_zipM {X : Cx} {e e2 : Expr} {ta : TA} {p pos tpos : Pos} {elts : List Expr} {kk : Nat} (hg : Gl X "zip") (hm : X.mg "zip" = none) (ha : PA X [e, e2] ta)
    (hs : starEach [e, e2] X.env = (false, eval e X.env) :: starEach [e2] X.env := by rfl) (hpl : (backTo pos (starEach [e2] X.env)).any (·.1) = false := by rfl) :
    PI X (.Tuple elts kk tpos) (.Call (.Name "zip" p) [e, e2] [] pos) (iZipM X.K ta) := by
  refine ⟨fun pins s σ H R I h => ?_⟩
  refine Call_ (ld_blt I hg hm PyProof.Rows.boot_zip (PyProof.Rows.callWith_type1 (thn (ha.run pos pins s σ H _ I h) fun us s1 ⟨vs, H1, I1, r1, q1⟩ => ?_) hs hpl))
  obtain ⟨a, b, xs, ys, ex, qx, qy, q⟩ := q1
  subst ex
  cases r1 with
  | cons r rr =>
  cases rr with
  | cons r' rr =>
  cases rr
  cases r
  cases r'
  obtain ⟨its, rv, p1, _⟩ := I1.list qx
  obtain ⟨its2, rv2, p2, _⟩ := I1.tuple qy
  have p2' : s1.heap.IsTuple b its2.toArray := p2
  have lb : b < s1.heap.objs.size := by obtain ⟨o, e, _⟩ := id p2'; exact Heap.lt_size e
  refine own_call_zipLT p1.isList p2' fun h' g1 g2 g3 g4 g5 hk => wpAny_pyIter_zip g1 ?_
  have I2 : Inv X pins σ H1 { s1 with heap := h' } := I1.kept (t' := s1.toks) hk
  refine ⟨s1.heap.objs.size + 4, [s1.heap.objs.size + 4, s1.heap.objs.size + 2, s1.heap.objs.size + 3, s1.heap.objs.size, s1.heap.objs.size + 1], _, _, H1, rfl, I2, turn_zipM (PySem.W.ktu_apart s1.heap.objs.size a b p1.lt lb), ⟨⟨g1, g2⟩, ⟨_, _, g3⟩, g4, g5⟩, fun c hc => ?_, q⟩
  have le : s1.heap.objs.size ≤ c := by
    rcases (by simpa using hc : c = s1.heap.objs.size + 4 ∨ c = s1.heap.objs.size + 2 ∨ c = s1.heap.objs.size + 3 ∨ c = s1.heap.objs.size ∨ c = s1.heap.objs.size + 1) with z | z | z | z | z <;> (rw [z]; first | exact Nat.le_add_right _ _ | exact Nat.le_refl _)
  exact I1.fpOk le (I1.hok.fresh le)
section
variable {K : PySem.W.Frag} {cls : Cls} {W : WX} {X : Cx} {F H F' H' F1 H1 : Hp} {O O1 : List Addr} {a b : Expr} {fs : Env → Res (List D)} {pos : Pos}
theorem feeds_zipM {a b : Addr} {vs ws : List V} {ds es : List D} (h : SqL K F a vs) (r : Rps K cls F vs ds) (h2 : SqT K F b ws) (r2 : Rps K cls F ws es) : Feeds K cls F (ItzM K a b) (zipD ds es) where
  go := fun i d e F' H' s1 s2 => by
    obtain ⟨x, y, e1, e2, rfl⟩ := zipD_get e
    obtain ⟨v, q1, q2⟩ := r.get e1
    obtain ⟨w, q3, q4⟩ := r2.get e2
    have h' : SqL K H' a vs := (s1.trans s2).seq h
    have h2' : SqT K H' b ws := sameT (s1.trans s2) h2
    refine ⟨⟨vs, ws, v, w, ⟨h', h2'⟩, q1, q3⟩, fun x H'' z => ?_⟩
    obtain ⟨T, v', w', e1, e2, e3, z1, z2⟩ := z
    subst e1 e3
    have := z1 vs h'
    rw [q1] at this
    cases this
    have := z2 ws h2'
    rw [q3] at this
    cases this
    have px := Ext.put (o := .tup [v, w]) s2 e2
    exact ⟨_, px, .tp (SqT.of upd_same) (.cons (q2.mono (s1.trans px.ff)) (.cons (q4.mono (s1.trans px.ff)) .nil))⟩
  stop := fun F' H' s1 s2 => ⟨vs, ws, ⟨(s1.trans s2).seq h, sameT (s1.trans s2) h2⟩, by rw [zipD_len, r.len, r2.len]; omega⟩
def iZp2 (fs : Env → Res (List D)) : Env → Res (List D) := fun g => (fs g).bind fun ds => match ds with
  | [d, e] => (Res.of (lsS d)).bind fun xs => (Res.of (sqS e)).bind fun ys => .ok (zipD xs ys)
  | _ => .bad
@[simp] theorem iZp2_ (fs : Env → Res (List D)) (g : Env) : iZp2 fs g = (fs g).bind fun ds => match ds with
  | [d, e] => (Res.of (lsS d)).bind fun xs => (Res.of (sqS e)).bind fun ys => .ok (zipD xs ys)
  | _ => .bad := rfl
end
end DL

namespace DL
open PySem PySem.Spec PyProof.Rows L2 TL PySem.W
section
variable {K : PySem.W.Frag} {cls : Cls} {W : WX} {X : Cx} {F H F' H' F1 H1 : Hp} {O O1 : List Addr} {a b : Expr} {fs : Env → Res (List D)} {pos : Pos}
theorem feeds_zipT {a b : Addr} {vs ws : List V} {ds es : List D} (h : SqT K F a vs) (r : Rps K cls F vs ds) (h2 : SqT K F b ws) (r2 : Rps K cls F ws es) : Feeds K cls F (RZ.ItzT K a b) (zipD ds es) where
  go := fun i d e F' H' s1 s2 => by
    obtain ⟨x, y, e1, e2, rfl⟩ := zipD_get e
    obtain ⟨v, q1, q2⟩ := r.get e1
    obtain ⟨w, q3, q4⟩ := r2.get e2
    have h' : SqT K H' a vs := sameT (s1.trans s2) h
    have h2' : SqT K H' b ws := sameT (s1.trans s2) h2
    refine ⟨⟨vs, ws, v, w, h', h2', q1, q3⟩, fun x H'' z => ?_⟩
    obtain ⟨T, v', w', e1, e2, e3, z1, z2⟩ := z
    subst e1 e3
    have := z1 vs h'
    rw [q1] at this
    cases this
    have := z2 ws h2'
    rw [q3] at this
    cases this
    have px := Ext.put (o := .tup [v, w]) s2 e2
    exact ⟨_, px, .tp (SqT.of upd_same) (.cons (q2.mono (s1.trans px.ff)) (.cons (q4.mono (s1.trans px.ff)) .nil))⟩
  stop := fun F' H' s1 s2 => ⟨vs, ws, sameT (s1.trans s2) h, sameT (s1.trans s2) h2, by rw [zipD_len, r.len, r2.len]; omega⟩
def zpA : D → D → Option (List D)
  | .tp xs, .tp ys => some (zipD xs ys)
  | d, e => match lsS d, sqS e with
    | some xs, some ys => some (zipD xs ys)
    | _, _ => none
@[simp] theorem zpA_tt {xs ys : List D} : zpA (.tp xs) (.tp ys) = some (zipD xs ys) := rfl
@[simp] theorem zpA_lt {xs ys : List D} : zpA (.ls xs) (.tp ys) = some (zipD xs ys) := rfl
@[simp] theorem zpA_ll {xs ys : List D} : zpA (.ls xs) (.ls ys) = some (zipD xs ys) := rfl
def iZp3 (fs : Env → Res (List D)) : Env → Res (List D) := fun g => (fs g).bind fun ds => match ds with
  | [d, e] => Res.of (zpA d e)
  | _ => .bad
@[simp] theorem iZp3_ (fs : Env → Res (List D)) (g : Env) : iZp3 fs g = (fs g).bind fun ds => match ds with
  | [d, e] => Res.of (zpA d e)
  | _ => .bad := rfl
theorem zpA_side {d e : D} {zs : List D} (h : zpA d e = some zs) : (∃ xs ys, tpv d = some xs ∧ tpv e = some ys ∧ zs = zipD xs ys) ∨ (∃ xs ys, lsS d = some xs ∧ lsS e = some ys ∧ zs = zipD xs ys) ∨ ∃ xs ys, lsS d = some xs ∧ tpv e = some ys ∧ zs = zipD xs ys := by
  unfold zpA at h
  split at h
  · cases h; exact .inl ⟨_, _, rfl, rfl, rfl⟩
  · cases e1 : lsS d with
    | none => rw [e1] at h; cases h
    | some xs =>
      rw [e1] at h
      cases e <;> simp at h
      · exact .inr (.inl ⟨_, _, rfl, rfl, h.symm⟩)
      · exact .inr (.inl ⟨_, _, rfl, rfl, h.symm⟩)
      · exact .inr (.inr ⟨_, _, rfl, rfl, h.symm⟩)
theorem ji_zip3 {p tpos : Pos} {elts : List Expr} {kk : Nat} (hm : X.mg "zip" = none) (ha : JA X cls W [a, b] fs) (hg : Gl X "zip" := by rfl)
    (hs : starEach [a, b] X.env = (false, eval a X.env) :: starEach [b] X.env := by rfl) (hpl : (backTo pos (starEach [b] X.env)).any (·.1) = false := by rfl) :
    JI X cls W (.Tuple elts kk tpos) (.Call (.Name "zip" p) [a, b] [] pos) (iZp3 fs) := by
  obtain ⟨t, p, d⟩ := ha.ex
  refine ⟨_, pi_or (RZ.pi_zipA hg hm p hs hpl) (pi_zipM hg hm p hs hpl), ?_⟩
  intro σ F H g O R s st p
  rw [iZp3_] at p
  cases ea : fs g with
  | xc c =>
    rw [ea] at p
    exact .inl (d.go s st (fun c e => by rw [ea] at e; cases e; exact p) (fun e => by rw [ea] at e; cases e) fun d e => by rw [ea] at e; cases e)
  | bad => rw [ea] at p; exact p.elim
  | ok dd =>
    rw [ea] at p
    simp only [Res.bind] at p
    split at p
    · rename_i d1 d2
      cases e1 : zpA d1 d2 with
      | none => rw [e1] at p; exact p.elim
      | some zs =>
        rw [e1] at p
        simp only [Res.of] at p
        rcases zpA_side e1 with ⟨xs, ys, e2, e3, rfl⟩ | ⟨xs, ys, e2, e3, rfl⟩ | ⟨xs, ys, e2, e3, rfl⟩
        · refine .inl (d.go s st (fun c e => by rw [ea] at e; cases e) (fun e => by rw [ea] at e; cases e) fun ds e vs F1 H1 x b => ?_)
          rw [ea] at e; cases e
          obtain ⟨v, v', rfl, b1, b2⟩ := b.two
          obtain ⟨a, vs, rfl, h, h', r⟩ := b1.tpv x.fh e2
          obtain ⟨a2, vs2, rfl, h2, h2', r2⟩ := b2.tpv x.fh e3
          exact ⟨a, a2, vs, vs2, rfl, .inr ⟨h, h2, p _ F1 H1 x (feeds_zipT h' r h2' r2)⟩⟩
        · refine .inl (d.go s st (fun c e => by rw [ea] at e; cases e) (fun e => by rw [ea] at e; cases e) fun ds e vs F1 H1 x b => ?_)
          rw [ea] at e; cases e
          obtain ⟨v, v', rfl, b1, b2⟩ := b.two
          obtain ⟨a, vs, rfl, h, r⟩ := b1.lsS e2
          obtain ⟨a2, vs2, rfl, h2, r2⟩ := b2.lsS e3
          exact ⟨a, a2, vs, vs2, rfl, .inl ⟨x.fh.seq h, x.fh.seq h2, p _ F1 H1 x (feeds_zip h r h2 r2)⟩⟩
        · refine .inr (d.go s st (fun c e => by rw [ea] at e; cases e) (fun e => by rw [ea] at e; cases e) fun ds e vs F1 H1 x b => ?_)
          rw [ea] at e; cases e
          obtain ⟨v, v', rfl, b1, b2⟩ := b.two
          obtain ⟨a, vs, rfl, h, r⟩ := b1.lsS e2
          obtain ⟨a2, vs2, rfl, h2, h2', r2⟩ := b2.tpv x.fh e3
          exact ⟨a, a2, vs, vs2, rfl, x.fh.seq h, h2, p _ F1 H1 x (feeds_zipM h r h2' r2)⟩
    · exact p.elim
end
end DL

namespace DL
open PySem L2
section
variable {K : PySem.W.Frag} {cls : Cls} {W : WX} {X : Cx} {a : Expr} {fa : Env → Res D}
def eFrz (fa : Env → Res D) : Env → Res D := fun g => ((fa g).bind kp).bind fun d => if nod d = true then .ok (frz d) else .bad
@[simp] theorem eFrz_ (fa : Env → Res D) (g : Env) : eFrz fa g = ((fa g).bind kp).bind fun d => if nod d = true then .ok (frz d) else .bad := rfl
end
end DL

namespace DL
open PySem PySem.Spec PyProof.Rows L2 TL PySem.W
section
variable {K : PySem.W.Frag} {cls : Cls} {W : WX} {X : Cx} {F H F' H' F1 H1 : Hp} {O O1 : List Addr} {Q : VK} {a b e : Expr} {es : List Expr} {fa fb fc : Env → Res D} {fs : Env → Res (List D)} {pos : Pos}
def sIns2 (i : Nat) (fs : Env → Res (List D)) : Env → Out := fun g => match g[i]? with
  | some (.ol xs) => (fs g).st g fun ds => match ds with
    | [.int j, d] => if 0 ≤ j ∧ j ≤ 1000000000 ∧ xs.length < lim ∧ xs.all (fun d => !own1 d) = true ∧ shd1 d = true then .nx (g.set i (.ol (xs.take j.toNat ++ [d] ++ xs.drop j.toNat))) else .bad
    | _ => .bad
  | _ => .bad
@[simp] theorem sIns2_ (i : Nat) (fs : Env → Res (List D)) (g : Env) : sIns2 i fs g = match g[i]? with
  | some (.ol xs) => (fs g).st g fun ds => match ds with
    | [.int j, d] => if 0 ≤ j ∧ j ≤ 1000000000 ∧ xs.length < lim ∧ xs.all (fun d => !own1 d) = true ∧ shd1 d = true then .nx (g.set i (.ol (xs.take j.toNat ++ [d] ++ xs.drop j.toNat))) else .bad
    | _ => .bad
  | _ => .bad := rfl
end
end DL

namespace DL
open PySem PySem.Spec PyProof.Rows L2 TL PySem.W
section
variable {K : PySem.W.Frag} {cls : Cls} {W : WX} {X : Cx} {F H F' H' F1 H1 : Hp} {O O1 : List Addr} {Q : VK} {a b e tg : Expr} {es : List Expr} {fa fb fc : Env → Res D} {fs : Env → Res (List D)} {pos : Pos}
def sRvs (i : Nat) : Env → Out := fun g => match g[i]? with
  | some (.ol xs) => if xs.all (fun d => !own1 d) = true then .nx (g.set i (.ol xs.reverse)) else .bad
  | _ => .bad
@[simp] theorem sRvs_ (i : Nat) (g : Env) : sRvs i g = match g[i]? with
  | some (.ol xs) => if xs.all (fun d => !own1 d) = true then .nx (g.set i (.ol xs.reverse)) else .bad
  | _ => .bad := rfl
def iRvA (fa : Env → Res D) : Env → Res (List D) := fun g => (fa g).bind fun a => (Res.of (sqS (opd a))).bind fun xs => .ok xs.reverse
@[simp] theorem iRvA_ (fa : Env → Res D) (g : Env) : iRvA fa g = (fa g).bind fun a => (Res.of (sqS (opd a))).bind fun xs => .ok xs.reverse := rfl
def opXor : D → D → Option D
  | .int i, .int j => if j = 1 ∧ 0 ≤ i then some (.int (if i % 2 = 0 then i + 1 else i - 1)) else none
  | _, _ => none
@[simp] theorem opXor_int {i : Int} (h : 0 ≤ i) : opXor (.int i) (.int 1) = some (.int (if i % 2 = 0 then i + 1 else i - 1)) := if_pos ⟨rfl, h⟩
end
end DL

namespace DL
open PySem PySem.Spec PyProof.Rows L2 TL PySem.W
section
variable {K : PySem.W.Frag} {cls : Cls} {W : WX} {X : Cx} {F H F' H' F1 H1 : Hp} {O O1 : List Addr} {Q : VK} {a b e tg : Expr} {es : List Expr} {fa fb fc : Env → Res D} {fs : Env → Res (List D)} {pos : Pos}
def sAugE (op : Int → Int → Int) (i : Nat) (fk fa : Env → Res D) : Env → Out := fun g => match g[i]? with
  | some (.ol xs) => (fk g).st g fun k => match opd k with
    | .int k => if 0 ≤ k ∧ k < 1000000000 then match xs[k.toNat]? with
      | some (.int n) => (fa g).st g fun d => match opd d with
        | .int b => .nx (g.set i (.ol (xs.set k.toNat (.int (op n b)))))
        | _ => .bad
      | _ => .bad else .bad
    | _ => .bad
  | _ => .bad
@[simp] theorem sAugE_ (op : Int → Int → Int) (i : Nat) (fk fa : Env → Res D) (g : Env) : sAugE op i fk fa g = match g[i]? with
  | some (.ol xs) => (fk g).st g fun k => match opd k with
    | .int k => if 0 ≤ k ∧ k < 1000000000 then match xs[k.toNat]? with
      | some (.int n) => (fa g).st g fun d => match opd d with
        | .int b => .nx (g.set i (.ol (xs.set k.toNat (.int (op n b)))))
        | _ => .bad
      | _ => .bad else .bad
    | _ => .bad
  | _ => .bad := rfl
theorem js_augE {i : Nat} {x : Str} {npos tpos : Pos} {o : Operator} {op : Int → Int → Int} {fk : Env → Res D} (ho : PIp X o (ipI op)) (hN : X.N[i]? = some x) (hv : Vis X.env.scope x) (hk : JE X cls W b fk) (ha : JE X cls W a fa)
    (hd : (x == ("__debug__" : Str)) = false := by decide) (hcd : (x == ("__classdict__" : Str)) = false := by decide)
    (hst : ∀ ov iv new, augStore b ov iv new = (do holding [new, ov, iv] (setItem ov iv new); release [new, ov, iv] []; pure .next) := by intros; rfl) :
    JS X cls W (.AugAssign (.Subscript (.Name x npos) b tpos) o a pos) (sAugE op i fk fa) := by
  obtain ⟨t, p, d⟩ := ha.ex
  obtain ⟨t2, p2, d2⟩ := hk.ex
  refine ⟨_, ps_augS (pe_var hN hv hd hcd) p2 get_list0 p ho set_list hst, ?_⟩
  intro D σ F H g O s st p
  rw [sAugE_] at p
  split at p
  · rename_i xs eg
    obtain ⟨q, vs, O1, h1, h2, h2', h3, h4, h5, h6, h7⟩ := st.lst eg
    refine ⟨.ref q, h1, ?_⟩
    refine d2.go s st (fun c e F' H' y => by rw [e] at p; exact p σ F' H' O (y.sext fun a h => .inl h) (st.ext y)) (fun e => by rw [e] at p; exact p) fun kd e kv F3 H3 x3 b3 => ?_
    rw [e, Res.st_ok] at p
    split at p
    · rename_i k ek
      rw [ek] at b3
      obtain rfl := b3.int
      split at p
      · rename_i hk
        split at p
        · rename_i n en
          have hu : vs[k.toNat]? = some (.int n) := h4.intAt en
          have hlt := (List.getElem?_eq_some_iff.mp hu).1
          refine ⟨q, vs, k, .int n, rfl, rfl, x3.hh _ _ h2, hk.1, hk.2, hu, ?_⟩
          refine d.go x3.fh (st.ext x3) (fun c e F' H' y => by rw [e] at p; exact p σ F' H' O ((x3.trans y).sext fun a h => .inl h) (st.ext (x3.trans y))) (fun e => by rw [e] at p; exact p) fun dd e v F1 H1 x b => ?_
          rw [e, Res.st_ok] at p
          split at p
          · rename_i b' eb
            rw [eb] at b
            obtain rfl := b.int
            have x13 := x3.trans x
            refine ⟨n, b', rfl, rfl, q, vs, k, k.toNat, rfl, rfl, x13.hh _ _ h2, ixN_nat hk.1 (by omega), ?_⟩
            obtain ⟨O3, w3, n3⟩ := (h4.ext x13).set k.toNat (.sh (.int (op n b')) : Ow X.K cls F1 H1 (.int (op n b')) (.int (op n b')) []) fun a _ q2 => nomatch q2
            obtain ⟨O'', z1, z2⟩ := h7 F1 H1 (vs.set k.toNat (.int (op n b'))) (xs.set k.toNat (.int (op n b'))) O3 x13 w3 (fun z => by
              rcases n3 _ z with z | z
              · exact h3 z
              · exact nomatch z) (fun a z => (n3 a z).imp id (fun z => nomatch z))
            exact p σ F1 _ O'' z2 z1
          · exact p.elim
        · exact p.elim
      · exact p.elim
    · exact p.elim
  · exact p.elim
end
end DL

namespace DL
open PySem PySem.Spec PyProof.Rows L2 TL PySem.W
section
variable {K : PySem.W.Frag} {cls : Cls} {X : Cx} {F H F' H' F1 H1 : Hp} {O O1 : List Addr} {Q : VK}
def caMin4 (ds : List D) : Option D := match ds with
  | [.tp xs] => match intsOf xs with
    | some (n :: ns) => some (.int (ns.foldl min n))
    | _ => none
  | ds => caMin3 ds
@[simp] theorem caMin4_tp (n : Int) (ns : List Int) : caMin4 [.tp (.int n :: ns.map D.int)] = some (.int (ns.foldl min n)) := by
  have : intsOf (D.int n :: ns.map D.int) = some (n :: ns) := intsOf_map (n :: ns)
  simp [caMin4, this]
end
end DL

namespace DL
open PySem PySem.Spec PyProof.Rows L2 TL PySem.W
section
variable {K : PySem.W.Frag} {cls : Cls} {X : Cx} {F H F' H' F1 H1 : Hp} {O O1 : List Addr} {Q : VK}
def caSum4 (ds : List D) : Option D := match ds with
  | [.tp xs] => match intsOf xs with
    | some ns => some (.int ns.sum)
    | _ => none
  | ds => caSum ds
@[simp] theorem caSum4_tp (ns : List Int) : caSum4 [.tp (ns.map D.int)] = some (.int ns.sum) := by
  have : intsOf (ns.map D.int) = some ns := intsOf_map ns
  simp [caSum4, this]
end
end DL

namespace DL
open PySem PySem.Spec PyProof.Rows L2 TL PySem.W
section
variable {K : PySem.W.Frag} {cls : Cls} {W : WX} {X : Cx} {F H F' H' F1 H1 : Hp} {O O1 : List Addr} {Q : VK} {pos : Pos}
def unX : Out → Out
  | .xc _ _ => .bad
  | o => o
def sTryN (fb : Env → Out) (fh : Nat → Env → Out) : Env → Out := fun g => match fb g with
  | .xc c g' => unX (fh c g')
  | o => o
@[simp] theorem sTryN_ (fb : Env → Out) (fh : Nat → Env → Out) (g : Env) : sTryN fb fh g = match fb g with
  | .xc c g' => unX (fh c g')
  | o => o := rfl
end
end DL

namespace DL
open PySem PySem.Spec PyProof.Rows L2 TL PySem.W
section
variable {K : PySem.W.Frag} {cls : Cls} {X : Cx} {F H F' H' F1 H1 : Hp} {O O1 : List Addr} {Q : VK}
def cLt2 : D → D → Option Bool
  | .tp xs, .tp ys => match intsOf xs, intsOf ys with
    | some ns, some ms => some (HT.lexLt ns ms)
    | _, _ => none
  | a, b => cLt a b
@[simp] theorem cLt2_tp (ns ms : List Int) : cLt2 (.tp (ns.map D.int)) (.tp (ms.map D.int)) = some (HT.lexLt ns ms) := by
  have h1 : intsOf (ns.map D.int) = some ns := intsOf_map ns
  have h2 : intsOf (ms.map D.int) = some ms := intsOf_map ms
  simp [cLt2, h1, h2]
end
end DL

namespace DL
open PySem PySem.Spec PyProof.Rows L2 TL PySem.W
section
variable {K : PySem.W.Frag} {cls : Cls} {W : WX} {X : Cx} {F H F' H' F1 H1 : Hp} {O O1 : List Addr} {Q : VK} {e : Expr} {es : List Expr} {fs : Env → Res (List D)} {pos : Pos} {i j : Nat}
def PostRP (K : PySem.W.Frag) (cls : Cls) (W : WX) (i j : Nat) (D : Ends) (F H : Hp) (O : List Addr) : Out → Prop
  | .nx g => ∃ p xs, g[i]? = some (.int p) ∧ g[j]? = some (.ol xs) ∧ ∀ v a F' H' O', SExt F H O F' H' O' → Ow K cls F' H' v (.ol xs) O' → H' a = none → D.rt (.ref a) (upd H' a (.tup [.int p, v]))
  | .xc c g => ∀ σ' F' H' O', SExt F H O F' H' O' → Sts K cls F' H' σ' g O' → W (excV cls c) none σ' H'
  | _ => False
theorem PostRP.mono {D : Ends} {r : Out} (x : SExt F H O F1 H1 O1) (p : PostRP K cls W i j D F H O r) : PostRP K cls W i j D F1 H1 O1 r := by
  cases r with
  | nx g =>
    obtain ⟨a, xs, h1, h2, h3⟩ := p
    exact ⟨a, xs, h1, h2, fun v b F' H' O' y => h3 v b F' H' O' (x.trans y)⟩
  | xc c g => exact fun σ' F' H' O' y => p σ' F' H' O' (x.trans y)
  | rt d => exact p
  | bk g => exact p
  | ct g => exact p
  | bad => exact p
def DSRP (K : PySem.W.Frag) (cls : Cls) (W : WX) (i j : Nat) (t : TS) (f : Env → Out) : Prop :=
  ∀ D σ F H g O, Same F H → Sts K cls F H σ g O → PostRP K cls W i j D F H O (f g) → t D σ H
structure JSE (X : Cx) (cls : Cls) (W : WX) (i j : Nat) (st : List Stmt) (f : Env → Out) : Prop where
  ex : ∃ t, PSs X st t ∧ DSRP X.K cls W i j t f
def sEnd : Env → Out := fun g => .nx g
@[simp] theorem sEnd_ (g : Env) : sEnd g = .nx g := rfl
def sUnp (i j : Nat) (g : List D → Res (Int × List D)) (fs : Env → Res (List D)) : Env → Out := fun env => (fs env).st env fun ds => if shd ds = true then match g ds with
  | .ok (p, xs) => .nx ((env.set i (.int p)).set j (.ol xs))
  | .xc c => .xc c env
  | .bad => .bad else .bad
@[simp] theorem sUnp_ (i j : Nat) (g : List D → Res (Int × List D)) (fs : Env → Res (List D)) (env : Env) : sUnp i j g fs env = (fs env).st env fun ds => if shd ds = true then match g ds with
  | .ok (p, xs) => .nx ((env.set i (.int p)).set j (.ol xs))
  | .xc c => .xc c env
  | .bad => .bad else .bad := rfl
end
end DL

namespace DL
open PySem PySem.Spec PyProof.Rows L2 TL PySem.W
end DL

namespace DL
open PySem PySem.Spec PyProof.Rows L2 TL PySem.W
def leT (ns ms : List Int) : Bool := Ob.lexAt (fun j => decide (ns.getD j 0 = ms.getD j 0)) (fun j => decide (ns.getD j 0 ≤ ms.getD j 0)) (decide (ns.length ≤ ms.length)) 0 (min ns.length ms.length)
section
variable {K : PySem.W.Frag} {cls : Cls} {W : WX} {X : Cx} {F H F' H' F1 H1 : Hp} {O O1 : List Addr} {Q : VK} {a b c d e : Expr} {fa fb fc fd fe : Env → Res D} {pos : Pos}
def cLe2 : D → D → Option Bool
  | .tp xs, .tp ys => match intsOf xs, intsOf ys with
    | some ns, some ms => some (leT ns ms)
    | _, _ => none
  | a, b => cLe a b
@[simp] theorem cLe2_tp (ns ms : List Int) : cLe2 (.tp (ns.map D.int)) (.tp (ms.map D.int)) = some (leT ns ms) := by
  have h1 : intsOf (ns.map D.int) = some ns := intsOf_map ns
  have h2 : intsOf (ms.map D.int) = some ms := intsOf_map ms
  simp [cLe2, h1, h2]
def lLast (op : D → D → Option Bool) (f : Env → Res D) (b : D) (g : Env) : Res Bool := (f g).bind fun c => .of (op (opd b) (opd c))
def lNext (op : D → D → Option Bool) (f : Env → Res D) (k : D → Env → Res Bool) (b : D) (g : Env) : Res Bool := (f g).bind fun c => (Res.of (op (opd b) (opd c))).bind fun kk => if kk = true then k c g else .ok false
def lHead (f : Env → Res D) (k : D → Env → Res Bool) (g : Env) : Res Bool := (f g).bind fun b => k b g
@[simp] theorem lLast_ (op : D → D → Option Bool) (f : Env → Res D) (b : D) (g : Env) : lLast op f b g = (f g).bind fun c => .of (op (opd b) (opd c)) := rfl
@[simp] theorem lNext_ (op : D → D → Option Bool) (f : Env → Res D) (k : D → Env → Res Bool) (b : D) (g : Env) : lNext op f k b g = (f g).bind fun c => (Res.of (op (opd b) (opd c))).bind fun kk => if kk = true then k c g else .ok false := rfl
@[simp] theorem lHead_ (f : Env → Res D) (k : D → Env → Res Bool) (g : Env) : lHead f k g = (f g).bind fun b => k b g := rfl
end
end DL

namespace DL
open PySem PySem.Spec PyProof.Rows L2 TL PySem.W
section
variable {K : PySem.W.Frag} {cls : Cls} {W : WX} {X : Cx} {F H F' H' F1 H1 : Hp} {O O1 : List Addr} {Q : VK} {a b : Expr} {fa fb : Env → Res D} {pos : Pos}
def eJoin (fa fb : Env → Res D) : Env → Res D := fun g => (fa g).bind fun d => match opd d with
  | .str x => (fb g).bind fun e => match sqL (opd e) with
    | some xs => match strsOf xs with
      | some ys => if (ys.map (·.length)).sum + ys.length * x.length ≤ 16777216 then .ok (.str (Txt.join x ys)) else .bad
      | none => .bad
    | none => .bad
  | _ => .bad
@[simp] theorem eJoin_ (fa fb : Env → Res D) (g : Env) : eJoin fa fb g = (fa g).bind fun d => match opd d with
  | .str x => (fb g).bind fun e => match sqL (opd e) with
    | some xs => match strsOf xs with
      | some ys => if (ys.map (·.length)).sum + ys.length * x.length ≤ 16777216 then .ok (.str (Txt.join x ys)) else .bad
      | none => .bad
    | none => .bad
  | _ => .bad := rfl
end
end DL

namespace DL
open PySem PySem.Spec PyProof.Rows L2 TL PySem.W
section
variable {K : PySem.W.Frag} {cls : Cls} {W : WX} {X : Cx} {F H F' H' F1 H1 : Hp} {O O1 : List Addr} {Q : VK} {a b tg iter : Expr} {fa fb : Env → Res D} {pos : Pos}
def eSlS (fa : Env → Res D) (lo hi : Env → Res (Option Int)) : Env → Res D := fun g => (fa g).bind fun a => (lo g).bind fun l => (hi g).bind fun h => match opd a with
  | .str z => if z.length ≤ lim then .ok (.str (cutS z l h)) else .bad
  | _ => .bad
@[simp] theorem eSlS_ (fa : Env → Res D) (lo hi : Env → Res (Option Int)) (g : Env) : eSlS fa lo hi g = (fa g).bind fun a => (lo g).bind fun l => (hi g).bind fun h => match opd a with
  | .str z => if z.length ≤ lim then .ok (.str (cutS z l h)) else .bad
  | _ => .bad := rfl
def sgs (x : Str) : List D := x.cps.toList.map fun c => D.str ⟨#[c]⟩
def iStrD (fa : Env → Res D) : Env → Res (List D) := fun g => (fa g).bind fun a => match opd a with
  | .str x => .ok (sgs x)
  | _ => .bad
@[simp] theorem iStrD_ (fa : Env → Res D) (g : Env) : iStrD fa g = (fa g).bind fun a => match opd a with
  | .str x => .ok (sgs x)
  | _ => .bad := rfl
def eSplit (fa fb : Env → Res D) : Env → Res D := fun g => (fa g).bind fun d => match opd d with
  | .str x => (fb g).bind fun e => match opd e with
    | .str y => if (y.length == 0) = false ∧ x.length + 2 ≤ lim then .ok (.ol ((Txt.split x y).map D.str)) else .bad
    | _ => .bad
  | _ => .bad
@[simp] theorem eSplit_ (fa fb : Env → Res D) (g : Env) : eSplit fa fb g = (fa g).bind fun d => match opd d with
  | .str x => (fb g).bind fun e => match opd e with
    | .str y => if (y.length == 0) = false ∧ x.length + 2 ≤ lim then .ok (.ol ((Txt.split x y).map D.str)) else .bad
    | _ => .bad
  | _ => .bad := rfl
end
end DL

namespace DL
open PySem PySem.Spec PyProof.Rows L2 PySem.W
section
variable {X : Cx} {cls : Cls} {K : PySem.W.Frag} {pins : List (Addr × Obj)} {s : Shared} {σ : L2.St} {H F H' F' : Hp} {Q : VK} {W : WX}
variable {e : Expr} {te : TE} {p apos cpos pos : Pos}
end
section
variable {K : PySem.W.Frag} {cls : Cls} {W : WX} {X : Cx} {F H F' H' F1 H1 : Hp} {O O1 : List Addr} {Q : VK} {a o e : Expr} {es : List Expr} {fa fo : Env → Res D} {fs : Env → Res (List D)} {pos apos cpos p : Pos} {k n : Nat}
def keyInts : List L2.Key → Option (List Int)
  | [] => some []
  | .inl i :: ks => (keyInts ks).map (i :: ·)
  | .inr _ :: _ => none
def eSortK (fa : Env → Res D) : Env → Res D := fun g => (fa g).bind fun d => match opd d with
  | .bd ks _ => match keyInts ks with
    | some ns => .ok (.ol ((srt ns).map D.int))
    | none => .bad
  | _ => .bad
@[simp] theorem eSortK_ (fa : Env → Res D) (g : Env) : eSortK fa g = (fa g).bind fun d => match opd d with
  | .bd ks _ => match keyInts ks with
    | some ns => .ok (.ol ((srt ns).map D.int))
    | none => .bad
  | _ => .bad := rfl
variable {m : Str} {C f : Addr} {fd : FuncData} {ps : List Str} {sp : Sp} {t : TA} {ta : TE} {E : L2.St → XK} {CX : CXT}
def eMeth (c : Nat) (g : List D → Res D) (fo : Env → Res D) (fs : Env → Res (List D)) : Env → Res D := fun e => (fo e).bind fun d => match opd d with
  | .ob c' fl => if c' = c then (fs e).bind fun ds => calD g (.ob c' fl :: ds) else .bad
  | _ => .bad
@[simp] theorem eMeth_ (c : Nat) (g : List D → Res D) (fo : Env → Res D) (fs : Env → Res (List D)) (e : Env) : eMeth c g fo fs e = (fo e).bind fun d => match opd d with
  | .ob c' fl => if c' = c then (fs e).bind fun ds => calD g (.ob c' fl :: ds) else .bad
  | _ => .bad := rfl
def eIndexT (fa fb : Env → Res D) : Env → Res D := fun g => (fa g).bind fun d => match opd d with
  | .ls xs => match tupsOf xs with
    | some L => (fb g).bind fun e => match opd e with
      | .tp ys => match intsOf ys with
        | some l => if l ∈ L then .ok (.int (L.idxOf l : Nat)) else .bad
        | none => .bad
      | _ => .bad
    | none => .bad
  | _ => .bad
@[simp] theorem eIndexT_ (fa fb : Env → Res D) (g : Env) : eIndexT fa fb g = (fa g).bind fun d => match opd d with
  | .ls xs => match tupsOf xs with
    | some L => (fb g).bind fun e => match opd e with
      | .tp ys => match intsOf ys with
        | some l => if l ∈ L then .ok (.int (L.idxOf l : Nat)) else .bad
        | none => .bad
      | _ => .bad
    | none => .bad
  | _ => .bad := rfl
end
end DL

namespace DL
open PySem PySem.Spec PyProof.Rows L2 TL PySem.W
section
variable {K : PySem.W.Frag} {cls : Cls} {X : Cx}
def cIsB : D → D → Option Bool
  | .bl a, .bl b => some (a == b)
  | _, _ => none
def cNotB : D → D → Option Bool
  | .bl a, .bl b => some (!(a == b))
  | _, _ => none
@[simp] theorem cIsB_bl (a b : Bool) : cIsB (.bl a) (.bl b) = some (a == b) := rfl
@[simp] theorem cNotB_bl (a b : Bool) : cNotB (.bl a) (.bl b) = some (!(a == b)) := rfl
end
end DL

namespace DL
open PySem PySem.Spec PyProof.Rows L2 TL PySem.W
section
variable {K : PySem.W.Frag} {cls : Cls} {X : Cx} {F H F' H' F1 H1 : Hp} {O O1 : List Addr} {Q : VK}
def cGt2 : D → D → Option Bool
  | .tp xs, .tp ys => match intsOf xs, intsOf ys with
    | some ns, some ms => some (HT.lexLt ms ns)
    | _, _ => none
  | a, b => cGt a b
@[simp] theorem cGt2_tp (ns ms : List Int) : cGt2 (.tp (ns.map D.int)) (.tp (ms.map D.int)) = some (HT.lexLt ms ns) := by
  have h1 : intsOf (ns.map D.int) = some ns := intsOf_map ns
  have h2 : intsOf (ms.map D.int) = some ms := intsOf_map ms
  simp [cGt2, h1, h2]
end
end DL

namespace DL
open PySem PySem.Spec PyProof.Rows L2 TL PySem.W
section
variable {K : PySem.W.Frag} {cls : Cls} {W : WX} {X : Cx} {F H F' H' F1 H1 : Hp} {O O1 : List Addr} {Q : VK} {o e f : Expr} {fo fk fx : Env → Res D} {apos cpos : Pos}
def eDG2 (fo fk fx : Env → Res D) : Env → Res D := fun g => (fo g).bind fun a => match opd a with
  | .bd ks ds => (fk g).bind fun b => (fx g).bind fun z => match opd b with
    | .int k => .ok ((valG (ks.zip ds) (.inl k)).getD (opd z))
    | _ => .bad
  | _ => .bad
@[simp] theorem eDG2_ (fo fk fx : Env → Res D) (g : Env) : eDG2 fo fk fx g = (fo g).bind fun a => match opd a with
  | .bd ks ds => (fk g).bind fun b => (fx g).bind fun z => match opd b with
    | .int k => .ok ((valG (ks.zip ds) (.inl k)).getD (opd z))
    | _ => .bad
  | _ => .bad := rfl
end
end DL

namespace DL
open PySem PySem.Spec PyProof.Rows L2 TL PySem.W
section
variable {K : PySem.W.Frag} {cls : Cls} {W : WX} {X : Cx} {F H F' H' F1 H1 : Hp} {O O1 : List Addr} {Q : VK} {a b e o : Expr} {fa fb fo : Env → Res D} {pos apos cpos : Pos}
def sRem (i : Nat) (fa : Env → Res D) : Env → Out := fun g => match g[i]? with
  | some (.ol xs) => (fa g).st g fun d => match toPys xs, toPy (opd d) with
    | some ps, some pd => if xs.length ≤ 1000000 ∧ PyData.plainAll ps = true ∧ pd.plain = true ∧ pd.depth ≤ 60 then match SeqAt.dataPlace ps pd with
      | some k => match xs[k]? with
        | some y => if own1 y = false then .nx (g.set i (.ol (xs.eraseIdx k))) else .bad
        | none => .bad
      | none => .bad
      else .bad
    | _, _ => .bad
  | _ => .bad
@[simp] theorem sRem_ (i : Nat) (fa : Env → Res D) (g : Env) : sRem i fa g = match g[i]? with
  | some (.ol xs) => (fa g).st g fun d => match toPys xs, toPy (opd d) with
    | some ps, some pd => if xs.length ≤ 1000000 ∧ PyData.plainAll ps = true ∧ pd.plain = true ∧ pd.depth ≤ 60 then match SeqAt.dataPlace ps pd with
      | some k => match xs[k]? with
        | some y => if own1 y = false then .nx (g.set i (.ol (xs.eraseIdx k))) else .bad
        | none => .bad
      | none => .bad
      else .bad
    | _, _ => .bad
  | _ => .bad := rfl
end
end DL

namespace DL
open PySem PySem.Spec PyProof.Rows L2 TL PySem.W
section
variable {K : PySem.W.Frag} {cls : Cls} {W : WX} {X : Cx} {F H F' H' F1 H1 : Hp} {O O1 : List Addr} {Q : VK} {a b e c : Expr} {es : List Expr} {fa fe : Env → Res D} {ft : Env → Res Bool} {fs : Env → Res (List D)} {pos : Pos}
def PostM (K : PySem.W.Frag) (cls : Cls) (W : WX) (En : Ends) (σ : L2.St) (F H : Hp) (q : Addr) (us : List V) : Res (Option D) → Prop
  | .ok none => ∀ F' H', Ext F H F' H' → En.nx σ H'
  | .ok (some d) => ∀ v F' H', Ext F H F' H' → Rp K cls F' v d → En.nx σ (upd H' q (.lst (us ++ [v])))
  | .xc c => ∀ F' H', Ext F H F' H' → W (excV cls c) none σ H'
  | .bad => False
theorem PostM.mono {En : Ends} {σ : L2.St} {q : Addr} {us : List V} {r : Res (Option D)} (x : Ext F H F1 H1) (h : PostM K cls W En σ F H q us r) : PostM K cls W En σ F1 H1 q us r := by
  cases r with
  | ok o =>
    cases o with
    | none => exact fun F' H' y => h F' H' (x.trans y)
    | some d => exact fun v F' H' y r => h v F' H' (x.trans y) r
  | xc c => exact fun F' H' y => h F' H' (x.trans y)
  | bad => exact h
structure JM (X : Cx) (cls : Cls) (W : WX) (sts : List Stmt) (f : Env → Res (Option D)) : Prop where
  ex : ∃ t, PSs X sts t ∧ ∀ (En : Ends) (σ : L2.St) (F H : Hp) (g : Env) (O : List Addr) (q : Addr) (us : List V), Same F H → Sts X.K cls F H σ g O → σ[0]? = some (some (.ref q)) → H q = some (.lst us) → us.length < lim → PostM X.K cls W En σ F H q us (f g) → t En σ H
def sPut (i : Nat) (g : List D → Res (Option D)) (fs : Env → Res (List D)) : Env → Out := fun env => match env[i]? with
  | some (.ol xs) => (fs env).st env fun ds => if shd ds = true ∧ xs.length < lim then match g ds with
    | .ok none => .nx env
    | .ok (some d) => .nx (env.set i (.ol (xs ++ [d])))
    | .xc c => .xc c env
    | .bad => .bad else .bad
  | _ => .bad
@[simp] theorem sPut_ (i : Nat) (g : List D → Res (Option D)) (fs : Env → Res (List D)) (env : Env) : sPut i g fs env = match env[i]? with
  | some (.ol xs) => (fs env).st env fun ds => if shd ds = true ∧ xs.length < lim then match g ds with
    | .ok none => .nx env
    | .ok (some d) => .nx (env.set i (.ol (xs ++ [d])))
    | .xc c => .xc c env
    | .bad => .bad else .bad
  | _ => .bad := rfl
end
end DL

namespace DL
open PySem PySem.Spec PyProof.Rows L2 TL PySem.W
section
variable {K : PySem.W.Frag} {cls : Cls} {W : WX} {X : Cx} {a : Expr} {fa : Env → Res D} {i : Nat}
def eView (i : Nat) (fa : Env → Res D) : Env → Res D := fun g => (fa (frzAt g i)).bind fun d => if flat d = true then .ok d else .bad
@[simp] theorem eView_ (i : Nat) (fa : Env → Res D) (g : Env) : eView i fa g = (fa (frzAt g i)).bind fun d => if flat d = true then .ok d else .bad := rfl
end
end DL

namespace DL
open PySem PySem.Spec PyProof.Rows L2 TL PySem.W
section
variable {K : PySem.W.Frag} {cls : Cls} {X : Cx} {F H F' H' F1 H1 : Hp} {O O1 : List Addr} {Q : VK}
def ntOf : D → Option (Int × List Int)
  | .tp [.int i, .tp xs] => (intsOf xs).map fun ns => (i, ns)
  | _ => none
theorem ntOf_NT (x : Int × List Int) : ntOf (dNT x) = some x := by
  show (intsOf (x.2.map D.int)).map (fun ns => (x.1, ns)) = _
  rw [intsOf_map]
  rfl
def cLt6 (a b : D) : Option Bool := match ntOf a, ntOf b with
  | some x, some y => some (HT.lexLt (x.1 :: x.2) (y.1 :: y.2))
  | _, _ => cLt a b
def cLe6 (a b : D) : Option Bool := match ntOf a, ntOf b with
  | some x, some y => some (!HT.lexLt (y.1 :: y.2) (x.1 :: x.2))
  | _, _ => cLe a b
@[simp] theorem cLt6_NT (x y : Int × List Int) : cLt6 (dNT x) (dNT y) = some (HT.lexLt (x.1 :: x.2) (y.1 :: y.2)) := by
  unfold cLt6
  rw [ntOf_NT, ntOf_NT]
@[simp] theorem cLe6_NT (x y : Int × List Int) : cLe6 (dNT x) (dNT y) = some (!HT.lexLt (y.1 :: y.2) (x.1 :: x.2)) := by
  unfold cLe6
  rw [ntOf_NT, ntOf_NT]
end
end DL

namespace DL
open PySem PySem.Spec PyProof.Rows L2 TL PySem.W
section
variable {K : PySem.W.Frag} {cls : Cls} {W : WX} {X : Cx} {F H F' H' F1 H1 : Hp} {O O1 : List Addr} {Q : VK} {σ : L2.St} {a b e c : Expr} {ft : Env → Res Bool} {pos : Pos}
theorem Sts.any : ∀ {σ : L2.St} {g : Env} {O : List Addr} {j : Nat} {o : Option V}, Sts K cls F H σ g O → g[j]? = some .un → Sts K cls F H (σ.set j o) g O
  | _, _, _, j, o, .nil, h => by simp at h
  | _, _, _, 0, o, .un r, _ => .un r
  | _, _, _, j + 1, o, .un r, h => .un (r.any (by simpa using h))
  | _, _, _, 0, o, .cons (d := d) w r dj e, h => by
    have h : d = .un := by simpa using h
    subst h
    cases w with
    | sh r => cases r
  | _, _, _, j + 1, o, .cons w r dj e, h => .cons w (r.any (by simpa using h)) dj e
end
end DL

namespace DL
open PySem PySem.Spec PyProof.Rows L2 TL PySem.W
section
variable {K : PySem.W.Frag} {cls : Cls} {W : WX} {X : Cx} {F H F' H' F1 H1 : Hp} {O O1 : List Addr} {Q : VK} {σ : L2.St} {a b e c o : Expr} {fo : Env → Res D} {pos apos cpos : Pos}
def eIndexS (fa fb : Env → Res D) : Env → Res D := fun g => (fa g).bind fun d => match opd d with
  | .ls xs => match strsOf xs with
    | some L => (fb g).bind fun e => match opd e with
      | .str l => if l ∈ L ∧ (L.all fun z => PyData.strOk z) = true ∧ PyData.strOk l = true then .ok (.int (L.idxOf l : Nat)) else .bad
      | _ => .bad
    | none => .bad
  | _ => .bad
@[simp] theorem eIndexS_ (fa fb : Env → Res D) (g : Env) : eIndexS fa fb g = (fa g).bind fun d => match opd d with
  | .ls xs => match strsOf xs with
    | some L => (fb g).bind fun e => match opd e with
      | .str l => if l ∈ L ∧ (L.all fun z => PyData.strOk z) = true ∧ PyData.strOk l = true then .ok (.int (L.idxOf l : Nat)) else .bad
      | _ => .bad
    | none => .bad
  | _ => .bad := rfl
end
end DL

noncomputable section
namespace DL
open PySem L2
section
variable {K : PySem.W.Frag} {cls : Cls} {X : Cx}
def repS (x : Str) (n : Nat) : Str := ⟨(List.replicate n x.cps).foldl (· ++ ·) #[]⟩
def MsOk (x : Str) (k : Int) : Prop := (2 ≤ k ∧ k ≤ 1000 ∧ x.length = 1) ∧ (repS x k.toNat).length ≤ 1000
instance (x : Str) (k : Int) : Decidable (MsOk x k) := by unfold MsOk; infer_instance
end
end DL
end

noncomputable section
namespace DL
open PySem PySem.Spec PyProof.Rows L2 TL PySem.W
section
variable {K : PySem.W.Frag} {cls : Cls} {W : WX} {X : Cx} {F H F' H' F1 H1 : Hp} {O O1 : List Addr} {Q : VK} {a o e : Expr} {fa fb : Env → Res D} {pos apos cpos : Pos}
def caLenD : List D → Option D
  | [.bd ks _] => some (.int ks.length)
  | _ => none
@[simp] theorem caLenD_ (ks : List L2.Key) (xs : List D) : caLenD [.bd ks xs] = some (.int ks.length) := rfl
def eCount (fa fb : Env → Res D) : Env → Res D := fun g => (fa g).bind fun d => match lsI d with
  | some ns => (fb g).bind fun e => match opd e with
    | .int x => .ok (.int (ns.count x : Nat))
    | _ => .bad
  | none => .bad
@[simp] theorem eCount_ (fa fb : Env → Res D) (g : Env) : eCount fa fb g = (fa g).bind fun d => match lsI d with
  | some ns => (fb g).bind fun e => match opd e with
    | .int x => .ok (.int (ns.count x : Nat))
    | _ => .bad
  | none => .bad := rfl
theorem je_count {o : Expr} {apos cpos : Pos} (ho : JE X cls W o fa) (ha : JE X cls W a fb)
    (hbase : attributeBase o "count" X.env (eval o X.env) = eval o X.env := by rfl)
    (hfew : ((backTo cpos (starEach (a :: []) X.env)).all (fun x => !x.1) && (backToKw cpos (keywordEach [] X.env)).all (fun x => x.1.isSome)
      && decide ((a :: []).length + ([] : List Keyword).length + (if ([] : List Keyword).isEmpty then 0 else 1) < 30)) = true := by rfl)
    (hline : (apos.endLine == cpos.line) = true := by rfl) (hs : starEach (a :: []) X.env = (false, eval a X.env) :: starEach [] X.env := by rfl) (hplain : (backTo cpos (starEach [] X.env)).any (·.1) = false := by rfl) :
    JE X cls W (.Call (.Attribute o "count" apos) [a] [] cpos) (eCount fa fb) := by
  obtain ⟨to, po, eo⟩ := ho.ex
  obtain ⟨ta, pa, ea⟩ := ha.ex
  refine ⟨_, pe_bm PySem.F.plainAttrs_list PySem.F.slot_list_count PySem.F.type_list_count mt_lcount po (pa_cons pa pa_nil hs) hbase hfew hline hs hplain, ?_⟩
  intro σ F H g O Q s st p
  rw [eCount_] at p
  refine eo.go s st (fun c e => by rw [e] at p; exact p) (fun e => by rw [e] at p; exact p) fun d e v F1 H1 x1 b1 => ?_
  rw [e] at p
  simp only [Res.bind] at p
  cases el : lsI d with
  | none => rw [el] at p; exact p.elim
  | some ns =>
    rw [el] at p
    obtain ⟨q, rfl, hq⟩ := lsI_ok x1.fh b1 el
    refine ⟨.inl ⟨rfl, _, hq⟩, ?_⟩
    refine ea.go x1.fh (st.ext x1) (fun c e => by rw [e] at p; exact fun F' H' y => p F' H' (x1.trans y)) (fun e => by rw [e] at p; exact p) fun d2 e2 v2 F2 H2 x2 b2 => ?_
    rw [e2] at p
    simp only [Res.bind] at p
    split at p
    · rename_i x ex
      rw [ex] at b2
      obtain rfl := b2.int
      exact ⟨q, ns, x, rfl, rfl, x2.hh.seq hq, p _ F2 H2 [] (x1.trans x2) Fresh.nil (.inl (.sh (.int _)))⟩
    · exact p.elim
end
end DL
end

noncomputable section
namespace DL
open PySem PySem.Spec PyProof.Rows L2 TL PySem.W
section
variable {K : PySem.W.Frag} {cls : Cls} {W : WX} {X : Cx} {F H F' H' F1 H1 : Hp} {O O1 : List Addr} {Q : VK} {pos apos cpos npos : Pos}
def sAppMv (i j : Nat) : Env → Out := fun g => match g[i]?, g[j]? with
  | some (.ol xs), some (.ol ys) => if xs.length < lim ∧ i ≠ j then .nx ((g.set j .un).set i (.ol (xs ++ [.ol ys]))) else .bad
  | _, _ => .bad
@[simp] theorem sAppMv_ (i j : Nat) (g : Env) : sAppMv i j g = match g[i]?, g[j]? with
  | some (.ol xs), some (.ol ys) => if xs.length < lim ∧ i ≠ j then .nx ((g.set j .un).set i (.ol (xs ++ [.ol ys]))) else .bad
  | _, _ => .bad := rfl
end
end DL
end

namespace TL
open PySem PySem.W PySem.Calls PyProof.Rows
section
variable {prog : Program} {w : World} {A : Around} {E : Value → Shared → Prop} {s : Shared}
end
end TL
namespace DL
open PySem PySem.Spec PyProof.Rows L2 TL PySem.W
section
variable {K : PySem.W.Frag} {cls : Cls} {W : WX} {X : Cx} {F H F' H' F1 H1 : Hp} {O O1 : List Addr} {Q : VK}
end
end DL

namespace Dt
def sm : Nat → (Nat → Int) → Int
  | 0, _ => 0
  | n + 1, f => sm n f + f n
def sg (i : Nat) : Int := if i % 2 = 0 then 1 else -1
theorem sg_succ (i : Nat) : sg (i + 1) = - sg i := by unfold sg; split <;> split <;> omega
theorem sm_congr {f g : Nat → Int} : ∀ {n : Nat}, (∀ i, i < n → f i = g i) → sm n f = sm n g
  | 0, _ => rfl
  | n + 1, h => by simp only [sm]; rw [sm_congr fun i hi => h i (by omega), h n (by omega)]
theorem sm_zero {f : Nat → Int} : ∀ {n : Nat}, (∀ i, i < n → f i = 0) → sm n f = 0
  | 0, _ => rfl
  | n + 1, h => by simp only [sm]; rw [sm_zero fun i hi => h i (by omega), h n (by omega)]; rfl
theorem sm_lin (s t : Int) (f g : Nat → Int) : ∀ n, sm n (fun i => s * f i + t * g i) = s * sm n f + t * sm n g
  | 0 => by simp [sm]
  | n + 1 => by simp only [sm]; rw [sm_lin s t f g n]; simp only [Int.mul_add]; omega
theorem sm_one {f : Nat → Int} {k : Nat} : ∀ {n : Nat}, k < n → (∀ i, i < n → i ≠ k → f i = 0) → sm n f = f k
  | n + 1, hk, h => by
    simp only [sm]
    by_cases e : k = n
    · subst e
      rw [sm_zero fun i hi => h i (by omega) (by omega)]; omega
    · rw [sm_one (by omega) fun i hi hn => h i (by omega) hn, h n (by omega) (by omega)]; omega
theorem sm_two {f : Nat → Int} {k : Nat} : ∀ {n : Nat}, k + 1 < n → (∀ i, i < n → i ≠ k → i ≠ k + 1 → f i = 0) → sm n f = f k + f (k + 1)
  | n + 1, hk, h => by
    simp only [sm]
    by_cases e : k + 1 = n
    · subst e
      rw [sm_one (k := k) (by omega) fun i hi hn => h i (by omega) hn (by omega)]
    · rw [sm_two (by omega) fun i hi h1 h2 => h i (by omega) h1 h2, h n (by omega) (by omega) (by omega)]; omega
abbrev Mx := Nat → Nat → Int
def del (i : Nat) (A : Mx) : Mx := fun r => A (if r < i then r else r + 1)
def det : Nat → Nat → Mx → Int
  | 0, _, _ => 1
  | n + 1, c, A => sm (n + 1) fun i => sg i * A i c * det n (c + 1) (del i A)
theorem det_congr : ∀ {n c : Nat} {A B : Mx}, (∀ r j, r < n → c ≤ j → j < c + n → A r j = B r j) → det n c A = det n c B
  | 0, _, _, _, _ => rfl
  | n + 1, c, A, B, h => by
    simp only [det]
    refine sm_congr fun i hi => ?_
    rw [h i c hi (by omega) (by omega)]
    congr 1
    refine det_congr fun r j hr h1 h2 => ?_
    unfold del
    exact h _ j (by split <;> omega) (by omega) (by omega)
def upd (A : Mx) (k : Nat) (x : Nat → Int) : Mx := fun r => if r = k then x else A r
theorem upd_self (A : Mx) (k : Nat) : upd A k (A k) = A := by funext r; unfold upd; split <;> simp_all
theorem upd_at (A : Mx) (k : Nat) (x : Nat → Int) : upd A k x k = x := by simp [upd]
theorem upd_ne {A : Mx} {k r : Nat} {x : Nat → Int} (h : r ≠ k) : upd A k x r = A r := by simp [upd, h]
theorem upd_upd (A : Mx) (k : Nat) (x y : Nat → Int) : upd (upd A k x) k y = upd A k y := by funext r; unfold upd; split <;> simp_all
theorem upd_comm (A : Mx) {k l : Nat} (h : k ≠ l) (x y : Nat → Int) : upd (upd A k x) l y = upd (upd A l y) k x := by
  funext r; unfold upd; split <;> split <;> simp_all
theorem del_upd_same (A : Mx) (k : Nat) (x : Nat → Int) : del k (upd A k x) = del k A := by
  funext r; unfold del upd
  split <;> rw [if_neg (by omega)]
theorem del_upd_lt (A : Mx) {i k : Nat} (h : i < k) (x : Nat → Int) : del i (upd A k x) = upd (del i A) (k - 1) x := by
  funext r; unfold del upd
  by_cases e : r = k - 1
  · rw [if_pos e, if_pos (by split <;> omega)]
  · rw [if_neg e, if_neg (by split <;> omega)]
theorem del_upd_gt (A : Mx) {i k : Nat} (h : k < i) (x : Nat → Int) : del i (upd A k x) = upd (del i A) k x := by
  funext r; unfold del upd
  by_cases e : r = k
  · rw [if_pos e, if_pos (by split <;> omega)]
  · rw [if_neg e, if_neg (by split <;> omega)]
theorem det_lin (s t : Int) (x y : Nat → Int) : ∀ {n c k : Nat} (A : Mx), k < n → det n c (upd A k fun j => s * x j + t * y j) = s * det n c (upd A k x) + t * det n c (upd A k y)
  | n + 1, c, k, A, hk => by
    simp only [det]
    rw [← sm_lin]
    refine sm_congr fun i hi => ?_
    by_cases e : i = k
    · subst e
      rw [del_upd_same, del_upd_same, del_upd_same, upd_at, upd_at, upd_at]
      generalize det n (c + 1) (del i A) = d
      simp only [Int.mul_add, Int.add_mul]
      rw [show sg i * (s * x c) * d = s * (sg i * x c * d) by ac_rfl, show sg i * (t * y c) * d = t * (sg i * y c * d) by ac_rfl]
    · rw [upd_ne e, upd_ne e, upd_ne e]
      rcases Nat.lt_or_ge i k with h | h
      · rw [del_upd_lt A h, del_upd_lt A h, del_upd_lt A h, det_lin s t x y (del i A) (by omega)]
        simp only [Int.mul_add]
        rw [show sg i * A i c * (s * det n (c + 1) (upd (del i A) (k - 1) x)) = s * (sg i * A i c * det n (c + 1) (upd (del i A) (k - 1) x)) by ac_rfl,
          show sg i * A i c * (t * det n (c + 1) (upd (del i A) (k - 1) y)) = t * (sg i * A i c * det n (c + 1) (upd (del i A) (k - 1) y)) by ac_rfl]
      · have h : k < i := by omega
        rw [del_upd_gt A h, del_upd_gt A h, del_upd_gt A h, det_lin s t x y (del i A) (by omega)]
        simp only [Int.mul_add]
        rw [show sg i * A i c * (s * det n (c + 1) (upd (del i A) k x)) = s * (sg i * A i c * det n (c + 1) (upd (del i A) k x)) by ac_rfl,
          show sg i * A i c * (t * det n (c + 1) (upd (del i A) k y)) = t * (sg i * A i c * det n (c + 1) (upd (del i A) k y)) by ac_rfl]
theorem det_mul (s : Int) (x : Nat → Int) {n c k : Nat} (A : Mx) (hk : k < n) : det n c (upd A k fun j => s * x j) = s * det n c (upd A k x) := by
  have h := det_lin (c := c) s 0 x x A hk
  simp only [Int.zero_mul, Int.add_zero] at h
  exact h
theorem det_add (x y : Nat → Int) {n c k : Nat} (A : Mx) (hk : k < n) : det n c (upd A k fun j => x j + y j) = det n c (upd A k x) + det n c (upd A k y) := by
  have h := det_lin (c := c) 1 1 x y A hk
  simp only [Int.one_mul] at h
  exact h
theorem det_adj : ∀ {n c k : Nat} {A : Mx}, k + 1 < n → A k = A (k + 1) → det n c A = 0
  | n + 1, c, k, A, hk, h => by
    simp only [det]
    rw [sm_two hk]
    · have e : del k A = del (k + 1) A := by
        funext r; unfold del
        by_cases q : r = k
        · subst q; rw [if_neg (by omega), if_pos (by omega)]; exact h.symm
        · congr 1
          split <;> split <;> omega
      rw [e, sg_succ, h]
      rw [show -sg k * A (k + 1) c * det n (c + 1) (del (k + 1) A) = - (sg k * A (k + 1) c * det n (c + 1) (del (k + 1) A)) by rw [Int.neg_mul, Int.neg_mul]]
      omega
    · intro i hi h1 h2
      have : det n (c + 1) (del i A) = 0 := by
        rcases Nat.lt_or_ge i k with q | q
        · refine det_adj (k := k - 1) (by omega) ?_
          unfold del
          rw [if_neg (by omega), if_neg (by omega), show k - 1 + 1 = k by omega]
          exact h
        · refine det_adj (k := k) (by omega) ?_
          unfold del
          rw [if_pos (by omega), if_pos (by omega)]
          exact h
      rw [this, Int.mul_zero]
theorem det_swap_adj {n c k : Nat} (A : Mx) (hk : k + 1 < n) (x y : Nat → Int) : det n c (upd (upd A k x) (k + 1) y) = - det n c (upd (upd A k y) (k + 1) x) := by
  have h0 : det n c (upd (upd A k fun j => x j + y j) (k + 1) fun j => x j + y j) = 0 := det_adj hk (by rw [upd_ne (by omega), upd_at, upd_at])
  rw [det_add _ _ _ hk, upd_comm _ (by omega), det_add _ _ _ (by omega), upd_comm _ (by omega) (fun j => x j + y j), det_add _ _ _ (by omega)] at h0
  have e1 : det n c (upd (upd A (k + 1) x) k x) = 0 := det_adj hk (by rw [upd_at, upd_ne (by omega), upd_at])
  have e2 : det n c (upd (upd A (k + 1) y) k y) = 0 := det_adj hk (by rw [upd_at, upd_ne (by omega), upd_at])
  rw [e1, e2] at h0
  rw [upd_comm A (show k ≠ k + 1 by omega) x y, upd_comm A (show k ≠ k + 1 by omega) y x]
  omega
theorem det_eq : ∀ (d : Nat) {n c r : Nat} {A : Mx}, r + d + 1 < n → A r = A (r + d + 1) → det n c A = 0
  | 0, n, c, r, A, hs, h => det_adj hs h
  | d + 1, n, c, r, A, hs, h => by
    have e : A = upd (upd A (r + d + 1) (A (r + d + 1))) (r + d + 1 + 1) (A (r + d + 1 + 1)) := by rw [upd_self, upd_self]
    rw [e, det_swap_adj (k := r + d + 1) A (by omega)]
    have : det n c (upd (upd A (r + d + 1) (A (r + d + 1 + 1))) (r + d + 1 + 1) (A (r + d + 1))) = 0 := by
      refine det_eq d (r := r) (by omega) ?_
      rw [upd_ne (by omega), upd_ne (by omega), upd_ne (by omega), upd_at]
      exact h
    rw [this]; rfl
theorem det_same {n c r s : Nat} {A : Mx} (hr : r < n) (hs : s < n) (hn : r ≠ s) (h : A r = A s) : det n c A = 0 := by
  rcases Nat.lt_or_ge r s with q | q
  · exact det_eq (s - r - 1) (r := r) (by omega) (by rw [show r + (s - r - 1) + 1 = s by omega]; exact h)
  · exact det_eq (r - s - 1) (r := s) (by omega) (by rw [show s + (r - s - 1) + 1 = r by omega]; exact h.symm)
theorem det_op {n c r s : Nat} (A : Mx) (hr : r < n) (hs : s < n) (hn : r ≠ s) (t : Int) : det n c (upd A s fun j => A s j + t * A r j) = det n c A := by
  have h := det_lin (c := c) 1 t (A s) (A r) A hs
  simp only [Int.one_mul] at h
  rw [h, upd_self]
  have : det n c (upd A s (A r)) = 0 := det_same hr hs hn (by rw [upd_ne hn, upd_at])
  rw [this]; omega
theorem det_ops {n c r : Nat} (A : Mx) (hr : r < n) (w : Nat → Int) (hw : w r = 0) : det n c (fun s j => A s j + w s * A r j) = det n c A := by
  have key : ∀ k, k ≤ n → det n c (fun s j => if s < k then A s j + w s * A r j else A s j) = det n c A := by
    intro k
    induction k with
    | zero => intro _; exact det_congr fun s j _ _ _ => by simp
    | succ k ih =>
      intro hk
      rw [← ih (by omega)]
      by_cases e : k = r
      · subst e
        refine det_congr fun s j _ _ _ => ?_
        by_cases q : s = k
        · subst q; rw [if_pos (by omega), if_neg (by omega), hw]; omega
        · by_cases q2 : s < k
          · rw [if_pos (by omega), if_pos q2]
          · rw [if_neg (by omega), if_neg q2]
      · have h := det_op (n := n) (c := c) (fun s j => if s < k then A s j + w s * A r j else A s j) hr (by omega : k < n) (fun z => e z.symm) (w k)
        rw [← h]
        refine det_congr fun s j _ _ _ => ?_
        unfold upd
        by_cases q : s = k
        · subst q
          rw [if_pos (by omega), if_pos rfl, if_neg (by omega)]
          congr 2
          by_cases q3 : r < s
          · rw [if_pos q3, hw]; omega
          · rw [if_neg q3]
        · rw [if_neg q]
          dsimp only
          by_cases q2 : s < k
          · rw [if_pos (by omega), if_pos q2]
          · rw [if_neg (by omega), if_neg q2]
  rw [← key n (Nat.le_refl n)]
  exact det_congr fun s j hs _ _ => by rw [if_pos hs]
theorem det_swap {n c r s : Nat} (A : Mx) (hr : r < n) (hs : s < n) (hn : r ≠ s) : det n c (fun i => A (if i = r then s else if i = s then r else i)) = - det n c A := by
  have e : (fun i => A (if i = r then s else if i = s then r else i)) = upd (upd A r (A s)) s (A r) := by
    funext i; unfold upd
    have hn' : ¬ s = r := fun z => hn z.symm
    by_cases q : i = s
    · subst q; simp [hn']
    · by_cases q2 : i = r
      · subst q2; simp [hn]
      · simp [q, q2]
  rw [e]
  have h0 : det n c (upd (upd A r fun j => A r j + A s j) s fun j => A r j + A s j) = 0 := det_same hr hs hn (by rw [upd_ne hn, upd_at, upd_at])
  rw [det_add _ _ _ hs, upd_comm _ hn, det_add _ _ _ hr, upd_comm _ hn (fun j => A r j + A s j), det_add _ _ _ hr] at h0
  have e1 : det n c (upd (upd A s (A r)) r (A r)) = 0 := det_same hr hs hn (by rw [upd_at, upd_ne (fun z => hn z.symm), upd_at])
  have e2 : det n c (upd (upd A s (A s)) r (A s)) = 0 := det_same hr hs hn (by rw [upd_at, upd_ne (fun z => hn z.symm), upd_at])
  have e3 : upd (upd A s (A s)) r (A r) = A := by rw [upd_self, upd_self]
  rw [e1, e2, e3] at h0
  rw [upd_comm _ hn]
  omega
def pr : Nat → (Nat → Int) → Int
  | 0, _ => 1
  | n + 1, w => pr n w * w n
theorem det_scale {n c : Nat} (A : Mx) (w : Nat → Int) : det n c (fun r j => w r * A r j) = pr n w * det n c A := by
  have key : ∀ k, k ≤ n → det n c (fun r j => if r < k then w r * A r j else A r j) = pr k w * det n c A := by
    intro k
    induction k with
    | zero => intro _; rw [pr, Int.one_mul]; exact det_congr fun s j _ _ _ => by simp
    | succ k ih =>
      intro hk
      have h := det_mul (n := n) (c := c) (k := k) (w k) (A k) (fun r j => if r < k then w r * A r j else A r j) (by omega)
      have e1 : det n c (upd (fun r j => if r < k then w r * A r j else A r j) k (A k)) = det n c (fun r j => if r < k then w r * A r j else A r j) := det_congr fun s j _ _ _ => by
        unfold upd
        by_cases q : s = k
        · subst q; rw [if_pos rfl, if_neg (by omega)]
        · rw [if_neg q]
      rw [e1, ih (by omega)] at h
      rw [pr, show pr k w * w k * det n c A = w k * (pr k w * det n c A) by ac_rfl, ← h]
      refine det_congr fun s j _ _ _ => ?_
      unfold upd
      by_cases q : s = k
      · subst q; rw [if_pos (by omega), if_pos rfl]
      · rw [if_neg q]
        dsimp only
        by_cases q2 : s < k
        · rw [if_pos (by omega), if_pos q2]
        · rw [if_neg (by omega), if_neg q2]
  rw [← key n (Nat.le_refl n)]
  exact det_congr fun s j hs _ _ => by rw [if_pos hs]
theorem pr_const (p : Int) : ∀ n, pr n (fun _ => p) = p ^ n
  | 0 => by simp [pr]
  | n + 1 => by rw [pr, pr_const p n, Int.pow_succ]
theorem det_shift : ∀ (n c : Nat) (A : Mx), det n (c + 1) A = det n c fun r j => A r (j + 1)
  | 0, _, _ => rfl
  | n + 1, c, A => by
    simp only [det]
    refine sm_congr fun i hi => ?_
    rw [det_shift n (c + 1) (del i A)]
    rfl
theorem det_head {n c : Nat} {A : Mx} (h : ∀ r, 0 < r → r ≤ n → A r c = 0) : det (n + 1) c A = A 0 c * det n (c + 1) fun r => A (r + 1) := by
  simp only [det]
  rw [sm_one (k := 0) (by omega) fun i hi hn => by rw [h i (by omega) (by omega)]; simp]
  have e : del 0 A = fun r => A (r + 1) := by funext r; unfold del; rw [if_neg (by omega)]
  rw [e]
  show 1 * _ * _ = _
  rw [Int.one_mul]
theorem det_nil {n c : Nat} {A : Mx} (h : ∀ r, r ≤ n → A r c = 0) : det (n + 1) c A = 0 := by
  simp only [det]
  exact sm_zero fun i hi => by rw [h i (by omega)]; simp
theorem det_chio {m c : Nat} (A : Mx) : A 0 c * det m (c + 1) (fun r j => A 0 c * A (r + 1) j - A (r + 1) c * A 0 j) = A 0 c ^ m * det (m + 1) c A := by
  have h1 := det_head (n := m) (c := c) (A := fun r j => if r = 0 then A 0 j else A 0 c * A r j - A r c * A 0 j) fun r h _ => by
    show (if r = 0 then A 0 c else A 0 c * A r c - A r c * A 0 c) = 0
    rw [if_neg (by omega), Int.mul_comm]; omega
  have e1 : det m (c + 1) (fun r => (fun r j => if r = 0 then A 0 j else A 0 c * A r j - A r c * A 0 j) (r + 1)) = det m (c + 1) (fun r j => A 0 c * A (r + 1) j - A (r + 1) c * A 0 j) := det_congr fun r j _ _ _ => by
    show (if r + 1 = 0 then A 0 j else _) = _
    rw [if_neg (by omega)]
  rw [e1] at h1
  have h1' : det (m + 1) c (fun r j => if r = 0 then A 0 j else A 0 c * A r j - A r c * A 0 j) = A 0 c * det m (c + 1) (fun r j => A 0 c * A (r + 1) j - A (r + 1) c * A 0 j) := h1
  rw [← h1']
  have h2 := det_ops (n := m + 1) (c := c) (r := 0) (fun r j => (if r = 0 then 1 else A 0 c) * A r j) (by omega) (fun r => if r = 0 then 0 else - A r c) (by simp)
  have h3 := det_scale (n := m + 1) (c := c) A (fun r => if r = 0 then 1 else A 0 c)
  have h4 : ∀ k, pr (k + 1) (fun r => if r = 0 then 1 else A 0 c) = A 0 c ^ k := by
    intro k
    induction k with
    | zero => simp [pr]
    | succ k ih => rw [pr, ih, if_neg (by omega), Int.pow_succ]
  rw [h4] at h3
  rw [← h3, ← h2]
  refine det_congr fun r j _ _ _ => ?_
  by_cases q : r = 0
  · subst q; simp
  · simp only [if_neg q, if_true, Int.one_mul, Int.neg_mul]
    omega
end Dt

namespace Dt
theorem det_1 (A : Mx) (c : Nat) : det 1 c A = A 0 c := by
  simp [det, sm, sg]
def ex (k : Nat) (ρ : Nat → Nat) (i : Nat) : Nat := if i < k then i else ρ (i - k)
structure Bar (n k : Nat) (A A' E : Mx) (s ahead : Int) : Prop where
  hs : det n 0 A = s * det n 0 A'
  ss : s = 1 ∨ s = -1
  ha : ahead = det k 0 A'
  hn : ahead ≠ 0
  hE : ∀ (m : Nat) (ρ γ : Nat → Nat), det (m + 1) 0 (fun i j => E (ρ i) (γ j)) = det (k + m + 1) 0 (fun i j => A' (ex k ρ i) (ex k γ j)) * ahead ^ m
theorem bar_start (n : Nat) (A : Mx) : Bar n 0 A A A 1 1 where
  hs := by rw [Int.one_mul]
  ss := .inl rfl
  ha := rfl
  hn := by decide
  hE := fun m ρ γ => by
    rw [Int.one_pow, Int.mul_one, Nat.zero_add]
    rfl
def sw (k f i : Nat) : Nat := if i = k then f else if i = f then k else i
theorem bar_swap {n k : Nat} {A A' E : Mx} {s ahead : Int} (h : Bar n k A A' E s ahead) {f : Nat} (hk : k < f) (hf : f < n) : Bar n k A (fun r => A' (sw k f r)) (fun r => E (sw k f r)) (-s) ahead where
  hs := by
    have := det_swap (n := n) (c := 0) A' (show k < n by omega) hf (by omega)
    have e : det n 0 (fun r => A' (sw k f r)) = - det n 0 A' := this
    rw [e, h.hs, Int.neg_mul_neg]
  ss := by rcases h.ss with e | e <;> rw [e] <;> simp
  ha := by
    rw [h.ha]
    refine det_congr fun r j hr _ _ => ?_
    show A' r j = A' (sw k f r) j
    unfold sw
    rw [if_neg (by omega), if_neg (by omega)]
  hn := h.hn
  hE := fun m ρ γ => by
    have := h.hE m (fun i => sw k f (ρ i)) γ
    refine this.trans ?_
    congr 1
    refine det_congr fun r j _ _ _ => ?_
    have e : ex k (fun i => sw k f (ρ i)) r = sw k f (ex k ρ r) := by
      unfold ex
      by_cases q : r < k
      · rw [if_pos q, if_pos q]; unfold sw; rw [if_neg (by omega), if_neg (by omega)]
      · rw [if_neg q, if_neg q]
    rw [e]
theorem bar_piv {n k : Nat} {A A' E : Mx} {s ahead : Int} (h : Bar n k A A' E s ahead) : E k k = det (k + 1) 0 A' := by
  have := h.hE 0 (fun _ => k) (fun _ => k)
  rw [det_1, Int.pow_zero, Int.mul_one] at this
  rw [this]
  refine det_congr fun r j hr _ hj => ?_
  have e : ∀ i, i < k + 1 → ex k (fun _ => k) i = i := fun i hi => by
    unfold ex
    by_cases q : i < k
    · rw [if_pos q]
    · rw [if_neg q]; show k = i; omega
  rw [e r hr, e j (by omega)]
theorem bar_ent {n k : Nat} {A A' E : Mx} {s ahead : Int} (h : Bar n k A A' E s ahead) (r c : Nat) : E r c = det (k + 1) 0 (fun i j => A' (ex k (fun _ => r) i) (ex k (fun _ => c) j)) := by
  have := h.hE 0 (fun _ => r) (fun _ => c)
  rw [det_1, Int.pow_zero, Int.mul_one] at this
  exact this
def nx (E : Mx) (k : Nat) (ahead : Int) : Mx := fun r c => (E r c * E k k - E r k * E k c) / ahead
theorem bar_div {n k : Nat} {A A' E : Mx} {s ahead : Int} (h : Bar n k A A' E s ahead) (hp : E k k ≠ 0) (m : Nat) (ρ γ : Nat → Nat) :
    det (m + 1) 0 (fun r j => E k k * E (ρ r) (γ j) - E (ρ r) k * E k (γ j)) = E k k ^ m * (det (k + 1 + m + 1) 0 (fun i j => A' (ex (k + 1) ρ i) (ex (k + 1) γ j)) * ahead ^ (m + 1)) := by
  have h1 := h.hE (m + 1) (fun i => if i = 0 then k else ρ (i - 1)) (fun i => if i = 0 then k else γ (i - 1))
  have h2 := det_chio (m := m + 1) (c := 0) (fun i j => E (if i = 0 then k else ρ (i - 1)) (if j = 0 then k else γ (j - 1)))
  rw [h1, det_shift] at h2
  simp only [if_pos, Nat.add_one_ne_zero, if_false, Nat.add_sub_cancel] at h2
  have e : det (k + (m + 1) + 1) 0 (fun i j => A' (ex k (fun i => if i = 0 then k else ρ (i - 1)) i) (ex k (fun i => if i = 0 then k else γ (i - 1)) j)) = det (k + 1 + m + 1) 0 (fun i j => A' (ex (k + 1) ρ i) (ex (k + 1) γ j)) := by
    rw [show k + (m + 1) + 1 = k + 1 + m + 1 by omega]
    have q : ∀ (ρ : Nat → Nat) (i : Nat), ex k (fun i => if i = 0 then k else ρ (i - 1)) i = ex (k + 1) ρ i := fun ρ i => by
      unfold ex
      by_cases q1 : i < k
      · rw [if_pos q1, if_pos (by omega)]
      · rw [if_neg q1]
        dsimp only
        by_cases q2 : i - k = 0
        · rw [if_pos q2, if_pos (by omega)]; omega
        · rw [if_neg q2, if_neg (by omega), show i - k - 1 = i - (k + 1) by omega]
    simp only [q]
  rw [e] at h2
  rw [Int.pow_succ, Int.mul_comm (E k k ^ m) (E k k), Int.mul_assoc] at h2
  exact Int.eq_of_mul_eq_mul_left hp h2
theorem bar_exact {n k : Nat} {A A' E : Mx} {s ahead : Int} (h : Bar n k A A' E s ahead) (hp : E k k ≠ 0) (r c : Nat) : E r c * E k k - E r k * E k c = ahead * nx E k ahead r c ∧ nx E k ahead r c = det (k + 1 + 1) 0 (fun i j => A' (ex (k + 1) (fun _ => r) i) (ex (k + 1) (fun _ => c) j)) := by
  have h1 := bar_div h hp 0 (fun _ => r) (fun _ => c)
  rw [det_1, Int.pow_zero, Int.one_mul, Int.pow_succ, Int.pow_zero, Int.one_mul] at h1
  have h2 : E r c * E k k - E r k * E k c = det (k + 1 + 0 + 1) 0 (fun i j => A' (ex (k + 1) (fun _ => r) i) (ex (k + 1) (fun _ => c) j)) * ahead := by
    rw [← h1, Int.mul_comm (E r c)]
  have h3 : nx E k ahead r c = det (k + 1 + 0 + 1) 0 (fun i j => A' (ex (k + 1) (fun _ => r) i) (ex (k + 1) (fun _ => c) j)) := by
    unfold nx
    rw [h2, Int.mul_ediv_cancel _ h.hn]
  exact ⟨by rw [h3, h2, Int.mul_comm], h3⟩
theorem bar_next {n k : Nat} {A A' E : Mx} {s ahead : Int} (h : Bar n k A A' E s ahead) (hp : E k k ≠ 0) : Bar n (k + 1) A A' (nx E k ahead) s (E k k) where
  hs := h.hs
  ss := h.ss
  ha := bar_piv h
  hn := hp
  hE := fun m ρ γ => by
    have h1 := bar_div h hp m ρ γ
    have h2 : det (m + 1) 0 (fun r j => E k k * E (ρ r) (γ j) - E (ρ r) k * E k (γ j)) = ahead ^ (m + 1) * det (m + 1) 0 (fun i j => nx E k ahead (ρ i) (γ j)) := by
      rw [← pr_const ahead (m + 1), ← det_scale]
      refine det_congr fun r j _ _ _ => ?_
      show _ = ahead * nx E k ahead (ρ r) (γ j)
      rw [← (bar_exact h hp (ρ r) (γ j)).1, Int.mul_comm (E k k)]
    rw [h2] at h1
    have h3 : ahead ^ (m + 1) ≠ 0 := Int.pow_ne_zero h.hn
    refine Int.eq_of_mul_eq_mul_left h3 (h1.trans ?_)
    generalize det (k + 1 + m + 1) 0 (fun i j => A' (ex (k + 1) ρ i) (ex (k + 1) γ j)) = d
    ac_rfl
theorem bar_none {n k : Nat} {A A' E : Mx} {s ahead : Int} (h : Bar n k A A' E s ahead) (hk : k < n) (hz : ∀ r, k ≤ r → r < n → E r k = 0) : det n 0 A = 0 := by
  have h1 := h.hE (n - k - 1) (fun i => k + i) (fun i => k + i)
  have h0 : det (n - k - 1 + 1) 0 (fun i j => E (k + i) (k + j)) = 0 := det_nil (c := 0) fun r hr => by
    show E (k + r) (k + 0) = 0
    exact hz (k + r) (by omega) (by omega)
  rw [h0] at h1
  rw [show k + (n - k - 1) + 1 = n by omega] at h1
  have e : det n 0 (fun i j => A' (ex k (fun i => k + i) i) (ex k (fun i => k + i) j)) = det n 0 A' := by
    have q : ∀ i, ex k (fun i => k + i) i = i := fun i => by
      unfold ex
      by_cases q : i < k
      · rw [if_pos q]
      · rw [if_neg q]; show k + (i - k) = i; omega
    simp only [q]
  rw [e] at h1
  rcases Int.mul_eq_zero.mp h1.symm with h2 | h2
  · rw [h.hs, h2, Int.mul_zero]
  · exact absurd h2 (Int.pow_ne_zero h.hn)
theorem bar_end {n : Nat} {A A' E : Mx} {s ahead : Int} (h : Bar n n A A' E s ahead) : det n 0 A = s * ahead := by rw [h.hs, h.ha]
def fac : Nat → Nat
  | 0 => 1
  | n + 1 => (n + 1) * fac n
theorem sm_abs (f : Nat → Int) (b : Nat) : ∀ n, (∀ i, i < n → (f i).natAbs ≤ b) → (sm n f).natAbs ≤ n * b
  | 0, _ => by simp [sm]
  | n + 1, h => by
    have h1 := sm_abs f b n fun i hi => h i (by omega)
    have h2 := h n (by omega)
    have h3 := Int.natAbs_add_le (sm n f) (f n)
    simp only [sm]
    rw [Nat.add_mul, Nat.one_mul]
    omega
theorem sg_abs (i : Nat) : (sg i).natAbs = 1 := by unfold sg; split <;> rfl
theorem det_abs (B : Nat) : ∀ {n c : Nat} {A : Mx}, (∀ r j, r < n → c ≤ j → j < c + n → (A r j).natAbs ≤ B) → (det n c A).natAbs ≤ fac n * B ^ n
  | 0, _, _, _ => by simp [det, fac]
  | n + 1, c, A, h => by
    simp only [det]
    refine Nat.le_trans (sm_abs _ (B * (fac n * B ^ n)) (n + 1) fun i hi => ?_) ?_
    · rw [Int.natAbs_mul, Int.natAbs_mul, sg_abs, Nat.one_mul]
      refine Nat.mul_le_mul (h i c hi (by omega) (by omega)) (det_abs B fun r j hr h1 h2 => ?_)
      unfold del
      exact h _ j (by split <;> omega) (by omega) (by omega)
    · rw [fac, Nat.pow_succ, Nat.mul_assoc]
      refine Nat.le_of_eq ?_
      congr 1
      ac_rfl
theorem bar_abs {n k : Nat} {A A' E : Mx} {s ahead : Int} (h : Bar n k A A' E s ahead) (B : Nat) (hB : ∀ r c, r < n → c < n → (A' r c).natAbs ≤ B) (hk : k < n) {r c : Nat} (hr : r < n) (hc : c < n) : (E r c).natAbs ≤ fac (k + 1) * B ^ (k + 1) := by
  rw [bar_ent h r c]
  refine det_abs B fun i j hi _ hj => hB _ _ ?_ ?_
  · unfold ex; split <;> omega
  · unfold ex; split <;> omega
theorem bar_rows {n k : Nat} {A A' E : Mx} {s ahead : Int} (h : Bar n k A A' E s ahead) (B : Nat) (hB : ∀ r c, r < n → c < n → (A' r c).natAbs ≤ B) {f : Nat} (hk : k < n) (hf : f < n) : ∀ r c, r < n → c < n → (A' (sw k f r) c).natAbs ≤ B := fun r c hr hc => hB _ _ (by unfold sw; split; exact hf; split <;> omega) hc
end Dt

namespace Dt
theorem sm_add (f g : Nat → Int) : ∀ n, sm n (fun i => f i + g i) = sm n f + sm n g
  | 0 => rfl
  | n + 1 => by simp only [sm]; rw [sm_add f g n]; omega
theorem sm_mul (s : Int) (f : Nat → Int) : ∀ n, sm n (fun i => s * f i) = s * sm n f
  | 0 => by simp [sm]
  | n + 1 => by simp only [sm]; rw [sm_mul s f n, Int.mul_add]
theorem sm_head (f : Nat → Int) : ∀ n, sm (n + 1) f = f 0 + sm n fun i => f (i + 1)
  | 0 => by simp [sm]
  | n + 1 => by
    have := sm_head f n
    simp only [sm] at this ⊢
    omega
theorem sm_exch (f : Nat → Nat → Int) (m : Nat) : ∀ n, sm n (fun i => sm m fun k => f i k) = sm m fun k => sm n fun i => f i k
  | 0 => (sm_zero fun _ _ => rfl).symm
  | n + 1 => by simp only [sm]; rw [sm_exch f m n, ← sm_add]
def sk (i r : Nat) : Nat := if r < i then r else r + 1
theorem det_col (n : Nat) (A : Mx) : det (n + 1) 0 A = sm (n + 1) fun i => sg i * A i 0 * det n 0 fun r j => A (sk i r) (j + 1) := by
  simp only [det]
  refine sm_congr fun i _ => ?_
  rw [det_shift]
  rfl
def tr (A : Mx) : Mx := fun r j => A j r
theorem det_tr : ∀ (n : Nat) (A : Mx), det n 0 (tr A) = det n 0 A
  | 0, _ => rfl
  | 1, A => by rw [det_1, det_1]; rfl
  | n + 2, A => by
    have key : ∀ B : Mx, det (n + 2) 0 B = B 0 0 * det (n + 1) 0 (fun r j => B (r + 1) (j + 1)) + sm (n + 1) fun i => sm (n + 1) fun k => sg (i + 1) * sg k * (B (i + 1) 0 * B 0 (k + 1)) * det n 0 fun r j => B (sk i j + 1) (sk k r + 1) := fun B => by
      rw [det_col, sm_head]
      congr 1
      · show 1 * _ * _ = _
        rw [Int.one_mul]
        rfl
      · refine sm_congr fun i _ => ?_
        rw [← det_tr (n + 1), det_col, ← sm_mul]
        refine sm_congr fun k _ => ?_
        have e0 : tr (fun r j => B (sk (i + 1) r) (j + 1)) k 0 = B 0 (k + 1) := rfl
        have e1 : (fun r j => tr (fun r j => B (sk (i + 1) r) (j + 1)) (sk k r) (j + 1)) = fun r j => B (sk i j + 1) (sk k r + 1) := by
          funext r j
          show B (sk (i + 1) (j + 1)) (sk k r + 1) = _
          congr 1
          unfold sk
          split <;> split <;> omega
        rw [e0, e1]
        simp only [Int.mul_assoc, Int.mul_left_comm, Int.mul_comm]
    rw [key A, key (tr A)]
    congr 1
    · show A 0 0 * det (n + 1) 0 (tr fun r j => A (r + 1) (j + 1)) = _
      rw [det_tr (n + 1)]
    · rw [sm_exch]
      refine sm_congr fun i _ => sm_congr fun k _ => ?_
      have e : det n 0 (fun r j => tr A (sk k j + 1) (sk i r + 1)) = det n 0 fun r j => A (sk i j + 1) (sk k r + 1) := by
        rw [← det_tr n]; rfl
      rw [e, sg_succ, sg_succ]
      show -sg k * sg i * (A 0 (k + 1) * A (i + 1) 0) * _ = _
      rw [Int.mul_comm (A 0 (k + 1)), Int.neg_mul, Int.neg_mul, Int.mul_comm (sg k), Int.neg_mul]
      simp only [Int.neg_mul]
def updC (A : Mx) (k : Nat) (b : Nat → Int) : Mx := fun r j => if j = k then b r else A r j
theorem tr_updC (A : Mx) (k : Nat) (b : Nat → Int) : tr (updC A k b) = upd (tr A) k b := by
  funext r j; unfold tr updC upd; split <;> rfl
theorem det_updC_same {n k l : Nat} (A : Mx) (hk : k < n) (hl : l < n) (h : k ≠ l) : det n 0 (updC A k fun r => A r l) = 0 := by
  rw [← det_tr, tr_updC]
  exact det_same (r := k) (s := l) hk hl h (by rw [upd_at, upd_ne (Ne.symm h)]; rfl)
theorem det_updC_lin {n k : Nat} (A : Mx) (hk : k < n) (s t : Int) (x y : Nat → Int) : det n 0 (updC A k fun r => s * x r + t * y r) = s * det n 0 (updC A k x) + t * det n 0 (updC A k y) := by
  have := det_lin s t x y (c := 0) (tr A) hk
  rw [← tr_updC, ← tr_updC, ← tr_updC, det_tr, det_tr, det_tr] at this
  exact this
theorem det_updC_zero {n k : Nat} (A : Mx) (hk : k < n) : det n 0 (updC A k fun _ => 0) = 0 := by
  have := det_updC_lin A hk 0 0 (fun _ => 0) (fun _ => 0)
  simpa using this
theorem det_updC_sum {n k : Nat} (A : Mx) (hk : k < n) (w : Nat → Int) (x : Nat → Nat → Int) : ∀ m, det n 0 (updC A k fun r => sm m fun i => w i * x i r) = sm m fun i => w i * det n 0 (updC A k (x i))
  | 0 => det_updC_zero A hk
  | m + 1 => by
    simp only [sm]
    have := det_updC_lin A hk 1 (w m) (fun r => sm m fun i => w i * x i r) (x m)
    simp only [Int.one_mul] at this
    rw [this, det_updC_sum A hk w x m]
theorem updC_self (A : Mx) (k : Nat) : updC A k (fun r => A r k) = A := by
  funext r j; unfold updC; split
  · rename_i h; rw [h]
  · rfl
end Dt

noncomputable section
namespace Lw
open DL
def f_look_at_table_l1 : Env → Out := sIf (tC2 cNe (eCall caLen (aCons (eVar 1) (aNil))) (eCall caLen (aCons (eVar 0) (aNil)))) (sRaise 7) (sNil)
def f_look_at_table : Env → Out := sFor (iSeq (eVar 0)) (gtN 1) f_look_at_table_l1
def g_look_at_table : List D → Res D := runF f_look_at_table 2
def f_first_row_with_l1 : Env → Out := sIf (tC2 cNe (eBin opIx (eBin opIx (eVar 0) (eVar 2)) (eVar 1)) (eC (.int 0))) (sRetV 2) (sNil)
def f_first_row_with : Env → Out := sSeq (sFor (iRg2 (aCons (eVar 1) (aCons (eCall caLen (aCons (eVar 0) (aNil))) (aNil)))) (gtN 2) f_first_row_with_l1) (sRet (eC .non))
def g_first_row_with : List D → Res D := runF f_first_row_with 3
def f_cleared_l1 : Env → Out := sApp 6 (eBin opDiv (eBin opSub (eBin opMul (eBin opIx (eVar 5) (eVar 7)) (eBin opIx (eVar 4) (eVar 1))) (eBin opMul (eBin opIx (eVar 5) (eVar 1)) (eBin opIx (eVar 4) (eVar 7)))) (eVar 2))
def f_cleared_l2 : Env → Out := sSeq (sAsg 6 (eBin opMul (eLst (aConsO (eC (.int 0)) (aNil))) (eBin opAdd (eVar 1) (eC (.int 1))))) (sSeq (sFor (iRg2 (aCons (eBin opAdd (eVar 1) (eC (.int 1))) (aCons (eCall caLen (aCons (eVar 5) (aNil))) (aNil)))) (gtN 7) f_cleared_l1) (sFrz 6 (sApp 3 (eVar 6))))
def f_cleared : Env → Out := sSeq (sAsg 3 (eLst (aNil))) (sSeq (sAsgF 4 (eBin opIx (eVar 0) (eVar 1))) (sSeq (sFor (iSeq (eSl (eVar 0) (ePart (some (eBin opAdd (eVar 1) (eC (.int 1))))) (ePart none))) (gtN 5) f_cleared_l2) (sRetV 3)))
def g_cleared : List D → Res D := runF f_cleared 8
def f_determinant_c1 : Env → Res D := eCall caList (aCons (eVar 6) (aNil))
def f_determinant_l1 : Env → Out := sSeq (sAsgF 5 (eOwn g_first_row_with (aCons (eVar 1) (aCons (eVar 4) (aNil))))) (sSeq (sIf (tC2 cIsN (eVar 5) (eC .non)) (sRet (eC (.int 0))) (sNil)) (sSeq (sIf (tC2 cNe (eVar 5) (eVar 4)) (sSeq (sSwp 1 (eVar 4) (eVar 5) (eTup (aConsO (eBin opIx (eVar 1) (eVar 5)) (aConsO (eBin opIx (eVar 1) (eVar 4)) (aNil))))) (sAsgF 2 (eUn opNeg (eVar 2)))) (sNil)) (sSeq (sFrz 1 (sAsg 1 (eBin opAdd (eSl (eVar 1) (ePart none) (ePart (some (eBin opAdd (eVar 4) (eC (.int 1)))))) (eOwn g_cleared (aCons (eVar 1) (aCons (eVar 4) (aCons (eVar 3) (aNil)))))))) (sAsgF 3 (eBin opIx (eBin opIx (eVar 1) (eVar 4)) (eVar 4))))))
def f_determinant : Env → Out := sSeq (sExp (eOwn g_look_at_table (aCons (eVar 0) (aNil)))) (sSeq (sAsgI 1 (eLc (iSeq (eVar 0)) [6] (gtN 6) (tYesG) f_determinant_c1)) (sSeq (sAsgF 2 (eC (.int 1))) (sSeq (sAsgF 3 (eC (.int 1))) (sSeq (sFor (iRg1 (aCons (eCall caLen (aCons (eVar 1) (aNil))) (aNil))) (gtN 4) f_determinant_l1) (sRet (eBin opMul (eVar 2) (eVar 3)))))))
def g_determinant : List D → Res D := runF f_determinant 7
def f_pulls_c1 : Env → Res D := eBin opMul (eLst (aConsO (eC (.int 0)) (aNil))) (eVar 0)
def f_pulls_l1 : Env → Out := sIf (tC2 cNe (eVar 3) (eVar 4)) (sSeq (sAug2 (fun a b => a + b) 2 3 3 (eC (.int 1))) (sSeq (sAug2 (fun a b => a + b) 2 4 4 (eC (.int 1))) (sSeq (sAug2 (fun a b => a - b) 2 3 4 (eC (.int 1))) (sAug2 (fun a b => a - b) 2 4 3 (eC (.int 1)))))) (sNil)
def f_pulls : Env → Out := sSeq (sAsg 2 (eLc (iRg1 (aCons (eVar 0) (aNil))) [5] (gtN 5) (tYesG) f_pulls_c1)) (sSeq (sFor (iSeq (eVar 1)) (gtT 2 (gtCons (gtN 3) (gtCons (gtN 4) (gtNil)))) f_pulls_l1) (sRetV 2))
def g_pulls : List D → Res D := runF f_pulls 6
def f_pull_table : Env → Out := sRet (eOwn g_pulls (aCons (eUn (opFld 14 0) (eVar 0)) (aCons (eUn (opFld 14 1) (eVar 0)) (aNil))))
def g_pull_table : List D → Res D := runF f_pull_table 1
end Lw
end

noncomputable section
namespace Lw
open DL
def f_law_cell : Env → Out := sSeq (sIf (tC2 cLt (eVar 1) (eCall caLen (aCons (eVar 0) (aNil)))) (sRet (eBin opMod (eBin opIx (eVar 0) (eVar 1)) (eBin opPow (eC (.int 10)) (eC (.int 60))))) (sNil)) (sRet (eC (.int 0)))
def g_law_cell : List D → Res D := runF f_law_cell 2
def f_law_mixed : Env → Out := sSeq (sAsgF 2 (eBin opMod (eBin opMul (eBin opAdd (eBin opAdd (eVar 0) (eBin opMul (eC (.int 7919)) (eVar 1))) (eC (.int 1))) (eC (.int 48271))) (eC (.int 2147483647)))) (sSeq (sAsgF 3 (eBin opMod (eBin opAdd (eBin opAdd (eBin opMul (eVar 2) (eVar 2)) (eBin opMul (eC (.int 40692)) (eVar 1))) (eC (.int 3))) (eC (.int 2147483629)))) (sRet (eBin opDiv (eBin opMod (eBin opMul (eVar 3) (eVar 3)) (eC (.int 2147483587))) (eC (.int 8)))))
def g_law_mixed : List D → Res D := runF f_law_mixed 4
def f_law_draws_c1 : Env → Res D := eBin opMod (eVar 9) (eBin opPow (eC (.int 10)) (eC (.int 60)))
def f_law_draws_c2 : Env → Res D := eBin opAdd (eBin opMul (eC (.int 7)) (eVar 6)) (eC (.int 5))
def f_law_draws_l3 : Env → Out := sSeq (sAsgF 7 (eBin opMod (eVar 6) (eCall caMax2 (aCons (eC (.int 1)) (aCons (eVar 2) (aNil)))))) (sIf (tC2 cGt (eVar 2) (eC (.int 0))) (sSet 5 (eVar 7) (eBin opMod (eBin opAdd (eBin opMul (eBin opIx (eVar 5) (eVar 7)) (eC (.int 31))) (eBin opIx (eVar 0) (eVar 6))) (eBin opPow (eC (.int 10)) (eC (.int 60))))) (sNil))
def f_law_draws_l4 : Env → Out := sIf (tAn (tC2 cEq (eVar 3) (eC (.int 0))) (tC2 cGt (eVar 4) (eC (.int 0)))) (sSeq (sApp 8 (eBin opMod (eVar 4) (eC (.int 210)))) (sAsgF 4 (eBin opDiv (eVar 4) (eC (.int 210))))) (sApp 8 (eOwn g_law_mixed (aCons (eBin opIx (eVar 5) (eVar 6)) (aCons (eVar 6) (aNil)))))
def f_law_draws : Env → Out := sSeq (sAsgF 4 (eBin opMod (eCall caSum (aCons (eLc (iSeq (eSl (eVar 0) (ePart (some (eVar 1))) (ePart none))) [9] (gtN 9) (tYesG) f_law_draws_c1) (aNil))) (eBin opPow (eC (.int 10)) (eC (.int 60))))) (sSeq (sAsg 5 (eLc (iRg1 (aCons (eVar 2) (aNil))) [6] (gtN 6) (tYesG) f_law_draws_c2)) (sSeq (sFor (iRg2 (aCons (eVar 1) (aCons (eCall caLen (aCons (eVar 0) (aNil))) (aNil)))) (gtN 6) f_law_draws_l3) (sSeq (sAsg 8 (eLst (aNil))) (sSeq (sFor (iRg1 (aCons (eVar 2) (aNil))) (gtN 6) f_law_draws_l4) (sRetV 8)))))
def g_law_draws : List D → Res D := runF f_law_draws 10
def f_law_ties_l1 : Env → Out := sSeq (sAsgF 5 (eBin opMod (eBin opIx (eVar 0) (eVar 4)) (eVar 1))) (sSeq (sAsgF 6 (eBin opMod (eBin opDiv (eBin opIx (eVar 0) (eVar 4)) (eVar 1)) (eVar 1))) (sSeq (sIf (tAn (tTr (eVar 2)) (tC2 cLt (eVar 4) (eBin opSub (eVar 1) (eC (.int 1))))) (sSeq (sAsgF 7 (eTup (aConsO (eBin opMod (eBin opIx (eVar 0) (eVar 4)) (eBin opAdd (eVar 4) (eC (.int 1)))) (aConsO (eBin opAdd (eVar 4) (eC (.int 1))) (aNil))))) (sSeq (sAsgF 5 (eBin opIx (eVar 7) (eBin opMod (eBin opDiv (eBin opIx (eVar 0) (eVar 4)) (eC (.int 105))) (eC (.int 2))))) (sAsgF 6 (eBin opIx (eVar 7) (eBin opSub (eC (.int 1)) (eBin opMod (eBin opDiv (eBin opIx (eVar 0) (eVar 4)) (eC (.int 105))) (eC (.int 2)))))))) (sNil)) (sApp 3 (eTup (aConsO (eVar 5) (aConsO (eVar 6) (aNil)))))))
def f_law_ties : Env → Out := sSeq (sAsg 3 (eLst (aNil))) (sSeq (sFor (iRg1 (aCons (eCall caLen (aCons (eVar 0) (aNil))) (aNil))) (gtN 4) f_law_ties_l1) (sSeq (sAsgF 8 (eBin opMod (eCall caSum (aCons (eVar 0) (aNil))) (eCall caMax2 (aCons (eC (.int 1)) (aCons (eCall caLen (aCons (eVar 3) (aNil))) (aNil)))))) (sRet (eBin opAdd (eSl (eVar 3) (ePart (some (eVar 8))) (ePart none)) (eSl (eVar 3) (ePart none) (ePart (some (eVar 8))))))))
def g_law_ties : List D → Res D := runF f_law_ties 9
def f_law_web : Env → Out := sSeq (sAsgF 3 (eOwn g_law_cell (aCons (eVar 0) (aCons (eC (.int 0)) (aNil))))) (sSeq (sAsgF 4 (eBin opAdd (eC (.int 1)) (eBin opMod (eVar 3) (eVar 1)))) (sSeq (sAsgF 5 (eCall caMin2 (aCons (eVar 2) (aCons (eBin opAdd (eBin opMod (eBin opDiv (eVar 3) (eVar 1)) (eBin opAdd (eVar 2) (eC (.int 1)))) (eBin opMul (eBin opMod (eBin opDiv (eVar 3) (eC (.int 97))) (eC (.int 2))) (eVar 4))) (aNil))))) (sSeq (sAsgF 6 (eOwn g_law_draws (aCons (eVar 0) (aCons (eC (.int 1)) (aCons (eVar 5) (aCons (eBin opMod (eBin opDiv (eVar 3) (eC (.int 194))) (eC (.int 2))) (aNil))))))) (sRet (eTup (aConsO (eVar 4) (aConsO (eOwn g_law_ties (aCons (eVar 6) (aCons (eVar 4) (aCons (eB (tC2 cGt (eBin opMod (eBin opDiv (eVar 3) (eC (.int 388))) (eC (.int 3))) (eC (.int 0)))) (aNil))))) (aNil))))))))
def g_law_web : List D → Res D := runF f_law_web 7
end Lw
end

namespace Lw
open DL
theorem cell_ok (s : List Int) (k : Int) (hk : 0 ≤ k) : ∃ c : Int, 0 ≤ c ∧ c < e60 ∧ g_law_cell [.sc (s.map D.int), .int k] = .ok (.int c) := by
  by_cases h : k < s.length
  · obtain ⟨a, e, _⟩ := DL.atI_of hk h
    refine ⟨a % e60, Int.emod_nonneg _ (by have := e60_pos; omega), Int.emod_lt_of_pos _ e60_pos, ?_⟩
    simp [g_law_cell, runF, f_law_cell, h, e]
  · refine ⟨0, by omega, e60_pos, ?_⟩
    simp [g_law_cell, runF, f_law_cell, h]
def mix1 (c k : Int) : Int := (c + 7919 * k + 1) * 48271 % 2147483647
def mix2 (c k : Int) : Int := (mix1 c k * mix1 c k + 40692 * k + 3) % 2147483629
def mixF (c k : Int) : Int := mix2 c k * mix2 c k % 2147483587 / 8
theorem mix1_b (c k : Int) : 0 ≤ mix1 c k ∧ mix1 c k < 2147483647 := by unfold mix1; omega
theorem mix2_b (c k : Int) : 0 ≤ mix2 c k ∧ mix2 c k < 2147483629 := by unfold mix2; omega
theorem mixF_nn (c k : Int) : 0 ≤ mixF c k := by unfold mixF; omega
theorem mixed_ok (c k : Int) : g_law_mixed [.int c, .int k] = .ok (.int (mixF c k)) := by
  have h1 := mix1_b c k
  have h2 := mix2_b c k
  have e1 : (c + 7919 * k + 1) * 48271 % 2147483647 = mix1 c k := rfl
  have e2 : (mix1 c k * mix1 c k + 40692 * k + 3) % 2147483629 = mix2 c k := rfl
  have e3 : mix2 c k * mix2 c k % 2147483587 / 8 = mixF c k := rfl
  have a1 : -18446744073709551616 < mix1 c k := by omega
  have a2 : mix1 c k < 18446744073709551616 := by omega
  have b1 : -18446744073709551616 < mix2 c k := by omega
  have b2 : mix2 c k < 18446744073709551616 := by omega
  simp [g_law_mixed, runF, f_law_mixed, e1, a1, a2, e2, b1, b2, e3]
end Lw

namespace Lw
open DL
theorem draws_l4 (x0 x1 x6 x7 x9 : D) (F : List Int) (T count way : Int) (h2 : count ≤ 1000) (hF : F.length = count.toNat) (hT : 0 ≤ T) :
    ∃ (g' : Env) (l : List Int), forL (gtN 6) f_law_draws_l4 (rng 0 count.toNat) [x0, x1, .int count, .int way, .int T, .ol (F.map D.int), x6, x7, .ol [], x9] = .nx g' ∧ l.length = count.toNat ∧ (∀ x ∈ l, 0 ≤ x) ∧ g'[8]? = some (.ol (l.map D.int)) := by
  obtain ⟨g', e, T', l, k, hT', hl, hp, rfl⟩ := for_rngN (s := 6) (b := f_law_draws_l4) (lo := 0) (n := count.toNat)
    (fun i g => ∃ (T : Int) (l : List Int) (k : D), 0 ≤ T ∧ l.length = i ∧ (∀ x ∈ l, 0 ≤ x) ∧ g = [x0, x1, .int count, .int way, .int T, .ol (F.map D.int), k, x7, .ol (l.map D.int), x9])
    (g := [x0, x1, .int count, .int way, .int T, .ol (F.map D.int), x6, x7, .ol [], x9]) ⟨T, [], x6, hT, rfl, by simp, rfl⟩ (fun i g hi ⟨T, l, k, hT, hl, hp, hg⟩ => by
      subst hg
      obtain ⟨a, ea, _⟩ := DL.atI_of (l := F) (i := (i : Int)) (by omega) (by omega)
      have hlim : l.length < lim := by rw [lim_eq]; omega
      have hm := mixed_ok a (i : Int)
      by_cases q : way = 0
      · by_cases q2 : 0 < T
        · refine ⟨[x0, x1, .int count, .int way, .int (T / 210), .ol (F.map D.int), .int (0 + (i : Int)), x7, .ol ((l ++ [T % 210]).map D.int), x9], .inl ?_, T / 210, l ++ [T % 210], _, by omega, by simp [hl], ?_, rfl⟩
          · simp [f_law_draws_l4, q, q2, hlim]
          · intro x hx
            rcases List.mem_append.mp hx with h | h
            · exact hp x h
            · simp at h; omega
        · refine ⟨[x0, x1, .int count, .int way, .int T, .ol (F.map D.int), .int (0 + (i : Int)), x7, .ol ((l ++ [mixF a (i : Int)]).map D.int), x9], .inl ?_, T, l ++ [mixF a (i : Int)], _, hT, by simp [hl], ?_, rfl⟩
          · simp [f_law_draws_l4, q, q2, ea, hm, hlim]
          · intro x hx
            rcases List.mem_append.mp hx with h | h
            · exact hp x h
            · simp at h; rw [h]; exact mixF_nn a i
      · refine ⟨[x0, x1, .int count, .int way, .int T, .ol (F.map D.int), .int (0 + (i : Int)), x7, .ol ((l ++ [mixF a (i : Int)]).map D.int), x9], .inl ?_, T, l ++ [mixF a (i : Int)], _, hT, by simp [hl], ?_, rfl⟩
        · simp [f_law_draws_l4, q, ea, hm, hlim]
        · intro x hx
          rcases List.mem_append.mp hx with h | h
          · exact hp x h
          · simp at h; rw [h]; exact mixF_nn a i)
  exact ⟨_, l, e, hl, hp, rfl⟩
theorem draws_l3 (s : List Int) (start count : Int) (x3 x4 x6 x7 x8 x9 : D) (F : List Int) (hs : s.length ≤ 63) (h0 : 0 ≤ start) (hF : F.length = count.toNat) :
    ∃ (g' : Env) (F' : List Int) (y6 y7 : D), forL (gtN 6) f_law_draws_l3 (rng start (s.length - start).toNat) [.sc (s.map D.int), .int start, .int count, x3, x4, .ol (F.map D.int), x6, x7, x8, x9] = .nx g' ∧ F'.length = count.toNat ∧
      g' = [.sc (s.map D.int), .int start, .int count, x3, x4, .ol (F'.map D.int), y6, y7, x8, x9] := by
  obtain ⟨g', e, F', y6, y7, h1, h2⟩ := for_rngN (s := 6) (b := f_law_draws_l3) (lo := start) (n := (s.length - start).toNat)
    (fun i g => ∃ (F : List Int) (y6 y7 : D), F.length = count.toNat ∧ g = [.sc (s.map D.int), .int start, .int count, x3, x4, .ol (F.map D.int), y6, y7, x8, x9])
    (g := [.sc (s.map D.int), .int start, .int count, x3, x4, .ol (F.map D.int), x6, x7, x8, x9]) ⟨F, x6, x7, hF, rfl⟩ (fun i g hi ⟨F, y6, y7, hF, hg⟩ => by
      subst hg
      obtain ⟨c, ec, _⟩ := DL.atI_of (l := s) (i := start + (i : Int)) (by omega) (by omega)
      have hmax : 0 < max 1 count := by omega
      by_cases hc : 0 < count
      · have hat : (start + (i : Int)) % max 1 count < count := by
          have := Int.emod_lt_of_pos (start + (i : Int)) hmax
          omega
        have hat0 : 0 ≤ (start + (i : Int)) % max 1 count := Int.emod_nonneg _ (by omega)
        obtain ⟨a, ea, _⟩ := DL.atI_of (l := F) (i := (start + (i : Int)) % max 1 count) hat0 (by omega)
        have hix : L2.ixN (F.map D.int).length ((start + (i : Int)) % max 1 count) = some ((start + (i : Int)) % max 1 count).toNat := ixN_nat hat0 (by simp; omega)
        refine ⟨[.sc (s.map D.int), .int start, .int count, x3, x4, .ol ((F.set ((start + (i : Int)) % max 1 count).toNat ((a * 31 + c) % e60)).map D.int), .int (start + (i : Int)), .int ((start + (i : Int)) % max 1 count), x8, x9], .inl ?_, _, _, _, ?_, rfl⟩
        · simp at hix
          simp [f_law_draws_l3, hmax, hc, ea, ec, hix]
        · simp [hF]
      · refine ⟨[.sc (s.map D.int), .int start, .int count, x3, x4, .ol (F.map D.int), .int (start + (i : Int)), .int ((start + (i : Int)) % max 1 count), x8, x9], .inl ?_, _, _, _, hF, rfl⟩
        simp [f_law_draws_l3, hmax, hc])
  exact ⟨g', F', y6, y7, e, h1, h2⟩
theorem draws_ok (s : List Int) (hs : s.length ≤ 63) (start count way : Int) (h0 : 0 ≤ start) (h0' : start ≤ 1000) (h1 : 0 ≤ count) (h2 : count ≤ 1000) :
    ∃ l : List Int, l.length = count.toNat ∧ (∀ x ∈ l, 0 ≤ x) ∧ g_law_draws [.sc (s.map D.int), .int start, .int count, .int way] = .ok (.ol (l.map D.int)) := by
  have hc1 : ∀ (g : Env) (l : List Int), 9 < g.length → lcL (gtN 9) tYesG f_law_draws_c1 g (l.map D.int) = .ok ((l.map (· % e60)).map D.int) := fun g l hg => by
    rw [← map_int]
    refine lcL_mapN l fun a _ => ?_
    simp [f_law_draws_c1, hg]
  have hc2 : ∀ (g : Env), 6 < g.length → lcL (gtN 6) tYesG f_law_draws_c2 g (rng 0 count.toNat) = .ok (((List.range count.toNat).map fun i : Nat => 7 * (i : Int) + 5).map D.int) := fun g hg => by
    rw [← map_int]
    unfold rng
    refine lcL_mapN _ fun a _ => ?_
    simp [f_law_draws_c2, hg]
  obtain ⟨g3, F', y6, y7, e3, hF', rfl⟩ := draws_l3 s start count (.int way) (.int (((s.drop start.toNat).map (· % e60)).sum % e60)) .un .un .un .un ((List.range count.toNat).map fun i : Nat => 7 * (i : Int) + 5) hs h0 (by simp)
  obtain ⟨g4, l, e4, hl, hp, e8⟩ := draws_l4 (.sc (s.map D.int)) (.int start) y6 y7 .un F' (((s.drop start.toNat).map (· % e60)).sum % e60) count way h2 hF' (Int.emod_nonneg _ (by have := e60_pos; omega))
  refine ⟨l, hl, hp, ?_⟩
  have b1 : (cut s (some start) none).length ≤ lim := Nat.le_trans (cut_len s _ _) (by rw [lim_eq]; omega)
  have b2 : (rng 0 count.toNat).length ≤ lim := by rw [rng_len, lim_eq]; omega
  have b3 : rgOk count := rgOk_of (by omega) (by omega)
  have b4 : rgOk start := rgOk_of (by omega) (by omega)
  have b5 : rgOk (s.length : Int) := rgOk_of (by omega) (by omega)
  simp only [cut_from s start h0] at b1
  simp [g_law_draws, runF, f_law_draws, hc1, hc2, cut_from s start h0, b1, b2, b3, b4, b5, e3, e4, e8, -List.map_drop, -List.map_map, -List.length_drop]
end Lw

namespace Lw
open DL
def EndsOk (n : Int) (l : List (Int × Int)) : Prop := ∀ p ∈ l, (0 ≤ p.1 ∧ p.1 < n) ∧ 0 ≤ p.2 ∧ p.2 < n
theorem EndsOk.app {n : Int} {l m : List (Int × Int)} (h : EndsOk n l) (h' : EndsOk n m) : EndsOk n (l ++ m) := fun p hp => (List.mem_append.mp hp).elim (h p) (h' p)
theorem EndsOk.one {n : Int} {a b : Int} (h : (0 ≤ a ∧ a < n) ∧ 0 ≤ b ∧ b < n) : EndsOk n [(a, b)] := fun p hp => by simp at hp; subst hp; exact h
theorem ties_l1 (ds : List Int) (places : Int) (hang : Bool) (x5 x6 x7 x8 : D) (hd : ds.length ≤ 1000) (hp : 1 ≤ places) (hp2 : places ≤ 1000) :
    ∃ (g' : Env) (l : List (Int × Int)), forL (gtN 4) f_law_ties_l1 (rng 0 ds.length) [.ls (ds.map D.int), .int places, .bl hang, .ol [], .un, x5, x6, x7, x8] = .nx g' ∧ l.length = ds.length ∧ EndsOk places l ∧ ∃ y4 y5 y6 y7, g' = [.ls (ds.map D.int), .int places, .bl hang, .ol (l.map dP), y4, y5, y6, y7, x8] := by
  obtain ⟨g', e, l, h1, h2, h3⟩ := for_rngN (s := 4) (b := f_law_ties_l1) (lo := 0) (n := ds.length)
    (fun i g => ∃ (l : List (Int × Int)), l.length = i ∧ EndsOk places l ∧ ∃ y4 y5 y6 y7, g = [.ls (ds.map D.int), .int places, .bl hang, .ol (l.map dP), y4, y5, y6, y7, x8])
    (g := [.ls (ds.map D.int), .int places, .bl hang, .ol [], .un, x5, x6, x7, x8]) ⟨[], rfl, (fun _ h => nomatch h), _, _, _, _, rfl⟩ (fun i g hi ⟨l, hl, he, y4, y5, y6, y7, hg⟩ => by
      subst hg
      obtain ⟨a, ea, _⟩ := DL.atI_of (l := ds) (i := (i : Int)) (by omega) (by omega)
      have hlim : l.length < lim := by rw [lim_eq]; omega
      have hpp : 0 < places := by omega
      have hp3 : places < 1073741824 := by omega
      have o1 := Int.emod_nonneg a (by omega : places ≠ 0)
      have o2 := Int.emod_lt_of_pos a hpp
      have p1 := Int.emod_nonneg (a / places) (by omega : places ≠ 0)
      have p2 := Int.emod_lt_of_pos (a / places) hpp
      have plain : f_law_ties_l1 [.ls (ds.map D.int), .int places, .bl hang, .ol (l.map dP), .int (i : Int), y5, y6, y7, x8] = .nx [.ls (ds.map D.int), .int places, .bl hang, .ol ((l ++ [(a % places, a / places % places)]).map dP), .int (i : Int), .int (a % places), .int (a / places % places), y7, x8] ∨ (hang = true ∧ (i : Int) < places - 1) := by
        by_cases hh : hang = true ∧ (i : Int) < places - 1
        · exact .inr hh
        · left
          cases hang with
          | false => simp [f_law_ties_l1, ea, hpp, hp3, hlim]
          | true =>
            have : ¬ (i : Int) < places - 1 := fun z => hh ⟨rfl, z⟩
            simp [f_law_ties_l1, ea, hpp, hp3, hlim, this]
      rcases plain with h | ⟨hh, hi2⟩
      · refine ⟨_, .inl (by simpa using h), l ++ [(a % places, a / places % places)], by simp [hl], he.app (.one ⟨⟨o1, o2⟩, p1, p2⟩), _, _, _, _, rfl⟩
      · subst hh
        have hk : 0 < (i : Int) + 1 := by omega
        have q1 := Int.emod_nonneg a (by omega : (i : Int) + 1 ≠ 0)
        have q2 := Int.emod_lt_of_pos a hk
        rcases Int.emod_two_eq (a / 105) with z | z
        · refine ⟨[.ls (ds.map D.int), .int places, .bl true, .ol ((l ++ [(a % ((i : Int) + 1), (i : Int) + 1)]).map dP), .int (i : Int), .int (a % ((i : Int) + 1)), .int ((i : Int) + 1), .tp [.int (a % ((i : Int) + 1)), .int ((i : Int) + 1)], x8], .inl ?_, _, by simp [hl], he.app (.one ⟨⟨q1, by omega⟩, by omega, by omega⟩), _, _, _, _, rfl⟩
          simp [f_law_ties_l1, ea, hpp, hp3, hlim, hi2, hk, z]
        · refine ⟨[.ls (ds.map D.int), .int places, .bl true, .ol ((l ++ [((i : Int) + 1, a % ((i : Int) + 1))]).map dP), .int (i : Int), .int ((i : Int) + 1), .int (a % ((i : Int) + 1)), .tp [.int (a % ((i : Int) + 1)), .int ((i : Int) + 1)], x8], .inl ?_, _, by simp [hl], he.app (.one ⟨⟨by omega, by omega⟩, q1, by omega⟩), _, _, _, _, rfl⟩
          simp [f_law_ties_l1, ea, hpp, hp3, hlim, hi2, hk, z])
  exact ⟨g', l, e, h1, h2, h3⟩
theorem cut_mem {α : Type} {l : List α} {lo hi : Option Int} {a : α} (h : a ∈ cut l lo hi) : a ∈ l := by
  unfold cut at h
  exact List.mem_of_mem_drop (List.mem_of_mem_take h)
theorem EndsOk.cut {n : Int} {l : List (Int × Int)} (h : EndsOk n l) (lo hi : Option Int) : EndsOk n (cut l lo hi) := fun p hp => h p (cut_mem hp)
theorem ties_ok (ds : List Int) (places : Int) (hang : Bool) (hd : ds.length ≤ 1000) (hp : 1 ≤ places) (hp2 : places ≤ 1000) :
    ∃ l : List (Int × Int), l.length = ds.length ∧ EndsOk places l ∧ g_law_ties [.ls (ds.map D.int), .int places, .bl hang] = .ok (.ol (l.map dP)) := by
  obtain ⟨g', l, e, h1, h2, y4, y5, y6, y7, rfl⟩ := ties_l1 ds places hang .un .un .un .un hd hp hp2
  have hmax : 0 < max 1 (l.length : Int) := by omega
  have t0 : 0 ≤ ds.sum % max 1 (l.length : Int) := Int.emod_nonneg _ (by omega)
  have b1 : rgOk (ds.length : Int) := rgOk_of (by omega) (by omega)
  have b2 : (l.drop (ds.sum % max 1 (l.length : Int)).toNat).length + (l.take (ds.sum % max 1 (l.length : Int)).toNat).length ≤ lim := by
    rw [List.length_drop, List.length_take, lim_eq]; omega
  refine ⟨l.drop (ds.sum % max 1 (l.length : Int)).toNat ++ l.take (ds.sum % max 1 (l.length : Int)).toNat, ?_, ?_, ?_⟩
  · rw [List.length_append, List.length_drop, List.length_take]; omega
  · exact EndsOk.app (fun p hp => h2 p (List.mem_of_mem_drop hp)) (fun p hp => h2 p (List.mem_of_mem_take hp))
  · simp [g_law_ties, runF, f_law_ties, b1, e, hmax, cut_from l _ t0, cut_to l _ t0, b2, -List.map_drop, -List.map_take, -List.length_drop, -List.length_take, -List.map_map]
end Lw

namespace Lw
open DL
theorem web_ok (s : List Int) (hs : s.length ≤ 63) (most count : Int) (h1 : 1 ≤ most) (h2 : most ≤ 1000) (h3 : 0 ≤ count) (h4 : count ≤ 1000) :
    ∃ (p : Int) (l : List (Int × Int)), 1 ≤ p ∧ p ≤ most ∧ (l.length : Int) ≤ count ∧ EndsOk p l ∧ g_law_web [.sc (s.map D.int), .int most, .int count] = .ok (.tp [.int p, .ls (l.map dP)]) := by
  obtain ⟨c, c0, c1, ec⟩ := cell_ok s 0 (by omega)
  have m0 := Int.emod_nonneg c (by omega : most ≠ 0)
  have m1 := Int.emod_lt_of_pos c (by omega : 0 < most)
  have n0 := Int.emod_nonneg (c / most) (by omega : count + 1 ≠ 0)
  have n1 := Int.emod_lt_of_pos (c / most) (by omega : 0 < count + 1)
  have z0 := Int.emod_nonneg (c / 97) (by omega : (2 : Int) ≠ 0)
  have z1 := Int.emod_lt_of_pos (c / 97) (by omega : 0 < (2 : Int))
  have q0 : 0 ≤ c / 97 % 2 * (1 + c % most) := Int.mul_nonneg z0 (by omega)
  obtain ⟨ds, d1, d2, d3⟩ := draws_ok s hs 1 (min count (c / most % (count + 1) + c / 97 % 2 * (1 + c % most))) (c / 194 % 2) (by omega) (by omega) (by omega) (by omega)
  obtain ⟨l, l1, l2, l3⟩ := ties_ok ds (1 + c % most) (decide (0 < c / 388 % 3)) (by omega) (by omega) (by omega)
  refine ⟨1 + c % most, l, by omega, by omega, by omega, l2, ?_⟩
  have a0 : 0 < most := by omega
  have a1 : most < 1073741824 := by omega
  have a2 : 0 < count + 1 := by omega
  have a3 : -18446744073709551616 < c / 97 % 2 := by omega
  have a4 : c / 97 % 2 < 18446744073709551616 := by omega
  simp [g_law_web, runF, f_law_web, ec, a0, a1, a2, a3, a4, d3, l3]
end Lw

noncomputable section
namespace Lw
open DL
def f_Web_init_l1 : Env → Out := sIf (tOr_ (tNo (tCh cLe cLt (eC (.int 0)) (eVar 3) (eVar 1))) (tNo (tCh cLe cLt (eC (.int 0)) (eVar 4) (eVar 1)))) (sRaise 1) (sNil)
def f_Web_init : Env → Out := sSeq (sIf (tOr_ (tNo (tCh cLe cLe (eC (.int 1)) (eVar 1) (eC (.int 14)))) (tC2 cGt (eCall caLen (aCons (eVar 2) (aNil))) (eC (.int 30)))) (sRaise 1) (sNil)) (sSeq (sFor (iSeq (eVar 2)) (gtT 2 (gtCons (gtN 3) (gtCons (gtN 4) (gtNil)))) f_Web_init_l1) (sSeq (sFld 0 14 0 (eVar 1)) (sFld 0 14 1 (eCall caList (aCons (eVar 2) (aNil))))))
def g_Web_init : List D → Res (List D) := mirI f_Web_init 14 5
end Lw
end

namespace Lw
open DL
theorem web_init_l1 (p : Int) (x0 x2 : D) : ∀ (l : List (Int × Int)) (y3 y4 : D), EndsOk p l →
    ∃ z3 z4, forL (gtT 2 (gtCons (gtN 3) (gtCons (gtN 4) (gtNil)))) f_Web_init_l1 (l.map dP) [x0, .int p, x2, y3, y4] = .nx [x0, .int p, x2, z3, z4]
  | [], y3, y4, _ => ⟨y3, y4, by simp [forL]⟩
  | (a, b) :: l, y3, y4, h => by
    obtain ⟨⟨h1, h2⟩, h3, h4⟩ := h (a, b) (List.mem_cons_self ..)
    obtain ⟨z3, z4, e⟩ := web_init_l1 p x0 x2 l (.int a) (.int b) fun q hq => h q (List.mem_cons_of_mem _ hq)
    refine ⟨z3, z4, ?_⟩
    rw [← e]
    simp at h1 h2 h3 h4
    simp [forL, f_Web_init_l1, h1, h2, h3, h4]
theorem web_init_ok (p : Int) (l : List (Int × Int)) (h1 : 1 ≤ p) (h2 : p ≤ 14) (h3 : l.length ≤ 30) (h4 : EndsOk p l) : g_Web_init [.int p, .ls (l.map dP)] = .ok [.int p, .ol (l.map dP)] := by
  refine mirI_eq fun x => ?_
  obtain ⟨z3, z4, e⟩ := web_init_l1 p (.oo (some x) 14 []) (.ls (l.map dP)) l .un .un h4
  have h5 : ¬ (30 < (l.length : Int)) := by omega
  simp [runI, f_Web_init, h1, h2, h5, e, outI]
def goodAux (count : Int) : Int → List Int → Bool
  | _, [] => true
  | a, x :: l => !(decide (x ≤ a)) && !(decide (x ≥ count)) && goodAux count x l
def goodB (count : Int) (l : List Int) : Bool := goodAux count (-1) l
end Lw

noncomputable section
namespace Lw
open DL
end Lw
end

namespace Lw
open DL L2
def nth (m : List Int) (i : Int) : Int := m.getD i.toNat 0
theorem nth_at {m : List Int} {i : Int} (h0 : 0 ≤ i) (h1 : i < m.length) : atI m i = some (nth m i) := by
  obtain ⟨a, e, e2⟩ := DL.atI_of h0 h1
  rw [e]; simp [nth, List.getD_eq_getElem?_getD, e2]
def tieAt (ts : List (Int × Int)) (i : Int) : Int × Int := ts.getD i.toNat (0, 0)
theorem tie_at {ts : List (Int × Int)} {i : Int} (h0 : 0 ≤ i) (h1 : i < ts.length) : atI ts i = some (tieAt ts i) ∧ tieAt ts i ∈ ts := by
  obtain ⟨a, e, e2⟩ := DL.atI_of h0 h1
  have : tieAt ts i = a := by simp [tieAt, List.getD_eq_getElem?_getD, e2]
  rw [this]
  exact ⟨e, List.mem_of_getElem? e2⟩
def InT (n : Nat) (l : List Int) : Prop := ∀ t ∈ l, 0 ≤ t ∧ t < n
end Lw

noncomputable section
namespace Lw
open DL
def f_law_some_l1 : Env → Out := sSeq (sIf (tC2 cEq (eBin opMod (eVar 0) (eC (.int 2))) (eC (.int 1))) (sApp 2 (eVar 3)) (sNil)) (sAsgF 0 (eBin opDiv (eVar 0) (eC (.int 2))))
def f_law_some : Env → Out := sSeq (sAsg 2 (eLst (aNil))) (sSeq (sFor (iRg1 (aCons (eVar 1) (aNil))) (gtN 3) f_law_some_l1) (sRetV 2))
def g_law_some : List D → Res D := runF f_law_some 4
def f_law_marks_l1 : Env → Out := sIf (tC2 cEq (eBin opIx (eVar 3) (eVar 9)) (eVar 7)) (sSet 3 (eVar 9) (eVar 8)) (sNil)
def f_law_marks_l2 : Env → Out := sSeq (sAsgT (gtT 2 (gtCons (gtN 5) (gtCons (gtN 6) (gtNil)))) (eBin opIx (eVar 1) (eVar 4))) (sIf (tC2 cNe (eBin opIx (eVar 3) (eVar 5)) (eBin opIx (eVar 3) (eVar 6))) (sSeq (sAsgF 7 (eBin opIx (eVar 3) (eVar 6))) (sSeq (sAsgF 8 (eBin opIx (eVar 3) (eVar 5))) (sFor (iRg1 (aCons (eVar 0) (aNil))) (gtN 9) f_law_marks_l1))) (sNil))
def f_law_marks : Env → Out := sSeq (sAsg 3 (eLR1 (eVar 0))) (sSeq (sFor (iSeq (eVar 2)) (gtN 4) f_law_marks_l2) (sRetV 3))
def g_law_marks : List D → Res D := runF f_law_marks 10
end Lw
end

namespace Lw
open DL L2
def stepL (m : List Int) (t : Int × Int) : List Int := if nth m t.1 = nth m t.2 then m else m.map fun x => if x = nth m t.2 then nth m t.1 else x
def marksL (p : Nat) (ts : List (Int × Int)) (l : List Int) : List Int := l.foldl (fun m t => stepL m (tieAt ts t)) (iota p)
theorem stepL_len (m : List Int) (t : Int × Int) : (stepL m t).length = m.length := by unfold stepL; split <;> simp
theorem lmarks_l1 (p : Int) (x1 x2 x4 x5 x6 : D) (gone kept : Int) : ∀ (rest pre : List Int) (y9 : D),
    ∃ z9, forL (gtN 9) f_law_marks_l1 (rng pre.length rest.length) [.int p, x1, x2, .ol ((pre ++ rest).map D.int), x4, x5, x6, .int gone, .int kept, y9] = .nx [.int p, x1, x2, .ol ((pre ++ rest.map fun x => if x = gone then kept else x).map D.int), x4, x5, x6, .int gone, .int kept, z9]
  | [], pre, y9 => ⟨y9, by simp [rng_zero, forL]⟩
  | x :: rest, pre, y9 => by
    have e1 : atI (pre ++ x :: rest) (pre.length : Int) = some x := by rw [DL.atI_natG (j := pre.length) rfl (by simp)]; simp
    have e2 : ixN (pre.length + (rest.length + 1)) (pre.length : Int) = some pre.length := by rw [ixN_nat (by omega) (by omega)]; simp
    have hr : rng (pre.length : Int) (x :: rest).length = .int pre.length :: rng ((pre.length : Int) + 1) rest.length := rng_succ ..
    obtain ⟨z9, ih⟩ := lmarks_l1 p x1 x2 x4 x5 x6 gone kept rest (pre ++ [if x = gone then kept else x]) (.int pre.length)
    have el : (((pre ++ [if x = gone then kept else x]).length : Nat) : Int) = (pre.length : Int) + 1 := by simp
    rw [el] at ih
    refine ⟨z9, ?_⟩
    rw [hr]
    have step : f_law_marks_l1 [.int p, x1, x2, .ol (pre.map D.int ++ D.int x :: rest.map D.int), x4, x5, x6, .int gone, .int kept, .int pre.length] = .nx [.int p, x1, x2, .ol (pre.map D.int ++ D.int (if x = gone then kept else x) :: rest.map D.int), x4, x5, x6, .int gone, .int kept, .int pre.length] := by
      have e1' : atI (List.map D.int pre ++ D.int x :: List.map D.int rest) (pre.length : Int) = some (.int x) := by rw [DL.atI_natG (j := pre.length) rfl (by simp)]; simp
      by_cases h : x = gone
      · subst h
        simp [f_law_marks_l1, e1', e2]
      · simp [f_law_marks_l1, e1', h]
    simpa [forL, step] using ih

theorem lmarks_l2 (p : Int) (hp : 1 ≤ p) (hp2 : p ≤ 1000) (ts : List (Int × Int)) (hE : EndsOk p ts) (x2 : D) : ∀ (l m : List Int) (y4 y5 y6 y7 y8 y9 : D), (m.length : Int) = p → InT ts.length l →
    ∃ z4 z5 z6 z7 z8 z9, forL (gtN 4) f_law_marks_l2 (l.map D.int) [.int p, .ls (ts.map dP), x2, .ol (m.map D.int), y4, y5, y6, y7, y8, y9] = .nx [.int p, .ls (ts.map dP), x2, .ol ((l.foldl (fun m t => stepL m (tieAt ts t)) m).map D.int), z4, z5, z6, z7, z8, z9]
  | [], m, y4, y5, y6, y7, y8, y9, _, _ => ⟨y4, y5, y6, y7, y8, y9, by simp [forL]⟩
  | t :: l, m, y4, y5, y6, y7, y8, y9, hm, hl => by
    obtain ⟨t0, t1⟩ := hl t (List.mem_cons_self ..)
    obtain ⟨e1, e2⟩ := tie_at t0 t1
    obtain ⟨⟨a0, a1⟩, b0, b1⟩ := hE _ e2
    have ea := nth_at (m := m) a0 (by omega)
    have eb := nth_at (m := m) b0 (by omega)
    have hr : rgOk p := rgOk_of (by omega) (by omega)
    have hl' : InT ts.length l := fun t h => hl t (List.mem_cons_of_mem _ h)
    rw [List.foldl_cons]
    by_cases h : nth m (tieAt ts t).1 = nth m (tieAt ts t).2
    · obtain ⟨z4, z5, z6, z7, z8, z9, ih⟩ := lmarks_l2 p hp hp2 ts hE x2 l m (.int t) (.int (tieAt ts t).1) (.int (tieAt ts t).2) y7 y8 y9 hm hl'
      refine ⟨z4, z5, z6, z7, z8, z9, ?_⟩
      have es : stepL m (tieAt ts t) = m := if_pos h
      rw [es, ← ih]
      have st : f_law_marks_l2 [.int p, .ls (ts.map dP), x2, .ol (m.map D.int), .int t, y5, y6, y7, y8, y9] = .nx [.int p, .ls (ts.map dP), x2, .ol (m.map D.int), .int t, .int (tieAt ts t).1, .int (tieAt ts t).2, y7, y8, y9] := by
        simp [f_law_marks_l2, e1, ea, eb, h]
      simp [forL, st]
    · have es : stepL m (tieAt ts t) = m.map fun x => if x = nth m (tieAt ts t).2 then nth m (tieAt ts t).1 else x := if_neg h
      obtain ⟨w9, iw⟩ := lmarks_l1 p (.ls (ts.map dP)) x2 (.int t) (.int (tieAt ts t).1) (.int (tieAt ts t).2) (nth m (tieAt ts t).2) (nth m (tieAt ts t).1) m [] y9
      obtain ⟨z4, z5, z6, z7, z8, z9, ih⟩ := lmarks_l2 p hp hp2 ts hE x2 l (stepL m (tieAt ts t)) (.int t) (.int (tieAt ts t).1) (.int (tieAt ts t).2) (.int (nth m (tieAt ts t).2)) (.int (nth m (tieAt ts t).1)) w9 (by rw [stepL_len]; exact hm) hl'
      refine ⟨z4, z5, z6, z7, z8, z9, ?_⟩
      rw [← ih]
      have hpn : p.toNat = m.length := by omega
      simp only [List.length_nil, List.nil_append, Int.ofNat_zero, ← hpn] at iw
      rw [← es] at iw
      have st : f_law_marks_l2 [.int p, .ls (ts.map dP), x2, .ol (m.map D.int), .int t, y5, y6, y7, y8, y9] = .nx [.int p, .ls (ts.map dP), x2, .ol ((stepL m (tieAt ts t)).map D.int), .int t, .int (tieAt ts t).1, .int (tieAt ts t).2, .int (nth m (tieAt ts t).2), .int (nth m (tieAt ts t).1), w9] := by
        simp [f_law_marks_l2, e1, ea, eb, h, hr, iw]
      simp [forL, st]
theorem lmarks_ok (p : Int) (ts : List (Int × Int)) (hE : EndsOk p ts) (h1 : 1 ≤ p) (h2 : p ≤ 1000) (l : List Int) (hl : InT ts.length l) : g_law_marks [.int p, .ls (ts.map dP), .ls (l.map D.int)] = .ok (.ol ((marksL p.toNat ts l).map D.int)) := by
  obtain ⟨z4, z5, z6, z7, z8, z9, e⟩ := lmarks_l2 p h1 h2 ts hE (.ls (l.map D.int)) l (iota p.toNat) .un .un .un .un .un .un (by simp; omega) hl
  have hr : rgOk p := rgOk_of (by omega) (by omega)
  have h3 : p ≤ 1000000 := by omega
  simp [g_law_marks, runF, f_law_marks, hr, h3, rng_iota, e, marksL]
theorem nth_map {m : List Int} {f : Int → Int} {i : Int} (h0 : 0 ≤ i) (h1 : i < m.length) : nth (m.map f) i = f (nth m i) := by
  unfold nth
  have : i.toNat < m.length := by omega
  simp [List.getD_eq_getElem?_getD, List.getElem?_map, List.getElem?_eq_getElem this]
end Lw

namespace Lw
open DL L2
theorem nth_mem {m : List Int} {i : Int} (h0 : 0 ≤ i) (h1 : i < m.length) : nth m i ∈ m := by
  have : i.toNat < m.length := by omega
  unfold nth
  rw [List.getD_eq_getElem?_getD, List.getElem?_eq_getElem this]
  exact List.getElem_mem this
theorem mem_nth {m : List Int} {x : Int} (h : x ∈ m) : ∃ i : Int, 0 ≤ i ∧ i < m.length ∧ nth m i = x := by
  obtain ⟨i, hi, e⟩ := List.mem_iff_getElem.mp h
  refine ⟨i, by omega, by omega, ?_⟩
  unfold nth
  simp [List.getD_eq_getElem?_getD, List.getElem?_eq_getElem hi, e]
def up (lo : Int) : Nat → List Int
  | 0 => []
  | k + 1 => lo :: up (lo + 1) k
end Lw

namespace Lw
open DL L2
inductive Conn (es : List (Int × Int)) : Int → Int → Prop
  | refl (a : Int) : Conn es a a
  | tie {a b : Int} : (a, b) ∈ es → Conn es a b
  | symm {a b : Int} : Conn es a b → Conn es b a
  | trans {a b c : Int} : Conn es a b → Conn es b c → Conn es a c
theorem Conn.mono {es fs : List (Int × Int)} (h : ∀ e ∈ es, e ∈ fs) {a b : Int} (c : Conn es a b) : Conn fs a b := by
  induction c with
  | refl a => exact .refl a
  | tie h' => exact .tie (h _ h')
  | symm _ ih => exact ih.symm
  | trans _ _ ih1 ih2 => exact ih1.trans ih2
theorem Conn.le {es fs : List (Int × Int)} (h : ∀ e ∈ es, Conn fs e.1 e.2) {a b : Int} (c : Conn es a b) : Conn fs a b := by
  induction c with
  | refl a => exact .refl a
  | tie h' => exact h _ h'
  | symm _ ih => exact ih.symm
  | trans _ _ ih1 ih2 => exact ih1.trans ih2
theorem conn_snoc {es : List (Int × Int)} {t : Int × Int} {i j : Int} : Conn (es ++ [t]) i j ↔ Conn es i j ∨ (Conn es i t.1 ∧ Conn es t.2 j) ∨ (Conn es i t.2 ∧ Conn es t.1 j) := by
  constructor
  · intro c
    induction c with
    | refl a => exact .inl (.refl a)
    | tie h =>
      rcases List.mem_append.mp h with h | h
      · exact .inl (.tie h)
      · simp at h
        subst h
        exact .inr (.inl ⟨.refl _, .refl _⟩)
    | symm _ ih =>
      rcases ih with h | ⟨h1, h2⟩ | ⟨h1, h2⟩
      · exact .inl h.symm
      · exact .inr (.inr ⟨h2.symm, h1.symm⟩)
      · exact .inr (.inl ⟨h2.symm, h1.symm⟩)
    | trans _ _ ih1 ih2 =>
      rcases ih1 with h | ⟨h1, h2⟩ | ⟨h1, h2⟩ <;> rcases ih2 with k | ⟨k1, k2⟩ | ⟨k1, k2⟩
      · exact .inl (h.trans k)
      · exact .inr (.inl ⟨h.trans k1, k2⟩)
      · exact .inr (.inr ⟨h.trans k1, k2⟩)
      · exact .inr (.inl ⟨h1, h2.trans k⟩)
      · exact .inl ((h1.trans (h2.trans k1).symm).trans k2)
      · exact .inl (h1.trans k2)
      · exact .inr (.inr ⟨h1, h2.trans k⟩)
      · exact .inl (h1.trans k2)
      · exact .inl ((h1.trans (h2.trans k1).symm).trans k2)
  · have m : ∀ {a b}, Conn es a b → Conn (es ++ [t]) a b := fun c => c.mono fun e h => List.mem_append_left _ h
    have ht : Conn (es ++ [t]) t.1 t.2 := .tie (List.mem_append_right _ (by simp))
    rintro (h | ⟨h1, h2⟩ | ⟨h1, h2⟩)
    · exact m h
    · exact ((m h1).trans ht).trans (m h2)
    · exact ((m h1).trans ht.symm).trans (m h2)
theorem conn_nil {i j : Int} (c : Conn [] i j) : i = j := by
  induction c with
  | refl a => rfl
  | tie h => exact (nomatch h)
  | symm _ ih => exact ih.symm
  | trans _ _ ih1 ih2 => exact ih1.trans ih2
def mk (p : Nat) (es : List (Int × Int)) : List Int := es.foldl stepL (iota p)
theorem mk_len (p : Nat) (es : List (Int × Int)) : (mk p es).length = p := by
  have : ∀ (es : List (Int × Int)) (m : List Int), (es.foldl stepL m).length = m.length := by
    intro es
    induction es with
    | nil => intro m; rfl
    | cons t es ih => intro m; rw [List.foldl_cons, ih, stepL_len]
  unfold mk
  rw [this]; simp
theorem mk_snoc (p : Nat) (es : List (Int × Int)) (t : Int × Int) : mk p (es ++ [t]) = stepL (mk p es) t := by simp [mk, List.foldl_append]
theorem nth_iota {p : Nat} {i : Int} (h0 : 0 ≤ i) (h1 : i < p) : nth (iota p) i = i := by
  have : i.toNat < p := by omega
  unfold nth iota
  rw [List.getD_eq_getElem?_getD, List.getElem?_map, List.getElem?_range this]
  simp; omega
theorem stepL_same {m : List Int} {t : Int × Int} {i j : Int} (hi : 0 ≤ i ∧ i < m.length) (hj : 0 ≤ j ∧ j < m.length) :
    nth (stepL m t) i = nth (stepL m t) j ↔ nth m i = nth m j ∨ (nth m i = nth m t.1 ∧ nth m t.2 = nth m j) ∨ (nth m i = nth m t.2 ∧ nth m t.1 = nth m j) := by
  unfold stepL
  by_cases c : nth m t.1 = nth m t.2
  · rw [if_pos c, c]
    constructor
    · exact .inl
    · rintro (h | ⟨h1, h2⟩ | ⟨h1, h2⟩)
      · exact h
      · exact h1.trans h2
      · exact h1.trans h2
  · rw [if_neg c, nth_map hi.1 hi.2, nth_map hj.1 hj.2]
    generalize nth m t.1 = a at *
    generalize nth m t.2 = b at *
    generalize nth m i = x at *
    generalize nth m j = y at *
    by_cases u1 : x = b <;> by_cases u2 : y = b <;> simp [u1, u2] <;> omega
theorem mk_conn (p : Nat) : ∀ (n : Nat) (es : List (Int × Int)), es.length = n → EndsOk p es → ∀ i j : Int, 0 ≤ i → i < p → 0 ≤ j → j < p → (nth (mk p es) i = nth (mk p es) j ↔ Conn es i j)
  | 0, es, hn, hE, i, j, i0, i1, j0, j1 => by
    obtain rfl := List.eq_nil_of_length_eq_zero hn
    show nth (iota p) i = nth (iota p) j ↔ _
    rw [nth_iota i0 i1, nth_iota j0 j1]
    constructor
    · rintro rfl; exact .refl _
    · exact conn_nil
  | n + 1, es, hn, hE, i, j, i0, i1, j0, j1 => by
    have hne : es ≠ [] := by intro z; subst z; simp at hn
    have hsp := List.dropLast_concat_getLast hne
    generalize es.dropLast = fs at hsp
    generalize es.getLast hne = t at hsp
    subst hsp
    have hf : EndsOk p fs := fun e h => hE e (List.mem_append_left _ h)
    have ht := hE t (List.mem_append_right _ (by simp))
    have ih := mk_conn p n fs (by simpa using hn) hf
    rw [mk_snoc, stepL_same ⟨i0, by rw [mk_len]; exact i1⟩ ⟨j0, by rw [mk_len]; exact j1⟩, conn_snoc, ih i j i0 i1 j0 j1, ih i t.1 i0 i1 ht.1.1 ht.1.2, ih t.2 j ht.2.1 ht.2.2 j0 j1, ih i t.2 i0 i1 ht.2.1 ht.2.2, ih t.1 j ht.1.1 ht.1.2 j0 j1]
end Lw

namespace Lw
open DL L2
theorem nodup_le : ∀ {l m : List Int}, l.Nodup → (∀ x ∈ l, x ∈ m) → l.length ≤ m.length
  | [], m, _, _ => Nat.zero_le _
  | x :: l, m, h, k => by
    have hx := k x (List.mem_cons_self ..)
    obtain ⟨h1, h2⟩ := List.nodup_cons.mp h
    have := nodup_le (l := l) (m := m.erase x) h2 fun y hy => (List.mem_erase_of_ne (fun (z : y = x) => h1 (by rw [← z]; exact hy))).mpr (k y (List.mem_cons_of_mem _ hy))
    rw [List.length_erase_of_mem hx] at this
    have hp : 0 < m.length := List.length_pos_of_mem hx
    simp only [List.length_cons]
    omega
theorem idx_nth {m : List Int} {x : Int} (h : x ∈ m) : ((m.idxOf x : Nat) : Int) < m.length ∧ nth m (m.idxOf x : Nat) = x := by
  have hl := List.idxOf_lt_length_of_mem h
  refine ⟨by omega, ?_⟩
  unfold nth
  simp [List.getD_eq_getElem?_getD, List.getElem?_eq_getElem hl, List.getElem_idxOf]
theorem sset_le {m m' : List Int} (hl : m.length = m'.length) (h : ∀ i j : Int, 0 ≤ i → i < m.length → 0 ≤ j → j < m.length → nth m i = nth m j → nth m' i = nth m' j) : (sset m').length ≤ (sset m).length := by
  have : (sset m').length ≤ ((sset m).map fun x => nth m' (m.idxOf x : Nat)).length := by
    refine nodup_le (rise_nodup (sset_rise m')) fun y hy => ?_
    obtain ⟨i, i0, i1, rfl⟩ := mem_nth ((sset_mem y m').mp hy)
    have hx : nth m i ∈ m := nth_mem i0 (by omega)
    obtain ⟨k1, k2⟩ := idx_nth hx
    refine List.mem_map.mpr ⟨nth m i, (sset_mem _ m).mpr hx, ?_⟩
    exact h _ i (by omega) k1 i0 (by omega) k2
  simpa using this
def cnt (p : Nat) (es : List (Int × Int)) : Nat := (sset (mk p es)).length
theorem cnt_le {p : Nat} {es fs : List (Int × Int)} (h1 : EndsOk p es) (h2 : EndsOk p fs) (h : ∀ e ∈ es, Conn fs e.1 e.2) : cnt p fs ≤ cnt p es := by
  refine sset_le (by rw [mk_len, mk_len]) fun i j i0 i1 j0 j1 e => ?_
  rw [mk_len] at i1 j1
  rw [mk_conn p _ es rfl h1 i j i0 i1 j0 j1] at e
  exact (mk_conn p _ fs rfl h2 i j i0 i1 j0 j1).mpr (e.le h)
theorem cnt_eq {p : Nat} {es fs : List (Int × Int)} (h1 : EndsOk p es) (h2 : EndsOk p fs) (h : ∀ e ∈ es, Conn fs e.1 e.2) (h' : ∀ e ∈ fs, Conn es e.1 e.2) : cnt p es = cnt p fs :=
  Nat.le_antisymm (cnt_le h2 h1 h') (cnt_le h1 h2 h)
theorem cnt_nil (p : Nat) : cnt p [] = p := by
  show (sset (iota p)).length = p
  rw [rise_uniq (sset_rise (iota p)) (m := iota p) ?_ fun k => sset_mem k _]
  · simp
  · unfold iota
    rw [List.pairwise_map]
    exact List.pairwise_lt_range.imp fun h => by omega
theorem cnt_same {p : Nat} {es : List (Int × Int)} {t : Int × Int} (h : EndsOk p (es ++ [t])) (c : Conn es t.1 t.2) : cnt p (es ++ [t]) = cnt p es := by
  refine cnt_eq h (fun e he => h e (List.mem_append_left _ he)) (fun e he => ?_) fun e he => .tie (List.mem_append_left _ he)
  rcases List.mem_append.mp he with z | z
  · exact .tie z
  · simp at z; subst z; exact c
theorem sset_step {m : List Int} {t : Int × Int} (h1 : 0 ≤ t.1 ∧ t.1 < m.length) (h2 : 0 ≤ t.2 ∧ t.2 < m.length) (n : nth m t.1 ≠ nth m t.2) : (sset (stepL m t)).length + 1 = (sset m).length := by
  have hb : nth m t.2 ∈ sset m := (sset_mem _ m).mpr (nth_mem h2.1 h2.2)
  have nd := rise_nodup (sset_rise m)
  have e : sset (stepL m t) = (sset m).erase (nth m t.2) := by
    refine rise_uniq (sset_rise _) ((sset_rise m).sublist List.erase_sublist) fun k => ?_
    rw [sset_mem, nd.mem_erase_iff, sset_mem]
    unfold stepL
    rw [if_neg n, List.mem_map]
    constructor
    · rintro ⟨x, hx, rfl⟩
      by_cases c : x = nth m t.2
      · rw [if_pos c]; exact ⟨n, nth_mem h1.1 h1.2⟩
      · rw [if_neg c]; exact ⟨c, hx⟩
    · rintro ⟨c, hx⟩
      exact ⟨k, hx, if_neg c⟩
  rw [e, List.length_erase_of_mem hb]
  have := List.length_pos_of_mem hb
  omega
theorem cnt_new {p : Nat} {es : List (Int × Int)} {t : Int × Int} (h : EndsOk p (es ++ [t])) (c : ¬ Conn es t.1 t.2) : cnt p (es ++ [t]) + 1 = cnt p es := by
  have ht := h t (by simp)
  have hf : EndsOk p es := fun e he => h e (List.mem_append_left _ he)
  unfold cnt
  rw [mk_snoc]
  refine sset_step ⟨ht.1.1, by rw [mk_len]; exact ht.1.2⟩ ⟨ht.2.1, by rw [mk_len]; exact ht.2.2⟩ fun e => c ?_
  exact (mk_conn p _ es rfl hf t.1 t.2 ht.1.1 ht.1.2 ht.2.1 ht.2.2).mp e
theorem snoc_of {α : Type} {es : List α} {n : Nat} (h : es.length = n + 1) : ∃ fs t, es = fs ++ [t] ∧ fs.length = n := by
  have hne : es ≠ [] := by intro z; subst z; simp at h
  exact ⟨es.dropLast, es.getLast hne, (List.dropLast_concat_getLast hne).symm, by simp; omega⟩
theorem cnt_lo (p : Nat) : ∀ (n : Nat) (es : List (Int × Int)), es.length = n → EndsOk p es → p ≤ cnt p es + n
  | 0, es, hn, hE => by
    obtain rfl := List.eq_nil_of_length_eq_zero hn
    rw [cnt_nil]; omega
  | n + 1, es, hn, hE => by
    obtain ⟨fs, t, rfl, hl⟩ := snoc_of hn
    have ih := cnt_lo p n fs hl fun e he => hE e (List.mem_append_left _ he)
    by_cases c : Conn fs t.1 t.2
    · rw [cnt_same hE c]; omega
    · have := cnt_new hE c; omega
def tiesAt (ts : List (Int × Int)) (l : List Int) : List (Int × Int) := l.map (tieAt ts)
theorem tiesAt_ok {p : Int} {ts : List (Int × Int)} (hE : EndsOk p ts) {l : List Int} (hl : InT ts.length l) : EndsOk p (tiesAt ts l) := fun e he => by
  obtain ⟨t, ht, rfl⟩ := List.mem_map.mp he
  obtain ⟨t0, t1⟩ := hl t ht
  exact hE _ (tie_at t0 t1).2
def treeB (p : Int) (ts : List (Int × Int)) (l : List Int) : Bool := decide ((l.length : Int) = p - 1) && goodB ts.length l && decide (cnt p.toNat (tiesAt ts l) = 1)
end Lw

noncomputable section
namespace Lw
open DL
end Lw
end

namespace Lw
open DL L2
end Lw

noncomputable section
namespace Lw
open DL
end Lw
end

namespace Lw
open DL L2
theorem iota_mem {n : Nat} {x : Int} : x ∈ iota n ↔ 0 ≤ x ∧ x < n := by
  unfold iota
  simp only [List.mem_map, List.mem_range]
  constructor
  · rintro ⟨a, h, rfl⟩; omega
  · intro ⟨h0, h1⟩; exact ⟨x.toNat, by omega, by omega⟩
structure Grown (p : Nat) (ts : List (Int × Int)) (i : Nat) (left some : List Int) : Prop where
  len : left.length + i = ts.length
  nd : left.Nodup
  lin : InT ts.length left
  snd : some.Nodup
  sin : InT ts.length some
  sl : ∀ x ∈ some, x ∉ left
  ct : cnt p (tiesAt ts some) + some.length = p
  al : ∀ t : Int, 0 ≤ t ∧ t < ts.length → t ∉ left → Conn (tiesAt ts some) (tieAt ts t).1 (tieAt ts t).2
end Lw

noncomputable section
namespace Lw
open DL
end Lw
end

namespace Lw
open DL L2 TL
section
variable (L : List (List Int))
@[simp] theorem brws_T : brws (L.map dT) = L.map dT := (dulls dull_T L).1
@[simp] theorem frzs_T : frzs (L.map dT) = L.map dT := (dulls dull_T L).2.1
@[simp] theorem plns_T : plns (L.map dT) = L.map dT := (dulls dull_T L).2.2.1
@[simp] theorem nods_T : nods (L.map dT) = true := (dulls dull_T L).2.2.2.1
@[simp] theorem shd_T : shd (L.map dT) = true := (dulls dull_T L).2.2.2.2.1
@[simp] theorem ploks_T : ploks (L.map dT) = true := (dulls dull_T L).2.2.2.2.2
end
end Lw

namespace Lw
open DL L2 TL
def dR (l : List Int) : D := .ls (l.map D.int)
theorem dull_R (l : List Int) : dull (dR l) := by
  refine ⟨?_, ?_, ?_, ?_, ?_, ?_⟩ <;> simp [dR]
theorem bR (L : List (List Int)) : brws (L.map dR) = L.map dR ∧ frzs (L.map dR) = L.map dR ∧ plns (L.map dR) = L.map dR ∧ nods (L.map dR) = true ∧ shd (L.map dR) = true ∧ ploks (L.map dR) = true := dulls dull_R L
def rowN (L : List (List Int)) (r : Nat) : List Int := L.getD r []
def ent (L : List (List Int)) (r c : Nat) : Int := (rowN L r).getD c 0
structure Sq (n : Nat) (L : List (List Int)) : Prop where
  len : L.length = n
  row : ∀ l ∈ L, l.length = n
theorem Sq.rowl {n : Nat} {L : List (List Int)} (h : Sq n L) {r : Nat} (hr : r < n) : (rowN L r).length = n := by
  have : rowN L r = L[r]'(by rw [h.len]; exact hr) := by unfold rowN; rw [List.getD_eq_getElem?_getD, List.getElem?_eq_getElem (by rw [h.len]; exact hr)]; rfl
  rw [this]
  exact h.row _ (List.getElem_mem _)
theorem at_row {L : List (List Int)} {r : Nat} (hr : r < L.length) : atI (L.map dR) (r : Int) = some (dR (rowN L r)) := by
  rw [DL.atI_map, DL.atI_natG (j := r) rfl hr, List.getElem?_eq_getElem hr]
  unfold rowN
  rw [List.getD_eq_getElem?_getD, List.getElem?_eq_getElem hr]
  rfl
theorem at_num {l : List Int} {c : Nat} (hc : c < l.length) : atI (l.map D.int) (c : Int) = some (.int (l.getD c 0)) := by
  rw [DL.atI_map, DL.atI_natG (j := c) rfl hc, List.getElem?_eq_getElem hc, List.getD_eq_getElem?_getD, List.getElem?_eq_getElem hc]
  rfl
theorem at_ent {n : Nat} {L : List (List Int)} (h : Sq n L) {r c : Nat} (hr : r < n) (hc : c < n) : atI ((rowN L r).map D.int) (c : Int) = some (.int (ent L r c)) := at_num (by rw [h.rowl hr]; exact hc)
theorem look_tab_ok {n : Nat} {L : List (List Int)} (h : Sq n L) : g_look_at_table [.ls (L.map dR)] = .ok .non := by
  have key : ∀ (M : List (List Int)) (y1 : D), (∀ l ∈ M, l.length = n) → ∃ z1, forL (gtN 1) f_look_at_table_l1 (M.map dR) [.ls (L.map dR), y1] = .nx [.ls (L.map dR), z1] := by
    intro M
    induction M with
    | nil => exact fun y1 _ => ⟨y1, by simp [forL]⟩
    | cons l M ih =>
      intro y1 hM
      obtain ⟨z1, e⟩ := ih (dR l) fun x hx => hM x (List.mem_cons_of_mem _ hx)
      refine ⟨z1, ?_⟩
      rw [← e]
      have hl := hM l (List.mem_cons_self ..)
      have hL := h.len
      simp [forL, f_look_at_table_l1, dR, hl, hL]
  obtain ⟨z1, e⟩ := key L .un h.row
  simp [g_look_at_table, runF, f_look_at_table, e]
theorem first_l1 {n : Nat} {L : List (List Int)} (h : Sq n L) (hn : n ≤ 1000) (k : Nat) (hk : k < n) : ∀ (m lo : Nat) (y2 : D), lo + m ≤ n →
    (∃ r, lo ≤ r ∧ r < lo + m ∧ ent L r k ≠ 0 ∧ (∀ i, lo ≤ i → i < r → ent L i k = 0) ∧ forL (gtN 2) f_first_row_with_l1 (rng lo m) [.ls (L.map dR), .int k, y2] = .rt (.int r)) ∨
    ((∀ i, lo ≤ i → i < lo + m → ent L i k = 0) ∧ ∃ z2, forL (gtN 2) f_first_row_with_l1 (rng lo m) [.ls (L.map dR), .int k, y2] = .nx [.ls (L.map dR), .int k, z2])
  | 0, lo, y2, _ => .inr ⟨fun i h1 h2 => absurd h2 (by omega), y2, by simp [rng_zero, forL]⟩
  | m + 1, lo, y2, hm => by
    have e1 := at_row (L := L) (r := lo) (by rw [h.len]; omega)
    have e2 := at_ent h (r := lo) (c := k) (by omega) hk
    by_cases c : ent L lo k = 0
    · rw [c] at e2
      have step : forL (gtN 2) f_first_row_with_l1 (rng lo (m + 1)) [.ls (L.map dR), .int k, y2] = forL (gtN 2) f_first_row_with_l1 (rng ((lo : Int) + 1) m) [.ls (L.map dR), .int k, .int lo] := by
        rw [rng_succ]
        simp [forL, f_first_row_with_l1, e1, dR, e2]
      rw [step]
      rcases first_l1 h hn k hk m (lo + 1) (.int lo) (by omega) with ⟨r, r1, r2, r3, r4, r5⟩ | ⟨r1, z2, r2⟩
      · left
        refine ⟨r, by omega, by omega, r3, fun i h1 h2 => ?_, r5⟩
        by_cases q : i = lo
        · rw [q]; exact c
        · exact r4 i (by omega) h2
      · right
        refine ⟨fun i h1 h2 => ?_, z2, r2⟩
        by_cases q : i = lo
        · rw [q]; exact c
        · exact r1 i (by omega) (by omega)
    · left
      refine ⟨lo, Nat.le_refl _, by omega, c, fun i h1 h2 => absurd h2 (by omega), ?_⟩
      rw [rng_succ]
      simp [forL, f_first_row_with_l1, e1, dR, e2, c]
theorem first_ok {n : Nat} {L : List (List Int)} (h : Sq n L) (hn : n ≤ 1000) (k : Nat) (hk : k < n) :
    (∃ r, k ≤ r ∧ r < n ∧ ent L r k ≠ 0 ∧ (∀ i, k ≤ i → i < r → ent L i k = 0) ∧ g_first_row_with [.ls (L.map dR), .int k] = .ok (.int r)) ∨
    ((∀ i, k ≤ i → i < n → ent L i k = 0) ∧ g_first_row_with [.ls (L.map dR), .int k] = .ok .non) := by
  have r1 : rgOk (k : Int) := rgOk_of (by omega) (by omega)
  have r2 : rgOk (n : Int) := rgOk_of (by omega) (by omega)
  have hL := h.len
  have en : ((n : Int) - (k : Int)).toNat = n - k := by omega
  rcases first_l1 h hn k hk (n - k) k .un (by omega) with ⟨r, q1, q2, q3, q4, q5⟩ | ⟨q1, z2, q2⟩
  · exact .inl ⟨r, q1, by omega, q3, q4, by simp [g_first_row_with, runF, f_first_row_with, r1, r2, hL, en, q5]⟩
  · exact .inr ⟨fun i h1 h2 => q1 i h1 (by omega), by simp [g_first_row_with, runF, f_first_row_with, r1, r2, hL, en, q2]⟩
theorem opDiv_exact {a : Int} (h : divOk a) (q : Int) : opDiv (.int (a * q)) (.int a) = some (.int q) := by
  show (if divOk a then some (D.int (if 0 < a then a * q / a else (a * q).fdiv a)) else none) = _
  rw [if_pos h]
  split
  · rw [Int.mul_ediv_cancel_left q h.1]
  · rw [Int.mul_fdiv_cancel_left q h.1]
def Sm (x : Int) : Prop := x.natAbs.log2 < 9000
theorem Sm.mul {x y : Int} (hx : Sm x) (hy : Sm y) : mulOk x y := by
  have h : x.natAbs.log2 + y.natAbs.log2 < 100000000 := by
    unfold Sm at hx hy
    omega
  simp only [mulOk]
  exact Or.inr h
theorem opMul_Sm {x y : Int} (hx : Sm x) (hy : Sm y) : opMul (.int x) (.int y) = some (.int (x * y)) := by rw [opMul_eq, if_pos (hx.mul hy)]
theorem opMul_zeros {k : Nat} (hk : k ≤ 1000) : opMul (.ls [.int 0]) (.int ((k : Int) + 1)) = some (.ol ((List.replicate (k + 1) (0 : Int)).map D.int)) := by
  have e : ((k : Int) + 1).toNat = k + 1 := by omega
  have h1 : (k : Int) + 1 < 9223372036854775808 := by omega
  have h2 : -9223372036854775808 ≤ (k : Int) + 1 := by omega
  have h3 : k + 1 ≤ lim := by rw [lim_eq]; omega
  have h4 : ∀ m : Nat, (List.replicate m [D.int 0]).flatten = (List.replicate m (0 : Int)).map D.int := by
    intro m
    induction m with
    | zero => rfl
    | succ m ih => simp only [List.replicate_succ, List.flatten_cons, ih, List.map_cons]; rfl
  generalize hz : (k : Int) + 1 = z at *
  simp [opMul, h1, h2, h3, h4, e, -List.map_replicate]
def nr (n k : Nat) (q : List Int → Nat → Int) (R : List Int) : List Int := List.replicate (k + 1) (0 : Int) ++ (List.range (n - (k + 1))).map fun i => q R (k + 1 + i)
theorem clr_l1 (x0 x3 : D) {n k : Nat} (kk : Int) (hkk : kk = k) {P R : List Int} {ahead : Int} (hn : n ≤ 1000) (hk : k < n) (hP : P.length = n) (hR : R.length = n) (ha : divOk ahead) (sP : ∀ j, k ≤ j → j < n → Sm (P.getD j 0)) (sR : ∀ j, k ≤ j → j < n → Sm (R.getD j 0)) (q : Nat → Int)
    (hq : ∀ j, k < j → j < n → R.getD j 0 * P.getD k 0 - R.getD k 0 * P.getD j 0 = ahead * q j) : ∀ (m lo : Nat) (A : List Int) (y7 : D), k < lo → lo + m = n → A.length + m ≤ 5000 →
    ∃ z7, forL (gtN 7) f_cleared_l1 (rng lo m) [x0, .int kk, .int ahead, x3, .ls (P.map D.int), .ls (R.map D.int), .ol (A.map D.int), y7] = .nx [x0, .int kk, .int ahead, x3, .ls (P.map D.int), .ls (R.map D.int), .ol ((A ++ (List.range m).map fun i => q (lo + i)).map D.int), z7]
  | 0, lo, A, y7, _, _, _ => ⟨y7, by simp [rng_zero, forL]⟩
  | m + 1, lo, A, y7, h1, h2, h3 => by
    have a1 := at_num (l := R) (c := lo) (by omega)
    have a2 := at_num (l := P) (c := k) (by omega)
    have a3 := at_num (l := R) (c := k) (by omega)
    rw [← hkk] at a2 a3
    have a4 := at_num (l := P) (c := lo) (by omega)
    have m1 := opMul_Sm (sR lo (by omega) (by omega)) (sP k (Nat.le_refl k) hk)
    have m2 := opMul_Sm (sR k (Nat.le_refl k) hk) (sP lo (by omega) (by omega))
    have d1 := opDiv_exact ha (q lo)
    rw [← hq lo h1 (by omega)] at d1
    have bA : A.length < lim := by rw [lim_eq]; omega
    obtain ⟨z7, ih⟩ := clr_l1 x0 x3 kk hkk hn hk hP hR ha sP sR q hq m (lo + 1) (A ++ [q lo]) (.int lo) (by omega) (by omega) (by simp; omega)
    refine ⟨z7, ?_⟩
    have el : A ++ (List.range (m + 1)).map (fun i => q (lo + i)) = A ++ [q lo] ++ (List.range m).map fun i => q (lo + 1 + i) := by
      rw [List.range_succ_eq_map]
      simp [List.map_map, Function.comp_def, Nat.add_assoc, Nat.add_comm 1]
    rw [el, ← ih, rng_succ]
    simp [forL, f_cleared_l1, a1, a2, a3, a4, m1, m2, d1, bA, -List.getD_eq_getElem?_getD]
theorem clr_l2 (x0 : D) {n k : Nat} (kk : Int) (hkk : kk = k) {P : List Int} {ahead : Int} (hn : n ≤ 1000) (hk : k < n) (hP : P.length = n) (ha : divOk ahead) (sP : ∀ j, k ≤ j → j < n → Sm (P.getD j 0)) (q : List Int → Nat → Int) : ∀ (M T : List (List Int)) (y5 y6 y7 : D), T.length + M.length ≤ 5000 →
    (∀ R ∈ M, R.length = n ∧ (∀ j, k ≤ j → j < n → Sm (R.getD j 0)) ∧ ∀ j, k < j → j < n → R.getD j 0 * P.getD k 0 - R.getD k 0 * P.getD j 0 = ahead * q R j) →
    ∃ z5 z6 z7, forL (gtN 5) f_cleared_l2 (M.map dR) [x0, .int kk, .int ahead, .ol (T.map dR), .ls (P.map D.int), y5, y6, y7] = .nx [x0, .int kk, .int ahead, .ol ((T ++ M.map (nr n k q)).map dR), .ls (P.map D.int), z5, z6, z7] := by
  intro M
  induction M with
  | nil => exact fun T y5 y6 y7 _ _ => ⟨y5, y6, y7, by simp [forL]⟩
  | cons R M IH =>
    intro T y5 y6 y7 h1 h2
    obtain ⟨r1, r2, r3⟩ := h2 R (List.mem_cons_self ..)
    have hr1 : rgOk (kk + 1) := rgOk_of (by omega) (by omega)
    have hr2 : rgOk (n : Int) := rgOk_of (by omega) (by omega)
    have en : ((n : Int) - (kk + 1)).toNat = n - (k + 1) := by omega
    have oz := opMul_zeros (k := k) (by omega)
    rw [← hkk] at oz
    obtain ⟨w7, e⟩ := clr_l1 x0 (.ol (T.map dR)) kk hkk hn hk hP r1 ha sP r2 (q R) r3 (n - (k + 1)) (k + 1) (List.replicate (k + 1) 0) y7 (by omega) (by omega) (by simp; omega)
    obtain ⟨z5, z6, z7, ih⟩ := IH (T ++ [nr n k q R]) (dR R) (dR (nr n k q R)) w7 (by simp at h1 ⊢; omega) (fun x hx => h2 x (List.mem_cons_of_mem _ hx))
    refine ⟨z5, z6, z7, ?_⟩
    have el : T ++ (R :: M).map (nr n k q) = T ++ [nr n k q R] ++ M.map (nr n k q) := by simp
    rw [el, ← ih]
    have bT : T.length < lim := by rw [lim_eq]; simp at h1; omega
    rw [show List.replicate (k + 1) (0 : Int) ++ (List.range (n - (k + 1))).map (fun i => q R (k + 1 + i)) = nr n k q R from rfl] at e
    have ec : (((k + 1 : Nat) : Int)) = kk + 1 := by omega
    rw [ec] at e
    obtain ⟨b1, b2, b3, b4, b5, b6⟩ := bR T
    have l1 : 1 ≤ lim := by rw [lim_eq]; omega
    rw [List.map_cons, forL_cons]
    simp only [dR] at e ⊢
    simp [f_cleared_l2, dR, oz, r1, hr1, hr2, en, e, l1, frzAt, bT, -List.map_replicate]
theorem cleared_ok {n k : Nat} (kk : Int) (hkk : kk = k) (hn : n ≤ 1000) (hk : k < n) {L : List (List Int)} (h : Sq n L) {ahead : Int} (ha : divOk ahead) (sP : ∀ j, k ≤ j → j < n → Sm (ent L k j)) (q : List Int → Nat → Int)
    (hq : ∀ R ∈ L.drop (k + 1), (∀ j, k ≤ j → j < n → Sm (R.getD j 0)) ∧ ∀ j, k < j → j < n → R.getD j 0 * ent L k k - R.getD k 0 * ent L k j = ahead * q R j) :
    g_cleared [.ls (L.map dR), .int kk, .int ahead] = .ok (.ol (((L.drop (k + 1)).map (nr n k q)).map dR)) := by
  have ar := at_row (L := L) (r := k) (by rw [h.len]; exact hk)
  rw [← hkk] at ar
  have hl : L.length = n := h.len
  obtain ⟨z5, z6, z7, e⟩ := clr_l2 (.ls (L.map dR)) kk hkk hn hk (h.rowl hk) ha sP q (L.drop (k + 1)) [] .un .un .un (by simp; omega) fun R hR => ⟨h.row R (List.mem_of_mem_drop hR), (hq R hR).1, (hq R hR).2⟩
  have cf : cut L (some (kk + 1)) none = L.drop (k + 1) := by rw [cut_from L (kk + 1) (by omega), show (kk + 1).toNat = k + 1 by omega]
  have bl : (L.drop (k + 1)).length ≤ lim := by rw [List.length_drop, lim_eq]; omega
  have br := bR (L.drop (k + 1))
  simp only [dR, List.map_nil, List.nil_append] at ar e br ⊢
  simp [g_cleared, runF, f_cleared, ar, cf, bl, br, e, -List.map_drop, -List.map_map, -List.length_drop]
end Lw

namespace Lw
open DL L2 TL
theorem body_end (kk : Int) (k n : Nat) (hkk : kk = k) (hn : n ≤ 1000) (hk : k < n) (x0 y6 : D) {L : List (List Int)} (hL : L.length = n) (s ahead : Int) (y5 : D) {M : List (List Int)} (hM : M.length = n - (k + 1)) (hcl : g_cleared [.ls (L.map dR), .int kk, .int ahead] = .ok (.ol (M.map dR)))
    {L2 : List (List Int)} (hL2 : L2 = L.take (k + 1) ++ M) (hS : Sq n L2) {e : Int} (he : e = ent L2 k k) :
    sSeq (sFrz 1 (sAsg 1 (eBin opAdd (eSl (eVar 1) (ePart none) (ePart (some (eBin opAdd (eVar 4) (eC (.int 1)))))) (eOwn g_cleared (aCons (eVar 1) (aCons (eVar 4) (aCons (eVar 3) (aNil)))))))) (sAsgF 3 (eBin opIx (eBin opIx (eVar 1) (eVar 4)) (eVar 4))) [x0, .ol (L.map dR), .int s, .int ahead, .int kk, y5, y6] =
      .nx [x0, .ol (L2.map dR), .int s, .int e, .int kk, y5, y6] := by
  have ar := at_row (L := L2) (r := k) (by rw [hS.len]; exact hk)
  have ae := at_ent hS hk hk
  rw [← hkk] at ar ae
  rw [← he] at ae
  have ct : cut L none (some (kk + 1)) = L.take (k + 1) := by rw [cut_to L (kk + 1) (by omega), show (kk + 1).toNat = k + 1 by omega]
  have b1 : (L.take (k + 1)).length + M.length ≤ lim := by rw [List.length_take, hM, lim_eq]; omega
  have r1 := bR L
  have r2 := bR (L.take (k + 1))
  have r3 := bR M
  have r4 := bR L2
  have el : (L.take (k + 1)).map dR ++ M.map dR = L2.map dR := by rw [hL2, List.map_append]
  have b2 : (L.take (k + 1)).length ≤ lim := by rw [List.length_take, lim_eq]; omega
  simp only [dR] at ar ae el r1 r2 r3 r4 hcl ⊢
  simp [frzAt, r1, r2, r3, r4, ct, hcl, b1, b2, el, ar, ae, -List.map_take, -List.map_append, -List.length_take]
def swL (L : List (List Int)) (k f : Nat) : List (List Int) := (L.set k (rowN L f)).set f (rowN L k)
theorem swL_row {n : Nat} {L : List (List Int)} (h : L.length = n) {k f r : Nat} (hk : k < n) (hf : f < n) (hr : r < n) : rowN (swL L k f) r = rowN L (Dt.sw k f r) := by
  unfold swL Dt.sw
  have g : ∀ (M : List (List Int)) (i : Nat), rowN M i = (M[i]?).getD [] := fun M i => by unfold rowN; rw [List.getD_eq_getElem?_getD]
  rw [g (List.set _ _ _)]
  by_cases q1 : r = f
  · subst q1
    rw [List.getElem?_set_self (by rw [List.length_set]; omega)]
    by_cases q2 : r = k
    · subst q2; simp
    · rw [if_neg q2, if_pos rfl]; rfl
  · rw [List.getElem?_set_ne (fun z => q1 z.symm)]
    by_cases q2 : r = k
    · subst q2
      rw [List.getElem?_set_self (by omega), if_pos rfl]; rfl
    · rw [List.getElem?_set_ne (fun z => q2 z.symm), if_neg q2, if_neg q1, ← g]
theorem swL_sq {n : Nat} {L : List (List Int)} (h : Sq n L) {k f : Nat} (hk : k < n) (hf : f < n) : Sq n (swL L k f) where
  len := by unfold swL; rw [List.length_set, List.length_set, h.len]
  row := fun l hl => by
    unfold swL at hl
    rcases List.mem_or_eq_of_mem_set hl with hl | rfl
    · rcases List.mem_or_eq_of_mem_set hl with hl | rfl
      · exact h.row l hl
      · exact h.rowl hf
    · exact h.rowl hk
def nwL (n : Nat) (L : List (List Int)) (k : Nat) (q : List Int → Nat → Int) : List (List Int) := L.take (k + 1) ++ (L.drop (k + 1)).map (nr n k q)
theorem nr_len {n k : Nat} (hk : k < n) (q : List Int → Nat → Int) (R : List Int) : (nr n k q R).length = n := by unfold nr; simp; omega
theorem nwL_sq {n : Nat} {L : List (List Int)} (h : Sq n L) {k : Nat} (hk : k < n) (q : List Int → Nat → Int) : Sq n (nwL n L k q) where
  len := by unfold nwL; rw [List.length_append, List.length_map, List.length_take, List.length_drop, h.len]; omega
  row := fun l hl => by
    unfold nwL at hl
    rcases List.mem_append.mp hl with hl | hl
    · exact h.row l (List.mem_of_mem_take hl)
    · obtain ⟨R, _, rfl⟩ := List.mem_map.mp hl
      exact nr_len hk q R
theorem nwL_lo {n : Nat} {L : List (List Int)} (h : Sq n L) {k r : Nat} (hr : r ≤ k) (hk : k < n) (q : List Int → Nat → Int) : rowN (nwL n L k q) r = rowN L r := by
  unfold nwL rowN
  rw [List.getD_eq_getElem?_getD, List.getElem?_append_left (by rw [List.length_take, h.len]; omega), List.getElem?_take_of_lt (by omega), List.getD_eq_getElem?_getD]
theorem nwL_hi {n : Nat} {L : List (List Int)} (h : Sq n L) {k r : Nat} (hr : k < r) (hn : r < n) (q : List Int → Nat → Int) : rowN (nwL n L k q) r = nr n k q (rowN L r) := by
  unfold nwL rowN
  have ht : (L.take (k + 1)).length = k + 1 := by rw [List.length_take, h.len]; omega
  rw [List.getD_eq_getElem?_getD, List.getElem?_append_right (by omega), ht, List.getElem?_map, List.getElem?_drop, show k + 1 + (r - (k + 1)) = r by omega, List.getD_eq_getElem?_getD, List.getElem?_eq_getElem (by rw [h.len]; exact hn)]
  rfl
theorem nr_get {n k : Nat} (q : List Int → Nat → Int) (R : List Int) {c : Nat} (hc : k < c) (hn : c < n) : (nr n k q R).getD c 0 = q R c := by
  unfold nr
  rw [List.getD_eq_getElem?_getD, List.getElem?_append_right (by rw [List.length_replicate]; omega), List.length_replicate, List.getElem?_map, List.getElem?_range (by omega)]
  show q R (k + 1 + (c - (k + 1))) = _
  rw [show k + 1 + (c - (k + 1)) = c by omega]
theorem fac_mono (B : Nat) (hB : 1 ≤ B) {k n : Nat} (h : k ≤ n) : Dt.fac k * B ^ k ≤ Dt.fac n * B ^ n := by
  induction n with
  | zero => rw [Nat.le_zero.mp h]; exact Nat.le_refl _
  | succ n ih =>
    by_cases e : k = n + 1
    · rw [e]; exact Nat.le_refl _
    · refine Nat.le_trans (ih (by omega)) ?_
      rw [Dt.fac, Nat.pow_succ]
      exact Nat.mul_le_mul (Nat.le_mul_of_pos_left _ (by omega)) (Nat.le_mul_of_pos_right _ hB)
theorem Sm_of {x : Int} {b : Nat} (h : x.natAbs ≤ b) (hb : b < 2 ^ 9000) : Sm x := by
  unfold Sm
  by_cases e : x.natAbs = 0
  · rw [e]; decide
  · exact (Nat.log2_lt e).mpr (Nat.lt_of_le_of_lt h hb)
theorem turn_ok {n k : Nat} (kk : Int) (hkk : kk = k) (hn : n ≤ 1000) (hk : k < n) {A A' E : Dt.Mx} {s ahead : Int} {L : List (List Int)} (B : Nat) (hB1 : 1 ≤ B) (hB : Dt.fac n * B ^ n < 2 ^ 9000) (hL : Sq n L) (b : Dt.Bar n k A A' E s ahead)
    (hA : ∀ r c, r < n → c < n → (A' r c).natAbs ≤ B) (hE : ∀ r c, k ≤ r → r < n → k ≤ c → c < n → ent L r c = E r c) (hp : E k k ≠ 0) :
    ∃ (q : List Int → Nat → Int) (L2 : List (List Int)), L2 = nwL n L k q ∧ g_cleared [.ls (L.map dR), .int kk, .int ahead] = .ok (.ol (((L.drop (k + 1)).map (nr n k q)).map dR)) ∧ ent L2 k k = E k k ∧
      Dt.Bar n (k + 1) A A' (Dt.nx E k ahead) s (E k k) ∧ ∀ r c, k + 1 ≤ r → r < n → k + 1 ≤ c → c < n → ent L2 r c = Dt.nx E k ahead r c := by
  let q : List Int → Nat → Int := fun R j => (R.getD j 0 * ent L k k - R.getD k 0 * ent L k j) / ahead
  have small : ∀ r c, k ≤ r → r < n → k ≤ c → c < n → Sm (ent L r c) := fun r c h1 h2 h3 h4 => by
    rw [hE r c h1 h2 h3 h4]
    exact Sm_of (Nat.le_trans (Dt.bar_abs b B hA hk h2 h4) (fac_mono B hB1 (by omega))) hB
  have hah : divOk ahead := by
    refine ⟨b.hn, .inr ?_⟩
    have : Sm ahead := by
      rw [b.ha]
      exact Sm_of (Nat.le_trans (Dt.det_abs B fun r j h1 _ h3 => hA r j (by omega) (by omega)) (fac_mono B hB1 (by omega))) hB
    exact this
  have hrow : ∀ R ∈ L.drop (k + 1), ∃ r, k + 1 ≤ r ∧ r < n ∧ R = rowN L r := fun R hR => by
    obtain ⟨i, hi, e⟩ := List.mem_iff_getElem.mp hR
    rw [List.length_drop, hL.len] at hi
    refine ⟨k + 1 + i, by omega, by omega, ?_⟩
    rw [← e, List.getElem_drop]
    unfold rowN
    rw [List.getD_eq_getElem?_getD, List.getElem?_eq_getElem (by rw [hL.len]; omega)]; rfl
  have qv : ∀ r c, k + 1 ≤ r → r < n → k ≤ c → c < n → q (rowN L r) c = Dt.nx E k ahead r c := fun r c h1 h2 h3 h4 => by
    show (ent L r c * ent L k k - ent L r k * ent L k c) / ahead = (E r c * E k k - E r k * E k c) / ahead
    rw [hE r c (by omega) h2 h3 h4, hE k k (Nat.le_refl k) hk (Nat.le_refl k) hk, hE r k (by omega) h2 (Nat.le_refl k) hk, hE k c (Nat.le_refl k) hk h3 h4]
  refine ⟨q, nwL n L k q, rfl, cleared_ok kk hkk hn hk hL hah (fun j h1 h2 => small k j (Nat.le_refl k) hk h1 h2) q (fun R hR => ?_), ?_, Dt.bar_next b hp, fun r c h1 h2 h3 h4 => ?_⟩
  · obtain ⟨r, h1, h2, rfl⟩ := hrow R hR
    refine ⟨fun j h3 h4 => small r j (by omega) h2 h3 h4, fun j h3 h4 => ?_⟩
    rw [qv r j h1 h2 (by omega) h4]
    have := (Dt.bar_exact b hp r j).1
    show ent L r j * ent L k k - ent L r k * ent L k j = _
    rw [hE r j (by omega) h2 (by omega) h4, hE k k (Nat.le_refl k) hk (Nat.le_refl k) hk, hE r k (by omega) h2 (Nat.le_refl k) hk, hE k j (Nat.le_refl k) hk (by omega) h4]
    exact this
  · unfold ent
    rw [nwL_lo hL (Nat.le_refl k) hk q]
    exact hE k k (Nat.le_refl k) hk (Nat.le_refl k) hk
  · unfold ent
    rw [nwL_hi hL (by omega) h2 q, nr_get q _ (by omega) h4]
    exact qv r c h1 h2 (by omega) h4
theorem body_same (kk : Int) (k n : Nat) (hkk : kk = k) (hn : n ≤ 1000) (hk : k < n) (x0 y6 : D) {L : List (List Int)} (hL : L.length = n) (s ahead : Int) (y5 : D) {M : List (List Int)} (hM : M.length = n - (k + 1)) (hcl : g_cleared [.ls (L.map dR), .int kk, .int ahead] = .ok (.ol (M.map dR)))
    {L2 : List (List Int)} (hL2 : L2 = L.take (k + 1) ++ M) (hS : Sq n L2) {e : Int} (he : e = ent L2 k k) (hf : g_first_row_with [.ls (L.map dR), .int kk] = .ok (.int kk)) :
    f_determinant_l1 [x0, .ol (L.map dR), .int s, .int ahead, .int kk, y5, y6] = .nx [x0, .ol (L2.map dR), .int s, .int e, .int kk, .int kk, y6] := by
  have be := body_end kk k n hkk hn hk x0 y6 hL s ahead (.int kk) hM hcl hL2 hS he
  rw [← be]
  have r1 := bR L
  have cd : calD g_first_row_with [.bo (L.map dR), .int kk] = .ok (.int kk) := by
    simp [calD, r1, hf]
  show sSeq _ (sSeq _ (sSeq _ _)) _ = _
  have ev : (sAsgF 5 (eOwn g_first_row_with (aCons (eVar 1) (aCons (eVar 4) (aNil))))) [x0, .ol (L.map dR), .int s, .int ahead, .int kk, y5, y6] = .nx [x0, .ol (L.map dR), .int s, .int ahead, .int kk, .int kk, y6] := by
    simp [r1, cd]
  unfold sSeq
  rw [ev]
  simp
theorem body_swap (kk ff : Int) (k f n : Nat) (hkk : kk = k) (hff : ff = f) (hn : n ≤ 1000) (hk : k < n) (hfk : k < f) (hfn : f < n) (x0 y6 : D) {L : List (List Int)} (hS0 : Sq n L) (s ahead : Int) (y5 : D) {M : List (List Int)} (hM : M.length = n - (k + 1)) (hcl : g_cleared [.ls ((swL L k f).map dR), .int kk, .int ahead] = .ok (.ol (M.map dR)))
    {L2 : List (List Int)} (hL2 : L2 = (swL L k f).take (k + 1) ++ M) (hS : Sq n L2) {e : Int} (he : e = ent L2 k k) (hf : g_first_row_with [.ls (L.map dR), .int kk] = .ok (.int ff)) :
    f_determinant_l1 [x0, .ol (L.map dR), .int s, .int ahead, .int kk, y5, y6] = .nx [x0, .ol (L2.map dR), .int (-s), .int e, .int kk, .int ff, y6] := by
  have be := body_end kk k n hkk hn hk x0 y6 (swL_sq hS0 hk hfn).len (-s) ahead (.int ff) hM hcl hL2 hS he
  rw [← be]
  have r1 := bR L
  have cd : calD g_first_row_with [.bo (L.map dR), .int kk] = .ok (.int ff) := by
    simp [calD, r1, hf]
  have ak := at_row (L := L) (r := k) (by rw [hS0.len]; exact hk)
  have af := at_row (L := L) (r := f) (by rw [hS0.len]; exact hfn)
  rw [← hkk] at ak
  rw [← hff] at af
  have ik : ixN L.length kk = some k := by rw [ixN_nat (by omega) (by rw [hS0.len]; omega), show kk.toNat = k by omega]
  have jf : ixN L.length ff = some f := by rw [ixN_nat (by omega) (by rw [hS0.len]; omega), show ff.toNat = f by omega]
  have ne : ¬ ff = kk := by omega
  have l2 : 2 ≤ lim := by rw [lim_eq]; omega
  have ev : (sAsgF 5 (eOwn g_first_row_with (aCons (eVar 1) (aCons (eVar 4) (aNil))))) [x0, .ol (L.map dR), .int s, .int ahead, .int kk, y5, y6] = .nx [x0, .ol (L.map dR), .int s, .int ahead, .int kk, .int ff, y6] := by
    simp [r1, cd]
  have ev2 : (sSwp 1 (eVar 4) (eVar 5) (eTup (aConsO (eBin opIx (eVar 1) (eVar 5)) (aConsO (eBin opIx (eVar 1) (eVar 4)) (aNil))))) [x0, .ol (L.map dR), .int s, .int ahead, .int kk, .int ff, y6] = .nx [x0, .ol ((swL L k f).map dR), .int s, .int ahead, .int kk, .int ff, y6] := by
    have e : ((L.map dR).set k (dR (rowN L f))).set f (dR (rowN L k)) = (swL L k f).map dR := by unfold swL; rw [List.map_set, List.map_set]
    simp only [dR] at e ak af r1 ⊢
    simp [r1, ak, af, ik, jf, l2, e]
  show sSeq _ (sSeq _ (sSeq _ _)) _ = _
  unfold sSeq
  rw [ev]
  simp [ne, ev2, -sSwp_]
theorem det_loop (x0 : D) {n : Nat} (hn : n ≤ 1000) {A : Dt.Mx} (B : Nat) (hB1 : 1 ≤ B) (hB : Dt.fac n * B ^ n < 2 ^ 9000) : ∀ (m k : Nat) (L : List (List Int)) (A' E : Dt.Mx) (s ahead : Int) (y4 y5 : D), k + m = n → Sq n L → Dt.Bar n k A A' E s ahead →
    (∀ r c, r < n → c < n → (A' r c).natAbs ≤ B) → (∀ r c, k ≤ r → r < n → k ≤ c → c < n → ent L r c = E r c) →
    (∃ (L' : List (List Int)) (s' a' : Int) (z4 z5 : D), forL (gtN 4) f_determinant_l1 (rng k m) [x0, .ol (L.map dR), .int s, .int ahead, y4, y5, .un] = .nx [x0, .ol (L'.map dR), .int s', .int a', z4, z5, .un] ∧ Dt.det n 0 A = s' * a' ∧ (s' = 1 ∨ s' = -1)) ∨
    (forL (gtN 4) f_determinant_l1 (rng k m) [x0, .ol (L.map dR), .int s, .int ahead, y4, y5, .un] = .rt (.int 0) ∧ Dt.det n 0 A = 0) := by
  intro m
  induction m with
  | zero =>
    intro k L A' E s ahead y4 y5 hk hS b hA hE
    have hk : k = n := by omega
    subst hk
    exact .inl ⟨L, s, ahead, y4, y5, by simp [rng_zero, forL], Dt.bar_end b, b.ss⟩
  | succ m IH =>
    intro k L A' E s ahead y4 y5 hkm hS b hA hE
    have hk : k < n := by omega
    have r1 := bR L
    rw [rng_succ]
    generalize hkk : (k : Int) = kk
    have hkk' : kk = k := hkk.symm
    have hk1 : kk + 1 = ((k + 1 : Nat) : Int) := by omega
    rcases first_ok hS hn k hk with ⟨f, f1, f2, f3, f4, f5⟩ | ⟨f1, f2⟩
    · rw [hkk] at f5
      by_cases e : f = k
      · subst e
        rw [hkk] at f5
        have hp : E f f ≠ 0 := by rw [← hE f f (Nat.le_refl f) hk (Nat.le_refl f) hk]; exact f3
        obtain ⟨q, L2, e1, e2, e3, e4, e5⟩ := turn_ok kk hkk' hn hk B hB1 hB hS b hA hE hp
        have bs := body_same kk f n hkk' hn hk x0 .un hS.len s ahead y5 (by rw [List.length_map, List.length_drop, hS.len]) e2 e1 (by rw [e1]; exact nwL_sq hS hk q) e3.symm f5
        rw [hk1]
        have st : forL (gtN 4) f_determinant_l1 (.int kk :: rng ((f + 1 : Nat) : Int) m) [x0, .ol (L.map dR), .int s, .int ahead, y4, y5, .un] = forL (gtN 4) f_determinant_l1 (rng ((f + 1 : Nat) : Int) m) [x0, .ol (L2.map dR), .int s, .int (E f f), .int kk, .int kk, .un] := by
          rw [forL_cons]
          simp only [gtN_, List.set_cons_succ, List.set_cons_zero, bs]
        rw [st]
        exact IH (f + 1) L2 A' _ s _ _ _ (by omega) (by rw [e1]; exact nwL_sq hS hk q) e4 hA e5
      · have hfk : k < f := by omega
        have b' := Dt.bar_swap b hfk f2
        have hS' := swL_sq hS hk f2
        have hE' : ∀ r c, k ≤ r → r < n → k ≤ c → c < n → ent (swL L k f) r c = E (Dt.sw k f r) c := fun r c h1 h2 h3 h4 => by
          have hb : k ≤ Dt.sw k f r ∧ Dt.sw k f r < n := by refine ⟨?_, ?_⟩ <;> (unfold Dt.sw; split; omega; split <;> omega)
          rw [← hE (Dt.sw k f r) c hb.1 hb.2 h3 h4]
          unfold ent
          rw [swL_row hS.len hk f2 h2]
        have hp : E (Dt.sw k f k) k ≠ 0 := by
          have : Dt.sw k f k = f := by unfold Dt.sw; rw [if_pos rfl]
          rw [this, ← hE f k f1 f2 (Nat.le_refl k) hk]; exact f3
        have hA' := Dt.bar_rows b B hA hk f2
        obtain ⟨q, L2, e1, e2, e3, e4, e5⟩ := turn_ok kk hkk' hn hk B hB1 hB hS' b' hA' hE' hp
        have bs := body_swap kk f k f n hkk' rfl hn hk hfk f2 x0 .un hS s ahead y5 (by rw [List.length_map, List.length_drop, hS'.len]) e2 e1 (by rw [e1]; exact nwL_sq hS' hk q) e3.symm f5
        rw [hk1]
        have st : forL (gtN 4) f_determinant_l1 (.int kk :: rng ((k + 1 : Nat) : Int) m) [x0, .ol (L.map dR), .int s, .int ahead, y4, y5, .un] = forL (gtN 4) f_determinant_l1 (rng ((k + 1 : Nat) : Int) m) [x0, .ol (L2.map dR), .int (-s), .int (E (Dt.sw k f k) k), .int kk, .int f, .un] := by
          rw [forL_cons]
          simp only [gtN_, List.set_cons_succ, List.set_cons_zero, bs]
        rw [st]
        exact IH (k + 1) L2 _ _ (-s) _ _ _ (by omega) (by rw [e1]; exact nwL_sq hS' hk q) e4 hA' e5
    · right
      rw [hkk] at f2
      have cd : calD g_first_row_with [.bo (L.map dR), .int kk] = .ok .non := by
        simp [calD, r1, f2]
      refine ⟨?_, Dt.bar_none b hk fun r h1 h2 => by rw [← hE r k h1 h2 (Nat.le_refl k) hk]; exact f1 r h1 h2⟩
      rw [forL_cons]
      simp [f_determinant_l1, r1, cd]
theorem determinant_ok {n : Nat} (hn : n ≤ 1000) {L : List (List Int)} (hL : Sq n L) (B : Nat) (hB1 : 1 ≤ B) (hB : Dt.fac n * B ^ n < 2 ^ 9000) (hA : ∀ r c, r < n → c < n → (ent L r c).natAbs ≤ B) :
    g_determinant [.ls (L.map dR)] = .ok (.int (Dt.det n 0 (ent L))) := by
  have lt := look_tab_ok hL
  have r1 := bR L
  have hr : rgOk (n : Int) := rgOk_of (by omega) (by omega)
  have hl := hL.len
  have bl : L.length ≤ lim := by rw [hl, lim_eq]; omega
  have bn : n ≤ lim := by rw [lim_eq]; omega
  have lc : ∀ x1 x2 x3 x4 x5 : D, lcL (gtN 6) tYesG f_determinant_c1 [.ls (L.map dR), x1, x2, x3, x4, x5, .un] (L.map dR) = .ok (L.map fun l => .ol (l.map D.int)) := fun x1 x2 x3 x4 x5 => by
    refine lcL_mapN _ fun l hl' => ?_
    have : l.length ≤ lim := by rw [hL.row l hl', lim_eq]; omega
    simp [f_determinant_c1, dR, this]
  have f1 : frzs (L.map fun l => D.ol (l.map D.int)) = L.map dR := by
    clear lc bl hl lt r1 hA hL
    induction L with
    | nil => rfl
    | cons a L ih => simp only [List.map_cons, frzs_cons, frz_ol, frzs_I, ih]; rfl
  have f2 : nods (L.map fun l => D.ol (l.map D.int)) = true := by
    clear lc bl hl lt r1 hA hL f1
    induction L with
    | nil => rfl
    | cons a L ih => simp only [List.map_cons, nods, nod, nods_I, ih]; rfl
  rcases det_loop (.ls (L.map dR)) hn B hB1 hB n 0 L (ent L) (ent L) 1 1 .un .un (by omega) hL (Dt.bar_start n (ent L)) hA (fun _ _ _ _ _ _ => rfl) with ⟨L', s', a', z4, z5, e, h1, h2⟩ | ⟨e, h1⟩
  · rw [h1]
    have om : opMul (.int s') (.int a') = some (.int (s' * a')) := by
      rw [opMul_eq, if_pos]
      simp only [mulOk]
      left; left
      rcases h2 with h2 | h2 <;> rw [h2] <;> decide
    simp only [Int.natCast_zero, Int.cast_ofNat_Int] at e
    simp [g_determinant, runF, f_determinant, lt, lc, f1, f2, bn, r1, hl, hr, e, om]
  · rw [h1]
    simp only [Int.natCast_zero, Int.cast_ofNat_Int] at e
    simp [g_determinant, runF, f_determinant, lt, lc, f1, f2, bn, r1, hl, hr, e]
end Lw

namespace Dt
abbrev Ed := Nat × Nat
def iv (b : Prop) [Decidable b] : Int := if b then 1 else 0
theorem iv_t {b : Prop} [Decidable b] (h : b) : iv b = 1 := if_pos h
theorem iv_f {b : Prop} [Decidable b] (h : ¬ b) : iv b = 0 := if_neg h
def xv (e : Ed) (j : Nat) : Int := iv (j = e.1) - iv (j = e.2)
def Xm (m : Nat → Nat) (e : Ed) (i : Nat) : Int := iv (m e.1 = i) - iv (m e.2 = i)
def Rw (m : Nat → Nat) : List Ed → Mx
  | [], _, _ => 0
  | e :: es, i, j => Xm m e i * xv e j + Rw m es i j
def Mat (m : Nat → Nat) (es : List Ed) : Mx := fun i j => if m i = i then Rw m es i j else iv (j = i) - iv (j = m i)
def D (n : Nat) (m : Nat → Nat) (es : List Ed) : Int := det n 0 (Mat m es)
structure Lab (n : Nat) (m : Nat → Nat) : Prop where
  le : ∀ i, i ≤ n → m i ≤ n
  id : ∀ i, i ≤ n → m (m i) = m i
  top : m n = n
def mrg (a b : Nat) (m : Nat → Nat) (v : Nat) : Nat := if m v = a then b else m v
theorem Lab.mrg {n : Nat} {m : Nat → Nat} (h : Lab n m) {a b : Nat} (ha : a ≠ n) (hb : b ≤ n) (hm : m b = b) (hn : a ≠ b) : Lab n (mrg a b m) where
  le := fun i hi => by
    unfold Dt.mrg; split
    · exact hb
    · exact h.le i hi
  id := fun i hi => by
    unfold Dt.mrg
    by_cases q : m i = a
    · rw [if_pos q, hm, if_neg (fun z => hn z.symm)]
    · rw [if_neg q, h.id i hi, if_neg q]
  top := by
    unfold Dt.mrg
    rw [h.top, if_neg (fun z => ha z.symm)]
theorem D_loop {n : Nat} {m : Nat → Nat} {e : Ed} (es : List Ed) (h : m e.1 = m e.2) : D n m (e :: es) = D n m es := by
  unfold D
  refine det_congr fun r j _ _ _ => ?_
  unfold Mat
  have : Xm m e r = 0 := by unfold Xm; rw [h]; omega
  simp only [Rw, this, Int.zero_mul, Int.zero_add]
theorem Rw_swap (m : Nat → Nat) (x y : Nat) (es : List Ed) : Rw m ((x, y) :: es) = Rw m ((y, x) :: es) := by
  funext i j
  have h1 : Xm m (x, y) i = - Xm m (y, x) i := by unfold Xm; dsimp only; omega
  have h2 : xv (x, y) j = - xv (y, x) j := by unfold xv; dsimp only; omega
  simp only [Rw, h1, h2, Int.neg_mul_neg]
theorem D_swap (n : Nat) (m : Nat → Nat) (x y : Nat) (es : List Ed) : D n m ((x, y) :: es) = D n m ((y, x) :: es) := by
  unfold D Mat; rw [Rw_swap]
theorem Rw_mrg_b (m : Nat → Nat) {a b : Nat} (hn : a ≠ b) : ∀ (es : List Ed) (j : Nat), Rw (mrg a b m) es b j = Rw m es b j + Rw m es a j
  | [], j => rfl
  | e :: es, j => by
    have q : ∀ v, iv (mrg a b m v = b) = iv (m v = b) + iv (m v = a) := fun v => by
      unfold mrg
      by_cases h : m v = a
      · rw [if_pos h, iv_t rfl, iv_t h, iv_f (by rw [h]; exact hn)]; rfl
      · rw [if_neg h, iv_f h]; omega
    have h1 : Xm (mrg a b m) e b = Xm m e b + Xm m e a := by unfold Xm; rw [q, q]; omega
    simp only [Rw, Rw_mrg_b m hn es j, h1, Int.add_mul]
    omega
theorem Rw_mrg_o (m : Nat → Nat) {a b i : Nat} (h1 : i ≠ a) (h2 : i ≠ b) : ∀ (es : List Ed) (j : Nat), Rw (mrg a b m) es i j = Rw m es i j
  | [], j => rfl
  | e :: es, j => by
    have q : ∀ v, iv (mrg a b m v = i) = iv (m v = i) := fun v => by
      unfold mrg
      by_cases h : m v = a
      · rw [if_pos h, iv_f (fun z => h2 z.symm), iv_f (by rw [h]; exact fun z => h1 z.symm)]
      · rw [if_neg h]
    have h3 : Xm (mrg a b m) e i = Xm m e i := by unfold Xm; rw [q, q]
    simp only [Rw, Rw_mrg_o m h1 h2 es j, h3]
theorem det_op' {n c r s : Nat} (A : Mx) (hs : s < n) (t : Int) (h : t = 0 ∨ (r < n ∧ r ≠ s)) : det n c (upd A s fun j => A s j + t * A r j) = det n c A := by
  rcases h with h | ⟨h1, h2⟩
  · subst h
    have : upd A s (fun j => A s j + 0 * A r j) = A := by
      funext i j; unfold upd
      by_cases q : i = s
      · subst q; rw [if_pos rfl]; omega
      · rw [if_neg q]
    rw [this]
  · exact det_op A h1 hs h2 t
theorem D_step {n : Nat} {m : Nat → Nat} (L : Lab n m) {x y : Nat} (hx : x ≤ n) (hy : y ≤ n) (es : List Ed) (hn : m x ≠ m y) (ha : m x ≠ n) : D n m ((x, y) :: es) = D n m es + D n (mrg (m x) (m y) m) es := by
  have maa := L.id x hx
  have mbb := L.id y hy
  have hxn : x ≠ n := fun z => ha (by rw [z]; exact L.top)
  have la : m x < n := by have := L.le x hx; omega
  have lb := L.le y hy
  have hyb : y ≠ m y → y < n := fun h => by
    rcases Nat.lt_or_ge y n with q | q
    · exact q
    · have : y = n := by omega
      exact absurd (by rw [this]; exact L.top.symm) h
  generalize hma : m x = a at *
  generalize hmb : m y = b at *
  have hba : ¬ b = a := fun z => hn z.symm
  unfold D
  -- the row of b with that of a added
  let C : (Nat → Int) → Mx := fun v i j => if i = a then v j else if i = b then Mat m es b j + Mat m es a j else Mat m es i j
  have hC : ∀ v, C v = upd (C fun _ => 0) a v := fun v => by
    funext i j; show (if i = a then _ else _) = upd _ _ _ _ _
    unfold upd
    by_cases q : i = a
    · rw [if_pos q, if_pos q]
    · rw [if_neg q, if_neg q]; show _ = if i = a then _ else _; rw [if_neg q]
  have s1 : det n 0 (Mat m ((x, y) :: es)) = det n 0 (C fun j => xv (x, y) j + Mat m es a j) := by
    rw [← det_ops (Mat m ((x, y) :: es)) la (fun i => iv (i = b)) (iv_f hn)]
    refine det_congr fun i j _ _ _ => ?_
    have ra : Mat m ((x, y) :: es) a j = xv (x, y) j + Mat m es a j := by
      unfold Mat
      rw [if_pos maa, if_pos maa]
      simp only [Rw, Xm, hma, hmb]
      rw [iv_t trivial, iv_f hba]; omega
    by_cases q : i = a
    · subst q
      rw [iv_f hn, ra]
      show _ = if i = i then xv (x, y) j + Mat m es i j else _
      rw [if_pos rfl]; omega
    · show _ = if i = a then _ else _
      rw [if_neg q]
      by_cases q2 : i = b
      · subst q2
        rw [if_pos rfl, iv_t rfl, ra]
        unfold Mat
        rw [if_pos mbb, if_pos mbb]
        simp only [Rw, Xm, hma, hmb]
        rw [iv_t trivial, iv_f hn, if_pos maa]; omega
      · rw [if_neg q2, iv_f q2]
        unfold Mat
        by_cases q3 : m i = i
        · rw [if_pos q3, if_pos q3]
          simp only [Rw, Xm, hma, hmb]
          rw [iv_f (fun z => q z.symm), iv_f (fun z => q2 z.symm)]; omega
        · rw [if_neg q3, if_neg q3]; omega
  have s2 : det n 0 (C fun j => xv (x, y) j + Mat m es a j) = det n 0 (C (xv (x, y))) + det n 0 (C (Mat m es a)) := by
    rw [hC, det_add _ _ _ la, ← hC, ← hC]
  have s3 : det n 0 (C (Mat m es a)) = det n 0 (Mat m es) := by
    rw [← det_ops (Mat m es) la (fun i => iv (i = b)) (iv_f hn)]
    refine det_congr fun i j _ _ _ => ?_
    show (if i = a then _ else _) = _
    by_cases q : i = a
    · subst q; rw [if_pos rfl, iv_f hn]; omega
    · rw [if_neg q]
      by_cases q2 : i = b
      · subst q2; rw [if_pos rfl, iv_t rfl]; omega
      · rw [if_neg q2, iv_f q2]; omega
  let Y : Nat → Int := fun j => iv (j = a) - iv (j = b)
  have s4 : det n 0 (C (xv (x, y))) = det n 0 (C Y) := by
    have cr : ∀ (v : Nat → Int) (i j : Nat), i ≠ a → m i ≠ i → C v i j = iv (j = i) - iv (j = m i) := fun v i j h1 h2 => by
      show (if i = a then _ else if i = b then _ else Mat m es i j) = _
      rw [if_neg h1, if_neg (fun z => h2 (by rw [z]; exact mbb))]
      unfold Mat; rw [if_neg h2]
    have o1 := det_op' (n := n) (c := 0) (r := x) (s := a) (C Y) la (if x = a then 0 else 1) (by
      by_cases q : x = a
      · left; rw [if_pos q]
      · right; exact ⟨by omega, q⟩)
    have e1 : upd (C Y) a (fun j => C Y a j + (if x = a then 0 else 1) * C Y x j) = C (fun j => iv (j = x) - iv (j = b)) := by
      rw [hC (fun j => iv (j = x) - iv (j = b)), hC Y, upd_upd]
      congr 1
      funext j
      rw [← hC Y]
      show (if a = a then Y j else _) + _ = _
      rw [if_pos rfl]
      by_cases q : x = a
      · rw [if_pos q, q]; show iv (j = a) - iv (j = b) + 0 * _ = _; omega
      · rw [if_neg q, cr Y x j q (by rw [hma]; exact fun z => q z.symm), hma]
        show iv (j = a) - iv (j = b) + 1 * _ = _
        omega
    rw [e1] at o1
    rw [← o1]
    have o2 := det_op' (n := n) (c := 0) (r := y) (s := a) (C (fun j => iv (j = x) - iv (j = b))) la (if y = b then 0 else -1) (by
      by_cases q : y = b
      · left; rw [if_pos q]
      · right; exact ⟨hyb q, fun z => hba (by rw [← hmb, z]; exact maa)⟩)
    rw [← o2]
    have e2 : upd (C (fun j => iv (j = x) - iv (j = b))) a (fun j => C (fun j => iv (j = x) - iv (j = b)) a j + (if y = b then 0 else -1) * C (fun j => iv (j = x) - iv (j = b)) y j) = C (xv (x, y)) := by
      rw [hC (xv (x, y)), hC (fun j => iv (j = x) - iv (j = b)), upd_upd]
      congr 1
      funext j
      rw [← hC (fun j => iv (j = x) - iv (j = b))]
      show (if a = a then iv (j = x) - iv (j = b) else _) + _ = iv (j = x) - iv (j = y)
      rw [if_pos rfl]
      by_cases q : y = b
      · rw [if_pos q, q]; omega
      · rw [if_neg q, cr (fun j => iv (j = x) - iv (j = b)) y j (fun z => hba (by rw [← hmb, z]; exact maa)) (by rw [hmb]; exact fun z => q z.symm), hmb]
        omega
    rw [e2]
  have s5 : det n 0 (C Y) = det n 0 (Mat (mrg a b m) es) := by
    rw [← det_ops (C Y) la (fun i => iv (m i = a ∧ i ≠ a)) (iv_f (fun z => z.2 rfl))]
    refine det_congr fun i j _ _ _ => ?_
    have ra : C Y a j = iv (j = a) - iv (j = b) := by show (if a = a then _ else _) = _; rw [if_pos rfl]
    rw [ra]
    show (if i = a then Y j else if i = b then Mat m es b j + Mat m es a j else Mat m es i j) + _ = _
    by_cases q : i = a
    · subst q
      rw [if_pos rfl, iv_f (fun z => z.2 rfl)]
      unfold Mat mrg
      rw [if_pos maa, if_neg hba]
      show iv (j = i) - iv (j = b) + 0 * _ = _
      omega
    · rw [if_neg q]
      by_cases q2 : i = b
      · subst q2
        rw [if_pos rfl, iv_f (by rw [mbb]; exact fun z => hba z.1)]
        have : mrg a i m i = i := by unfold mrg; rw [mbb, if_neg hba]
        unfold Mat
        rw [if_pos this, if_pos mbb, if_pos maa, Rw_mrg_b m hn es j]
        omega
      · rw [if_neg q2]
        by_cases q3 : m i = a
        · rw [iv_t ⟨q3, q⟩]
          have h1 : m i ≠ i := by rw [q3]; exact fun z => q z.symm
          have h2 : mrg a b m i = b := by unfold mrg; rw [if_pos q3]
          unfold Mat
          rw [if_neg h1, h2, if_neg (fun z => q2 z.symm), q3]
          omega
        · rw [iv_f (fun z => q3 z.1)]
          have h2 : mrg a b m i = m i := by unfold mrg; rw [if_neg q3]
          unfold Mat
          rw [h2]
          by_cases q4 : m i = i
          · rw [if_pos q4, if_pos q4, Rw_mrg_o m q q2 es j]; omega
          · rw [if_neg q4, if_neg q4]; omega
  rw [s1, s2, s3, s4, s5]
  omega
theorem det_unit : ∀ (n c : Nat), det n c (fun r j => iv (j = r + c)) = 1
  | 0, _ => rfl
  | n + 1, c => by
    rw [det_head fun r h _ => iv_f (by omega)]
    have := det_unit n (c + 1)
    have e : det n (c + 1) (fun r => (fun r j => iv (j = r + c)) (r + 1)) = det n (c + 1) (fun r j => iv (j = r + (c + 1))) := det_congr fun r j _ _ _ => by
      show iv (j = r + 1 + c) = _
      rw [show r + 1 + c = r + (c + 1) by omega]
    rw [e, this]
    show iv (c = 0 + c) * 1 = 1
    rw [iv_t (by omega)]; rfl
theorem D_nil {n : Nat} {m : Nat → Nat} (L : Lab n m) : D n m [] = if ∀ i, i ≤ n → m i = m n then 1 else 0 := by
  unfold D
  by_cases h : ∀ i, i ≤ n → m i = m n
  · rw [if_pos h, ← det_unit n 0]
    refine det_congr fun r j hr _ hj => ?_
    have := h r (by omega)
    rw [L.top] at this
    unfold Mat
    rw [this, if_neg (by omega), iv_f (by omega : ¬ j = n)]
    rw [show r + 0 = r by omega]; omega
  · rw [if_neg h]
    have : ∃ i, i < n ∧ m i = i := by
      apply Classical.byContradiction
      intro z
      refine h fun i hi => ?_
      rw [L.top]
      apply Classical.byContradiction
      intro q
      have h1 := L.le i hi
      exact z ⟨m i, by omega, L.id i hi⟩
    obtain ⟨i, hi, e⟩ := this
    have h2 := det_mul (n := n) (c := 0) 0 (fun _ => 0) (Mat m []) hi
    simp only [Int.zero_mul] at h2
    rw [← h2]
    refine det_congr fun r j _ _ _ => ?_
    unfold upd
    by_cases q : r = i
    · rw [if_pos q, q]; unfold Mat; rw [if_pos e]; rfl
    · rw [if_neg q]
def Ker (n : Nat) (u v : Nat → Nat) : Prop := ∀ i j, i ≤ n → j ≤ n → (u i = u j ↔ v i = v j)
theorem mrg_eq {a b : Nat} {u : Nat → Nat} {i j : Nat} : mrg a b u i = mrg a b u j ↔ u i = u j ∨ (u i = a ∧ u j = b) ∨ (u i = b ∧ u j = a) := by
  unfold mrg
  by_cases h1 : u i = a <;> by_cases h2 : u j = a
  · rw [if_pos h1, if_pos h2]; exact ⟨fun _ => .inl (h1.trans h2.symm), fun _ => rfl⟩
  · rw [if_pos h1, if_neg h2]
    constructor
    · exact fun h => .inr (.inl ⟨h1, h.symm⟩)
    · rintro (h | h | h)
      · exact absurd (h ▸ h1) h2
      · exact h.2.symm
      · exact absurd h.2 h2
  · rw [if_neg h1, if_pos h2]
    constructor
    · exact fun h => .inr (.inr ⟨h, h2⟩)
    · rintro (h | h | h)
      · exact absurd (h.trans h2) h1
      · exact absurd h.1 h1
      · exact h.1
  · rw [if_neg h1, if_neg h2]
    constructor
    · exact .inl
    · rintro (h | h | h)
      · exact h
      · exact absurd h.1 h1
      · exact absurd h.2 h2
theorem Ker.mrg {n : Nat} {u v : Nat → Nat} (h : Ker n u v) {x y : Nat} (hx : x ≤ n) (hy : y ≤ n) : Ker n (mrg (u x) (u y) u) (mrg (v x) (v y) v) := fun i j hi hj => by
  rw [mrg_eq, mrg_eq, h i j hi hj, h i x hi hx, h j y hj hy, h i y hi hy, h j x hj hx]
theorem Ker.turn {n : Nat} {u : Nat → Nat} {x y : Nat} : Ker n (Dt.mrg (u x) (u y) u) (Dt.mrg (u y) (u x) u) := fun i j _ _ => by
  rw [mrg_eq, mrg_eq]
  constructor <;> (rintro (h | h | h); exact .inl h; exact .inr (.inr h); exact .inr (.inl h))
end Dt

namespace Lw
open DL L2 TL
structure Ind (p : Nat) (ts : List (Int × Int)) (J : List Int) : Prop where
  nd : J.Nodup
  inn : InT ts.length J
  ct : cnt p (tiesAt ts J) + J.length = p
theorem tiesAt_snoc (ts : List (Int × Int)) (J : List Int) (t : Int) : tiesAt ts (J ++ [t]) = tiesAt ts J ++ [tieAt ts t] := by simp [tiesAt]
theorem conn_at {ts : List (Int × Int)} {J : List Int} {t : Int} (h : t ∈ J) : Conn (tiesAt ts J) (tieAt ts t).1 (tieAt ts t).2 := .tie (List.mem_map.mpr ⟨t, h, rfl⟩)
theorem conn_sub {ts : List (Int × Int)} {J S : List Int} (h : ∀ x ∈ J, x ∈ S) {a b : Int} (c : Conn (tiesAt ts J) a b) : Conn (tiesAt ts S) a b :=
  c.mono fun e he => by
    obtain ⟨t, ht, rfl⟩ := List.mem_map.mp he
    exact List.mem_map.mpr ⟨t, h t ht, rfl⟩
theorem Ind.snoc {p : Nat} {ts : List (Int × Int)} (hE : EndsOk p ts) {J : List Int} (h : Ind p ts J) {t : Int} (t0 : 0 ≤ t ∧ t < ts.length) (c : ¬ Conn (tiesAt ts J) (tieAt ts t).1 (tieAt ts t).2) : Ind p ts (J ++ [t]) := by
  have hin : InT ts.length (J ++ [t]) := fun x hx => by
    rcases List.mem_append.mp hx with z | z
    · exact h.inn x z
    · simp at z; subst z; exact t0
  refine ⟨?_, hin, ?_⟩
  · rw [List.nodup_append]
    refine ⟨h.nd, by simp, fun a ha b hb e => ?_⟩
    simp at hb
    subst hb
    subst e
    exact c (conn_at ha)
  · have := cnt_new (p := p) (es := tiesAt ts J) (t := tieAt ts t) (by rw [← tiesAt_snoc]; exact tiesAt_ok hE hin) c
    have := h.ct
    rw [tiesAt_snoc, List.length_append, List.length_singleton]
    omega
theorem ind_ext {p : Nat} {ts : List (Int × Int)} (hE : EndsOk p ts) : ∀ (S J : List Int), Ind p ts J → InT ts.length S → ∃ J', Ind p ts J' ∧ (∀ x ∈ J, x ∈ J') ∧ (∀ x ∈ J', x ∈ J ∨ x ∈ S) ∧ ∀ t ∈ S, Conn (tiesAt ts J') (tieAt ts t).1 (tieAt ts t).2
  | [], J, h, _ => ⟨J, h, fun _ h => h, fun _ h => .inl h, fun _ h => (nomatch h)⟩
  | t :: S, J, h, hS => by
    by_cases c : Conn (tiesAt ts J) (tieAt ts t).1 (tieAt ts t).2
    · obtain ⟨J', h1, h2, h3, h4⟩ := ind_ext hE S J h fun x hx => hS x (List.mem_cons_of_mem _ hx)
      refine ⟨J', h1, h2, fun x hx => (h3 x hx).imp id (List.mem_cons_of_mem _), fun x hx => ?_⟩
      rcases List.mem_cons.mp hx with rfl | hx
      · exact conn_sub h2 c
      · exact h4 x hx
    · obtain ⟨J', h1, h2, h3, h4⟩ := ind_ext hE S (J ++ [t]) (h.snoc hE (hS t (List.mem_cons_self ..)) c) fun x hx => hS x (List.mem_cons_of_mem _ hx)
      refine ⟨J', h1, fun x hx => h2 x (List.mem_append_left _ hx), fun x hx => ?_, fun x hx => ?_⟩
      · rcases h3 x hx with z | z
        · rcases List.mem_append.mp z with z | z
          · exact .inl z
          · simp at z; subst z; exact .inr (List.mem_cons_self ..)
        · exact .inr (List.mem_cons_of_mem _ z)
      · rcases List.mem_cons.mp hx with rfl | hx
        · exact conn_at (h2 x (List.mem_append_right _ (by simp)))
        · exact h4 x hx
theorem ind_nil (p : Nat) (ts : List (Int × Int)) : Ind p ts [] := ⟨by simp, fun _ h => (nomatch h), by simp [tiesAt, cnt_nil]⟩
theorem Ind.sub {p : Nat} {ts : List (Int × Int)} (hE : EndsOk p ts) {J K : List Int} (h : Ind p ts J) (hn : K.Nodup) (hs : ∀ x ∈ K, x ∈ J) : Ind p ts K := by
  have hK : InT ts.length K := fun x hx => h.inn x (hs x hx)
  refine ⟨hn, hK, ?_⟩
  obtain ⟨K', k1, k2, k3, k4⟩ := ind_ext hE K [] (ind_nil p ts) hK
  obtain ⟨J', j1, j2, j3, j4⟩ := ind_ext hE J K' k1 h.inn
  have hKK : K'.length ≤ K.length := nodup_le k1.nd fun x hx => (k3 x hx).elim (fun z => (nomatch z)) id
  have e1 : cnt p (tiesAt ts K') = cnt p (tiesAt ts K) := cnt_eq (tiesAt_ok hE k1.inn) (tiesAt_ok hE hK)
    (fun e he => by
      obtain ⟨t, ht, rfl⟩ := List.mem_map.mp he
      exact conn_at ((k3 t ht).elim (fun z => (nomatch z)) id))
    (fun e he => by
      obtain ⟨t, ht, rfl⟩ := List.mem_map.mp he
      exact k4 t ht)
  -- as many as there are: else J would have a ring
  have hJJ : J'.length = J.length := by
    have a : cnt p (tiesAt ts J') = cnt p (tiesAt ts J) := cnt_eq (tiesAt_ok hE j1.inn) (tiesAt_ok hE h.inn)
      (fun e he => by
        obtain ⟨t, ht, rfl⟩ := List.mem_map.mp he
        refine conn_at ?_
        rcases j3 t ht with z | z
        · exact hs t ((k3 t z).elim (fun z => (nomatch z)) id)
        · exact z)
      (fun e he => by
        obtain ⟨t, ht, rfl⟩ := List.mem_map.mp he
        exact j4 t ht)
    have := j1.ct
    have := h.ct
    omega
  have sub : ∀ x ∈ J', x ∈ J := fun x hx => by
    rcases j3 x hx with z | z
    · exact hs x ((k3 x z).elim (fun z => (nomatch z)) id)
    · exact z
  have all : ∀ x ∈ J, x ∈ J' := fun x hx => by
    rcases Classical.em (x ∈ J') with z | z
    · exact z
    · have := nodup_le (l := x :: J') (m := J) (List.nodup_cons.mpr ⟨z, j1.nd⟩) fun y hy => by
        rcases List.mem_cons.mp hy with rfl | hy
        · exact hx
        · exact sub y hy
      simp at this
      omega
  -- each of K is in K': else it would be put in to K' behind, though hung together
  have hKl : K.length ≤ K'.length := by
    refine nodup_le hn fun x hx => ?_
    rcases Classical.em (x ∈ K') with z | z
    · exact z
    · exfalso
      have hxJ := all x (hs x hx)
      -- J' less x hangs together what J' does
      have c := k4 x hx
      have i1 : InT ts.length (J'.erase x) := fun y hy => j1.inn y (List.mem_of_mem_erase hy)
      have sub2 : ∀ y ∈ K', y ∈ J'.erase x := fun y hy => (List.mem_erase_of_ne (fun (e : y = x) => z (by rw [← e]; exact hy))).mpr (j2 y hy)
      have e2 : cnt p (tiesAt ts (J'.erase x)) = cnt p (tiesAt ts J') := cnt_eq (tiesAt_ok hE i1) (tiesAt_ok hE j1.inn)
        (fun e he => by
          obtain ⟨t, ht, rfl⟩ := List.mem_map.mp he
          exact conn_at (List.mem_of_mem_erase ht))
        (fun e he => by
          obtain ⟨t, ht, rfl⟩ := List.mem_map.mp he
          by_cases ee : t = x
          · subst ee; exact conn_sub sub2 c
          · exact conn_at ((List.mem_erase_of_ne ee).mpr ht))
      have lo := cnt_lo p _ _ rfl (tiesAt_ok hE i1)
      have l2 : (tiesAt ts (J'.erase x)).length = J'.length - 1 := by rw [tiesAt, List.length_map, List.length_erase_of_mem hxJ]
      have hp := List.length_pos_of_mem hxJ
      have := j1.ct
      omega
  rw [← e1]
  have := k1.ct
  omega
end Lw

noncomputable section
namespace Lw
open DL
end Lw
end

noncomputable section
namespace Lw
open DL
end Lw
end

namespace Lw
open DL L2
end Lw

noncomputable section
namespace Lw
open DL
end Lw
end

namespace Lw
open DL L2 TL
end Lw

namespace Lw
open DL L2 TL
theorem Ind.le {p : Nat} {ts : List (Int × Int)} (hE : EndsOk p ts) {K J : List Int} (hK : Ind p ts K) (hJ : Ind p ts J) (h : ∀ t ∈ K, Conn (tiesAt ts J) (tieAt ts t).1 (tieAt ts t).2) : K.length ≤ J.length := by
  have : cnt p (tiesAt ts J) ≤ cnt p (tiesAt ts K) := cnt_le (tiesAt_ok hE hK.inn) (tiesAt_ok hE hJ.inn) fun e he => by
    obtain ⟨t, ht, rfl⟩ := List.mem_map.mp he
    exact h t ht
  have := hK.ct
  have := hJ.ct
  omega
end Lw

namespace Lw
open DL L2 TL
section
variable {p : Nat} (hp : 1 ≤ p) {ts : List (Int × Int)} (hE : EndsOk p ts) {T : List Int} (hT : treeB p ts T = true)
include hp hE hT
end
end Lw

namespace Lw
open DL L2 TL
end Lw

noncomputable section
namespace Lw
open DL
end Lw
end

namespace Lw
open DL L2 TL
theorem blsOf_map : ∀ bs : List Bool, blsOf (bs.map D.bl) = some bs
  | [] => rfl
  | b :: bs => by simp [blsOf, blsOf_map bs]
theorem caAll_bls (bs : List Bool) : caAll [.ls (bs.map D.bl)] = some (.bl (bs.all id)) := by simp [caAll, blsOf_map]
def nxt (k : Nat) (s : List Int) : Int := if k = 0 then 0 else nth s (k - 1 : Nat) + 1
end Lw

namespace Lw
open DL L2 TL
def KLt (L : List Int) (t u : Int) : Prop := nth L t < nth L u ∨ (nth L t = nth L u ∧ t < u)
instance (L : List Int) (t u : Int) : Decidable (KLt L t u) := by unfold KLt; infer_instance
def cb (L l : List Int) (k : Int) : Nat := (l.filter fun t => decide (KLt L t k)).length
structure Ord (L : List Int) (n : Nat) (O : List Int) : Prop where
  pm : O.Perm (iota n)
  lt : O.Pairwise (KLt L)
theorem Ord.mem {L : List Int} {n : Nat} {O : List Int} (h : Ord L n O) {x : Int} : x ∈ O ↔ 0 ≤ x ∧ x < n := by rw [h.pm.mem_iff, iota_mem]
section
variable {L : List Int} {p : Nat} {ts : List (Int × Int)} {O : List Int}
end
end Lw

noncomputable section
namespace Lw
open DL
end Lw
end

namespace Lw
open DL L2
end Lw

namespace Lw
open DL L2
end Lw

noncomputable section
namespace Lw
open DL
end Lw
end

namespace Lw
open DL L2
end Lw

noncomputable section
namespace Lw
open DL
end Lw
end

namespace Lw
open DL L2 TL
def hj (m : List Int) (t : Int × Int) : List Int := m.map fun x => if x = nth m t.2 then nth m t.1 else x
end Lw

namespace Lw
open DL L2 TL
section
variable {p : Nat} {ts : List (Int × Int)}
end
end Lw

noncomputable section
namespace Lw
open DL
end Lw
end

namespace Lw
open DL L2 TL
end Lw

namespace Lw
open DL L2 TL Classical
end Lw

namespace Lw
open DL L2 TL
section
variable {p : Nat} (hp : 1 ≤ p) {ts : List (Int × Int)} (hE : EndsOk p ts) {T : List Int} (hT : treeB p ts T = true) (L : List Int)
include hp hE hT
end
end Lw

namespace Lw
open DL L2 TL
section
variable {p : Nat} {ts : List (Int × Int)}
end
end Lw

namespace Lw
open DL L2 TL
def tn (t : Int × Int) : Dt.Ed := (t.1.toNat, t.2.toNat)
def flt (ins : List Int) (k : Nat) (T : List Int) : List Int := T.filter fun x => decide (x < (k : Int)) && !decide (x ∈ ins)
section
variable {p : Nat} {ts : List (Int × Int)}
end
end Lw

namespace Lw
open DL L2 TL
def dO' (l : List Int) : D := .ol (l.map D.int)
def up1 (T : List (List Int)) (a c : Nat) (v : Int) : List (List Int) := T.set a ((rowN T a).set c (ent T a c + v))
theorem up1_sq {n : Nat} {T : List (List Int)} (h : Sq n T) {a : Nat} (ha : a < n) (c : Nat) (v : Int) : Sq n (up1 T a c v) where
  len := by unfold up1; rw [List.length_set, h.len]
  row := fun l hl => by
    unfold up1 at hl
    rcases List.mem_or_eq_of_mem_set hl with hl | rfl
    · exact h.row l hl
    · rw [List.length_set]; exact h.rowl ha
theorem up1_ent {n : Nat} {T : List (List Int)} (h : Sq n T) {a c i j : Nat} (ha : a < n) (hc : c < n) (hi : i < n) (v : Int) : ent (up1 T a c v) i j = ent T i j + if i = a ∧ j = c then v else 0 := by
  unfold ent up1 rowN
  have hr := h.rowl ha
  unfold rowN at hr
  rw [List.getD_eq_getElem?_getD (l := List.set _ _ _)]
  by_cases q : i = a
  · subst q
    rw [List.getElem?_set_self (by rw [h.len]; exact hi)]
    simp only [Option.getD_some]
    rw [List.getD_eq_getElem?_getD (l := List.set _ _ _)]
    by_cases q2 : j = c
    · subst q2
      rw [List.getElem?_set_self (by omega)]
      simp [ent, rowN]
    · rw [List.getElem?_set_ne (fun z => q2 z.symm), if_neg (fun z => q2 z.2), ← List.getD_eq_getElem?_getD]; omega
  · rw [List.getElem?_set_ne (fun z => q z.symm), if_neg (fun z => q z.1), ← List.getD_eq_getElem?_getD]; omega
theorem aug_ok (op : Int → Int → Int) {n : Nat} {T : List (List Int)} (h : Sq n T) (x0 x1 : D) (a b c d : Int) (x5 : D) (k1 k2 : Nat) (hk1 : k1 < n) (hk2 : k2 < n) (hn : n ≤ 1000) (j1 j2 : Nat)
    (h1 : [x0, x1, .ol (T.map dO'), .int a, .int b, x5][j1]? = some (.int (k1 : Int))) (h2 : [x0, x1, .ol (T.map dO'), .int a, .int b, x5][j2]? = some (.int (k2 : Int))) :
    sAug2 op 2 j1 j2 (eC (.int 1)) [x0, x1, .ol (T.map dO'), .int a, .int b, x5] = .nx [x0, x1, .ol ((T.set k1 ((rowN T k1).set k2 (op (ent T k1 k2) 1))).map dO'), .int a, .int b, x5] := by
  have hl := h.len
  have i1 : ixN (T.map dO').length (k1 : Int) = some k1 := by rw [ixN_nat (by omega) (by rw [List.length_map, hl]; omega)]; rfl
  have g1 : (T.map dO')[k1]? = some (.ol ((rowN T k1).map D.int)) := by
    rw [List.getElem?_map, List.getElem?_eq_getElem (by omega)]
    unfold rowN
    rw [List.getD_eq_getElem?_getD, List.getElem?_eq_getElem (by omega)]
    rfl
  have g2 : ((rowN T k1).map D.int)[k2]? = some (.int (ent T k1 k2)) := by
    have hr := h.rowl hk1
    rw [List.getElem?_map, List.getElem?_eq_getElem (by omega)]
    unfold ent
    rw [List.getD_eq_getElem?_getD, List.getElem?_eq_getElem (by omega)]
    rfl
  rw [sAug2_, h1, h2]
  simp only [List.getElem?_cons_succ, List.getElem?_cons_zero, i1, g1]
  rw [if_pos ⟨by omega, by omega⟩]
  have e2 : ((k2 : Int)).toNat = k2 := rfl
  rw [e2, g2]
  simp only [eC_, Res.st_ok, opd_int, List.set_cons_succ, List.set_cons_zero]
  congr 3
  · congr 1
    rw [List.map_set]
    congr 1
    unfold dO'
    rw [List.map_set]
theorem pull_ent (a b i j : Nat) (e : Dt.Ed) (he : e = (a, b)) (hn : a ≠ b) : (if i = a ∧ j = a then (1 : Int) else 0) + (if i = b ∧ j = b then 1 else 0) + (if i = a ∧ j = b then -1 else 0) + (if i = b ∧ j = a then -1 else 0) = Dt.Xm (fun v => v) e i * Dt.xv e j := by
  subst he
  have hn' : ¬ b = a := fun z => hn z.symm
  unfold Dt.Xm Dt.xv Dt.iv
  dsimp only
  by_cases h1 : i = a <;> by_cases h2 : i = b <;> by_cases h3 : j = a <;> by_cases h4 : j = b
  all_goals first
    | (exfalso; omega)
    | (have q1 : ∀ x, (x = i) = (i = x) := fun x => propext ⟨Eq.symm, Eq.symm⟩
       simp only [q1, h1, h2, h3, h4, hn, hn', and_true, and_false, true_and, false_and, if_true, if_false]
       try omega)
theorem pulls_l1 {n : Nat} (hn : n ≤ 1000) (x0 x1 : D) : ∀ (es : List (Int × Int)) (T : List (List Int)) (y3 y4 : D), Sq n T → EndsOk n es →
    ∃ (T' : List (List Int)) (z3 z4 : D), Sq n T' ∧ (∀ i j, i < n → j < n → ent T' i j = ent T i j + Dt.Rw (fun v => v) (es.map tn) i j) ∧
      forL (gtT 2 (gtCons (gtN 3) (gtCons (gtN 4) (gtNil)))) f_pulls_l1 (es.map dP) [x0, x1, .ol (T.map dO'), y3, y4, .un] = .nx [x0, x1, .ol (T'.map dO'), z3, z4, .un] := by
  intro es
  induction es with
  | nil => exact fun T y3 y4 hT _ => ⟨T, y3, y4, hT, fun i j _ _ => by simp [Dt.Rw], by simp [forL]⟩
  | cons e es IH =>
    intro T y3 y4 hT hE
    obtain ⟨⟨a0, a1⟩, b0, b1⟩ := hE e (List.mem_cons_self ..)
    have hE' : EndsOk n es := fun x hx => hE x (List.mem_cons_of_mem _ hx)
    obtain ⟨a, ha⟩ : ∃ a : Nat, e.1 = a := ⟨e.1.toNat, by omega⟩
    obtain ⟨b, hb⟩ : ∃ b : Nat, e.2 = b := ⟨e.2.toNat, by omega⟩
    have te : tn e = (a, b) := by unfold tn; rw [ha, hb]; rfl
    have la : a < n := by omega
    have lb : b < n := by omega
    by_cases c : a = b
    · subst c
      obtain ⟨T', z3, z4, i1, i2, i3⟩ := IH T (.int a) (.int a) hT hE'
      refine ⟨T', z3, z4, i1, fun i j hi hj => ?_, ?_⟩
      · rw [i2 i j hi hj, List.map_cons]
        have : Dt.Xm (fun v => v) (tn e) i = 0 := by unfold Dt.Xm; rw [te]; dsimp only; omega
        simp only [Dt.Rw, this]; omega
      · rw [← i3, List.map_cons, forL_cons]
        simp [f_pulls_l1, dP, ha, hb]
    · have s1 := up1_sq hT la a 1
      have s2 := up1_sq s1 lb b 1
      have s3 := up1_sq s2 la b (-1)
      have s4 := up1_sq s3 lb a (-1)
      obtain ⟨T', z3, z4, i1, i2, i3⟩ := IH _ (.int a) (.int b) s4 hE'
      refine ⟨T', z3, z4, i1, fun i j hi hj => ?_, ?_⟩
      · rw [i2 i j hi hj, up1_ent s3 lb la hi, up1_ent s2 la lb hi, up1_ent s1 lb lb hi, up1_ent hT la la hi, List.map_cons]
        have := pull_ent a b i j (tn e) te c
        simp only [Dt.Rw]
        rw [← this]
        omega
      · rw [← i3, List.map_cons, forL_cons]
        have g1 := aug_ok (fun a b => a + b) hT x0 x1 a b 0 0 .un a a la la hn 3 3 rfl rfl
        have g2 := aug_ok (fun a b => a + b) s1 x0 x1 a b 0 0 .un b b lb lb hn 4 4 rfl rfl
        have g3 := aug_ok (fun a b => a - b) s2 x0 x1 a b 0 0 .un a b la lb hn 3 4 rfl rfl
        have g4 := aug_ok (fun a b => a - b) s3 x0 x1 a b 0 0 .un b a lb la hn 4 3 rfl rfl
        have ne : ¬ (a : Int) = b := by omega
        have q3 : ∀ (M : List (List Int)) (k1 k2 : Nat), M.set k1 ((rowN M k1).set k2 ((fun a b : Int => a - b) (ent M k1 k2) 1)) = up1 M k1 k2 (-1) := fun M k1 k2 => rfl
        have q1 : ∀ (M : List (List Int)) (k1 k2 : Nat), M.set k1 ((rowN M k1).set k2 ((fun a b : Int => a + b) (ent M k1 k2) 1)) = up1 M k1 k2 1 := fun M k1 k2 => rfl
        rw [q1] at g1 g2
        rw [q3] at g3 g4
        simp [f_pulls_l1, dP, ha, hb, ne, g1, g2, g3, g4, -sAug2_]
def zrs (n : Nat) : List (List Int) := List.replicate n (List.replicate n 0)
theorem zrs_sq (n : Nat) : Sq n (zrs n) := ⟨by simp [zrs], fun l hl => by rw [(List.mem_replicate.mp hl).2]; simp⟩
theorem zrs_ent (n : Nat) {i j : Nat} (hi : i < n) (hj : j < n) : ent (zrs n) i j = 0 := by
  unfold ent rowN zrs
  rw [List.getD_eq_getElem?_getD, List.getD_eq_getElem?_getD, List.getElem?_replicate, if_pos hi]
  simp [hj]
theorem pulls_ok {n : Nat} (nn : Int) (hnn : nn = n) (hn : n ≤ 900) (es : List (Int × Int)) (hE : EndsOk n es) : ∃ T : List (List Int), Sq n T ∧ (∀ i j, i < n → j < n → ent T i j = Dt.Rw (fun v => v) (es.map tn) i j) ∧ g_pulls [.int nn, .ls (es.map dP)] = .ok (.ol (T.map dO')) := by
  obtain ⟨T, z3, z4, h1, h2, h3⟩ := pulls_l1 (by omega) (.int nn) (.ls (es.map dP)) es (zrs n) .un .un (zrs_sq n) hE
  refine ⟨T, h1, fun i j hi hj => by rw [h2 i j hi hj, zrs_ent n hi hj]; omega, ?_⟩
  have hr : rgOk nn := rgOk_of (by omega) (by omega)
  have oz : ∀ z : Int, z = n → opMul (.ls [.int 0]) (.int z) = some (.ol ((List.replicate n (0 : Int)).map D.int)) := fun z hz => by
    have e : z.toNat = n := by omega
    have h1 : z < 9223372036854775808 := by omega
    have h2 : -9223372036854775808 ≤ z := by omega
    have h3 : n ≤ lim := by rw [lim_eq]; omega
    have h4 : ∀ m : Nat, (List.replicate m [D.int 0]).flatten = (List.replicate m (0 : Int)).map D.int := by
      intro m
      induction m with
      | zero => rfl
      | succ m ih => simp only [List.replicate_succ, List.flatten_cons, ih, List.map_cons]; rfl
    simp [opMul, h1, h2, h3, h4, e, -List.map_replicate]
  have lc : ∀ x2 x3 x4 x5 : D, lcL (gtN 5) tYesG f_pulls_c1 [.int nn, .ls (es.map dP), x2, x3, x4, x5] ((iota n).map D.int) = .ok ((zrs n).map dO') := fun x2 x3 x4 x5 => by
    have e : (zrs n).map dO' = (iota n).map fun _ => dO' (List.replicate n 0) := by
      unfold zrs
      have hl : (iota n).length = n := by simp [iota]
      apply List.ext_getElem
      · simp [hl]
      · intro i h1 h2; simp
    rw [e]
    refine lcL_mapN _ fun x _ => ?_
    have o := oz nn hnn
    have l1 : 1 ≤ lim := by rw [lim_eq]; omega
    simp [f_pulls_c1, o, l1, dO', -List.map_replicate]
  have b1 : n ≤ lim := by rw [lim_eq]; omega
  have b2 : (zrs n).length ≤ lim := by rw [(zrs_sq n).len]; exact b1
  have et : rng 0 nn.toNat = (iota n).map D.int := by rw [show nn.toNat = n by omega, rng_iota]
  simp [g_pulls, runF, f_pulls, hr, et, lc, b1, h3]
end Lw

namespace Lw
open DL L2 TL
theorem fO (T : List (List Int)) : frzs (T.map dO') = T.map dR ∧ nods (T.map dO') = true := by
  induction T with
  | nil => exact ⟨rfl, rfl⟩
  | cons a T ih => simp only [List.map_cons, frzs_cons, nods, nod, ih.1, ih.2]; exact ⟨by simp [dO', dR], by simp [dO']⟩
theorem Rw_abs (m : Nat → Nat) (i j : Nat) : ∀ es : List Dt.Ed, (Dt.Rw m es i j).natAbs ≤ es.length
  | [] => by simp [Dt.Rw]
  | e :: es => by
    have ih := Rw_abs m i j es
    have h1 : (Dt.Xm m e i * Dt.xv e j).natAbs ≤ 1 := by
      rw [Int.natAbs_mul]
      have a : (Dt.Xm m e i).natAbs ≤ 1 := by unfold Dt.Xm Dt.iv; split <;> split <;> simp
      have b : (Dt.xv e j).natAbs ≤ 1 := by unfold Dt.xv Dt.iv; split <;> split <;> simp
      exact Nat.mul_le_mul a b
    have := Int.natAbs_add_le (Dt.Xm m e i * Dt.xv e j) (Dt.Rw m es i j)
    simp only [Dt.Rw, List.length_cons]
    omega
end Lw

noncomputable section
namespace Lw
open DL
end Lw
end

namespace Lw
open DL L2 TL
end Lw

namespace Lw
open DL L2 TL
theorem forL_step {tg : D → Env → Option Env} {b : Env → Out} {d : D} {ds : List D} {g g1 g' : Env} (h : tg d g = some g1) (hb : b g1 = .nx g') : forL tg b (d :: ds) g = forL tg b ds g' := by
  rw [forL_cons, h]
  simp only [hb]
end Lw

noncomputable section
namespace Lw
open DL
end Lw
end

namespace Lw
open DL L2
structure Canon (p : Nat) (m : List Int) : Prop where
  len : m.length = p
  le : ∀ i : Int, 0 ≤ i → i < p → 0 ≤ nth m i ∧ nth m i ≤ i ∧ nth m (nth m i) = nth m i
def piece (p : Nat) (m : List Int) (k : Int) : List Int := (iota p).filter fun i => decide (nth m i = k)
def pieces (p : Nat) (m : List Int) : List (List Int) := (sset m).map (piece p m)
theorem iota_riseP (n : Nat) : (iota n).Pairwise (· < ·) := by
  unfold iota
  rw [List.pairwise_map]
  exact List.pairwise_lt_range.imp fun h => by omega
section
variable (L : List (List Int))
@[simp] theorem brws_OO : brws (L.map fun l => D.ol (l.map D.int)) = L.map fun l => .bo (l.map D.int) := by induction L <;> simp [*]
@[simp] theorem frzs_OO : frzs (L.map fun l => D.ol (l.map D.int)) = L.map fun l => .ls (l.map D.int) := by induction L <;> simp [*]
@[simp] theorem nods_OO : nods (L.map fun l => D.ol (l.map D.int)) = true := by induction L <;> simp [*]
@[simp] theorem shd_LL : shd (L.map fun l => D.ls (l.map D.int)) = true := by induction L <;> simp [*]
@[simp] theorem brws_LL : brws (L.map fun l => D.ls (l.map D.int)) = L.map fun l => .ls (l.map D.int) := by induction L <;> simp [*]
@[simp] theorem frzs_LL : frzs (L.map fun l => D.ls (l.map D.int)) = L.map fun l => .ls (l.map D.int) := by induction L <;> simp [*]
@[simp] theorem nods_LL : nods (L.map fun l => D.ls (l.map D.int)) = true := by induction L <;> simp [*]
theorem toPys_BB : toPys (L.map fun l => D.bo (l.map D.int)) = toPys (L.map fun l => D.ls (l.map D.int)) := by
  induction L with
  | nil => rfl
  | cons a L ih => simp [toPys, toPy_bo, ih]
end
@[simp] theorem pyEq_LL (L M : List (List Int)) : pyEq (.ls (L.map fun l => .ls (l.map D.int))) (.ls (M.map fun l => .ls (l.map D.int))) = some (decide (L = M)) := enc_int.ls.ls.eq (by omega) L M
@[simp] theorem pyEq_BL (L M : List (List Int)) : pyEq (.ls (L.map fun l => .bo (l.map D.int))) (.ls (M.map fun l => .ls (l.map D.int))) = some (decide (L = M)) := by
  rw [← pyEq_LL]
  simp [pyEq, toPy, toPys_BB]
end Lw

noncomputable section
namespace Lw
open DL
end Lw
end

namespace Lw
open DL L2 TL
def IntD (A : List (Int × D)) : Prop := ∀ x ∈ A, ∃ n : Int, x.2 = .int n
theorem IntD.put {A : List (Int × D)} (h : IntD A) (k n : Int) : IntD (putG A k (.int n)) := fun x hx => by
  unfold putG at hx
  split at hx
  · obtain ⟨y, hy, rfl⟩ := List.mem_map.mp hx
    by_cases q : y.1 = k
    · rw [if_pos q]; exact ⟨n, rfl⟩
    · rw [if_neg q]; exact h y hy
  · rcases List.mem_append.mp hx with hx | hx
    · exact h x hx
    · rw [List.mem_singleton.mp hx]; exact ⟨n, rfl⟩
theorem IntD.all {A : List (Int × D)} (h : IntD A) : ((ddV A).all fun d => !own1 d) = true ∧ brws (ddV A) = ddV A := by
  induction A with
  | nil => exact ⟨rfl, rfl⟩
  | cons a A ih =>
    obtain ⟨n, e⟩ := h a (List.mem_cons_self ..)
    obtain ⟨i1, i2⟩ := ih fun x hx => h x (List.mem_cons_of_mem _ hx)
    unfold ddV at *
    simp only [List.map_cons, List.all_cons, e, i1, brws_cons, i2]
    exact ⟨rfl, rfl⟩
end Lw

namespace Lw
open DL L2 TL
def unl (p : Nat) (ts : List (Int × Int)) (k : Nat) (s : List Int) : Bool := !decide (nth (marksL p ts s) (tieAt ts k).1 = nth (marksL p ts s) (tieAt ts k).2)
def fo (p : Nat) (ts : List (Int × Int)) : Nat → List (List Int)
  | 0 => [[]]
  | k + 1 => fo p ts k ++ ((fo p ts k).filter (unl p ts k)).map (· ++ [(k : Int)])
end Lw

noncomputable section
namespace Lw
open DL
end Lw
end

namespace Lw
open DL L2 TL
end Lw

namespace Dt
end Dt
namespace Lw
open DL L2 TL
def rwN (n : Nat) (x : Nat → Int) : List Int := (List.range n).map x
def rows (n : Nat) (A : Dt.Mx) : List (List Int) := (List.range n).map fun r => rwN n (A r)
theorem rwN_len (n : Nat) (x : Nat → Int) : (rwN n x).length = n := by simp [rwN]
theorem rows_len (n : Nat) (A : Dt.Mx) : (rows n A).length = n := by simp [rows]
theorem rows_sq (n : Nat) (A : Dt.Mx) : Sq n (rows n A) := ⟨rows_len n A, fun l hl => by
  obtain ⟨r, _, rfl⟩ := List.mem_map.mp hl
  exact rwN_len n _⟩
theorem rows_row {n : Nat} (A : Dt.Mx) {r : Nat} (hr : r < n) : rowN (rows n A) r = rwN n (A r) := by
  unfold rowN rows
  simp [List.getD_eq_getElem?_getD, hr]
theorem rows_ent {n : Nat} (A : Dt.Mx) {r c : Nat} (hr : r < n) (hc : c < n) : ent (rows n A) r c = A r c := by
  unfold ent
  rw [rows_row A hr]
  unfold rwN
  simp [List.getD_eq_getElem?_getD, hc]
theorem rows_det (n : Nat) (A : Dt.Mx) : Dt.det n 0 (ent (rows n A)) = Dt.det n 0 A := Dt.det_congr fun r j hr _ hj => rows_ent A hr (by omega)
theorem rows_of {n : Nat} {L : List (List Int)} (h : Sq n L) : L = rows n (ent L) := by
  apply List.ext_getElem
  · rw [h.len, rows_len]
  · intro r h1 h2
    have hr : r < n := by rw [rows_len] at h2; exact h2
    have e : L[r] = rowN L r := by unfold rowN; rw [List.getD_eq_getElem?_getD, List.getElem?_eq_getElem h1]; rfl
    have e2 : (rows n (ent L))[r] = rwN n (ent L r) := by simp [rows]
    rw [e, e2]
    apply List.ext_getElem
    · rw [h.rowl hr, rwN_len]
    · intro c q1 q2
      simp [rwN, ent, List.getD_eq_getElem?_getD, List.getElem?_eq_getElem q1]
theorem rows_set {n : Nat} (A : Dt.Mx) {k : Nat} (x : Nat → Int) : (rows n A).set k (rwN n x) = rows n (Dt.upd A k x) := by
  apply List.ext_getElem
  · simp [rows]
  · intro r h1 h2
    simp [List.getElem_set, rows, Dt.upd]
    by_cases e : k = r
    · rw [if_pos e, if_pos e.symm]
    · rw [if_neg e, if_neg (fun z => e z.symm)]
def Bd (n B : Nat) (A : Dt.Mx) : Prop := ∀ r c, r < n → c < n → (A r c).natAbs ≤ B
theorem det_rows {n : Nat} (hn : n ≤ 1000) (A : Dt.Mx) (B : Nat) (hB1 : 1 ≤ B) (hB : Dt.fac n * B ^ n < 2 ^ 9000) (hA : Bd n B A) : g_determinant [.ls ((rows n A).map dR)] = .ok (.int (Dt.det n 0 A)) := by
  have := determinant_ok hn (rows_sq n A) B hB1 hB fun r c hr hc => by rw [rows_ent A hr hc]; exact hA r c hr hc
  rw [this, rows_det]
end Lw

noncomputable section
namespace Lw
open DL
end Lw
end

namespace Lw
open DL L2 TL
def but (n : Nat) (t : Int) : List Int := (iota n).filter fun x => !decide (x = t)
end Lw

noncomputable section
namespace Lw
open DL
end Lw
end

namespace Lw
open DL L2 TL
def gI (a b : Int) : Int := (Int.gcd a b : Int)
theorem gI_zero (a : Int) (h : 0 ≤ a) : gI a 0 = a := by unfold gI; rw [Int.gcd_zero_right]; omega
theorem gI_step (a b : Int) (ha : 0 ≤ a) (hb : 0 ≤ b) : gI b (a % b) = gI a b := by
  obtain ⟨n, rfl⟩ := Int.eq_ofNat_of_zero_le ha
  obtain ⟨m, rfl⟩ := Int.eq_ofNat_of_zero_le hb
  unfold gI
  rw [← Int.natCast_emod]
  have e1 : Int.gcd (m : Int) ((n % m : Nat) : Int) = Nat.gcd m (n % m) := rfl
  have e2 : Int.gcd (n : Int) (m : Int) = Nat.gcd n m := rfl
  rw [e1, e2, Nat.gcd_comm n m, Nat.gcd_rec m n, Nat.gcd_comm]
theorem gI_abs (a b : Int) : gI (a.natAbs : Int) b = gI a b := by unfold gI; simp [Int.gcd]
theorem gcd_while {c : Env → Res Bool} {f : Env → Out} (E : Int → Int → Env) (hc : ∀ x y, 0 ≤ y → c (E x y) = .ok (decide (y ≠ 0))) (hf : ∀ x y, 0 < y → f (E x y) = .nx (E y (x % y))) : ∀ (m n : Nat) (a b : Int), 0 ≤ a → 0 ≤ b → b < 2 ^ m → 2 * m + 1 ≤ n → whileN c f n (E a b) = .nx (E (gI a b) 0) := by
  have z : ∀ (n : Nat) (a : Int), 0 ≤ a → 1 ≤ n → whileN c f n (E a 0) = .nx (E (gI a 0) 0) := fun n a ha hn => by
    obtain ⟨n, rfl⟩ : ∃ k, n = k + 1 := ⟨n - 1, by omega⟩
    rw [whileN_succ, hc _ _ (Int.le_refl 0), gI_zero a ha]
    simp
  intro m
  induction m with
  | zero =>
    intro n a b ha hb h hn
    have : b = 0 := by simp at h; omega
    subst this
    exact z n a ha hn
  | succ m IH =>
    intro n a b ha hb h hn
    by_cases e : b = 0
    · subst e; exact z n a ha (by omega)
    · obtain ⟨n, rfl⟩ : ∃ k, n = k + 2 := ⟨n - 2, by omega⟩
      rw [whileN_succ, hc _ _ hb, hf a b (by omega)]
      have r0 := Int.emod_nonneg a e
      have r1 := Int.emod_lt_of_pos a (show 0 < b by omega)
      rw [← gI_step a b ha hb]
      have s1 : (Res.ok (decide (b ≠ 0))).st (E a b) (fun k => if k = true then (match Out.nx (E b (a % b)) with
          | .nx g' => whileN c f (n + 1) g'
          | .ct g' => whileN c f (n + 1) g'
          | .bk g' => .nx g'
          | o => o) else .nx (E a b)) = whileN c f (n + 1) (E b (a % b)) := by simp [e]
      refine s1.trans ?_
      by_cases e2 : a % b = 0
      · rw [e2]; exact z _ b hb (by omega)
      · rw [whileN_succ, hc _ _ r0, hf b (a % b) (by omega)]
        have s2 : (Res.ok (decide (a % b ≠ 0))).st (E b (a % b)) (fun k => if k = true then (match Out.nx (E (a % b) (b % (a % b))) with
            | .nx g' => whileN c f n g'
            | .ct g' => whileN c f n g'
            | .bk g' => .nx g'
            | o => o) else .nx (E b (a % b))) = whileN c f n (E (a % b) (b % (a % b))) := by simp [e2]
        refine s2.trans ?_
        rw [← gI_step b (a % b) hb r0]
        have t0 := Int.emod_nonneg b e2
        have t1 := Int.emod_lt_of_pos b (show 0 < a % b by omega)
        refine IH n _ _ r0 t0 ?_ (by omega)
        have hle : b % (a % b) + a % b ≤ b := by
          have q := Int.mul_ediv_add_emod b (a % b)
          have q1 : 1 ≤ b / (a % b) := by
            rw [Int.le_ediv_iff_mul_le (by omega)]; omega
          have q2 : (a % b) * 1 ≤ (a % b) * (b / (a % b)) := Int.mul_le_mul_of_nonneg_left q1 r0
          omega
        have : (2 : Int) ^ (m + 1) = 2 * 2 ^ m := by rw [Int.pow_succ]; omega
        omega
theorem fuel_big : 100000 ≤ fuel := by unfold fuel; omega
theorem lt_pow (b : Int) (h : 0 ≤ b) : b < 2 ^ (b.natAbs.log2 + 1) := by
  have := @Nat.lt_log2_self b.natAbs
  have e : ((b.natAbs : Nat) : Int) = b := by omega
  have h2 : ((b.natAbs : Nat) : Int) < ((2 ^ (b.natAbs.log2 + 1) : Nat) : Int) := Int.ofNat_lt.mpr this
  rw [e] at h2
  simpa using h2
theorem log2_mono {a b : Nat} (h : a ≤ b) : a.log2 ≤ b.log2 := by
  by_cases h0 : a = 0
  · subst h0; simp
  · exact (Nat.le_log2 (by omega)).mpr (Nat.le_trans (Nat.log2_self_le h0) h)
section
variable {p : Nat} {ts : List (Int × Int)}
end
end Lw

noncomputable section
namespace Lw
open DL
def f_common_part_l1 : Env → Out := sPar 0 1 (aConsO (eVar 1) (aConsO (eBin opMod (eVar 0) (eVar 1)) (aNil)))
def f_common_part_l1t : Env → Res Bool := tC2 cGt (eVar 1) (eC (.int 0))
def f_common_part : Env → Out := sSeq (sAsgF 0 (eCall caAbs (aCons (eVar 0) (aNil)))) (sSeq (sAsgF 1 (eCall caAbs (aCons (eVar 1) (aNil)))) (sSeq (sWhile f_common_part_l1t f_common_part_l1) (sRetV 0)))
def g_common_part : List D → Res D := runF f_common_part 2
def f_as_fraction : Env → Out := sSeq (sAsgF 2 (eOwn g_common_part (aCons (eVar 0) (aCons (eVar 1) (aNil))))) (sSeq (sIf (tC2 cLt (eVar 1) (eC (.int 0))) (sAsgF 2 (eUn opNeg (eVar 2))) (sNil)) (sRet (eTup (aConsO (eBin opDiv (eVar 0) (eVar 2)) (aConsO (eBin opDiv (eVar 1) (eVar 2)) (aNil))))))
def g_as_fraction : List D → Res D := runF f_as_fraction 3
def f_solved_c1 : Env → Res D := eBin opAdd (eBin opAdd (eCall caList (aCons (eSl (eVar 6) (ePart none) (ePart (some (eVar 4)))) (aNil))) (eLst (aConsO (eVar 7) (aNil)))) (eCall caList (aCons (eSl (eVar 6) (ePart (some (eBin opAdd (eVar 4) (eC (.int 1))))) (ePart none)) (aNil)))
def f_solved_l1 : Env → Out := sSeq (sAsgF 5 (eLc (iZp3 (aCons (eVar 0) (aCons (eVar 1) (aNil)))) [6, 7] (gtT 2 (gtCons (gtN 6) (gtCons (gtN 7) (gtNil)))) (tYesG) f_solved_c1)) (sApp 3 (eOwn g_as_fraction (aCons (eOwn g_determinant (aCons (eVar 5) (aNil))) (aCons (eVar 2) (aNil)))))
def f_solved : Env → Out := sSeq (sExp (eOwn g_look_at_table (aCons (eVar 0) (aNil)))) (sSeq (sIf (tC2 cNe (eCall caLen (aCons (eVar 1) (aNil))) (eCall caLen (aCons (eVar 0) (aNil)))) (sRaise 7) (sNil)) (sSeq (sAsgF 2 (eOwn g_determinant (aCons (eVar 0) (aNil)))) (sSeq (sIf (tC2 cEq (eVar 2) (eC (.int 0))) (sRaise 8) (sNil)) (sSeq (sAsg 3 (eLst (aNil))) (sSeq (sFor (iRg1 (aCons (eCall caLen (aCons (eVar 0) (aNil))) (aNil))) (gtN 4) f_solved_l1) (sRet (eCall caTuple (aCons (eVar 3) (aNil)))))))))
def g_solved : List D → Res D := runF f_solved 8
end Lw
end

namespace Lw
open DL L2 TL
theorem sm_lt {x : Int} {k : Nat} (h : x.natAbs < 2 ^ k) (hk : k ≤ 9000) : Sm x := by
  unfold Sm
  by_cases c : x.natAbs = 0
  · rw [c]; simp
  · have := (Nat.log2_lt c).mpr h
    omega
def TT (o : D) (L : List (List Int)) : Prop := o = .ls (L.map dR) ∨ o = .tp (L.map dT)
theorem look_tab_T {n : Nat} {L : List (List Int)} (h : Sq n L) : g_look_at_table [.tp (L.map dT)] = .ok .non := by
  have key : ∀ (M : List (List Int)) (y1 : D), (∀ l ∈ M, l.length = n) → ∃ z1, forL (gtN 1) f_look_at_table_l1 (M.map dT) [.tp (L.map dT), y1] = .nx [.tp (L.map dT), z1] := by
    intro M
    induction M with
    | nil => exact fun y1 _ => ⟨y1, by simp [forL]⟩
    | cons l M ih =>
      intro y1 hM
      obtain ⟨z1, e⟩ := ih (dT l) fun x hx => hM x (List.mem_cons_of_mem _ hx)
      refine ⟨z1, ?_⟩
      rw [← e]
      have hl := hM l (List.mem_cons_self ..)
      have hL := h.len
      simp [forL, f_look_at_table_l1, dT, hl, hL]
  obtain ⟨z1, e⟩ := key L .un h.row
  simp [g_look_at_table, runF, f_look_at_table, e]
theorem determinant_T {n : Nat} (hn : n ≤ 1000) {L : List (List Int)} (hL : Sq n L) (B : Nat) (hB1 : 1 ≤ B) (hB : Dt.fac n * B ^ n < 2 ^ 9000) (hA : ∀ r c, r < n → c < n → (ent L r c).natAbs ≤ B) :
    g_determinant [.tp (L.map dT)] = .ok (.int (Dt.det n 0 (ent L))) := by
  have lt := look_tab_T hL
  have r1 := bR L
  have hr : rgOk (n : Int) := rgOk_of (by omega) (by omega)
  have hl := hL.len
  have bl : L.length ≤ lim := by rw [hl, lim_eq]; omega
  have bn : n ≤ lim := by rw [lim_eq]; omega
  have lc : ∀ x1 x2 x3 x4 x5 : D, lcL (gtN 6) tYesG f_determinant_c1 [.tp (L.map dT), x1, x2, x3, x4, x5, .un] (L.map dT) = .ok (L.map fun l => .ol (l.map D.int)) := fun x1 x2 x3 x4 x5 => by
    refine lcL_mapN _ fun l hl' => ?_
    have : l.length ≤ lim := by rw [hL.row l hl', lim_eq]; omega
    simp [f_determinant_c1, dT, this]
  obtain ⟨f1, f2⟩ := fO L
  unfold dO' at f1 f2
  rcases det_loop (.tp (L.map dT)) hn B hB1 hB n 0 L (ent L) (ent L) 1 1 .un .un (by omega) hL (Dt.bar_start n (ent L)) hA (fun _ _ _ _ _ _ => rfl) with ⟨L', s', a', z4, z5, e, h1, h2⟩ | ⟨e, h1⟩
  · rw [h1]
    have om : opMul (.int s') (.int a') = some (.int (s' * a')) := by
      rw [opMul_eq, if_pos]
      simp only [mulOk]
      left; left
      rcases h2 with h2 | h2 <;> rw [h2] <;> decide
    simp only [Int.natCast_zero, Int.cast_ofNat_Int] at e
    simp [g_determinant, runF, f_determinant, lt, lc, f1, f2, bn, r1, hl, hr, e, om]
  · rw [h1]
    simp only [Int.natCast_zero, Int.cast_ofNat_Int] at e
    simp [g_determinant, runF, f_determinant, lt, lc, f1, f2, bn, r1, hl, hr, e]
theorem det_TT {n : Nat} (hn : n ≤ 1000) {L : List (List Int)} (hL : Sq n L) (B : Nat) (hB1 : 1 ≤ B) (hB : Dt.fac n * B ^ n < 2 ^ 9000) (hA : ∀ r c, r < n → c < n → (ent L r c).natAbs ≤ B) {o : D} (ho : TT o L) :
    g_determinant [o] = .ok (.int (Dt.det n 0 (ent L))) := by
  rcases ho with rfl | rfl
  · exact determinant_ok hn hL B hB1 hB hA
  · exact determinant_T hn hL B hB1 hB hA
theorem gI_absB (a b : Int) : gI a (b.natAbs : Int) = gI a b := by unfold gI; simp [Int.gcd]
theorem gI_pos' (a b : Int) (h : b ≠ 0) : 0 < gI a b := by
  unfold gI
  have := Int.gcd_pos_of_ne_zero_right a h
  omega
theorem gI_dvdL (a b : Int) : gI a b ∣ a := Int.gcd_dvd_left a b
theorem gI_dvdR (a b : Int) : gI a b ∣ b := Int.gcd_dvd_right a b
theorem common_part_ok (a b : Int) (hl : b.natAbs.log2 < 9000) : g_common_part [.int a, .int b] = .ok (.int (gI a b)) := by
  have h := gcd_while (c := f_common_part_l1t) (f := f_common_part_l1) (fun x y => [.int x, .int y]) (fun x y hy => by
      have : decide (0 < y) = decide (y ≠ 0) := by
        rw [Bool.eq_iff_iff, decide_eq_true_eq, decide_eq_true_eq]; omega
      simp only [f_common_part_l1t, tC2_, eVar_, eC_, gv, List.getElem?_cons_succ, List.getElem?_cons_zero, Res.bind_ok, brw_int, opd_int, cGt_int, Res.of, this]) (fun x y hy => by simp [f_common_part_l1, hy]) (b.natAbs.log2 + 1) fuel a.natAbs b.natAbs (by omega) (by omega) (by
        have := lt_pow (b.natAbs : Int) (by omega)
        simpa using this) (by have := fuel_big; omega)
  rw [gI_abs, gI_absB] at h
  have ea : (if a < 0 then -a else a) = (a.natAbs : Int) := by split <;> omega
  have eb : (if b < 0 then -b else b) = (b.natAbs : Int) := by split <;> omega
  simp [g_common_part, runF, f_common_part, caAbs_eq, ea, eb, h]
def frI (t b : Int) : Int × Int := if b < 0 then (-(t / gI t b), -(b / gI t b)) else (t / gI t b, b / gI t b)
theorem fdiv_neg' {g q : Int} (hg : 0 < g) : (g * q).fdiv (-g) = -q := by
  have : g * q = (-g) * (-q) := by rw [Int.neg_mul_neg]
  rw [this, Int.mul_fdiv_cancel_left _ (by omega)]
theorem as_fraction_ok (t b : Int) (hb : b ≠ 0) (hl : b.natAbs.log2 < 9000) : g_as_fraction [.int t, .int b] = .ok (dP (frI t b)) := by
  have h := common_part_ok t b hl
  have gp := gI_pos' t b hb
  have dl := gI_dvdL t b
  have dr := gI_dvdR t b
  have gl : (gI t b).natAbs ≤ b.natAbs := Nat.le_of_dvd (by omega) (Int.natAbs_dvd_natAbs.mpr dr)
  have lg : (gI t b).natAbs.log2 < 9000 := by
    have := log2_mono gl
    omega
  unfold frI
  by_cases c : b < 0
  · rw [if_pos c]
    have d1 : ∀ x, gI t b ∣ x → opDiv (.int x) (.int (-(gI t b))) = some (.int (-(x / gI t b))) := fun x hx => by
      obtain ⟨q, rfl⟩ := hx
      rw [opDiv_eq, if_pos ⟨by omega, .inr (by rw [Int.natAbs_neg]; exact lg)⟩, if_neg (by omega)]
      generalize gI t b = g at *
      rw [fdiv_neg' gp, Int.mul_ediv_cancel_left _ (by omega)]
    have e1 := d1 t dl
    have e2 := d1 b dr
    generalize gI t b = g at *
    simp [g_as_fraction, runF, f_as_fraction, h, c, e1, e2]
  · rw [if_neg c]
    have d1 : ∀ x, opDiv (.int x) (.int (gI t b)) = some (.int (x / gI t b)) := fun x => by
      rw [opDiv_eq, if_pos ⟨by omega, .inr lg⟩, if_pos gp]
    have e1 := d1 t
    have e2 := d1 b
    generalize gI t b = g at *
    simp [g_as_fraction, runF, f_as_fraction, h, c, e1, e2]
theorem frI_spec (t b : Int) (hb : b ≠ 0) : 0 < (frI t b).2 ∧ Int.gcd (frI t b).1 (frI t b).2 = 1 ∧ (frI t b).1 * b = t * (frI t b).2 := by
  have gp := gI_pos' t b hb
  obtain ⟨x, hx⟩ := gI_dvdL t b
  obtain ⟨y, hy⟩ := gI_dvdR t b
  have ex : t / gI t b = x := by
    have : gI t b * x / gI t b = x := Int.mul_ediv_cancel_left _ (by omega)
    rw [← hx] at this; exact this
  have ey : b / gI t b = y := by
    have : gI t b * y / gI t b = y := Int.mul_ediv_cancel_left _ (by omega)
    rw [← hy] at this; exact this
  have hg : Int.gcd x y = 1 := by
    have h1 : Int.gcd t b = (gI t b).natAbs * Int.gcd x y := by
      rw [← Int.gcd_mul_left, ← hx, ← hy]
    have h2 : (gI t b).natAbs = Int.gcd t b := by unfold gI; simp
    rw [h2] at h1
    have h3 : 0 < Int.gcd t b := by unfold gI at gp; omega
    have : Int.gcd t b * 1 = Int.gcd t b * Int.gcd x y := by omega
    exact (Nat.eq_of_mul_eq_mul_left h3 this).symm
  have cr : x * b = t * y := by
    have e1 : x * b = x * (gI t b * y) := by rw [← hy]
    have e2 : t * y = gI t b * x * y := by rw [← hx]
    rw [e1, e2, Int.mul_left_comm, Int.mul_assoc]
  have y0 : y ≠ 0 := fun z => by rw [z, Int.mul_zero] at hy; exact hb hy
  unfold frI
  rw [ex, ey]
  by_cases c : b < 0
  · rw [if_pos c]
    refine ⟨?_, by simpa using hg, by dsimp only; rw [Int.neg_mul, Int.mul_neg, cr]⟩
    dsimp only
    rcases Int.lt_or_gt_of_ne y0 with h | h
    · omega
    · have := Int.mul_pos gp h
      omega
  · rw [if_neg c]
    refine ⟨?_, hg, cr⟩
    dsimp only
    rcases Int.lt_or_gt_of_ne y0 with h | h
    · have := Int.mul_neg_of_pos_of_neg gp h
      omega
    · exact h
theorem zipD_rows {n : Nat} (A : Dt.Mx) (b : Nat → Int) (dr : List Int → D) : zipD ((rows n A).map dr) ((rwN n b).map D.int) = (List.range n).map fun r => .tp [dr (rwN n (A r)), .int (b r)] := by
  unfold rows rwN
  rw [List.map_map, List.map_map]
  have : ∀ l : List Nat, zipD (l.map (dr ∘ fun r => (List.range n).map (A r))) (l.map (D.int ∘ b)) = l.map fun r => .tp [dr ((List.range n).map (A r)), .int (b r)] := fun l => by
    induction l with
    | nil => rfl
    | cons x l ih => simp only [List.map_cons, zipD, ih]; rfl
  exact this _
theorem rwN_put {n k : Nat} (x : Nat → Int) (v : Int) (hk : k < n) : (rwN n x).take k ++ [v] ++ (rwN n x).drop (k + 1) = rwN n fun j => if j = k then v else x j := by
  apply List.ext_getElem
  · simp [rwN]; omega
  · intro i h1 h2
    simp only [rwN, List.length_map, List.length_range] at h2
    simp only [rwN, List.getElem_map, List.getElem_range]
    by_cases c : i < k
    · rw [List.getElem_append_left (by simp [rwN]; omega), List.getElem_append_left (by simp [rwN]; omega)]
      simp [rwN]
      intro h
      omega
    · by_cases c2 : i = k
      · subst c2
        rw [List.getElem_append_left (by simp [rwN]; omega), List.getElem_append_right (by simp [rwN]; omega)]
        simp
      · rw [List.getElem_append_right (by simp [rwN]; omega)]
        simp only [List.getElem_drop, rwN, List.getElem_map, List.getElem_range]
        rw [if_neg c2]
        congr 1
        simp [rwN]
        omega
theorem rows_updC {n k : Nat} (A : Dt.Mx) (b : Nat → Int) (hk : k < n) : (List.range n).map (fun r => (rwN n (A r)).take k ++ [b r] ++ (rwN n (A r)).drop (k + 1)) = rows n (Dt.updC A k b) := by
  unfold rows
  refine List.map_congr_left fun r _ => ?_
  rw [rwN_put _ _ hk]
  rfl
def fracs (n : Nat) (A : Dt.Mx) (b : Nat → Int) : List (Int × Int) := (List.range n).map fun k => frI (Dt.det n 0 (Dt.updC A k b)) (Dt.det n 0 A)
theorem solved_l1 {n : Nat} (hn : n ≤ 100) (A : Dt.Mx) (b : Nat → Int) (B : Nat) (hB1 : 1 ≤ B) (hB : Dt.fac n * B ^ n < 2 ^ 9000) (hA : Bd n B A) (hb : ∀ r, r < n → (b r).natAbs ≤ B) (h0 : Dt.det n 0 A ≠ 0) {o o2 : D}
    (ho : (o = .ls ((rows n A).map dR) ∧ o2 = .ls ((rwN n b).map D.int)) ∨ (o = .tp ((rows n A).map dT) ∧ o2 = .tp ((rwN n b).map D.int))) : ∀ (m lo : Nat) (y4 y5 : D), lo + m = n →
    ∃ z4 z5, forL (gtN 4) f_solved_l1 (rng lo m) [o, o2, .int (Dt.det n 0 A), .ol (((fracs n A b).take lo).map dP), y4, y5, .un, .un] = .nx [o, o2, .int (Dt.det n 0 A), .ol ((fracs n A b).map dP), z4, z5, .un, .un]
  | 0, lo, y4, y5, h => ⟨y4, y5, by rw [rng_zero, List.take_of_length_le (by simp [fracs]; omega)]; simp [forL]⟩
  | m + 1, lo, y4, y5, h => by
    obtain ⟨z4, z5, ih⟩ := solved_l1 hn A b B hB1 hB hA hb h0 ho m (lo + 1) (.int lo) (.ls ((rows n (Dt.updC A lo b)).map dR)) (by omega)
    refine ⟨z4, z5, ?_⟩
    rw [rng_succ, show ((lo : Int) + 1) = ((lo + 1 : Nat) : Int) by omega, ← ih]
    refine forL_step (g1 := [o, o2, .int (Dt.det n 0 A), .ol (((fracs n A b).take lo).map dP), .int lo, y5, .un, .un]) rfl ?_
    have hlo : lo < n := by omega
    have hU : Bd n B (Dt.updC A lo b) := fun r c hr hc => by
      unfold Dt.updC
      split
      · exact hb r hr
      · exact hA r c hr hc
    have dt := det_rows (by omega) (Dt.updC A lo b) B hB1 hB hU
    have hd : (Dt.det n 0 A).natAbs < 2 ^ 9000 := Nat.lt_of_le_of_lt (Dt.det_abs B fun r j hr _ hj => hA r j hr (by omega)) hB
    have fr := as_fraction_ok (Dt.det n 0 (Dt.updC A lo b)) (Dt.det n 0 A) h0 (sm_lt hd (by omega))
    have lc : ∀ (x5 : D) (dr : List Int → D), dr = dR ∨ dr = dT → lcL (gtT 2 (gtCons (gtN 6) (gtCons (gtN 7) gtNil))) tYesG f_solved_c1 [o, o2, .int (Dt.det n 0 A), .ol (((fracs n A b).take lo).map dP), .int lo, x5, .un, .un] ((List.range n).map fun r => .tp [dr (rwN n (A r)), .int (b r)]) = .ok ((rows n (Dt.updC A lo b)).map dO') := fun x5 dr hdr => by
      rw [← rows_updC A b hlo, List.map_map]
      refine lcL_map _ fun r hr => ?_
      refine ⟨[o, o2, .int (Dt.det n 0 A), .ol (((fracs n A b).take lo).map dP), .int lo, x5, dr (rwN n (A r)), .int (b r)], rfl, ?_⟩
      have c1 := cut_to (rwN n (A r)) (lo : Int) (by omega)
      have c2 := cut_from (rwN n (A r)) ((lo : Int) + 1) (by omega)
      rw [show ((lo : Int)).toNat = lo from rfl] at c1
      rw [show ((lo : Int) + 1).toNat = lo + 1 by omega] at c2
      have rl := rwN_len n (A r)
      have b1 : ((rwN n (A r)).take lo).length ≤ lim := by rw [List.length_take, rl, lim_eq]; omega
      have b2 : ((rwN n (A r)).drop (lo + 1)).length ≤ lim := by rw [List.length_drop, rl, lim_eq]; omega
      have b3 : ((rwN n (A r)).take lo).length + 1 ≤ lim := by rw [List.length_take, rl, lim_eq]; omega
      have b4 : ((rwN n (A r)).take lo).length + 1 + ((rwN n (A r)).drop (lo + 1)).length ≤ lim := by rw [List.length_take, List.length_drop, rl, lim_eq]; omega
      have b4' : ((rwN n (A r)).take lo).length + (1 + ((rwN n (A r)).drop (lo + 1)).length) ≤ lim := by omega
      have b4'' : ((rwN n (A r)).take lo).length + (((rwN n (A r)).drop (lo + 1)).length + 1) ≤ lim := by omega
      have bl : (rwN n (A r)).length ≤ lim := by rw [rl, lim_eq]; omega
      show (f_solved_c1 [o, o2, .int (Dt.det n 0 A), .ol (((fracs n A b).take lo).map dP), .int lo, x5, dr (rwN n (A r)), .int (b r)]).bind kp = .ok (dO' ((rwN n (A r)).take lo ++ [b r] ++ (rwN n (A r)).drop (lo + 1)))
      generalize (rwN n (A r)).take lo = T1 at *
      generalize (rwN n (A r)).drop (lo + 1) = T2 at *
      generalize (lo : Int) = ll at *
      rcases hdr with rfl | rfl <;> simp [f_solved_c1, dR, dT, dO', c1, c2, b1, b2, b3, b4, b4', b4'', bl]
    have zd := zipD_rows (n := n) A b
    obtain ⟨f1, f2⟩ := fO (rows n (Dt.updC A lo b))
    have bf : (((fracs n A b).take lo).map dP).length < lim := by rw [List.length_map, List.length_take, lim_eq]; omega
    have bf' : min lo (fracs n A b).length < lim := by rw [lim_eq]; omega
    have ap : ((fracs n A b).take lo).map dP ++ [dP (frI (Dt.det n 0 (Dt.updC A lo b)) (Dt.det n 0 A))] = ((fracs n A b).take (lo + 1)).map dP := by
      rw [List.take_succ, List.map_append]
      congr 1
      unfold fracs
      rw [List.getElem?_map, List.getElem?_range hlo]
      rfl
    have br : n ≤ lim := by rw [lim_eq]; omega
    have rl := rows_len n A
    have r1 := bR (rows n (Dt.updC A lo b))
    rw [← ap]
    rcases ho with ⟨rfl, rfl⟩ | ⟨rfl, rfl⟩
    · have zz := zd dR
      have lc := lc y5 dR (.inl rfl)
      generalize (lo : Int) = ll at *
      generalize Dt.det n 0 A = DA at *
      generalize Dt.det n 0 (Dt.updC A lo b) = DU at *
      generalize ((fracs n A b).take lo).map dP = T at *
      simp [f_solved_l1, zz, lc, f1, f2, br, rl, r1, dt, fr, bf, dP]
    · have zz := zd dT
      have lc := lc y5 dT (.inr rfl)
      generalize (lo : Int) = ll at *
      generalize Dt.det n 0 A = DA at *
      generalize Dt.det n 0 (Dt.updC A lo b) = DU at *
      generalize ((fracs n A b).take lo).map dP = T at *
      simp [f_solved_l1, zz, lc, f1, f2, br, rl, r1, dt, fr, bf, dP]
theorem solved_ok {n : Nat} (hn : n ≤ 100) (A : Dt.Mx) (b : Nat → Int) (B : Nat) (hB1 : 1 ≤ B) (hB : Dt.fac n * B ^ n < 2 ^ 9000) (hA : Bd n B A) (hb : ∀ r, r < n → (b r).natAbs ≤ B) {o o2 : D}
    (ho : (o = .ls ((rows n A).map dR) ∧ o2 = .ls ((rwN n b).map D.int)) ∨ (o = .tp ((rows n A).map dT) ∧ o2 = .tp ((rwN n b).map D.int))) :
    g_solved [o, o2] = if Dt.det n 0 A = 0 then .xc 8 else .ok (.tp ((fracs n A b).map dP)) := by
  have dt := det_TT (o := o) (by omega) (rows_sq n A) B hB1 hB (fun r c hr hc => by rw [rows_ent A hr hc]; exact hA r c hr hc) (by rcases ho with h | h; exact .inl h.1; exact .inr h.1)
  rw [rows_det] at dt
  have lk : g_look_at_table [o] = .ok .non := by
    rcases ho with h | h
    · rw [h.1]; exact look_tab_ok (rows_sq n A)
    · rw [h.1]; exact look_tab_T (rows_sq n A)
  have rl := rows_len n A
  have bl := rwN_len n b
  have hr : rgOk (n : Int) := rgOk_of (by omega) (by omega)
  have l100 : (fracs n A b).length ≤ lim := by unfold fracs; rw [List.length_map, List.length_range, lim_eq]; omega
  have bP := brws_P (fracs n A b)
  by_cases c : Dt.det n 0 A = 0
  · rw [if_pos c]
    rw [c] at dt
    rcases ho with ⟨rfl, rfl⟩ | ⟨rfl, rfl⟩ <;> simp [g_solved, runF, f_solved, lk, rl, bl, dt]
  · rw [if_neg c]
    obtain ⟨z4, z5, e⟩ := solved_l1 hn A b B hB1 hB hA hb c ho n 0 .un .un (by omega)
    simp only [List.take_zero, List.map_nil, Int.natCast_zero, Int.cast_ofNat_Int] at e
    generalize fracs n A b = FF at *
    generalize Dt.det n 0 A = DA at *
    rcases ho with ⟨rfl, rfl⟩ | ⟨rfl, rfl⟩ <;> simp [g_solved, runF, f_solved, lk, rl, bl, dt, c, hr, e, l100]
end Lw

noncomputable section
namespace Lw
open DL
end Lw
end

noncomputable section
namespace Lw
open DL
end Lw
end

noncomputable section
namespace Lw
open DL
def f_powers_of_l1 : Env → Out := sApp 2 (eBin opMul (eBin opIx (eVar 2) (eUn opNeg (eC (.int 1)))) (eVar 0))
def f_powers_of_l1t : Env → Res Bool := tC2 cLt (eCall caLen (aCons (eVar 2) (aNil))) (eVar 1)
def f_powers_of : Env → Out := sSeq (sAsg 2 (eLst (aConsO (eC (.int 1)) (aNil)))) (sSeq (sWhile f_powers_of_l1t f_powers_of_l1) (sRetV 2))
def g_powers_of : List D → Res D := runF f_powers_of 3
def f_factors_of_c1 : Env → Res D := eOwn g_powers_of (aCons (eVar 2) (aCons (eCall caLen (aCons (eVar 0) (aNil))) (aNil)))
def f_factors_of_c2 : Env → Res D := eBin opDiv (eVar 3) (eVar 4)
def f_factors_of : Env → Out := sSeq (sAsgF 1 (eLc (iRg1 (aCons (eCall caLen (aCons (eVar 0) (aNil))) (aNil))) [2] (gtN 2) (tYesG) f_factors_of_c1)) (sRet (eLc (iSeq (eOwn g_solved (aCons (eVar 1) (aCons (eVar 0) (aNil))))) [3, 4] (gtT 2 (gtCons (gtN 3) (gtCons (gtN 4) (gtNil)))) (tYesG) f_factors_of_c2))
def g_factors_of : List D → Res D := runF f_factors_of 5
end Lw
end

namespace Dt
def pw (x : Nat → Int) : Mx := fun r k => x k ^ r
theorem pw_rows (n : Nat) (x : Nat → Int) : ∀ d m, m + d = n + 1 → 1 ≤ m → det (n + 1) 0 (fun r k => if m ≤ r then pw x r k - x 0 * pw x (r - 1) k else pw x r k) = det (n + 1) 0 (pw x)
  | 0, m, h, _ => det_congr fun r j hr _ _ => by rw [if_neg (by omega)]
  | d + 1, m, h, h1 => by
    have ih := pw_rows n x d (m + 1) (by omega) (by omega)
    rw [← ih, ← det_op (n := n + 1) (c := 0) (r := m - 1) (s := m) (fun r k => if m + 1 ≤ r then pw x r k - x 0 * pw x (r - 1) k else pw x r k) (by omega) (by omega) (by omega) (-(x 0))]
    refine det_congr fun r j hr _ _ => ?_
    unfold upd
    by_cases q : r = m
    · subst q
      rw [if_pos (Nat.le_refl _), if_pos rfl, if_neg (by omega), if_neg (by omega), Int.neg_mul, Int.sub_eq_add_neg]
    · rw [if_neg q]
      by_cases z : m ≤ r
      · rw [if_pos z]
        exact (if_pos (show m + 1 ≤ r by omega)).symm
      · rw [if_neg z]
        exact (if_neg (show ¬ m + 1 ≤ r by omega)).symm
theorem pw_step (n : Nat) (x : Nat → Int) : det (n + 1) 0 (pw x) = pr n (fun j => x (j + 1) - x 0) * det n 0 (pw fun j => x (j + 1)) := by
  rw [← pw_rows n x n 1 (by omega) (Nat.le_refl 1)]
  rw [det_head (fun r h1 h2 => ?_)]
  · rw [if_neg (by omega)]
    have e0 : pw x 0 0 = 1 := by unfold pw; exact Int.pow_zero _
    rw [e0, Int.one_mul, det_shift, ← det_tr, ← det_tr n (pw fun j => x (j + 1)), ← det_scale]
    refine det_congr fun r j _ _ _ => ?_
    unfold tr
    dsimp only
    rw [if_pos (by omega)]
    unfold pw
    rw [show j + 1 - 1 = j by omega, Int.pow_succ, Int.sub_mul]
    rw [Int.mul_comm (x (r + 1) ^ j)]
  · rw [if_pos (show 1 ≤ r from h1)]
    unfold pw
    rw [show r = (r - 1) + 1 by omega, Int.pow_succ, show r - 1 + 1 - 1 = r - 1 by omega, Int.mul_comm]
    omega
theorem pr_ne : ∀ (n : Nat) (w : Nat → Int), (∀ i, i < n → w i ≠ 0) → pr n w ≠ 0
  | 0, _, _ => by unfold pr; omega
  | n + 1, w, h => by
    unfold pr
    exact Int.mul_ne_zero (pr_ne n w fun i hi => h i (by omega)) (h n (by omega))
theorem pw_ne : ∀ (n : Nat) (x : Nat → Int), (∀ i j, i < n → j < n → x i = x j → i = j) → det n 0 (pw x) ≠ 0
  | 0, _, _ => by unfold det; omega
  | n + 1, x, h => by
    rw [pw_step]
    refine Int.mul_ne_zero (pr_ne n _ fun i hi z => ?_) (pw_ne n _ fun i j hi hj e => ?_)
    · have := h (i + 1) 0 (by omega) (by omega) (by omega)
      omega
    · have := h (i + 1) (j + 1) (by omega) (by omega) e
      omega
def vd : Mx := fun r k => (r : Int) ^ k
theorem vd_ne (n : Nat) : det n 0 vd ≠ 0 := by
  have : vd = tr (pw fun k => (k : Int)) := rfl
  rw [this, det_tr]
  exact pw_ne n _ fun i j _ _ e => by omega
theorem solve_at {n : Nat} (A : Mx) (N b : Nat → Int) (hb : ∀ r, r < n → b r = sm n fun k => N k * A r k) {k : Nat} (hk : k < n) : det n 0 (updC A k b) = N k * det n 0 A := by
  have e : det n 0 (updC A k b) = det n 0 (updC A k fun r => sm n fun i => N i * A r i) := det_congr fun r j hr _ _ => by
    unfold updC
    rw [hb r hr]
  rw [e, det_updC_sum A hk N (fun i r => A r i) n, sm_one hk fun i hi hn => by rw [det_updC_same A hk hi (fun z => hn z.symm), Int.mul_zero]]
  rw [updC_self]
end Dt
noncomputable section
namespace Lw
open DL L2
theorem frI_mul {N d : Int} (hd : d ≠ 0) : 0 < (frI (N * d) d).2 ∧ (frI (N * d) d).1 = N * (frI (N * d) d).2 := by
  obtain ⟨h1, _, h3⟩ := frI_spec (N * d) d hd
  refine ⟨h1, Int.eq_of_mul_eq_mul_right hd ?_⟩
  rw [h3]
  ac_rfl
theorem atI_neg1 {α : Type} (l : List α) (a : α) : atI (l ++ [a]) (-1) = some a := by
  unfold atI ixN
  have h : (1 : Int) ≤ (l.length : Int) + 1 := by omega
  have e : (-1 + ((l.length : Int) + 1)).toNat = l.length := by omega
  simp [h, e]
theorem powers_while (t : Int) (ht : t.natAbs < 2 ^ 60) (count : Nat) (hc : count ≤ 100) : ∀ (d m : Nat) (n : Nat), 1 ≤ m → (m + d = count ∨ (d = 0 ∧ count ≤ m)) → m ≤ 100 → d + 1 ≤ n →
    whileN f_powers_of_l1t f_powers_of_l1 n [.int t, .int count, .ol ((rwN m fun k => t ^ k).map D.int)] = .nx [.int t, .int count, .ol ((rwN (m + d) fun k => t ^ k).map D.int)] := by
  intro d
  induction d with
  | zero =>
    intro m n h1 h2 h3 hn
    obtain ⟨n, rfl⟩ : ∃ k, n = k + 1 := ⟨n - 1, by omega⟩
    rw [whileN_succ]
    have c : ¬ (m : Int) < count := by omega
    simp [f_powers_of_l1t, rwN_len, c]
  | succ d ih =>
    intro m n h1 h2 h3 hn
    obtain ⟨n, rfl⟩ : ∃ k, n = k + 1 := ⟨n - 1, by omega⟩
    rw [whileN_succ]
    have c : (m : Int) < count := by omega
    have ih := ih (m + 1) n (by omega) (by omega) (by omega) (by omega)
    obtain ⟨k, rfl⟩ : ∃ k, m = k + 1 := ⟨m - 1, by omega⟩
    have e1 : rwN (k + 1) (fun k => t ^ k) = rwN k (fun k => t ^ k) ++ [t ^ k] := by unfold rwN; rw [List.range_succ, List.map_append]; rfl
    have e2 : rwN (k + 1 + 1) (fun k => t ^ k) = rwN (k + 1) (fun k => t ^ k) ++ [t ^ (k + 1)] := by unfold rwN; rw [List.range_succ, List.map_append]; rfl
    have at1 : atI ((rwN (k + 1) fun k => t ^ k).map D.int) (-1) = some (.int (t ^ k)) := by rw [e1, List.map_append]; exact atI_neg1 _ _
    have mu : opMul (.int (t ^ k)) (.int t) = some (.int (t ^ (k + 1))) := by
      rw [opMul_r (by omega) (by omega), Int.pow_succ]
    have b1 : (rwN (k + 1) fun k => t ^ k).length < lim := by rw [rwN_len, lim_eq]; omega
    have b2 : k + 1 < lim := by rw [lim_eq]; omega
    have st : f_powers_of_l1 [.int t, .int count, .ol ((rwN (k + 1) fun k => t ^ k).map D.int)] = .nx [.int t, .int count, .ol ((rwN (k + 1 + 1) fun k => t ^ k).map D.int)] := by
      rw [e2, List.map_append]
      generalize (rwN (k + 1) fun k => t ^ k) = L at at1 b1
      have at2 : (atI L (-1)).map D.int = some (.int (t ^ k)) := by rw [← at1, DL.atI_map]
      simp [f_powers_of_l1, at2, mu, b1]
    have tt : f_powers_of_l1t [.int t, .int count, .ol ((rwN (k + 1) fun k => t ^ k).map D.int)] = .ok true := by
      have : ((k : Int) + 1) < count := by omega
      simp [f_powers_of_l1t, rwN_len, this]
    rw [tt, Res.st_ok, if_pos rfl, st]
    rw [show k + 1 + (d + 1) = k + 1 + 1 + d by omega]
    exact ih
theorem powers_ok (t : Int) (ht : t.natAbs < 2 ^ 60) (count : Nat) (hc : count ≤ 100) (h1 : 1 ≤ count) : g_powers_of [.int t, .int count] = .ok (.ol ((rwN count fun k => t ^ k).map D.int)) := by
  have h := powers_while t ht count hc (count - 1) 1 fuel (by omega) (by omega) (by omega) (by have := fuel_big; omega)
  rw [show 1 + (count - 1) = count by omega] at h
  have e1 : (rwN 1 fun k => t ^ k).map D.int = [.int 1] := by unfold rwN; simp [List.range_succ]
  rw [e1] at h
  have b1 : 1 ≤ lim := by rw [lim_eq]; omega
  simp [g_powers_of, runF, f_powers_of, b1, h]
theorem frI_int7 {N d : Int} (hd : d ≠ 0) : frI (N * d) d = (N, 1) := by
  obtain ⟨h1, h2⟩ := frI_mul (N := N) hd
  obtain ⟨_, h3, _⟩ := frI_spec (N * d) d hd
  rw [h2] at h3
  have : (frI (N * d) d).2 ∣ 1 := by
    have h4 : (frI (N * d) d).2 ∣ (Int.gcd (N * (frI (N * d) d).2) (frI (N * d) d).2 : Int) := Int.dvd_coe_gcd (Int.dvd_mul_left _ _) (Int.dvd_refl _)
    rw [h3] at h4
    exact h4
  have e : (frI (N * d) d).2 = 1 := Int.eq_one_of_dvd_one (by omega) this
  rw [e, Int.mul_one] at h2
  exact Prod.ext h2 e
theorem vd_bd {n : Nat} (hn : n ≤ 14) : Bd n (2 ^ 300) Dt.vd := fun r c hr hc => by
  unfold Dt.vd
  rw [Int.natAbs_pow, Int.natAbs_natCast]
  refine Nat.le_trans (Nat.pow_le_pow_left (show r ≤ 16 by omega) c) (Nat.le_trans (Nat.pow_le_pow_right (by omega) (show c ≤ 14 by omega)) (by decide +kernel))
theorem fac300 : Dt.fac 14 * (2 ^ 300) ^ 14 < 2 ^ 9000 := by decide +kernel
theorem factors_ok {n : Nat} (hn1 : 1 ≤ n) (hn : n ≤ 14) (N b : Nat → Int) (hb : ∀ r, r < n → b r = Dt.sm n fun k => N k * (r : Int) ^ k) (hB : ∀ r, r < n → (b r).natAbs ≤ 2 ^ 300) : g_factors_of [.ls ((rwN n b).map D.int)] = .ok (.ol ((rwN n N).map D.int)) := by
  have so := solved_ok (n := n) (by omega) Dt.vd b (2 ^ 300) (by decide +kernel) (Nat.lt_of_le_of_lt (fac_mono (2 ^ 300) (by decide +kernel) hn) fac300) (vd_bd hn) hB (o := .ls ((rows n Dt.vd).map dR)) (o2 := .ls ((rwN n b).map D.int)) (.inl ⟨rfl, rfl⟩)
  rw [if_neg (Dt.vd_ne n)] at so
  have hf : fracs n Dt.vd b = (List.range n).map fun k => (N k, 1) := by
    unfold fracs
    refine List.map_congr_left fun k hk => ?_
    rw [Dt.solve_at Dt.vd N b hb (List.mem_range.mp hk)]
    exact frI_int7 (Dt.vd_ne n)
  rw [hf] at so
  have hr : rgOk n := rgOk_of (by omega) (by omega)
  have l1 : (rwN n b).length = n := rwN_len n b
  have b1 : n ≤ lim := by rw [lim_eq]; omega
  have b2 : (rng 0 n).length ≤ lim := by rw [rng_len]; exact b1
  have x1 : lcL (gtN 2) tYesG f_factors_of_c1 [.ls ((rwN n b).map D.int), .un, .un, .un, .un] (rng 0 n) = .ok ((rows n Dt.vd).map dO') := by
    have e1 : rng 0 n = (List.range n).map fun k => D.int ((k : Nat) : Int) := by rw [rng_map, List.map_map]; exact List.map_congr_left fun k _ => by simp
    have e2 : (rows n Dt.vd).map dO' = (List.range n).map fun k : Nat => dO' (rwN n fun j => ((k : Nat) : Int) ^ j) := by unfold rows; rw [List.map_map]; rfl
    rw [e1, e2]
    refine lcL_mapN _ fun k hk => ?_
    have hk := List.mem_range.mp hk
    have pk := powers_ok (k : Int) (by have : k < 2 ^ 60 := Nat.lt_of_lt_of_le (show k < 14 by omega) (by decide); omega) n (by omega) hn1
    simp [f_factors_of_c1, l1, pk, dO']
  have x2 : lcL (gtT 2 (gtCons (gtN 3) (gtCons (gtN 4) (gtNil)))) tYesG f_factors_of_c2 [.ls ((rwN n b).map D.int), .ls ((rows n Dt.vd).map dR), .un, .un, .un] ((List.range n).map fun k => dP (N k, (1 : Int))) = .ok ((List.range n).map fun k => D.int (N k)) :=
    lcL_map (f := fun k : Nat => dP (N k, (1 : Int))) (h := fun k : Nat => D.int (N k)) (List.range n) fun k hk => ⟨[.ls ((rwN n b).map D.int), .ls ((rows n Dt.vd).map dR), .un, .int (N k), .int 1], rfl, by simp [f_factors_of_c2]⟩
  have er : (rwN n N).map D.int = (List.range n).map fun k => D.int (N k) := by unfold rwN; rw [List.map_map]; rfl
  have ef : ((List.range n).map fun k => (N k, (1 : Int))).map dP = (List.range n).map fun k => dP (N k, (1 : Int)) := by rw [List.map_map]; rfl
  rw [ef] at so
  rw [er]
  have fz := fO (rows n Dt.vd)
  simp only [dP] at x2 so
  simp [g_factors_of, runF, f_factors_of, l1, hr, b1, b2, x1, fz, so, x2]
end Lw
end

namespace Dw
open Dt
abbrev WE := Ed × Int
def Rw (m : Nat → Nat) : List WE → Mx
  | [], _, _ => 0
  | e :: es, i, j => e.2 * (Xm m e.1 i * xv e.1 j) + Rw m es i j
def Mat (m : Nat → Nat) (es : List WE) : Mx := fun i j => if m i = i then Rw m es i j else iv (j = i) - iv (j = m i)
def D (n : Nat) (m : Nat → Nat) (es : List WE) : Int := det n 0 (Mat m es)
theorem D_loop {n : Nat} {m : Nat → Nat} {e : WE} (es : List WE) (h : m e.1.1 = m e.1.2) : D n m (e :: es) = D n m es := by
  unfold D
  refine det_congr fun r j _ _ _ => ?_
  unfold Mat
  have : Xm m e.1 r = 0 := by unfold Xm; rw [h]; omega
  simp only [Rw, this, Int.zero_mul, Int.mul_zero, Int.zero_add]
theorem Rw_swap (m : Nat → Nat) (x y : Nat) (w : Int) (es : List WE) : Rw m (((x, y), w) :: es) = Rw m (((y, x), w) :: es) := by
  funext i j
  have h1 : Xm m (x, y) i = - Xm m (y, x) i := by unfold Xm; dsimp only; omega
  have h2 : xv (x, y) j = - xv (y, x) j := by unfold xv; dsimp only; omega
  simp only [Rw, h1, h2, Int.neg_mul_neg]
theorem D_swap (n : Nat) (m : Nat → Nat) (x y : Nat) (w : Int) (es : List WE) : D n m (((x, y), w) :: es) = D n m (((y, x), w) :: es) := by
  unfold D Mat; rw [Rw_swap]
theorem Rw_mrg_b (m : Nat → Nat) {a b : Nat} (hn : a ≠ b) : ∀ (es : List WE) (j : Nat), Rw (mrg a b m) es b j = Rw m es b j + Rw m es a j
  | [], j => rfl
  | e :: es, j => by
    have q : ∀ v, iv (mrg a b m v = b) = iv (m v = b) + iv (m v = a) := fun v => by
      unfold mrg
      by_cases h : m v = a
      · rw [if_pos h, iv_t rfl, iv_t h, iv_f (by rw [h]; exact hn)]; rfl
      · rw [if_neg h, iv_f h]; omega
    have h1 : Xm (mrg a b m) e.1 b = Xm m e.1 b + Xm m e.1 a := by unfold Xm; rw [q, q]; omega
    simp only [Rw, Rw_mrg_b m hn es j, h1, Int.add_mul, Int.mul_add]
    omega
theorem Rw_mrg_o (m : Nat → Nat) {a b i : Nat} (h1 : i ≠ a) (h2 : i ≠ b) : ∀ (es : List WE) (j : Nat), Rw (mrg a b m) es i j = Rw m es i j
  | [], j => rfl
  | e :: es, j => by
    have q : ∀ v, iv (mrg a b m v = i) = iv (m v = i) := fun v => by
      unfold mrg
      by_cases h : m v = a
      · rw [if_pos h, iv_f (fun z => h2 z.symm), iv_f (by rw [h]; exact fun z => h1 z.symm)]
      · rw [if_neg h]
    have h3 : Xm (mrg a b m) e.1 i = Xm m e.1 i := by unfold Xm; rw [q, q]
    simp only [Rw, Rw_mrg_o m h1 h2 es j, h3]
theorem D_step {n : Nat} {m : Nat → Nat} (L : Lab n m) {x y : Nat} (hx : x ≤ n) (hy : y ≤ n) (w : Int) (es : List WE) (hn : m x ≠ m y) (ha : m x ≠ n) : D n m (((x, y), w) :: es) = D n m es + w * D n (mrg (m x) (m y) m) es := by
  have maa := L.id x hx
  have mbb := L.id y hy
  have hxn : x ≠ n := fun z => ha (by rw [z]; exact L.top)
  have la : m x < n := by have := L.le x hx; omega
  have lb := L.le y hy
  have hyb : y ≠ m y → y < n := fun h => by
    rcases Nat.lt_or_ge y n with q | q
    · exact q
    · have : y = n := by omega
      exact absurd (by rw [this]; exact L.top.symm) h
  generalize hma : m x = a at *
  generalize hmb : m y = b at *
  have hba : ¬ b = a := fun z => hn z.symm
  unfold D
  -- the row of b with that of a added
  let C : (Nat → Int) → Mx := fun v i j => if i = a then v j else if i = b then Mat m es b j + Mat m es a j else Mat m es i j
  have hC : ∀ v, C v = upd (C fun _ => 0) a v := fun v => by
    funext i j; show (if i = a then _ else _) = upd _ _ _ _ _
    unfold upd
    by_cases q : i = a
    · rw [if_pos q, if_pos q]
    · rw [if_neg q, if_neg q]; show _ = if i = a then _ else _; rw [if_neg q]
  have s1 : det n 0 (Mat m (((x, y), w) :: es)) = det n 0 (C fun j => w * xv (x, y) j + 1 * Mat m es a j) := by
    rw [← det_ops (Mat m (((x, y), w) :: es)) la (fun i => iv (i = b)) (iv_f hn)]
    refine det_congr fun i j _ _ _ => ?_
    have ra : Mat m (((x, y), w) :: es) a j = w * xv (x, y) j + 1 * Mat m es a j := by
      unfold Mat
      rw [if_pos maa, if_pos maa]
      simp only [Rw, Xm, hma, hmb]
      rw [iv_t trivial, iv_f hba]; (try simp only [Int.sub_zero, Int.zero_sub, Int.sub_self, Int.one_mul, Int.zero_mul, Int.mul_zero, Int.neg_mul, Int.mul_neg]) <;> (try omega)
    by_cases q : i = a
    · subst q
      rw [iv_f hn, ra]
      show _ = if i = i then w * xv (x, y) j + 1 * Mat m es i j else _
      rw [if_pos rfl]; omega
    · show _ = if i = a then _ else _
      rw [if_neg q]
      by_cases q2 : i = b
      · subst q2
        rw [if_pos rfl, iv_t rfl, ra]
        unfold Mat
        rw [if_pos mbb, if_pos mbb]
        simp only [Rw, Xm, hma, hmb]
        rw [iv_t trivial, iv_f hn, if_pos maa]; (try simp only [Int.sub_zero, Int.zero_sub, Int.sub_self, Int.one_mul, Int.zero_mul, Int.mul_zero, Int.neg_mul, Int.mul_neg]) <;> (try omega)
      · rw [if_neg q2, iv_f q2]
        unfold Mat
        by_cases q3 : m i = i
        · rw [if_pos q3, if_pos q3]
          simp only [Rw, Xm, hma, hmb]
          rw [iv_f (fun z => q z.symm), iv_f (fun z => q2 z.symm)]; (try simp only [Int.sub_zero, Int.zero_sub, Int.sub_self, Int.one_mul, Int.zero_mul, Int.mul_zero, Int.neg_mul, Int.mul_neg]) <;> (try omega)
        · rw [if_neg q3, if_neg q3]; omega
  have s2 : det n 0 (C fun j => w * xv (x, y) j + 1 * Mat m es a j) = w * det n 0 (C (xv (x, y))) + 1 * det n 0 (C (Mat m es a)) := by
    rw [hC, det_lin w 1 _ _ _ la, ← hC, ← hC]
  have s3 : det n 0 (C (Mat m es a)) = det n 0 (Mat m es) := by
    rw [← det_ops (Mat m es) la (fun i => iv (i = b)) (iv_f hn)]
    refine det_congr fun i j _ _ _ => ?_
    show (if i = a then _ else _) = _
    by_cases q : i = a
    · subst q; rw [if_pos rfl, iv_f hn]; omega
    · rw [if_neg q]
      by_cases q2 : i = b
      · subst q2; rw [if_pos rfl, iv_t rfl]; omega
      · rw [if_neg q2, iv_f q2]; omega
  let Y : Nat → Int := fun j => iv (j = a) - iv (j = b)
  have s4 : det n 0 (C (xv (x, y))) = det n 0 (C Y) := by
    have cr : ∀ (v : Nat → Int) (i j : Nat), i ≠ a → m i ≠ i → C v i j = iv (j = i) - iv (j = m i) := fun v i j h1 h2 => by
      show (if i = a then _ else if i = b then _ else Mat m es i j) = _
      rw [if_neg h1, if_neg (fun z => h2 (by rw [z]; exact mbb))]
      unfold Mat; rw [if_neg h2]
    have o1 := det_op' (n := n) (c := 0) (r := x) (s := a) (C Y) la (if x = a then 0 else 1) (by
      by_cases q : x = a
      · left; rw [if_pos q]
      · right; exact ⟨by omega, q⟩)
    have e1 : upd (C Y) a (fun j => C Y a j + (if x = a then 0 else 1) * C Y x j) = C (fun j => iv (j = x) - iv (j = b)) := by
      rw [hC (fun j => iv (j = x) - iv (j = b)), hC Y, upd_upd]
      congr 1
      funext j
      rw [← hC Y]
      show (if a = a then Y j else _) + _ = _
      rw [if_pos rfl]
      by_cases q : x = a
      · rw [if_pos q, q]; show iv (j = a) - iv (j = b) + 0 * _ = _; omega
      · rw [if_neg q, cr Y x j q (by rw [hma]; exact fun z => q z.symm), hma]
        show iv (j = a) - iv (j = b) + 1 * _ = _
        omega
    rw [e1] at o1
    rw [← o1]
    have o2 := det_op' (n := n) (c := 0) (r := y) (s := a) (C (fun j => iv (j = x) - iv (j = b))) la (if y = b then 0 else -1) (by
      by_cases q : y = b
      · left; rw [if_pos q]
      · right; exact ⟨hyb q, fun z => hba (by rw [← hmb, z]; exact maa)⟩)
    rw [← o2]
    have e2 : upd (C (fun j => iv (j = x) - iv (j = b))) a (fun j => C (fun j => iv (j = x) - iv (j = b)) a j + (if y = b then 0 else -1) * C (fun j => iv (j = x) - iv (j = b)) y j) = C (xv (x, y)) := by
      rw [hC (xv (x, y)), hC (fun j => iv (j = x) - iv (j = b)), upd_upd]
      congr 1
      funext j
      rw [← hC (fun j => iv (j = x) - iv (j = b))]
      show (if a = a then iv (j = x) - iv (j = b) else _) + _ = iv (j = x) - iv (j = y)
      rw [if_pos rfl]
      by_cases q : y = b
      · rw [if_pos q, q]; omega
      · rw [if_neg q, cr (fun j => iv (j = x) - iv (j = b)) y j (fun z => hba (by rw [← hmb, z]; exact maa)) (by rw [hmb]; exact fun z => q z.symm), hmb]
        omega
    rw [e2]
  have s5 : det n 0 (C Y) = det n 0 (Mat (mrg a b m) es) := by
    rw [← det_ops (C Y) la (fun i => iv (m i = a ∧ i ≠ a)) (iv_f (fun z => z.2 rfl))]
    refine det_congr fun i j _ _ _ => ?_
    have ra : C Y a j = iv (j = a) - iv (j = b) := by show (if a = a then _ else _) = _; rw [if_pos rfl]
    rw [ra]
    show (if i = a then Y j else if i = b then Mat m es b j + Mat m es a j else Mat m es i j) + _ = _
    by_cases q : i = a
    · subst q
      rw [if_pos rfl, iv_f (fun z => z.2 rfl)]
      unfold Mat mrg
      rw [if_pos maa, if_neg hba]
      show iv (j = i) - iv (j = b) + 0 * _ = _
      omega
    · rw [if_neg q]
      by_cases q2 : i = b
      · subst q2
        rw [if_pos rfl, iv_f (by rw [mbb]; exact fun z => hba z.1)]
        have : mrg a i m i = i := by unfold mrg; rw [mbb, if_neg hba]
        unfold Mat
        rw [if_pos this, if_pos mbb, if_pos maa, Rw_mrg_b m hn es j]
        omega
      · rw [if_neg q2]
        by_cases q3 : m i = a
        · rw [iv_t ⟨q3, q⟩]
          have h1 : m i ≠ i := by rw [q3]; exact fun z => q z.symm
          have h2 : mrg a b m i = b := by unfold mrg; rw [if_pos q3]
          unfold Mat
          rw [if_neg h1, h2, if_neg (fun z => q2 z.symm), q3]
          omega
        · rw [iv_f (fun z => q3 z.1)]
          have h2 : mrg a b m i = m i := by unfold mrg; rw [if_neg q3]
          unfold Mat
          rw [h2]
          by_cases q4 : m i = i
          · rw [if_pos q4, if_pos q4, Rw_mrg_o m q q2 es j]; omega
          · rw [if_neg q4, if_neg q4]; omega
  rw [s1, s2, s3, s4, s5]
  omega
theorem D_nil {n : Nat} {m : Nat → Nat} (L : Lab n m) : D n m [] = if ∀ i, i ≤ n → m i = m n then 1 else 0 := by
  have : D n m [] = Dt.D n m [] := rfl
  rw [this, Dt.D_nil L]
end Dw

namespace Lw
open DL L2 TL
def pl : List Int → Int
  | [] => 1
  | a :: l => a * pl l
section
variable {p : Nat} {ts : List (Int × Int)}
end
end Lw

namespace Lw
open DL L2 TL
def tw (x : (Int × Int) × Int) : Dw.WE := (tn x.1, x.2)
section
variable {p : Nat} {ts : List (Int × Int)}
end
end Lw

noncomputable section
namespace Lw
open DL L2
theorem rwN_set {n k : Nat} (f : Nat → Int) (v : Int) : (rwN n f).set k v = rwN n fun j => if j = k then v else f j := by
  unfold rwN
  refine List.ext_getElem (by simp) fun i h1 h2 => ?_
  rw [List.getElem_set]
  simp only [List.getElem_map, List.getElem_range]
  by_cases c : k = i
  · rw [if_pos c, if_pos c.symm]
  · rw [if_neg c, if_neg fun z => c z.symm]
theorem rwN_congr {n : Nat} {f g : Nat → Int} (h : ∀ k, k < n → f k = g k) : rwN n f = rwN n g := by
  unfold rwN
  exact List.map_congr_left fun k hk => h k (List.mem_range.mp hk)
section
variable {p : Nat} {ts : List (Int × Int)}
theorem rwN_succ (n : Nat) (f : Nat → Int) : rwN (n + 1) f = rwN n f ++ [f n] := by unfold rwN; rw [List.range_succ, List.map_append]; rfl
theorem rng0_for {tg : D → Env → Option Env} {b : Env → Out} {lo : Int} {g : Env} : forL tg b (rng lo 0) g = .nx g := by rw [rng_zero]; rfl
theorem rngS_for {tg : D → Env → Option Env} {b : Env → Out} {lo : Int} {n : Nat} {g g1 g2 : Env} {o : Out} (h1 : tg (.int lo) g = some g1) (h2 : b g1 = .nx g2) (h3 : forL tg b (rng (lo + 1) n) g2 = o) : forL tg b (rng lo (n + 1)) g = o := by
  rw [rng_succ]
  exact (forL_step h1 h2).trans h3
theorem calF_bo (L : List Int) : calD g_factors_of [.bo (L.map D.int)] = (g_factors_of [.ls (L.map D.int)]).bind fun d => if flat d = true then .ok d else .bad := by
  simp [calD]
end
end Lw
end

namespace Dt
end Dt

namespace Dt
def uv (m : Nat) : Nat → Int := fun r => iv (r = m)
def Ec (n : Nat) : Nat → Mx → Nat → Int
  | 0, B, k => if k = 0 then det n 0 B else 0
  | m + 1, B, k => Ec n m B k + (if k = 0 then 0 else Ec n m (updC B m (uv m)) (k - 1))
theorem Ec_zero (n : Nat) : ∀ (m : Nat) (B : Mx) (k : Nat), m < k → Ec n m B k = 0
  | 0, B, k, h => if_neg (by omega)
  | m + 1, B, k, h => by
    unfold Ec
    rw [Ec_zero n m B k (by omega), if_neg (by omega), Ec_zero n m _ (k - 1) (by omega)]
    rfl
theorem Ec_0 (n : Nat) : ∀ (m : Nat) (B : Mx), Ec n m B 0 = det n 0 B
  | 0, B => if_pos rfl
  | m + 1, B => by
    unfold Ec
    rw [Ec_0 n m B, if_pos rfl, Int.add_zero]
def tc (m : Nat) (B : Mx) : Mx := fun r j => if j < m then uv j r else B r j
theorem Ec_top (n : Nat) : ∀ (m : Nat) (B : Mx), m ≤ n → Ec n m B m = det n 0 (tc m B)
  | 0, B, _ => (if_pos rfl).trans (det_congr fun r j _ _ _ => (if_neg (by omega)).symm)
  | m + 1, B, h => by
    unfold Ec
    rw [Ec_zero n m B (m + 1) (by omega), if_neg (by omega), Nat.add_sub_cancel, Ec_top n m _ (by omega), Int.zero_add]
    refine det_congr fun r j _ _ _ => ?_
    unfold tc updC
    by_cases c : j < m
    · rw [if_pos c, if_pos (by omega)]
    · rw [if_neg c]
      by_cases d : j = m
      · rw [if_pos d, if_pos (by omega), d]
      · rw [if_neg d, if_neg (by omega)]
theorem Ec_n (n : Nat) (B : Mx) : Ec n n B n = 1 := by
  rw [Ec_top n n B (Nat.le_refl n), ← det_unit n 0, ← det_tr n]
  refine det_congr fun r j hr _ hj => ?_
  unfold tr tc uv
  rw [if_pos hr, Nat.add_zero]
def At (t : Int) (m : Nat) (B : Mx) : Mx := fun r j => if j < m then B r j + t * iv (r = j) else B r j
theorem At_lt {t : Int} {m r j : Nat} {B : Mx} (h : j < m) : At t m B r j = B r j + t * iv (r = j) := if_pos h
theorem At_ge {t : Int} {m r j : Nat} {B : Mx} (h : ¬ j < m) : At t m B r j = B r j := if_neg h
theorem uC_at {A : Mx} {k r : Nat} {b : Nat → Int} : updC A k b r k = b r := if_pos rfl
theorem uC_ne {A : Mx} {k r j : Nat} {b : Nat → Int} (h : j ≠ k) : updC A k b r j = A r j := if_neg h
theorem Ec_poly (n : Nat) (t : Int) : ∀ (m : Nat) (B : Mx), m ≤ n → det n 0 (At t m B) = sm (m + 1) fun k => Ec n m B k * t ^ k
  | 0, B, _ => by
    have e : det n 0 (At t 0 B) = det n 0 B := det_congr fun r j _ _ _ => if_neg (by omega)
    rw [e]
    show _ = sm 0 _ + Ec n 0 B 0 * t ^ 0
    rw [Ec_0, Int.pow_zero, Int.mul_one]
    show _ = (0 : Int) + _
    omega
  | m + 1, B, h => by
    have ih1 := Ec_poly n t m B (by omega)
    have ih2 := Ec_poly n t m (updC B m (uv m)) (by omega)
    have e1 : det n 0 (At t (m + 1) B) = det n 0 (updC (At t m B) m fun r => 1 * B r m + t * uv m r) := det_congr fun r j _ _ _ => by
      by_cases c : j = m
      · subst c
        rw [uC_at, At_lt (by omega), Int.one_mul]
        rfl
      · rw [uC_ne c]
        by_cases d : j < m
        · rw [At_lt d, At_lt (by omega)]
        · rw [At_ge d, At_ge (by omega)]
    have e2 : det n 0 (updC (At t m B) m fun r => B r m) = det n 0 (At t m B) := det_congr fun r j _ _ _ => by
      by_cases c : j = m
      · subst c
        rw [uC_at, At_ge (by omega)]
      · rw [uC_ne c]
    have e3 : det n 0 (updC (At t m B) m (uv m)) = det n 0 (At t m (updC B m (uv m))) := det_congr fun r j _ _ _ => by
      by_cases c : j = m
      · subst c
        rw [uC_at, At_ge (by omega), uC_at]
      · rw [uC_ne c]
        by_cases d : j < m
        · rw [At_lt d, At_lt d, uC_ne c]
        · rw [At_ge d, At_ge d, uC_ne c]
    have l := det_updC_lin (n := n) (k := m) (At t m B) (by omega) 1 t (fun r => B r m) (uv m)
    rw [e1, l, e2, e3, ih1, ih2, Int.one_mul]
    have s1 : (sm (m + 1 + 1) fun k => Ec n (m + 1) B k * t ^ k) = sm (m + 1 + 1) (fun k => Ec n m B k * t ^ k) + sm (m + 1 + 1) (fun k => (if k = 0 then 0 else Ec n m (updC B m (uv m)) (k - 1)) * t ^ k) := by
      rw [← sm_add]
      exact sm_congr fun k _ => by rw [← Int.add_mul]; rfl
    have s2 : sm (m + 1 + 1) (fun k => Ec n m B k * t ^ k) = sm (m + 1) (fun k => Ec n m B k * t ^ k) := by
      show sm (m + 1) _ + Ec n m B (m + 1) * t ^ (m + 1) = _
      rw [Ec_zero n m B (m + 1) (by omega), Int.zero_mul, Int.add_zero]
    have s3 : sm (m + 1 + 1) (fun k => (if k = 0 then 0 else Ec n m (updC B m (uv m)) (k - 1)) * t ^ k) = t * sm (m + 1) fun k => Ec n m (updC B m (uv m)) k * t ^ k := by
      rw [sm_head, if_pos rfl, Int.zero_mul, Int.zero_add, ← sm_mul]
      exact sm_congr fun k _ => by
        rw [if_neg (by omega), Nat.add_sub_cancel, Int.pow_succ]
        ac_rfl
    rw [s1, s2, s3]
end Dt
noncomputable section
namespace Lw
open DL L2
theorem RwW_app (m : Nat → Nat) (i j : Nat) : ∀ a b : List Dw.WE, Dw.Rw m (a ++ b) i j = Dw.Rw m a i j + Dw.Rw m b i j
  | [], b => by simp [Dw.Rw]
  | e :: a, b => by
    simp only [List.cons_append, Dw.Rw, RwW_app m i j a b]
    omega
theorem zip_rep {α : Type} (t : Int) : ∀ l : List α, l.zip (List.replicate l.length t) = l.map fun x => (x, t)
  | [] => rfl
  | a :: l => by rw [List.length_cons, List.replicate_succ, List.zip_cons_cons, zip_rep t l]; rfl
theorem RwW_ones (i j : Nat) : ∀ ts : List (Int × Int), Dw.Rw (fun v => v) ((ts.zip (List.replicate ts.length 1)).map tw) i j = Dt.Rw (fun v => v) (ts.map tn) i j
  | [] => rfl
  | a :: ts => by
    have ih := RwW_ones i j ts
    rw [List.length_cons, List.replicate_succ, List.zip_cons_cons, List.map_cons, List.map_cons]
    unfold Dw.Rw Dt.Rw
    rw [ih]
    show (1 : Int) * _ + _ = _
    rw [Int.one_mul]
    rfl
theorem RwW_rays (p : Nat) (t : Int) {i j : Nat} (hi : i < p) (hj : j < p) : ∀ k, k ≤ p → Dw.Rw (fun v => v) ((List.range k).map fun q => ((q, p), t)) i j = if i < k then t * Dt.iv (i = j) else 0
  | 0, _ => by rw [if_neg (by omega)]; rfl
  | k + 1, h => by
    rw [List.range_succ, List.map_append, RwW_app, RwW_rays p t hi hj k (by omega)]
    have e : Dw.Rw (fun v => v) ([k].map fun q => ((q, p), t)) i j = if i = k then t * Dt.iv (i = j) else 0 := by
      show t * (Dt.Xm (fun v => v) (k, p) i * Dt.xv (k, p) j) + 0 = _
      unfold Dt.Xm Dt.xv Dt.iv
      dsimp only
      rw [if_neg (show ¬ p = i by omega), if_neg (show ¬ j = p by omega)]
      by_cases c : i = k
      · subst c
        rw [if_pos rfl, if_pos rfl]
        by_cases d : j = i
        · rw [if_pos d, if_pos d.symm]; omega
        · rw [if_neg d, if_neg fun z => d z.symm]; omega
      · rw [if_neg (show ¬ k = i from fun z => c z.symm), if_neg c]; simp
    rw [e]
    by_cases c : i = k
    · rw [if_neg (by omega), if_pos c, if_pos (by omega)]; omega
    · rw [if_neg c]
      by_cases d : i < k
      · rw [if_pos d, if_pos (by omega)]; omega
      · rw [if_neg d, if_neg (by omega)]; rfl
section
variable {p : Nat} {ts : List (Int × Int)}
def Lap (ts : List (Int × Int)) : Dt.Mx := Dt.Rw (fun v => v) (ts.map tn)
def frN (p : Nat) (ts : List (Int × Int)) (k : Nat) : Int := Dt.Ec p p (Lap ts) k
theorem frN_p (p : Nat) (ts : List (Int × Int)) : frN p ts p = 1 := Dt.Ec_n p _
theorem frN_poly (p : Nat) (ts : List (Int × Int)) (t : Int) : Dt.det p 0 (Dt.At t p (Lap ts)) = Dt.sm (p + 1) fun k => frN p ts k * t ^ k := Dt.Ec_poly p t p (Lap ts) (Nat.le_refl p)
end
end Lw
end

noncomputable section
namespace Lw
open DL L2
end Lw
end

noncomputable section
namespace Dt
open DL
structure Kept (n : Nat) (u v s : Nat → Nat) (κ : Nat) : Prop where
  uv : ∀ i j, i ≤ n → j ≤ n → u i = u j → v i = v j
  us : ∀ i j, i ≤ n → j ≤ n → u i = u j → s i = s j
  su : ∀ i j, i ≤ n → j ≤ n → s i = s j → v i = v j → u i = u j
  ex : ∀ i, i ≤ n → ∃ j, j ≤ n ∧ v i = v j ∧ s j = κ
  ot : ∀ i j, i ≤ n → j ≤ n → s i = s j → s i ≠ κ → u i = u j
theorem Kept.mrg {n : Nat} {u v s : Nat → Nat} {κ x y : Nat} (h : Kept n u v s κ) (hx : x ≤ n) (hy : y ≤ n) (hv : v x = v y) (hs : s x ≠ s y) : Kept n (mrg (u x) (u y) u) v (mrg (s x) (s y) s) (if κ = s x then s y else κ) where
  uv := fun i j hi hj q => by
    rcases mrg_eq.mp q with q | ⟨q1, q2⟩ | ⟨q1, q2⟩
    · exact h.uv i j hi hj q
    · rw [h.uv i x hi hx q1, hv, ← h.uv j y hj hy q2]
    · rw [h.uv i y hi hy q1, ← hv, ← h.uv j x hj hx q2]
  us := fun i j hi hj q => by
    rcases mrg_eq.mp q with q | ⟨q1, q2⟩ | ⟨q1, q2⟩
    · exact mrg_eq.mpr (.inl (h.us i j hi hj q))
    · exact mrg_eq.mpr (.inr (.inl ⟨h.us i x hi hx q1, h.us j y hj hy q2⟩))
    · exact mrg_eq.mpr (.inr (.inr ⟨h.us i y hi hy q1, h.us j x hj hx q2⟩))
  su := fun i j hi hj q hv' => by
    have key : ∀ i j, i ≤ n → j ≤ n → v i = v j → s i = s x → s j = s y → Dt.mrg (u x) (u y) u i = Dt.mrg (u x) (u y) u j := fun i j hi hj hv' q1 q2 => by
      by_cases c : v i = v x
      · exact mrg_eq.mpr (.inr (.inl ⟨h.su i x hi hx q1 c, h.su j y hj hy q2 (by rw [← hv', c, hv])⟩))
      · have k1 : s i = κ := Classical.byContradiction fun z => c (h.uv i x hi hx (h.ot i x hi hx q1 z))
        have k2 : s j = κ := Classical.byContradiction fun z => c (by rw [hv', h.uv j y hj hy (h.ot j y hj hy q2 z), hv])
        exact absurd (q1.symm.trans (k1.trans (k2.symm.trans q2))) hs
    rcases mrg_eq.mp q with q | ⟨q1, q2⟩ | ⟨q1, q2⟩
    · exact mrg_eq.mpr (.inl (h.su i j hi hj q hv'))
    · exact key i j hi hj hv' q1 q2
    · exact (key j i hj hi hv'.symm q2 q1).symm
  ex := fun i hi => by
    obtain ⟨j, hj, h1, h2⟩ := h.ex i hi
    refine ⟨j, hj, h1, ?_⟩
    unfold Dt.mrg
    rw [h2]
  ot := fun i j hi hj q hk => by
    have m1 : ∀ i, s i = κ → Dt.mrg (s x) (s y) s i = if κ = s x then s y else κ := fun i e => by unfold Dt.mrg; rw [e]
    have n1 : s i ≠ κ := fun z => hk (m1 i z)
    rcases mrg_eq.mp q with e | ⟨q1, q2⟩ | ⟨q1, q2⟩
    · exact mrg_eq.mpr (.inl (h.ot i j hi hj e n1))
    · have n2 : s j ≠ κ := fun z => hk (q.trans (m1 j z))
      exact mrg_eq.mpr (.inr (.inl ⟨h.ot i x hi hx q1 n1, h.ot j y hj hy q2 n2⟩))
    · have n2 : s j ≠ κ := fun z => hk (q.trans (m1 j z))
      exact mrg_eq.mpr (.inr (.inr ⟨h.ot i y hi hy q1 n1, h.ot j x hj hx q2 n2⟩))
end Dt
namespace Lw
open DL L2
section
variable {p : Nat} {ts : List (Int × Int)}
end
end Lw
end

noncomputable section
namespace Lw
open DL L2
section
variable {p : Nat} {ts : List (Int × Int)} {L : List Int}
end
end Lw
end

namespace Dt
def prd : Nat → (Nat → Int) → Int
  | 0, _ => 1
  | n + 1, f => prd n f * f n
theorem prd_congr {f g : Nat → Int} : ∀ {n : Nat}, (∀ i, i < n → f i = g i) → prd n f = prd n g
  | 0, _ => rfl
  | n + 1, h => by
    unfold prd
    rw [prd_congr fun i hi => h i (by omega), h n (by omega)]
theorem prd_split {f g h : Nat → Int} {a : Nat} : ∀ {n : Nat}, a < n → (∀ i, i < n → i ≠ a → f i = g i ∧ f i = h i) → f a = g a + h a → prd n f = prd n g + prd n h
  | 0, ha, _, _ => by omega
  | n + 1, ha, hi, e => by
    unfold prd
    by_cases c : a = n
    · subst c
      rw [prd_congr (f := g) (g := f) fun i q => (hi i (by omega) (by omega)).1.symm, prd_congr (f := h) (g := f) fun i q => (hi i (by omega) (by omega)).2.symm, e, Int.mul_add]
    · obtain ⟨e1, e2⟩ := hi n (by omega) fun z => c z.symm
      rw [prd_split (n := n) (by omega) (fun i q r => hi i (by omega) r) e, Int.add_mul, ← e1, ← e2]
theorem prd_scale {f g : Nat → Int} {a : Nat} (t : Int) : ∀ {n : Nat}, a < n → (∀ i, i < n → i ≠ a → f i = g i) → f a = t * g a → prd n f = t * prd n g
  | 0, ha, _, _ => by omega
  | n + 1, ha, hi, e => by
    unfold prd
    by_cases c : a = n
    · subst c
      rw [prd_congr (f := f) (g := g) fun i q => hi i (by omega) (by omega), e, Int.mul_left_comm]
    · rw [prd_scale t (n := n) (by omega) (fun i q r => hi i (by omega) r) e, hi n (by omega) fun z => c z.symm, Int.mul_assoc]
theorem prd_zero {f : Nat → Int} {a : Nat} : ∀ {n : Nat}, a < n → f a = 0 → prd n f = 0
  | 0, ha, _ => by omega
  | n + 1, ha, e => by
    unfold prd
    by_cases c : a = n
    · subst c; rw [e, Int.mul_zero]
    · rw [prd_zero (n := n) (by omega) e, Int.zero_mul]
theorem prd_one {f : Nat → Int} : ∀ {n : Nat}, (∀ i, i < n → f i = 1) → prd n f = 1
  | 0, _ => rfl
  | n + 1, h => by
    unfold prd
    rw [prd_one fun i hi => h i (by omega), h n (by omega)]; rfl
def cf (m : Nat → Nat) (a : Nat) : Nat → Nat → Int
  | _, 0 => 0
  | q, k + 1 => iv (m q = a) + cf m a (q + 1) k
def ry (p : Nat) (t : Int) : Nat → Nat → List Dw.WE
  | _, 0 => []
  | q, k + 1 => ((q, p), t) :: ry p t (q + 1) k
theorem cf_mrg {m : Nat → Nat} {a b c : Nat} (h1 : c ≠ a) (h2 : c ≠ b) : ∀ (k q : Nat), cf (mrg a b m) c q k = cf m c q k
  | 0, _ => rfl
  | k + 1, q => by
    unfold cf
    rw [cf_mrg h1 h2 k]
    congr 1
    unfold mrg
    by_cases d : m q = a
    · rw [if_pos d, iv_f fun z => h2 z.symm, iv_f fun z => h1 (z.symm.trans d)]
    · rw [if_neg d]
def rf (m : Nat → Nat) (t : Int) (q k : Nat) (a : Nat) : Int := if m a = a then t * cf m a q k else 1
theorem ray_D {p : Nat} (t : Int) : ∀ (k q : Nat) (m : Nat → Nat), Lab p m → q + k = p → Dw.D p m (ry p t q k) = prd p (rf m t q k)
  | 0, q, m, L, h => by
    show Dw.D p m [] = _
    rw [Dw.D_nil L]
    by_cases c : ∀ i, i ≤ p → m i = m p
    · rw [if_pos c, prd_one fun i hi => ?_]
      unfold rf
      have := c i (by omega)
      rw [L.top] at this
      rw [if_neg (by omega)]
    · rw [if_neg c]
      have : ∃ i, i ≤ p ∧ m i ≠ m p := by
        refine Classical.byContradiction fun hh => c fun i hi => Classical.byContradiction fun q => hh ⟨i, hi, q⟩
      obtain ⟨i, hi, q⟩ := this
      rw [L.top] at q
      have l := L.le i hi
      refine (prd_zero (a := m i) (by omega) ?_).symm
      unfold rf
      rw [if_pos (L.id i hi)]
      exact Int.mul_zero _
  | k + 1, q, m, L, h => by
    show Dw.D p m (((q, p), t) :: ry p t (q + 1) k) = _
    have lq := L.le q (by omega)
    by_cases c : m q = p
    · rw [Dw.D_loop _ (by show m q = m p; rw [c, L.top]), ray_D t k (q + 1) m L (by omega)]
      refine prd_congr fun a ha => ?_
      unfold rf
      show _ = if m a = a then t * (iv (m q = a) + cf m a (q + 1) k) else 1
      rw [iv_f (by omega : ¬ m q = a), Int.zero_add]
    · have idq := L.id q (by omega)
      rw [Dw.D_step L (by omega) (Nat.le_refl p) t _ (by rw [L.top]; exact c) c, L.top, ray_D t k (q + 1) m L (by omega), ray_D t k (q + 1) (mrg (m q) p m) (L.mrg c (Nat.le_refl p) L.top c) (by omega)]
      have e1 : prd p (rf m t q (k + 1)) = prd p (rf m t (q + 1) k) + prd p (fun a => if a = m q then t else rf m t (q + 1) k a) := prd_split (a := m q) (by omega) (fun i hi hn => by
        have : rf m t q (k + 1) i = rf m t (q + 1) k i := by
          unfold rf
          show (if m i = i then t * (iv (m q = i) + cf m i (q + 1) k) else 1) = _
          rw [iv_f fun z => hn z.symm, Int.zero_add]
        exact ⟨this, by rw [if_neg hn]; exact this⟩) (by
        unfold rf
        rw [if_pos idq, if_pos rfl]
        show t * (iv (m q = m q) + cf m (m q) (q + 1) k) = _
        rw [iv_t rfl, if_pos idq, Int.mul_add, Int.mul_one, Int.add_comm])
      have e2 : prd p (fun a => if a = m q then t else rf m t (q + 1) k a) = t * prd p (rf (mrg (m q) p m) t (q + 1) k) := prd_scale (a := m q) t (by omega) (fun i hi hn => by
        show (if i = m q then t else rf m t (q + 1) k i) = _
        rw [if_neg hn]
        unfold rf
        by_cases d : m i = i
        · rw [if_pos d, if_pos (by unfold mrg; rw [if_neg (by rw [d]; exact hn)]; exact d), cf_mrg hn (by omega)]
        · rw [if_neg d, if_neg (by unfold mrg; split <;> omega)]) (by
        show (if m q = m q then t else rf m t (q + 1) k (m q)) = _
        rw [if_pos rfl]
        unfold rf
        rw [if_neg (by unfold mrg; rw [if_pos idq]; omega), Int.mul_one])
      rw [e1, e2]
def GG (p : Nat) (t : Int) : (Nat → Nat) → List Ed → Int
  | m, [] => prd p (rf m t 0 p)
  | m, e :: es => GG p t m es + if m e.1 = m e.2 then 0 else GG p t (mrg (m e.2) (m e.1) m) es
theorem D_GG {p : Nat} (t : Int) : ∀ (es : List Ed) (m : Nat → Nat), Lab p m → (∀ v, v < p → m v < p) → (∀ e ∈ es, e.1 < p ∧ e.2 < p) → Dw.D p m (es.map (fun e => (e, 1)) ++ ry p t 0 p) = GG p t m es
  | [], m, L, _, _ => ray_D t p 0 m L (by omega)
  | e :: es, m, L, hm, he => by
    obtain ⟨x, y⟩ := e
    obtain ⟨hx, hy⟩ := he (x, y) (List.mem_cons_self ..)
    have he' := fun e h => he e (List.mem_cons_of_mem _ h)
    dsimp only at hx hy
    rw [List.map_cons, List.cons_append]
    unfold GG
    dsimp only
    by_cases c : m x = m y
    · rw [Dw.D_loop _ c, D_GG t es m L hm he', if_pos c, Int.add_zero]
    · have lx := hm x hx
      have ly := hm y hy
      rw [Dw.D_swap, Dw.D_step L (by omega) (by omega) 1 _ (fun z => c z.symm) (by omega), D_GG t es m L hm he', Int.one_mul, if_neg c,
        D_GG t es (mrg (m y) (m x) m) (L.mrg (by omega) (by omega) (L.id x (by omega)) fun z => c z.symm) (fun v hv => by unfold mrg; have := hm v hv; split <;> omega) he']
theorem ry_range (p : Nat) (t : Int) : ∀ (k q : Nat), ry p t q k = (List.range k).map fun i => ((q + i, p), t)
  | 0, _ => rfl
  | k + 1, q => by
    rw [List.range_succ_eq_map, List.map_cons, List.map_map]
    show ((q, p), t) :: ry p t (q + 1) k = _
    rw [ry_range p t k (q + 1)]
    congr 1
    exact List.map_congr_left fun i _ => by show ((q + 1 + i, p), t) = ((q + (i + 1), p), t); rw [show q + 1 + i = q + (i + 1) by omega]
end Dt
noncomputable section
namespace Lw
open DL L2
section
variable {p : Nat} {ts : List (Int × Int)}
theorem ext_GG (hE : EndsOk p ts) (t : Int) : Dt.det p 0 (Dt.At t p (Lap ts)) = Dt.GG p t (fun v => v) (ts.map tn) := by
  have L : Dt.Lab p (fun v => v) := ⟨fun _ h => h, fun _ _ => rfl, rfl⟩
  rw [← Dt.D_GG t (ts.map tn) (fun v => v) L (fun _ h => h) fun e he => by
    obtain ⟨x, hx, rfl⟩ := List.mem_map.mp he
    have := hE x hx
    unfold tn
    dsimp only
    omega]
  unfold Dw.D
  refine Dt.det_congr fun r j hr _ hj => ?_
  have z : (ts.map tn).map (fun e => (e, (1 : Int))) = (ts.zip (List.replicate ts.length 1)).map tw := by
    rw [zip_rep, List.map_map, List.map_map]
    rfl
  unfold Dw.Mat
  rw [if_pos rfl, z, RwW_app, RwW_ones, Dt.ry_range]
  have e : (List.range p).map (fun i => ((0 + i, p), t)) = (List.range p).map fun q => ((q, p), t) := List.map_congr_left fun i _ => by rw [Nat.zero_add]
  rw [e, RwW_rays p t hr (by omega) p (Nat.le_refl p), if_pos hr, Dt.At_lt (by omega)]
  rfl
structure Cn (p : Nat) (M : List Int) : Prop where
  len : M.length = p
  le : ∀ i : Int, 0 ≤ i → i < p → 0 ≤ nth M i ∧ nth M i < p
  id : ∀ i : Int, 0 ≤ i → i < p → nth M (nth M i) = nth M i
def lab (p : Nat) (M : List Int) (v : Nat) : Nat := if v < p then (nth M v).toNat else v
theorem lab_lt {M : List Int} (h : Cn p M) {v : Nat} (hv : v < p) : ((lab p M v : Nat) : Int) = nth M v ∧ lab p M v < p := by
  have := h.le v (by omega) (by omega)
  unfold lab
  rw [if_pos hv]
  omega
theorem nth_step {M : List Int} {e : Int × Int} {i : Int} (h0 : 0 ≤ i) (h1 : i < M.length) : nth (stepL M e) i = if nth M e.1 = nth M e.2 then nth M i else if nth M i = nth M e.2 then nth M e.1 else nth M i := by
  unfold stepL
  split
  · rfl
  · unfold nth
    rw [List.getD_eq_getElem?_getD, List.getElem?_map, List.getElem?_eq_getElem (show i.toNat < M.length by omega), List.getD_eq_getElem?_getD (l := M) (i := i.toNat), List.getElem?_eq_getElem (show i.toNat < M.length by omega)]
    rfl
theorem cn_step {M : List Int} (h : Cn p M) {e : Int × Int} (h1 : 0 ≤ e.1 ∧ e.1 < p) (h2 : 0 ≤ e.2 ∧ e.2 < p) : Cn p (stepL M e) := by
  have hl := h.len
  have a1 := h.le e.1 h1.1 h1.2
  have a2 := h.id e.1 h1.1 h1.2
  refine ⟨by rw [stepL_len]; exact hl, fun i i0 i1 => ?_, fun i i0 i1 => ?_⟩
  · have b := h.le i i0 i1
    rw [nth_step i0 (by omega)]
    split
    · exact b
    · split
      · exact a1
      · exact b
  · have b := h.le i i0 i1
    have c := h.id i i0 i1
    have key : nth (stepL M e) (nth (stepL M e) i) = if nth M e.1 = nth M e.2 then nth M (nth (stepL M e) i) else if nth M (nth (stepL M e) i) = nth M e.2 then nth M e.1 else nth M (nth (stepL M e) i) := by
      have g : 0 ≤ nth (stepL M e) i ∧ nth (stepL M e) i < p := by
        rw [nth_step i0 (by omega)]
        split
        · exact b
        · split
          · exact a1
          · exact b
      exact nth_step g.1 (by omega)
    rw [key, nth_step i0 (by omega)]
    by_cases q : nth M e.1 = nth M e.2
    · rw [if_pos q, if_pos q]; exact c
    · rw [if_neg q, if_neg q]
      by_cases r : nth M i = nth M e.2
      · rw [if_pos r, a2, if_neg q]
      · rw [if_neg r, c, if_neg r]
theorem lab_step {M : List Int} (h : Cn p M) {e : Int × Int} (h1 : 0 ≤ e.1 ∧ e.1 < p) (h2 : 0 ≤ e.2 ∧ e.2 < p) : (lab p M (tn e).1 = lab p M (tn e).2 ↔ nth M e.1 = nth M e.2) ∧ (nth M e.1 ≠ nth M e.2 → lab p (stepL M e) = Dt.mrg (lab p M (tn e).2) (lab p M (tn e).1) (lab p M)) := by
  have hl := h.len
  have x1 : (tn e).1 < p := by unfold tn; dsimp only; omega
  have x2 : (tn e).2 < p := by unfold tn; dsimp only; omega
  have y1 : (((tn e).1 : Nat) : Int) = e.1 := by unfold tn; dsimp only; omega
  have y2 : (((tn e).2 : Nat) : Int) = e.2 := by unfold tn; dsimp only; omega
  obtain ⟨l1, m1⟩ := lab_lt h x1
  obtain ⟨l2, m2⟩ := lab_lt h x2
  rw [y1] at l1
  rw [y2] at l2
  refine ⟨by omega, fun n => ?_⟩
  funext v
  unfold Dt.mrg
  by_cases c : v < p
  · obtain ⟨e1, _⟩ := lab_lt (cn_step h h1 h2) c
    obtain ⟨e2, _⟩ := lab_lt h c
    rw [nth_step (by omega) (by omega), if_neg n] at e1
    by_cases d : nth M v = nth M e.2
    · rw [if_pos d] at e1
      rw [if_pos (by omega)]
      omega
    · rw [if_neg d] at e1
      rw [if_neg (by omega)]
      omega
  · have e1 : lab p (stepL M e) v = v := by unfold lab; rw [if_neg c]
    have e2 : lab p M v = v := by unfold lab; rw [if_neg c]
    rw [e1, e2, if_neg (by omega)]
theorem cn_iota (p : Nat) : Cn p (iota p) := ⟨by simp, fun i i0 i1 => by rw [nth_iota i0 i1]; omega, fun i i0 i1 => by rw [nth_iota i0 i1, nth_iota i0 i1]⟩
theorem lab_iota (p : Nat) : lab p (iota p) = fun v => v := by
  funext v
  unfold lab
  split
  · rw [nth_iota (by omega) (by omega)]; omega
  · rfl
def nl (M : List Int) : Nat := (sset M).length
theorem sset_cn {M : List Int} (h : Cn p M) : sset M = (iota p).filter fun i => decide (nth M i = i) := by
  have hl := h.len
  refine rise_uniq (sset_rise M) ((iota_riseP p).filter _) fun k => ?_
  rw [sset_mem, List.mem_filter, iota_mem, decide_eq_true_eq]
  constructor
  · intro hk
    obtain ⟨i, i0, i1, rfl⟩ := mem_nth hk
    exact ⟨h.le i i0 (by omega), h.id i i0 (by omega)⟩
  · rintro ⟨⟨k0, k1⟩, e⟩
    rw [← e]
    exact nth_mem k0 (by omega)
end
end Lw
end

namespace Dt
theorem cf_count (m : Nat → Nat) (a : Nat) : ∀ (k q : Nat), cf m a q k = ((((List.range' q k).map fun v => ((m v : Nat) : Int)).count (a : Int) : Nat) : Int)
  | 0, _ => rfl
  | k + 1, q => by
    rw [List.range'_succ, List.map_cons, List.count_cons]
    unfold cf
    rw [cf_count m a k (q + 1)]
    by_cases c : m q = a
    · rw [iv_t c, if_pos (by simp [c])]
      omega
    · rw [iv_f c, if_neg (by simp; omega)]
      omega
theorem prd_pow (m : Nat → Nat) (t : Int) (f : Nat → Int) : ∀ n : Nat, prd n (fun a => if m a = a then t * f a else 1) = t ^ ((List.range n).filter fun a => decide (m a = a)).length * prd n fun a => if m a = a then f a else 1
  | 0 => by
    show (1 : Int) = t ^ 0 * 1
    simp
  | n + 1 => by
    show prd n (fun a => if m a = a then t * f a else 1) * (if m n = n then t * f n else 1) = _ * (prd n (fun a => if m a = a then f a else 1) * (if m n = n then f n else 1))
    rw [prd_pow m t f n, List.range_succ, List.filter_append, List.length_append]
    by_cases c : m n = n
    · have e : ([n].filter fun a => decide (m a = a)).length = 1 := by simp [c]
      rw [e, if_pos c, if_pos c, Int.pow_succ]
      ac_rfl
    · have e : ([n].filter fun a => decide (m a = a)).length = 0 := by simp [c]
      rw [e, if_neg c, if_neg c, Nat.add_zero, Int.mul_one, Int.mul_one]
theorem sm_even (g : Nat → Int) : ∀ Q : Nat, sm (2 * Q) g = sm Q fun q => g (2 * q) + g (2 * q + 1)
  | 0 => rfl
  | Q + 1 => by
    show sm (2 * Q + 1 + 1) g = sm Q _ + (g (2 * Q) + g (2 * Q + 1))
    rw [← sm_even g Q]
    show sm (2 * Q) g + g (2 * Q) + g (2 * Q + 1) = _
    omega
end Dt
noncomputable section
namespace Lw
open DL L2
section
variable {p : Nat} {ts : List (Int × Int)}
def Wt (p : Nat) (M : List Int) : Int := Dt.prd p fun a => if lab p M a = a then ((M.count (a : Int) : Nat) : Int) else 1
theorem lab_list {M : List Int} (h : Cn p M) : (List.range' 0 p).map (fun v => ((lab p M v : Nat) : Int)) = M := by
  have hl := h.len
  refine List.ext_getElem (by simp [hl]) fun i h1 h2 => ?_
  rw [List.getElem_map, List.getElem_range', Nat.zero_add, Nat.one_mul, (lab_lt h (by omega)).1]
  unfold nth
  rw [List.getD_eq_getElem?_getD, Int.toNat_natCast, List.getElem?_eq_getElem h2]
  rfl
theorem nl_lab {M : List Int} (h : Cn p M) : nl M = ((List.range p).filter fun a => decide (lab p M a = a)).length := by
  unfold nl
  rw [sset_cn h]
  unfold iota
  rw [List.filter_map, List.length_map]
  congr 1
  refine List.filter_congr fun a ha => ?_
  have := (lab_lt h (List.mem_range.mp ha)).1
  show decide (nth M (a : Int) = (a : Int)) = _
  rw [decide_eq_decide]
  omega
theorem nl_le {M : List Int} (h : Cn p M) : nl M ≤ p := by
  rw [nl_lab h]
  exact Nat.le_trans (List.length_filter_le _ _) (by simp)
theorem leaf_W {M : List Int} (h : Cn p M) (t : Int) : Dt.prd p (Dt.rf (lab p M) t 0 p) = t ^ nl M * Wt p M := by
  have : Dt.rf (lab p M) t 0 p = fun a => if lab p M a = a then t * (fun a => ((M.count ((a : Nat) : Int) : Nat) : Int)) a else 1 := by
    funext a
    unfold Dt.rf
    rw [Dt.cf_count, lab_list h]
  rw [this, Dt.prd_pow, ← nl_lab h]
  rfl
def Kf (p : Nat) : List Int → Int → List (Int × Int) → Nat → Int
  | M, c, [], k => if (nl M : Int) = c ∧ nl M = k then Wt p M else 0
  | M, c, e :: es, k => Kf p M c es k + Kf p (stepL M e) (c - 1) es k
theorem nl_step {M : List Int} (h : Cn p M) {e : Int × Int} (h1 : 0 ≤ e.1 ∧ e.1 < p) (h2 : 0 ≤ e.2 ∧ e.2 < p) : (nth M e.1 = nth M e.2 → stepL M e = M) ∧ (nth M e.1 ≠ nth M e.2 → nl (stepL M e) + 1 = nl M) := by
  have hl := h.len
  refine ⟨fun q => ?_, fun q => sset_step (by omega) (by omega) q⟩
  unfold stepL
  rw [if_pos q]
theorem kf_zero : ∀ (es : List (Int × Int)) (M : List Int) (c : Int) (k : Nat), Cn p M → EndsOk p es → c < nl M → Kf p M c es k = 0
  | [], M, c, k, _, _, hc => by
    unfold Kf
    rw [if_neg (by omega)]
  | e :: es, M, c, k, h, hE, hc => by
    obtain ⟨h1, h2⟩ := hE e (List.mem_cons_self ..)
    have hE' : EndsOk p es := fun x hx => hE x (List.mem_cons_of_mem _ hx)
    obtain ⟨s1, s2⟩ := nl_step h h1 h2
    unfold Kf
    rw [kf_zero es M c k h hE' hc, kf_zero es (stepL M e) (c - 1) k (cn_step h h1 h2) hE' (by
      by_cases q : nth M e.1 = nth M e.2
      · rw [s1 q]; omega
      · have := s2 q; omega)]
    rfl
theorem kf_GG (t : Int) : ∀ (es : List (Int × Int)) (M : List Int) (c : Int), Cn p M → EndsOk p es → c = nl M → Dt.GG p t (lab p M) (es.map tn) = Dt.sm (p + 1) fun k => Kf p M c es k * t ^ k
  | [], M, c, h, _, hc => by
    show Dt.prd p (Dt.rf (lab p M) t 0 p) = _
    rw [leaf_W h, Dt.sm_one (k := nl M) (by have := nl_le h; omega) fun i _ hi => by
      unfold Kf
      rw [if_neg fun z => hi z.2.symm, Int.zero_mul]]
    unfold Kf
    rw [if_pos ⟨hc.symm, rfl⟩, Int.mul_comm]
  | e :: es, M, c, h, hE, hc => by
    obtain ⟨h1, h2⟩ := hE e (List.mem_cons_self ..)
    have hE' : EndsOk p es := fun x hx => hE x (List.mem_cons_of_mem _ hx)
    obtain ⟨s1, s2⟩ := nl_step h h1 h2
    obtain ⟨l1, l2⟩ := lab_step h h1 h2
    rw [List.map_cons]
    unfold Dt.GG
    rw [kf_GG t es M c h hE' hc]
    have e1 : (Dt.sm (p + 1) fun k => Kf p M c (e :: es) k * t ^ k) = (Dt.sm (p + 1) fun k => Kf p M c es k * t ^ k) + Dt.sm (p + 1) fun k => Kf p (stepL M e) (c - 1) es k * t ^ k := by
      rw [← Dt.sm_add]
      exact Dt.sm_congr fun k _ => by
        rw [← Int.add_mul]
        rfl
    rw [e1]
    congr 1
    by_cases q : nth M e.1 = nth M e.2
    · rw [if_pos (l1.mpr q)]
      refine (Dt.sm_zero fun k _ => ?_).symm
      rw [kf_zero es (stepL M e) (c - 1) k (cn_step h h1 h2) hE' (by rw [s1 q]; omega), Int.zero_mul]
    · rw [if_neg fun z => q (l1.mp z), ← l2 q, kf_GG t es (stepL M e) (c - 1) (cn_step h h1 h2) hE' (by have := s2 q; omega)]
theorem frN_Kf (hE : EndsOk p ts) {k : Nat} (hk : k ≤ p) : frN p ts k = Kf p (iota p) p ts k := by
  have hn : nl (iota p) = p := by
    rw [nl_lab (cn_iota p), lab_iota, List.filter_eq_self.mpr fun a _ => by simp, List.length_range]
  have a : ∀ r, r < p + 1 → Dt.det p 0 (Dt.At (r : Int) p (Lap ts)) = Dt.sm (p + 1) fun k => frN p ts k * Dt.vd r k := fun r _ => frN_poly p ts r
  have b : ∀ r, r < p + 1 → Dt.det p 0 (Dt.At (r : Int) p (Lap ts)) = Dt.sm (p + 1) fun k => Kf p (iota p) p ts k * Dt.vd r k := fun r _ => by
    rw [ext_GG hE, ← lab_iota p]
    exact kf_GG (r : Int) ts (iota p) p (cn_iota p) hE (by rw [hn])
  have x := Dt.solve_at Dt.vd (frN p ts) (fun r => Dt.det p 0 (Dt.At (r : Int) p (Lap ts))) a (k := k) (by omega)
  have y := Dt.solve_at Dt.vd (Kf p (iota p) p ts) (fun r => Dt.det p 0 (Dt.At (r : Int) p (Lap ts))) b (k := k) (by omega)
  exact Int.eq_of_mul_eq_mul_right (Dt.vd_ne (p + 1)) (x.symm.trans y)
def bits : Nat → Nat → Nat → List Int
  | _, 0, _ => []
  | lo, m + 1, n => if n % 2 = 1 then (lo : Int) :: bits (lo + 1) m (n / 2) else bits (lo + 1) m (n / 2)
theorem bits_in : ∀ (m lo n : Nat), ∀ x ∈ bits lo m n, (lo : Int) ≤ x ∧ x < ((lo + m : Nat) : Int)
  | 0, _, _, x, hx => nomatch hx
  | m + 1, lo, n, x, hx => by
    unfold bits at hx
    have r := bits_in m (lo + 1) (n / 2) x
    split at hx
    · rcases List.mem_cons.mp hx with rfl | hx
      · omega
      · have := r hx; omega
    · have := r hx; omega
def ctr (p : Nat) (ts : List (Int × Int)) (M : List Int) (c : Int) (lo m k n : Nat) : Int := if (nl ((bits lo m n).foldl (fun M t => stepL M (tieAt ts t)) M) : Int) = c - (bits lo m n).length ∧ nl ((bits lo m n).foldl (fun M t => stepL M (tieAt ts t)) M) = k then Wt p ((bits lo m n).foldl (fun M t => stepL M (tieAt ts t)) M) else 0
theorem sum_ctr (k : Nat) : ∀ (es : List (Int × Int)) (lo : Nat) (M : List Int) (c : Int), ts.drop lo = es → Dt.sm (2 ^ es.length) (ctr p ts M c lo es.length k) = Kf p M c es k
  | [], lo, M, c, _ => by
    show (0 : Int) + ctr p ts M c lo 0 k 0 = _
    unfold ctr Kf bits
    rw [Int.zero_add]
    simp
  | e :: es, lo, M, c, h => by
    have hlo : lo < ts.length := by
      have := congrArg List.length h
      rw [List.length_drop, List.length_cons] at this
      omega
    have hd : ts.drop (lo + 1) = es := by
      rw [← List.tail_drop, h]; rfl
    have te : tieAt ts (lo : Int) = e := by
      rw [List.drop_eq_getElem_cons hlo] at h
      unfold tieAt
      rw [List.getD_eq_getElem?_getD, Int.toNat_natCast, List.getElem?_eq_getElem hlo]
      exact (List.cons.inj h).1
    rw [List.length_cons, Nat.pow_succ, Nat.mul_comm, Dt.sm_even]
    unfold Kf
    rw [← sum_ctr k es (lo + 1) M c hd, ← sum_ctr k es (lo + 1) (stepL M e) (c - 1) hd, ← Dt.sm_add]
    refine Dt.sm_congr fun q _ => ?_
    have b0 : bits lo (es.length + 1) (2 * q) = bits (lo + 1) es.length q := by
      show (if 2 * q % 2 = 1 then _ else bits (lo + 1) es.length (2 * q / 2)) = _
      rw [if_neg (by omega), show 2 * q / 2 = q by omega]
    have b1 : bits lo (es.length + 1) (2 * q + 1) = (lo : Int) :: bits (lo + 1) es.length q := by
      show (if (2 * q + 1) % 2 = 1 then (lo : Int) :: bits (lo + 1) es.length ((2 * q + 1) / 2) else _) = _
      rw [if_pos (by omega), show (2 * q + 1) / 2 = q by omega]
    congr 1
    · unfold ctr
      rw [b0]
    · unfold ctr
      rw [b1, List.foldl_cons, te, List.length_cons]
      have : c - ((bits (lo + 1) es.length q).length + 1 : Nat) = c - 1 - ((bits (lo + 1) es.length q).length : Nat) := by omega
      rw [this]
theorem sum_frN (hE : EndsOk p ts) {k : Nat} (hk : k ≤ p) : Dt.sm (2 ^ ts.length) (ctr p ts (iota p) p 0 ts.length k) = frN p ts k := by
  rw [frN_Kf hE hk]
  exact sum_ctr k ts 0 (iota p) p rfl
theorem cn_fold (hE : EndsOk p ts) : ∀ (l : List Int) (M : List Int), InT ts.length l → Cn p M → Cn p (l.foldl (fun M t => stepL M (tieAt ts t)) M)
  | [], M, _, h => h
  | t :: l, M, hl, h => by
    obtain ⟨t0, t1⟩ := hl t (List.mem_cons_self ..)
    obtain ⟨_, em⟩ := tie_at (ts := ts) t0 t1
    obtain ⟨h1, h2⟩ := hE _ em
    exact cn_fold hE l _ (fun x hx => hl x (List.mem_cons_of_mem _ hx)) (cn_step h h1 h2)
theorem fold_W {M : List Int} (h : Cn p M) : (sset M).foldl (fun w a => w * ((M.count a : Nat) : Int)) 1 = Wt p M := by
  rw [sset_cn h]
  unfold Wt
  have key : ∀ n, n ≤ p → ((iota n).filter fun i => decide (nth M i = i)).foldl (fun w a => w * ((M.count a : Nat) : Int)) 1 = Dt.prd n fun a => if lab p M a = a then ((M.count (a : Int) : Nat) : Int) else 1 := fun n => by
    induction n with
    | zero => exact fun _ => rfl
    | succ n ih =>
      intro hn
      have : iota (n + 1) = iota n ++ [(n : Int)] := by unfold iota; rw [List.range_succ, List.map_append]; rfl
      rw [this, List.filter_append, List.foldl_append, ih (by omega)]
      show _ = Dt.prd n (fun a => if lab p M a = a then ((M.count (a : Int) : Nat) : Int) else 1) * (if lab p M n = n then ((M.count (n : Int) : Nat) : Int) else 1)
      have e := (lab_lt h (v := n) (by omega)).1
      by_cases c : nth M (n : Int) = n
      · have e2 : lab p M n = n := by omega
        rw [if_pos e2]
        simp [c]
      · have e2 : ¬ lab p M n = n := by omega
        rw [if_neg e2, Int.mul_one]
        simp [c]
  exact key p (Nat.le_refl p)
end
end Lw
end

noncomputable section
namespace Lw
open DL
def f_rooted_forests_l1 : Env → Out := sAug2 (fun a b => a + b) 3 4 4 (eVar 2)
def f_rooted_forests_l2 : Env → Out := sSeq (sAsg 3 (eOwn g_pull_table (aCons (eVar 0) (aNil)))) (sSeq (sFor (iRg1 (aCons (eUn (opFld 14 0) (eVar 0)) (aNil))) (gtN 4) f_rooted_forests_l1) (sApp 1 (eBin opSub (eOwn g_determinant (aCons (eVar 3) (aNil))) (eBin opIx (eOwn g_powers_of (aCons (eVar 2) (aCons (eBin opAdd (eUn (opFld 14 0) (eVar 0)) (eC (.int 1))) (aNil)))) (eUn opNeg (eC (.int 1)))))))
def f_rooted_forests : Env → Out := sSeq (sAsg 1 (eLst (aNil))) (sSeq (sFor (iRg1 (aCons (eUn (opFld 14 0) (eVar 0)) (aNil))) (gtN 2) f_rooted_forests_l2) (sRet (eCall caTuple (aCons (eBin opAdd (eOwn g_factors_of (aCons (eVar 1) (aNil))) (eLst (aConsO (eC (.int 1)) (aNil)))) (aNil)))))
def g_rooted_forests : List D → Res D := runF f_rooted_forests 5
end Lw
end

noncomputable section
namespace Lw
open DL
def f_law_due_v8_l1 : Env → Out := sAsgF 3 (eBin opMul (eVar 3) (eC (.int 2)))
def f_law_due_v8_l2 : Env → Out := sAsgF 9 (eBin opMul (eVar 9) (eCount (eVar 7) (eVar 10)))
def f_law_due_v8_l3 : Env → Out := sSeq (sAsgF 6 (eOwn g_law_some (aCons (eVar 5) (aCons (eCall caLen (aCons (eVar 1) (aNil))) (aNil))))) (sSeq (sAsgF 7 (eOwn g_law_marks (aCons (eVar 0) (aCons (eVar 1) (aCons (eVar 6) (aNil)))))) (sSeq (sAsgF 8 (eSortedSet (eVar 7))) (sIf (tC2 cEq (eCall caLen (aCons (eVar 8) (aNil))) (eBin opSub (eVar 0) (eCall caLen (aCons (eVar 6) (aNil))))) (sSeq (sAsgF 9 (eC (.int 1))) (sSeq (sFor (iSeq (eVar 8)) (gtN 10) f_law_due_v8_l2) (sAugE (fun a b => a + b) 2 (eCall caLen (aCons (eVar 8) (aNil))) (eVar 9)))) (sNil))))
def f_law_due_v8 : Env → Out := sSeq (sAsg 2 (eBin opMul (eLst (aConsO (eC (.int 0)) (aNil))) (eBin opAdd (eVar 0) (eC (.int 1))))) (sSeq (sAsgF 3 (eC (.int 1))) (sSeq (sFor (iSeq (eVar 1)) (gtN 4) f_law_due_v8_l1) (sSeq (sFor (iRg1 (aCons (eVar 3) (aNil))) (gtN 5) f_law_due_v8_l3) (sRet (eCall caTuple (aCons (eVar 2) (aNil)))))))
def g_law_due_v8 : List D → Res D := runF f_law_due_v8 11
def f_law_k72_c1 : Env → Res D := eIsT "int" (eVar 4)
def f_law_k72 : Env → Out := sSeq (sAsgT (gtT 2 (gtCons (gtN 1) (gtCons (gtN 2) (gtNil)))) (eOwn g_law_web (aCons (eVar 0) (aCons (eC (.int 5)) (aCons (eC (.int 8)) (aNil)))))) (sSeq (sAsgF 3 (eOwn g_rooted_forests (aCons (eMkF 14 g_Web_init (aCons (eVar 1) (aCons (eVar 2) (aNil)))) (aNil)))) (sSeq (sIf (tOr_ (tNo (tTr (eIsT "tuple" (eVar 3)))) (tNo (tTr (eCall caAll (aCons (eLc (iSeq (eVar 3)) [4] (gtN 4) (tYesG) f_law_k72_c1) (aNil)))))) (sRet (eC (.bl false))) (sNil)) (sRet (eB (tC2 cEq (eVar 3) (eOwn g_law_due_v8 (aCons (eVar 1) (aCons (eVar 2) (aNil)))))))))
def g_law_k72 : List D → Res D := runF f_law_k72 5
end Lw
end

namespace Lw
open DL L2 TL
theorem forL_nil {tg : D → Env → Option Env} {b : Env → Out} {g : Env} : forL tg b [] g = .nx g := rfl
end Lw

noncomputable section
namespace Lw
open DL L2
theorem seq_to {f u : Env → Out} {g g1 : Env} {o : Out} (h : f g = .nx g1) (h2 : u g1 = o) : sSeq f u g = o := by
  rw [sSeq_, h]
  exact h2
end Lw
end

noncomputable section
namespace Lw
open DL L2
variable {p : Nat} {ts : List (Int × Int)}
theorem some72_l1 (n : Int) : ∀ (m lo c : Nat) (l : List Int) (y : D), l.length + m ≤ lim →
    ∃ (c' : Int) (z : D), forL (gtN 3) f_law_some_l1 (rng lo m) [.int c, .int n, .ol (l.map D.int), y] = .nx [.int c', .int n, .ol ((l ++ bits lo m c).map D.int), z]
  | 0, lo, c, l, y, _ => ⟨c, y, by unfold bits; simp [rng_zero, forL]⟩
  | m + 1, lo, c, l, y, hl => by
    have h1 : l.length < lim := by omega
    have hc2 : ((c : Int) / 2) = ((c / 2 : Nat) : Int) := by omega
    rw [rng_succ]
    by_cases e : c % 2 = 1
    · obtain ⟨c', z, h3⟩ := some72_l1 n m (lo + 1) (c / 2) (l ++ [(lo : Int)]) (.int lo) (by simp; omega)
      refine ⟨c', z, ?_⟩
      have eb : bits lo (m + 1) c = (lo : Int) :: bits (lo + 1) m (c / 2) := by
        show (if c % 2 = 1 then _ else _) = _
        rw [if_pos e]
      rw [eb, show l ++ (lo : Int) :: bits (lo + 1) m (c / 2) = l ++ [(lo : Int)] ++ bits (lo + 1) m (c / 2) by simp, ← h3, ← hc2]
      have e' : (c : Int) % 2 = 1 := by omega
      refine forL_step (g1 := [.int c, .int n, .ol (l.map D.int), .int lo]) rfl ?_
      generalize (c : Int) = cc at *
      simp [f_law_some_l1, e', h1]
    · obtain ⟨c', z, h3⟩ := some72_l1 n m (lo + 1) (c / 2) l (.int lo) (by omega)
      refine ⟨c', z, ?_⟩
      have eb : bits lo (m + 1) c = bits (lo + 1) m (c / 2) := by
        show (if c % 2 = 1 then _ else _) = _
        rw [if_neg e]
      rw [eb, ← h3, ← hc2]
      have e' : ¬ (c : Int) % 2 = 1 := by omega
      refine forL_step (g1 := [.int c, .int n, .ol (l.map D.int), .int lo]) rfl ?_
      generalize (c : Int) = cc at *
      simp [f_law_some_l1, e']
theorem some72_ok (c m : Nat) (hm : m ≤ 1000) : g_law_some [.int c, .int m] = .ok (.ol ((bits 0 m c).map D.int)) := by
  obtain ⟨c', z, h2⟩ := some72_l1 m m 0 c [] .un (by simp [lim_eq]; omega)
  have b1 : rgOk (m : Int) := rgOk_of (by omega) (by omega)
  rw [List.nil_append] at h2
  simp at h2
  simp [g_law_some, runF, f_law_some, b1, h2]
theorem due72_l2 (x0 x1 x2 x3 x4 x5 x6 x8 : D) (M : List Int) (hM : M.length ≤ 1000) : ∀ (l : List Int) (w : Int) (y : D), ∃ z, forL (gtN 10) f_law_due_v8_l2 (l.map D.int) [x0, x1, x2, x3, x4, x5, x6, .ls (M.map D.int), x8, .int w, y] = .nx [x0, x1, x2, x3, x4, x5, x6, .ls (M.map D.int), x8, .int (l.foldl (fun w a => w * ((M.count a : Nat) : Int)) w), z]
  | [], w, y => ⟨y, rfl⟩
  | a :: l, w, y => by
    obtain ⟨z, ih⟩ := due72_l2 x0 x1 x2 x3 x4 x5 x6 x8 M hM l (w * ((M.count a : Nat) : Int)) (.int a)
    refine ⟨z, ?_⟩
    rw [List.map_cons, List.foldl_cons, ← ih]
    have hc : M.count a ≤ M.length := List.count_le_length
    have om : opMul (.int w) (.int ((M.count a : Nat) : Int)) = some (.int (w * ((M.count a : Nat) : Int))) := opMul_r (by omega) (by omega)
    refine forL_step (g1 := [x0, x1, x2, x3, x4, x5, x6, .ls (M.map D.int), x8, .int w, .int a]) rfl ?_
    generalize w * ((M.count a : Nat) : Int) = ww at *
    simp [f_law_due_v8_l2, lsI, om]
theorem if_t72 {c : Env → Res Bool} {a b : Env → Out} {g : Env} {o : Out} (h : c g = .ok true) (e : a g = o) : sIf c a b g = o := by
  rw [sIf_, h]
  exact e
theorem due72_r3 {TS : List D} {pp n tl v w : Int} {S M P told : List Int} {y4 y6 y7 y8 y9 y10 z10 x3 : D} (hl : (TS.length : Int) = tl) (so : g_law_some [.int n, .int tl] = .ok (.ol (S.map D.int))) (mk : g_law_marks [.int pp, .ls TS, .ls (S.map D.int)] = .ok (.ol (M.map D.int))) (hP : sset M = P) (hM : M.length < 64) :
    (∀ k : Nat, (P.length : Int) = pp - S.length → k = P.length → (told.map D.int)[k]? = some (.int v) → k < 1000 → forL (gtN 10) f_law_due_v8_l2 (P.map D.int) [.int pp, .ls TS, .ol (told.map D.int), x3, y4, .int n, .ls (S.map D.int), .ls (M.map D.int), .ls (P.map D.int), .int 1, y10] = .nx [.int pp, .ls TS, .ol (told.map D.int), x3, y4, .int n, .ls (S.map D.int), .ls (M.map D.int), .ls (P.map D.int), .int w, z10] →
      f_law_due_v8_l3 [.int pp, .ls TS, .ol (told.map D.int), x3, y4, .int n, y6, y7, y8, y9, y10] = .nx [.int pp, .ls TS, .ol ((told.set k (v + w)).map D.int), x3, y4, .int n, .ls (S.map D.int), .ls (M.map D.int), .ls (P.map D.int), .int w, z10]) ∧
    (¬ (P.length : Int) = pp - S.length → f_law_due_v8_l3 [.int pp, .ls TS, .ol (told.map D.int), x3, y4, .int n, y6, y7, y8, y9, y10] = .nx [.int pp, .ls TS, .ol (told.map D.int), x3, y4, .int n, .ls (S.map D.int), .ls (M.map D.int), .ls (P.map D.int), y9, y10]) := by
  have s1 : sAsgF 6 (eOwn g_law_some (aCons (eVar 5) (aCons (eCall caLen (aCons (eVar 1) (aNil))) (aNil)))) [.int pp, .ls TS, .ol (told.map D.int), x3, y4, .int n, y6, y7, y8, y9, y10] = .nx [.int pp, .ls TS, .ol (told.map D.int), x3, y4, .int n, .ls (S.map D.int), y7, y8, y9, y10] := by simp [hl, so]
  have s2 : sAsgF 7 (eOwn g_law_marks (aCons (eVar 0) (aCons (eVar 1) (aCons (eVar 6) (aNil))))) [.int pp, .ls TS, .ol (told.map D.int), x3, y4, .int n, .ls (S.map D.int), y7, y8, y9, y10] = .nx [.int pp, .ls TS, .ol (told.map D.int), x3, y4, .int n, .ls (S.map D.int), .ls (M.map D.int), y8, y9, y10] := by simp [mk]
  have s3 : sAsgF 8 (eSortedSet (eVar 7)) [.int pp, .ls TS, .ol (told.map D.int), x3, y4, .int n, .ls (S.map D.int), .ls (M.map D.int), y8, y9, y10] = .nx [.int pp, .ls TS, .ol (told.map D.int), x3, y4, .int n, .ls (S.map D.int), .ls (M.map D.int), .ls (P.map D.int), y9, y10] := by simp [lsI, hP, hM]
  refine ⟨fun k hc hk hv hk2 e => ?_, fun hc => ?_⟩
  · unfold f_law_due_v8_l3
    refine seq_to s1 (seq_to s2 (seq_to s3 ?_))
    have hc' : (P.length : Int) = pp - S.length := hc
    have c2 : sAugE (fun a b => a + b) 2 (eCall caLen (aCons (eVar 8) (aNil))) (eVar 9) [.int pp, .ls TS, .ol (told.map D.int), x3, y4, .int n, .ls (S.map D.int), .ls (M.map D.int), .ls (P.map D.int), .int w, z10] = .nx [.int pp, .ls TS, .ol ((told.set k (v + w)).map D.int), x3, y4, .int n, .ls (S.map D.int), .ls (M.map D.int), .ls (P.map D.int), .int w, z10] := by
      have h0 : ([.int pp, .ls TS, .ol (told.map D.int), x3, y4, .int n, .ls (S.map D.int), .ls (M.map D.int), .ls (P.map D.int), .int w, z10] : Env)[2]? = some (.ol (told.map D.int)) := rfl
      have h1 : eCall caLen (aCons (eVar 8) (aNil)) [.int pp, .ls TS, .ol (told.map D.int), x3, y4, .int n, .ls (S.map D.int), .ls (M.map D.int), .ls (P.map D.int), .int w, z10] = .ok (.int (k : Int)) := by rw [hk]; simp
      have h2 : eVar 9 [.int pp, .ls TS, .ol (told.map D.int), x3, y4, .int n, .ls (S.map D.int), .ls (M.map D.int), .ls (P.map D.int), .int w, z10] = .ok (.int w) := by simp
      unfold sAugE
      rw [h0]
      dsimp only
      rw [h1, Res.st_ok]
      dsimp only [opd_int]
      rw [if_pos ⟨by omega, by omega⟩, Int.toNat_natCast, hv]
      dsimp only
      rw [h2, Res.st_ok]
      dsimp only [opd_int]
      rw [List.map_set]
      rfl
    have lp : (P.map D.int).length = P.length := List.length_map ..
    have ls : (S.map D.int).length = S.length := List.length_map ..
    refine if_t72 (by simp [hc']) ?_
    refine seq_to (g1 := [.int pp, .ls TS, .ol (told.map D.int), x3, y4, .int n, .ls (S.map D.int), .ls (M.map D.int), .ls (P.map D.int), .int 1, y10]) (by simp) (seq_to (g1 := [.int pp, .ls TS, .ol (told.map D.int), x3, y4, .int n, .ls (S.map D.int), .ls (M.map D.int), .ls (P.map D.int), .int w, z10]) ?_ c2)
    generalize told.map D.int = TT at *
    generalize P.map D.int = PP at *
    generalize S.map D.int = SS at *
    generalize M.map D.int = MM at *
    simp [e]
  · unfold f_law_due_v8_l3
    refine seq_to s1 (seq_to s2 (seq_to s3 ?_))
    simp [hc]
theorem due72_l3 (hp : 1 ≤ p) (hp2 : p ≤ 60) (hE : EndsOk p ts) (ht : ts.length ≤ 1000) (n : Nat) (f : Nat → Int) (x3 y4 y6 y7 y8 y9 y10 : D) : ∃ z6 z7 z8 z9 z10, f_law_due_v8_l3 [.int p, .ls (ts.map dP), .ol ((rwN (p + 1) f).map D.int), x3, y4, .int n, y6, y7, y8, y9, y10] = .nx [.int p, .ls (ts.map dP), .ol ((rwN (p + 1) fun k => f k + ctr p ts (iota p) p 0 ts.length k n).map D.int), x3, y4, .int n, z6, z7, z8, z9, z10] := by
  have so := some72_ok n ts.length ht
  have hI : InT ts.length (bits 0 ts.length n) := fun x hx => by have := bits_in ts.length 0 n x hx; omega
  have mk := lmarks_ok p ts hE (by omega) (by omega) (bits 0 ts.length n) hI
  rw [Int.toNat_natCast] at mk
  have em : marksL p ts (bits 0 ts.length n) = (bits 0 ts.length n).foldl (fun M t => stepL M (tieAt ts t)) (iota p) := rfl
  have ct : ∀ k, ctr p ts (iota p) p 0 ts.length k n = if (nl (marksL p ts (bits 0 ts.length n)) : Int) = p - (bits 0 ts.length n).length ∧ nl (marksL p ts (bits 0 ts.length n)) = k then Wt p (marksL p ts (bits 0 ts.length n)) else 0 := fun k => rfl
  have cM : Cn p (marksL p ts (bits 0 ts.length n)) := cn_fold hE _ _ hI (cn_iota p)
  generalize marksL p ts (bits 0 ts.length n) = M at *
  have hl := cM.len
  have hn := nl_le cM
  have fw := fold_W cM
  generalize bits 0 ts.length n = S at *
  have hlt : ((ts.map dP).length : Int) = (ts.length : Int) := by rw [List.length_map]
  obtain ⟨z10, e⟩ := due72_l2 (.int p) (.ls (ts.map dP)) (.ol ((rwN (p + 1) f).map D.int)) x3 y4 (.int n) (.ls (S.map D.int)) (.ls ((sset M).map D.int)) M (by omega) (sset M) 1 y10
  rw [fw] at e
  by_cases c : ((sset M).length : Int) = p - S.length
  · have hv : ((rwN (p + 1) f).map D.int)[(sset M).length]? = some (.int (f (sset M).length)) := by
      unfold rwN
      rw [List.getElem?_map, List.getElem?_map, List.getElem?_range (by unfold nl at hn; omega)]
      rfl
    have r := (due72_r3 (y4 := y4) (y6 := y6) (y7 := y7) (y8 := y8) (y9 := y9) (y10 := y10) (z10 := z10) (x3 := x3) (v := f (sset M).length) (w := Wt p M) (told := rwN (p + 1) f) hlt so mk rfl (by omega)).1 (sset M).length c rfl hv (by unfold nl at hn; omega) e
    have : (rwN (p + 1) f).set (sset M).length (f (sset M).length + Wt p M) = rwN (p + 1) fun k => f k + ctr p ts (iota p) p 0 ts.length k n := by
      rw [rwN_set]
      refine rwN_congr fun k _ => ?_
      rw [ct k]
      by_cases d : k = (sset M).length
      · rw [if_pos d, if_pos ⟨c, d.symm⟩, d]
      · rw [if_neg d, if_neg fun q => d q.2.symm, Int.add_zero]
    rw [this] at r
    exact ⟨_, _, _, _, _, r⟩
  · have r := (due72_r3 (y4 := y4) (y6 := y6) (y7 := y7) (y8 := y8) (y9 := y9) (y10 := y10) (z10 := z10) (x3 := x3) (v := 0) (w := 0) (told := rwN (p + 1) f) hlt so mk rfl (by omega)).2 c
    have : rwN (p + 1) f = rwN (p + 1) fun k => f k + ctr p ts (iota p) p 0 ts.length k n := rwN_congr fun k _ => by
      rw [ct k, if_neg fun q => c q.1, Int.add_zero]
    rw [← this]
    exact ⟨_, _, _, _, _, r⟩
theorem due72_f3 (hp : 1 ≤ p) (hp2 : p ≤ 60) (hE : EndsOk p ts) (ht : ts.length ≤ 1000) (x3 y4 : D) : ∀ (m lo : Nat) (y5 y6 y7 y8 y9 y10 : D), ∃ z5 z6 z7 z8 z9 z10, forL (gtN 5) f_law_due_v8_l3 (rng lo m) [.int p, .ls (ts.map dP), .ol ((rwN (p + 1) fun k => Dt.sm lo (ctr p ts (iota p) p 0 ts.length k)).map D.int), x3, y4, y5, y6, y7, y8, y9, y10] = .nx [.int p, .ls (ts.map dP), .ol ((rwN (p + 1) fun k => Dt.sm (lo + m) (ctr p ts (iota p) p 0 ts.length k)).map D.int), x3, y4, z5, z6, z7, z8, z9, z10] := by
  intro m
  induction m with
  | zero => exact fun lo y5 y6 y7 y8 y9 y10 => ⟨_, _, _, _, _, _, rng0_for⟩
  | succ m ih =>
    intro lo y5 y6 y7 y8 y9 y10
    obtain ⟨w6, w7, w8, w9, w10, e⟩ := due72_l3 hp hp2 hE ht lo (fun k => Dt.sm lo (ctr p ts (iota p) p 0 ts.length k)) x3 y4 y6 y7 y8 y9 y10
    obtain ⟨z5, z6, z7, z8, z9, z10, e2⟩ := ih (lo + 1) (.int lo) w6 w7 w8 w9 w10
    refine ⟨z5, z6, z7, z8, z9, z10, ?_⟩
    rw [Int.natCast_succ] at e2
    rw [show lo + (m + 1) = lo + 1 + m by omega]
    exact rngS_for rfl e e2
theorem om72 (w : Int) {v : Int} (h0 : 0 ≤ v) (h4 : v ≤ 4) : opMul (.int w) (.int v) = some (.int (w * v)) := opMul_r (by omega) (by omega)
theorem pw72 (k : Nat) : ((2 ^ (k + 1) : Nat) : Int) = ((2 ^ k : Nat) : Int) * 2 := by rw [Nat.pow_succ]; omega
theorem due72_t1 {x0 x1 x2 y4 y5 y6 y7 y8 y9 y10 : D} {w1 w2 : Int} (h : w2 = w1 * 2) : f_law_due_v8_l1 [x0, x1, x2, .int w1, y4, y5, y6, y7, y8, y9, y10] = .nx [x0, x1, x2, .int w2, y4, y5, y6, y7, y8, y9, y10] := by
  have om := om72 w1 (v := 2) (by omega) (by omega)
  rw [← h] at om
  simp [f_law_due_v8_l1, om, -opMul_r]
theorem due72_l1 (x0 x2 : D) : ∀ (l : List (Int × Int)) (k : Nat) (y4 y5 y6 y7 y8 y9 y10 : D), ∃ z4, forL (gtN 4) f_law_due_v8_l1 (l.map dP) [x0, .ls (ts.map dP), x2, .int ((2 ^ k : Nat) : Int), y4, y5, y6, y7, y8, y9, y10] = .nx [x0, .ls (ts.map dP), x2, .int ((2 ^ (k + l.length) : Nat) : Int), z4, y5, y6, y7, y8, y9, y10]
  | [], k, y4, y5, y6, y7, y8, y9, y10 => ⟨y4, rfl⟩
  | e :: l, k, y4, y5, y6, y7, y8, y9, y10 => by
    obtain ⟨z4, ih⟩ := due72_l1 x0 x2 l (k + 1) (dP e) y5 y6 y7 y8 y9 y10
    refine ⟨z4, ?_⟩
    rw [List.map_cons, List.length_cons, show k + (l.length + 1) = k + 1 + l.length by omega, ← ih]
    refine forL_step (g1 := [x0, .ls (ts.map dP), x2, .int ((2 ^ k : Nat) : Int), dP e, y5, y6, y7, y8, y9, y10]) rfl ?_
    exact due72_t1 (pw72 k)
theorem due72_raw {TS : List D} {pp w : Int} {F : List Int} {T0 : List D} {p1 : Int} {z4 z5 z6 z7 z8 z9 z10 : D} (om : opMul (.ls [.int 0]) (.int p1) = some (.ol T0)) (hp1 : pp + 1 = p1) (e1 : forL (gtN 4) f_law_due_v8_l1 TS [.int pp, .ls TS, .ol T0, .int 1, .un, .un, .un, .un, .un, .un, .un] = .nx [.int pp, .ls TS, .ol T0, .int w, z4, .un, .un, .un, .un, .un, .un]) (hr : rgOk w) (hw : w ≤ 1000000) (e3 : forL (gtN 5) f_law_due_v8_l3 (rng 0 w.toNat) [.int pp, .ls TS, .ol T0, .int w, z4, .un, .un, .un, .un, .un, .un] = .nx [.int pp, .ls TS, .ol (F.map D.int), .int w, z4, z5, z6, z7, z8, z9, z10]) (bF : F.length ≤ lim) (k0 : (brws T0).length = T0.length) : g_law_due_v8 [.int pp, .ls TS] = .ok (.tp (F.map D.int)) := by
  have l1 : 1 ≤ lim := by rw [lim_eq]; omega
  simp [g_law_due_v8, runF, f_law_due_v8, l1, hp1, om, e1, hr, hw, e3, bF]
theorem due72_ok (hp : 1 ≤ p) (hp2 : p ≤ 60) (hE : EndsOk p ts) (ht : ts.length ≤ 10) : g_law_due_v8 [.int p, .ls (ts.map dP)] = .ok (.tp ((rwN (p + 1) (frN p ts)).map D.int)) := by
  have z0 : (rwN (p + 1) fun k => Dt.sm 0 (ctr p ts (iota p) p 0 ts.length k)).map D.int = List.replicate (p + 1) (.int 0) := by
    unfold rwN
    rw [List.map_map, List.eq_replicate_iff]
    refine ⟨by simp, fun b hb => ?_⟩
    obtain ⟨k, _, rfl⟩ := List.mem_map.mp hb
    rfl
  obtain ⟨z4, e1⟩ := due72_l1 (ts := ts) (.int p) (.ol (List.replicate (p + 1) (.int 0))) ts 0 .un .un .un .un .un .un .un
  obtain ⟨z5, z6, z7, z8, z9, z10, e3⟩ := due72_f3 hp hp2 hE (by omega) (.int ((2 ^ ts.length : Nat) : Int)) z4 (2 ^ ts.length) 0 .un .un .un .un .un .un
  rw [Nat.zero_add] at e1 e3
  rw [z0] at e3
  have ef : (rwN (p + 1) fun k => Dt.sm (2 ^ ts.length) (ctr p ts (iota p) p 0 ts.length k)) = rwN (p + 1) (frN p ts) := rwN_congr fun k hk => sum_frN hE (by omega)
  rw [ef] at e3
  have om : opMul (.ls [.int 0]) (.int ((p : Int) + 1)) = some (.ol (List.replicate (p + 1) (.int 0))) := by
    rw [opMul_rep (by omega) (by omega) (by simp), show ((p : Int) + 1).toNat = p + 1 by omega]
    congr 2
    induction p + 1 with
    | zero => rfl
    | succ n ih => rw [List.replicate_succ, List.replicate_succ, List.flatten_cons, ih]; rfl
  have hpw : 2 ^ ts.length ≤ 1024 := Nat.le_trans (Nat.pow_le_pow_right (by omega) ht) (by decide)
  have k0 : (brws (List.replicate (p + 1) (D.int 0))).length = (List.replicate (p + 1) (D.int 0)).length := by
    have : ∀ n : Nat, (brws (List.replicate n (D.int 0))).length = n := fun n => by
      induction n with
      | zero => rfl
      | succ n ih => rw [List.replicate_succ, brws_cons, List.length_cons, ih]
    rw [this, List.length_replicate]
  have tn : (((2 ^ ts.length : Nat) : Int)).toNat = 2 ^ ts.length := Int.toNat_natCast _
  refine due72_raw (z5 := z5) (z6 := z6) (z7 := z7) (z8 := z8) (z9 := z9) (z10 := z10) (w := ((2 ^ ts.length : Nat) : Int)) om rfl e1 (rgOk_of (by omega) (by omega)) (by omega) ?_ (by rw [rwN_len, lim_eq]; omega) k0
  rw [tn]
  exact e3
end Lw
end

namespace Lw
open DL L2
@[simp] theorem pyEq_2L {a b c d : List Int} : pyEq (.tp [.ls (a.map D.int), .ls (b.map D.int)]) (.tp [.ls (c.map D.int), .ls (d.map D.int)]) = some (decide ((a, b) = (c, d))) := (enc_int.ls.pair enc_int.ls).eq (by omega) (a, b) (c, d)
end Lw

noncomputable section
namespace Lw
open DL
end Lw
end

namespace Lw
open DL L2 TL
end Lw

noncomputable section
namespace Lw
open DL L2
theorem brO (T : List (List Int)) : plns (brws (T.map dO')) = T.map dR ∧ ploks (brws (T.map dO')) = true ∧ shd [D.bo (brws (T.map dO'))] = false := by
  refine ⟨?_, ?_, by simp⟩
  · induction T with
    | nil => rfl
    | cons a T ih =>
      rw [List.map_cons, List.map_cons]
      show pln (brw (dO' a)) :: plns (brws (T.map dO')) = _
      rw [ih]
      congr 1
      simp [dO', dR, brw, pln]
  · induction T with
    | nil => rfl
    | cons a T ih =>
      rw [List.map_cons]
      show (plok (brw (dO' a)) && ploks (brws (T.map dO'))) = true
      rw [ih]
      simp [dO', brw]
theorem calDet (T : List (List Int)) : calD g_determinant [.bo (brws (T.map dO'))] = (g_determinant [.ls (T.map dR)]).bind fun d => if flat d = true then .ok d else .bad := by
  obtain ⟨h1, h2, h3⟩ := brO T
  unfold calD
  rw [h3, if_neg (by decide)]
  have e1 : ploks [D.bo (brws (T.map dO'))] = true := by
    show (ploks (brws (T.map dO')) && true) = true
    rw [h2]; rfl
  have e2 : plns [D.bo (brws (T.map dO'))] = [.ls (T.map dR)] := by
    show [D.ls (plns (brws (T.map dO')))] = _
    rw [h1]
  rw [e1, if_pos rfl, e2]
theorem rf_l1 {x0 x1 : D} {t : Int} {n k : Nat} (A : Dt.Mx) (hk : k < n) (hn : n ≤ 1000) :
    f_rooted_forests_l1 [x0, x1, .int t, .ol ((rows n A).map dO'), .int k] = .nx [x0, x1, .int t, .ol ((rows n (Dt.upd A k fun j => if j = k then A k k + t else A k j)).map dO'), .int k] := by
  have hl : (rows n A).length = n := rows_len n A
  have i1 : ixN ((rows n A).map dO').length (k : Int) = some k := by rw [ixN_nat (by omega) (by rw [List.length_map, hl]; omega)]; rfl
  have g1 : ((rows n A).map dO')[k]? = some (.ol ((rwN n (A k)).map D.int)) := by
    unfold rows
    rw [List.getElem?_map, List.getElem?_map, List.getElem?_range hk]
    rfl
  have g2 : ((rwN n (A k)).map D.int)[k]? = some (.int (A k k)) := by
    unfold rwN
    rw [List.getElem?_map, List.getElem?_map, List.getElem?_range hk]
    rfl
  have h1 : ([x0, x1, .int t, .ol ((rows n A).map dO'), .int k] : Env)[3]? = some (.ol ((rows n A).map dO')) := rfl
  have h2 : ([x0, x1, .int t, .ol ((rows n A).map dO'), .int k] : Env)[4]? = some (.int k) := rfl
  unfold f_rooted_forests_l1
  rw [sAug2_, h1, h2]
  dsimp only
  rw [i1]
  dsimp only
  rw [g1]
  dsimp only
  rw [if_pos ⟨by omega, by omega⟩, Int.toNat_natCast, g2]
  dsimp only
  have ev : eVar 2 [x0, x1, .int t, .ol ((rows n A).map dO'), .int k] = .ok (.int t) := by simp
  rw [ev, Res.st_ok]
  dsimp only [opd_int]
  have e : ((rows n A).map dO').set k (.ol (((rwN n (A k)).map D.int).set k (.int (A k k + t)))) = (rows n (Dt.upd A k fun j => if j = k then A k k + t else A k j)).map dO' := by
    rw [← rows_set, ← rwN_set, List.map_set]
    congr 1
    unfold dO'
    rw [List.map_set]
  rw [e]
  rfl
def Ar (t : Int) (m : Nat) (B : Dt.Mx) : Dt.Mx := fun r j => if r < m then B r j + t * Dt.iv (r = j) else B r j
theorem rows_congr {n : Nat} {A B : Dt.Mx} (h : ∀ r j, r < n → j < n → A r j = B r j) : rows n A = rows n B := by
  unfold rows
  exact List.map_congr_left fun r hr => rwN_congr fun j hj => h r j (List.mem_range.mp hr) hj
theorem Ar_step (t : Int) {n m : Nat} (B : Dt.Mx) (hm : m < n) : rows n (Dt.upd (Ar t m B) m fun j => if j = m then Ar t m B m m + t else Ar t m B m j) = rows n (Ar t (m + 1) B) := by
  refine rows_congr fun r j _ _ => ?_
  unfold Dt.upd Ar
  by_cases c : r = m
  · subst c
    rw [if_pos rfl, if_neg (show ¬ r < r by omega), if_pos (show r < r + 1 by omega)]
    unfold Dt.iv
    by_cases d : j = r
    · rw [if_pos d, if_pos d.symm, d]; omega
    · rw [if_neg d, if_neg (show ¬ r < r by omega), if_neg fun z => d z.symm]; omega
  · rw [if_neg c]
    by_cases d : r < m
    · rw [if_pos d, if_pos (by omega)]
    · rw [if_neg d, if_neg (by omega)]
theorem rf_for1 {x0 x1 : D} {t : Int} {n : Nat} (hn : n ≤ 1000) (B : Dt.Mx) : ∀ (k m : Nat) (y4 : D), m + k = n → ∃ z4, forL (gtN 4) f_rooted_forests_l1 (rng m k) [x0, x1, .int t, .ol ((rows n (Ar t m B)).map dO'), y4] = .nx [x0, x1, .int t, .ol ((rows n (Ar t n B)).map dO'), z4] := by
  intro k
  induction k with
  | zero =>
    intro m y4 h
    obtain rfl : m = n := by omega
    exact ⟨y4, rng0_for⟩
  | succ k IH =>
    intro m y4 h
    obtain ⟨z4, e⟩ := IH (m + 1) (.int m) (by omega)
    have st := rf_l1 (x0 := x0) (x1 := x1) (t := t) (Ar t m B) (k := m) (n := n) (by omega) hn
    rw [Ar_step t B (by omega)] at st
    rw [Int.natCast_succ] at e
    exact ⟨z4, rngS_for rfl st e⟩
section
variable {p : Nat} {ts : List (Int × Int)}
theorem pull_rows (hp2 : p ≤ 900) (hE : EndsOk p ts) : g_pull_table [.ob 14 [.int p, .ls (ts.map dP)]] = .ok (.ol ((rows p (Lap ts)).map dO')) := by
  obtain ⟨T, h1, h2, h3⟩ := pulls_ok (p : Int) rfl hp2 ts hE
  have e : T = rows p (Lap ts) := by
    rw [rows_of h1]
    exact rows_congr fun r j hr hj => h2 r j hr hj
  subst e
  simp [g_pull_table, runF, f_pull_table, h3]
theorem fac128 : Dt.fac 14 * 128 ^ 14 < 2 ^ 9000 := by decide +kernel
theorem fac128b : Dt.fac 14 * 128 ^ 14 + 2 ^ 60 ≤ 2 ^ 300 := by decide +kernel
theorem iv_abs (P : Prop) [Decidable P] : (Dt.iv P).natAbs ≤ 1 := by
  unfold Dt.iv
  split <;> decide
theorem Ar_bd (hl : ts.length ≤ 64) {t : Nat} (ht : t ≤ 14) : ∀ r c, (Ar t p (Lap ts) r c).natAbs ≤ 128 := fun r c => by
  unfold Ar Lap
  have h := Rw_abs (fun v => v) r c (ts.map tn)
  rw [List.length_map] at h
  have i := iv_abs (r = c)
  have m : ((t : Int) * Dt.iv (r = c)).natAbs ≤ 14 := by
    rw [Int.natAbs_mul, Int.natAbs_natCast]
    exact Nat.le_trans (Nat.mul_le_mul ht i) (by omega)
  split <;> omega
theorem At_Ar (t : Int) : Dt.det p 0 (Ar t p (Lap ts)) = Dt.det p 0 (Dt.At t p (Lap ts)) := Dt.det_congr fun r j hr _ hj => by
  unfold Ar
  rw [if_pos hr, Dt.At_lt (by omega)]
theorem rf_det (hp2 : p ≤ 14) (hl : ts.length ≤ 64) {t : Nat} (ht : t ≤ 14) : calD g_determinant [.bo (brws ((rows p (Ar t p (Lap ts))).map dO'))] = .ok (.int (Dt.det p 0 (Dt.At t p (Lap ts)))) := by
  have hb : Dt.fac p * 128 ^ p < 2 ^ 9000 := Nat.lt_of_le_of_lt (fac_mono 128 (by decide) hp2) fac128
  have e := det_rows (by omega) (Ar t p (Lap ts)) 128 (by decide) hb (fun r c _ _ => Ar_bd hl ht r c)
  rw [calDet, e, At_Ar]
  rfl
def rfV (p : Nat) (ts : List (Int × Int)) (t : Nat) : Int := Dt.det p 0 (Dt.At t p (Lap ts)) - (t : Int) ^ p
theorem rfV_poly (t : Nat) : rfV p ts t = Dt.sm p fun k => frN p ts k * (t : Int) ^ k := by
  unfold rfV
  rw [frN_poly]
  show Dt.sm p _ + frN p ts p * (t : Int) ^ p - _ = _
  rw [frN_p, Int.one_mul]
  omega
theorem rfV_bd (hp2 : p ≤ 14) (hl : ts.length ≤ 64) {t : Nat} (ht : t ≤ 14) : (rfV p ts t).natAbs ≤ 2 ^ 300 := by
  unfold rfV
  rw [← At_Ar]
  have h := Dt.det_abs 128 (n := p) (c := 0) (A := Ar t p (Lap ts)) fun r j _ _ _ => Ar_bd hl ht r j
  have h2 := fac_mono 128 (by decide) hp2
  have h3 : ((t : Int) ^ p).natAbs ≤ 2 ^ 60 := by
    rw [Int.natAbs_pow, Int.natAbs_natCast]
    exact Nat.le_trans (Nat.pow_le_pow_left (show t ≤ 16 by omega) p) (Nat.le_trans (Nat.pow_le_pow_right (by omega) hp2) (by decide +kernel))
  have h4 := fac128b
  generalize Dt.fac 14 * 128 ^ 14 = F at h2 h4
  generalize (2 : Nat) ^ 60 = G at h3 h4
  generalize (2 : Nat) ^ 300 = K at h4
  generalize Dt.det p 0 (Ar t p (Lap ts)) = X at h
  generalize (t : Int) ^ p = Y at h3
  omega
theorem rf_step {pp t v w : Int} {T : List D} {V : List Int} {M M2 : List D} {z4 y3 y4 : D} (pt : g_pull_table [.ob 14 [.int pp, .ls T]] = .ok (.ol M)) (hr : rgOk pp) (e1 : forL (gtN 4) f_rooted_forests_l1 (rng 0 pp.toNat) [.ob 14 [.int pp, .ls T], .ol (V.map D.int), .int t, .ol M, y4] = .nx [.ob 14 [.int pp, .ls T], .ol (V.map D.int), .int t, .ol M2, z4])
    (cd : calD g_determinant [.bo (brws M2)] = .ok (.int v)) {P : List Int} (pw : g_powers_of [.int t, .int (pp + 1)] = .ok (.ol (P.map D.int))) (pa : atI P (-1) = some w) (b : V.length < lim) :
    f_rooted_forests_l2 [.ob 14 [.int pp, .ls T], .ol (V.map D.int), .int t, y3, y4] = .nx [.ob 14 [.int pp, .ls T], .ol ((V ++ [v - w]).map D.int), .int t, .ol M2, z4] := by
  simp [f_rooted_forests_l2, pt, hr, e1, cd, pw, pa, b]
end
end Lw
end

noncomputable section
namespace Lw
open DL L2
section
variable {p : Nat} {ts : List (Int × Int)}
end
end Lw
end

noncomputable section
namespace Lw
open DL L2
section
variable {p : Nat} {ts : List (Int × Int)}
theorem rf_for2 (hp : 1 ≤ p) (hp2 : p ≤ 14) (hE : EndsOk p ts) (hl : ts.length ≤ 64) : ∀ (k m : Nat) (y2 y3 y4 : D), m + k = p →
    ∃ z2 z3 z4, forL (gtN 2) f_rooted_forests_l2 (rng m k) [.ob 14 [.int p, .ls (ts.map dP)], .ol ((rwN m (rfV p ts)).map D.int), y2, y3, y4] = .nx [.ob 14 [.int p, .ls (ts.map dP)], .ol ((rwN p (rfV p ts)).map D.int), z2, z3, z4] := by
  intro k
  induction k with
  | zero =>
    intro m y2 y3 y4 h
    obtain rfl : m = p := by omega
    exact ⟨y2, y3, y4, rng0_for⟩
  | succ k IH =>
    intro m y2 y3 y4 h
    obtain ⟨z4, e1⟩ := rf_for1 (x0 := .ob 14 [.int p, .ls (ts.map dP)]) (x1 := .ol ((rwN m (rfV p ts)).map D.int)) (t := (m : Int)) (n := p) (by omega) (Lap ts) p 0 y4 (by omega)
    have e0 : rows p (Ar m 0 (Lap ts)) = rows p (Lap ts) := rows_congr fun r j _ _ => if_neg (by omega)
    rw [e0] at e1
    have pw := powers_ok (m : Int) (by have : m < 2 ^ 60 := Nat.lt_of_lt_of_le (show m < 14 by omega) (by decide); omega) (p + 1) (by omega) (by omega)
    have pa : atI (rwN (p + 1) fun k => (m : Int) ^ k) (-1) = some ((m : Int) ^ p) := by
      rw [rwN_succ]
      exact atI_neg1 _ _
    have st := rf_step (y3 := y3) (V := rwN m (rfV p ts)) (pull_rows (by omega) hE) (rgOk_of (by omega) (by omega)) e1 (rf_det hp2 hl (t := m) (by omega)) (by rw [Int.natCast_succ] at pw; exact pw) pa (by rw [rwN_len, lim_eq]; omega)
    have e2 : rwN m (rfV p ts) ++ [Dt.det p 0 (Dt.At m p (Lap ts)) - (m : Int) ^ p] = rwN (m + 1) (rfV p ts) := (rwN_succ m (rfV p ts)).symm
    rw [e2] at st
    obtain ⟨w2, w3, w4, ih⟩ := IH (m + 1) (.int m) (.ol ((rows p (Ar m p (Lap ts))).map dO')) z4 (by omega)
    rw [Int.natCast_succ] at ih
    exact ⟨w2, w3, w4, rngS_for rfl st ih⟩
theorem rf_fin {pp : Int} {T : List D} {V R : List Int} {z2 z3 z4 : D} (hr : rgOk pp) (e : forL (gtN 2) f_rooted_forests_l2 (rng 0 pp.toNat) [.ob 14 [.int pp, .ls T], .ol [], .un, .un, .un] = .nx [.ob 14 [.int pp, .ls T], .ol (V.map D.int), z2, z3, z4]) (cb : calD g_factors_of [.bo (V.map D.int)] = .ok (.ol (R.map D.int))) (l1 : 1 ≤ lim) (b : R.length + 1 ≤ lim) :
    g_rooted_forests [.ob 14 [.int pp, .ls T]] = .ok (.tp ((R ++ [1]).map D.int)) := by
  simp [g_rooted_forests, runF, f_rooted_forests, hr, e, cb, l1, b]
def forL' (p : Nat) (ts : List (Int × Int)) : List Int := rwN (p + 1) (frN p ts)
theorem rooted_ok (hp : 1 ≤ p) (hp2 : p ≤ 14) (hE : EndsOk p ts) (hl : ts.length ≤ 64) : g_rooted_forests [.ob 14 [.int p, .ls (ts.map dP)]] = .ok (.tp ((forL' p ts).map D.int)) := by
  obtain ⟨z2, z3, z4, e⟩ := rf_for2 hp hp2 hE hl p 0 .un .un .un (by omega)
  have fo := factors_ok (n := p) hp hp2 (frN p ts) (rfV p ts) (fun r hr => rfV_poly r) (fun r hr => rfV_bd hp2 hl (by omega))
  have cb := calF_bo (rwN p (rfV p ts))
  rw [fo] at cb
  have cb' : calD g_factors_of [.bo ((rwN p (rfV p ts)).map D.int)] = .ok (.ol ((rwN p (frN p ts)).map D.int)) := by
    rw [cb]
    exact if_pos (by simp)
  have e1 : forL' p ts = rwN p (frN p ts) ++ [1] := by
    unfold forL'
    rw [rwN_succ, frN_p]
  rw [e1]
  exact rf_fin (rgOk_of (by omega) (by omega)) e cb' (by rw [lim_eq]; omega) (by rw [rwN_len, lim_eq]; omega)
end
end Lw
end

noncomputable section
namespace Lw
open DL L2 TL
theorem k72_raw {ns F : List Int} {pp : Int} {TS : List D} (ew : g_law_web [.sc (ns.map D.int), .int 5, .int 8] = .ok (.tp [.int pp, .ls TS])) (fO : frzs TS = TS) (nO : nods TS = true) (ei : g_Web_init [.int pp, .ls TS] = .ok [.int pp, .ol TS]) (rf : g_rooted_forests [.ob 14 [.int pp, .ls TS]] = .ok (.tp (F.map D.int))) (du : g_law_due_v8 [.int pp, .ls TS] = .ok (.tp (F.map D.int))) (bF : F.length ≤ lim) : g_law_k72 [.sc (ns.map D.int)] = .ok (.bl true) := by
  have e2 : pyEq (.tp (F.map D.int)) (.tp (F.map D.int)) = some true := by
    have := enc_int.tp.eq (by omega) F F
    rwa [decide_eq_true rfl] at this
  have lc : ∀ x0 x1 x2 x3 : D, lcL (gtN 4) tYesG f_law_k72_c1 [x0, x1, x2, x3, .un] (F.map D.int) = .ok ((F.map fun _ => true).map D.bl) := fun x0 x1 x2 x3 => by
    rw [List.map_map]
    refine lcL_mapN F fun S hS => by simp [f_law_k72_c1]
  have ca : caAll [.ls ((F.map fun _ => true).map D.bl)] = some (.bl true) := by
    rw [caAll_bls]
    simp
  obtain ⟨g1, g2, _, g4, _, _⟩ := dulls dull_bl (F.map fun _ => true)
  generalize (F.map fun _ => true).map D.bl = BB at *
  simp [g_law_k72, runF, f_law_k72, ew, ei, fO, nO, rf, lc, bF, ca, g1, g2, g4, du, e2]
theorem true_law_k72 (ns : List Int) (h : ns.length ≤ 63) : g_law_k72 [.sc (ns.map D.int)] = .ok (.bl true) := by
  obtain ⟨p', ts, p1, p2, t1, t2, ew⟩ := web_ok ns h 5 8 (by omega) (by omega) (by omega) (by omega)
  have ei := web_init_ok p' ts p1 (by omega) (by omega) t2
  obtain ⟨p, rfl⟩ : ∃ p : Nat, p' = p := ⟨p'.toNat, by omega⟩
  have hp : 1 ≤ p := by omega
  have rf := rooted_ok hp (by omega) t2 (by omega)
  have du := due72_ok hp (by omega) t2 (by omega)
  obtain ⟨_, fO, _, nO, _, _⟩ := dulls dull_P ts
  exact k72_raw ew fO nO ei rf du (by unfold forL'; rw [rwN_len, lim_eq]; omega)
end Lw
end

namespace Lw
open PySem L2 DL
def top (i : Nat) : Stmt := PySem.Challenge.pw_spanrow_k72_rooted_forests.main.body.getD i (.Pass ⟨0, 0, 0, 0⟩)
abbrev s_look_at_table : Stmt := top 6
abbrev s_first_row_with : Stmt := top 7
abbrev s_cleared : Stmt := top 8
abbrev s_determinant : Stmt := top 9
abbrev s_common_part : Stmt := top 10
abbrev s_as_fraction : Stmt := top 11
abbrev s_solved : Stmt := top 12
abbrev s_Web_init : Stmt := inClass (top 16) 0
abbrev s_pulls : Stmt := top 18
abbrev s_pull_table : Stmt := top 19
abbrev s_powers_of : Stmt := top 21
abbrev s_factors_of : Stmt := top 22
abbrev s_rooted_forests : Stmt := top 23
abbrev s_law_cell : Stmt := top 25
abbrev s_law_mixed : Stmt := top 26
abbrev s_law_draws : Stmt := top 27
abbrev s_law_ties : Stmt := top 28
abbrev s_law_web : Stmt := top 29
abbrev s_law_some : Stmt := top 30
abbrev s_law_marks : Stmt := top 31
abbrev s_law_due_v8 : Stmt := top 32
abbrev s_law_k72 : Stmt := top 33
abbrev N_look_at_table : List Str := ["table", "row"]
abbrev N_first_row_with : List Str := ["rows", "at", "k"]
abbrev N_cleared : List Str := ["rows", "at", "ahead", "told", "pivot", "row", "made", "j"]
abbrev N_determinant : List Str := ["table", "rows", "sign", "ahead", "at", "found", "row"]
abbrev N_common_part : List Str := ["one", "other"]
abbrev N_as_fraction : List Str := ["top", "bottom", "share"]
abbrev N_solved : List Str := ["table", "right", "whole", "told", "k", "put", "row", "number"]
abbrev N_Web_init : List Str := ["self", "places", "ties", "one", "other"]
abbrev N_pulls : List Str := ["count", "ties", "table", "one", "other", "place"]
abbrev N_pull_table : List Str := ["web"]
abbrev N_powers_of : List Str := ["t", "count", "told"]
abbrev N_factors_of : List Str := ["values", "table", "t", "top", "bottom"]
abbrev N_rooted_forests : List Str := ["web", "values", "t", "table", "place"]
abbrev N_law_cell : List Str := ["script", "k"]
abbrev N_law_mixed : List Str := ["cell", "k", "first", "second"]
abbrev N_law_draws : List Str := ["script", "start", "count", "way", "total", "folded", "k", "at", "told", "cell"]
abbrev N_law_ties : List Str := ["draws", "places", "hang", "ties", "k", "one", "other", "ends", "turn"]
abbrev N_law_web : List Str := ["script", "most", "count", "head", "places", "many", "draws"]
abbrev N_law_some : List Str := ["cell", "count", "some", "k"]
abbrev N_law_marks : List Str := ["places", "ties", "some", "marks", "tie", "one", "other", "gone", "kept", "place"]
abbrev N_law_due_v8 : List Str := ["places", "ties", "told", "every", "tie", "number", "some", "marks", "pieces", "ways", "mark"]
abbrev N_law_k72 : List Str := ["script", "places", "ties", "found", "number"]
theorem sc_look_at_table : FnScope ["table", "row"] ["table"] (defScope s_look_at_table) := ⟨rfl, rfl, rfl, by decide +kernel, rfl, by decide +kernel, by decide +kernel⟩
theorem sc_first_row_with : FnScope ["rows", "at", "k"] ["rows", "at"] (defScope s_first_row_with) := ⟨rfl, rfl, rfl, by decide +kernel, rfl, by decide +kernel, by decide +kernel⟩
theorem sc_cleared : FnScope ["rows", "at", "ahead", "told", "pivot", "row", "made", "j"] ["rows", "at", "ahead"] (defScope s_cleared) := ⟨rfl, rfl, rfl, by decide +kernel, rfl, by decide +kernel, by decide +kernel⟩
theorem sc_determinant : FnScope ["table", "rows", "sign", "ahead", "at", "found", "row"] ["table"] (defScope s_determinant) := ⟨rfl, rfl, rfl, by decide +kernel, rfl, by decide +kernel, by decide +kernel⟩
theorem sc_common_part : FnScope ["one", "other"] ["one", "other"] (defScope s_common_part) := ⟨rfl, rfl, rfl, by decide +kernel, rfl, by decide +kernel, by decide +kernel⟩
theorem sc_as_fraction : FnScope ["top", "bottom", "share"] ["top", "bottom"] (defScope s_as_fraction) := ⟨rfl, rfl, rfl, by decide +kernel, rfl, by decide +kernel, by decide +kernel⟩
theorem sc_solved : FnScope ["table", "right", "whole", "told", "k", "put", "row", "number"] ["table", "right"] (defScope s_solved) := ⟨rfl, rfl, rfl, by decide +kernel, rfl, by decide +kernel, by decide +kernel⟩
theorem sc_Web_init : FnScope ["self", "places", "ties", "one", "other"] ["self", "places", "ties"] (defScope s_Web_init) := ⟨rfl, rfl, rfl, by decide +kernel, rfl, by decide +kernel, by decide +kernel⟩
theorem sc_pulls : FnScope ["count", "ties", "table", "one", "other", "place"] ["count", "ties"] (defScope s_pulls) := ⟨rfl, rfl, rfl, by decide +kernel, rfl, by decide +kernel, by decide +kernel⟩
theorem sc_pull_table : FnScope ["web"] ["web"] (defScope s_pull_table) := ⟨rfl, rfl, rfl, by decide +kernel, rfl, by decide +kernel, by decide +kernel⟩
theorem sc_powers_of : FnScope ["t", "count", "told"] ["t", "count"] (defScope s_powers_of) := ⟨rfl, rfl, rfl, by decide +kernel, rfl, by decide +kernel, by decide +kernel⟩
theorem sc_factors_of : FnScope ["values", "table", "t", "top", "bottom"] ["values"] (defScope s_factors_of) := ⟨rfl, rfl, rfl, by decide +kernel, rfl, by decide +kernel, by decide +kernel⟩
theorem sc_rooted_forests : FnScope ["web", "values", "t", "table", "place"] ["web"] (defScope s_rooted_forests) := ⟨rfl, rfl, rfl, by decide +kernel, rfl, by decide +kernel, by decide +kernel⟩
theorem sc_law_cell : FnScope ["script", "k"] ["script", "k"] (defScope s_law_cell) := ⟨rfl, rfl, rfl, by decide +kernel, rfl, by decide +kernel, by decide +kernel⟩
theorem sc_law_mixed : FnScope ["cell", "k", "first", "second"] ["cell", "k"] (defScope s_law_mixed) := ⟨rfl, rfl, rfl, by decide +kernel, rfl, by decide +kernel, by decide +kernel⟩
theorem sc_law_draws : FnScope ["script", "start", "count", "way", "total", "folded", "k", "at", "told", "cell"] ["script", "start", "count", "way"] (defScope s_law_draws) := ⟨rfl, rfl, rfl, by decide +kernel, rfl, by decide +kernel, by decide +kernel⟩
theorem sc_law_ties : FnScope ["draws", "places", "hang", "ties", "k", "one", "other", "ends", "turn"] ["draws", "places", "hang"] (defScope s_law_ties) := ⟨rfl, rfl, rfl, by decide +kernel, rfl, by decide +kernel, by decide +kernel⟩
theorem sc_law_web : FnScope ["script", "most", "count", "head", "places", "many", "draws"] ["script", "most", "count"] (defScope s_law_web) := ⟨rfl, rfl, rfl, by decide +kernel, rfl, by decide +kernel, by decide +kernel⟩
theorem sc_law_some : FnScope ["cell", "count", "some", "k"] ["cell", "count"] (defScope s_law_some) := ⟨rfl, rfl, rfl, by decide +kernel, rfl, by decide +kernel, by decide +kernel⟩
theorem sc_law_marks : FnScope ["places", "ties", "some", "marks", "tie", "one", "other", "gone", "kept", "place"] ["places", "ties", "some"] (defScope s_law_marks) := ⟨rfl, rfl, rfl, by decide +kernel, rfl, by decide +kernel, by decide +kernel⟩
theorem sc_law_due_v8 : FnScope ["places", "ties", "told", "every", "tie", "number", "some", "marks", "pieces", "ways", "mark"] ["places", "ties"] (defScope s_law_due_v8) := ⟨rfl, rfl, rfl, by decide +kernel, rfl, by decide +kernel, by decide +kernel⟩
theorem sc_law_k72 : FnScope ["script", "places", "ties", "found", "number"] ["script"] (defScope s_law_k72) := ⟨rfl, rfl, rfl, by decide +kernel, rfl, by decide +kernel, by decide +kernel⟩
set_option genInjectivity false in
set_option genSizeOfSpec false in
set_option maxHeartbeats 8000000 in
structure Tx (K : PySem.W.Frag) (mg : Str → Option Value) : Type where
  C_WebError : Addr
  C_BadWeb : Addr
  C_NotSquare : Addr
  C_Singular : Addr
  C_Web : Addr
  a_look_at_table : Addr
  d_look_at_table : FuncData
  a_first_row_with : Addr
  d_first_row_with : FuncData
  a_cleared : Addr
  d_cleared : FuncData
  a_determinant : Addr
  d_determinant : FuncData
  a_common_part : Addr
  d_common_part : FuncData
  a_as_fraction : Addr
  d_as_fraction : FuncData
  a_solved : Addr
  d_solved : FuncData
  a_Web_init : Addr
  d_Web_init : FuncData
  a_pulls : Addr
  d_pulls : FuncData
  a_pull_table : Addr
  d_pull_table : FuncData
  a_powers_of : Addr
  d_powers_of : FuncData
  a_factors_of : Addr
  d_factors_of : FuncData
  a_rooted_forests : Addr
  d_rooted_forests : FuncData
  a_law_cell : Addr
  d_law_cell : FuncData
  a_law_mixed : Addr
  d_law_mixed : FuncData
  a_law_draws : Addr
  d_law_draws : FuncData
  a_law_ties : Addr
  d_law_ties : FuncData
  a_law_web : Addr
  d_law_web : FuncData
  a_law_some : Addr
  d_law_some : FuncData
  a_law_marks : Addr
  d_law_marks : FuncData
  a_law_due_v8 : Addr
  d_law_due_v8 : FuncData
  a_law_k72 : Addr
  d_law_k72 : FuncData
  t_MOST_PLACES : Tok
  t_MOST_TIES : Tok
  m_WebError : mg "WebError" = some (.ref C_WebError)
  x_WebError : PySem.W.excIn K C_WebError [.type "ValueError", .type "Exception", .type "BaseException", .type "object"] "ValueError.__new__" = true
  kx_WebError : PySem.W.keepIn K (.ref C_WebError) = true
  bx_WebError : PySem.W.subIn K (.ref C_WebError) (.type "BaseException") = some true
  tx_WebError : PySem.W.typeIn K (.ref C_WebError) = some (.type "type")
  m_BadWeb : mg "BadWeb" = some (.ref C_BadWeb)
  x_BadWeb : PySem.W.excIn K C_BadWeb [.type "ValueError", .type "Exception", .type "BaseException", .type "object"] "ValueError.__new__" = true
  kx_BadWeb : PySem.W.keepIn K (.ref C_BadWeb) = true
  bx_BadWeb : PySem.W.subIn K (.ref C_BadWeb) (.type "BaseException") = some true
  tx_BadWeb : PySem.W.typeIn K (.ref C_BadWeb) = some (.type "type")
  m_NotSquare : mg "NotSquare" = some (.ref C_NotSquare)
  x_NotSquare : PySem.W.excIn K C_NotSquare [.type "ValueError", .type "Exception", .type "BaseException", .type "object"] "ValueError.__new__" = true
  kx_NotSquare : PySem.W.keepIn K (.ref C_NotSquare) = true
  bx_NotSquare : PySem.W.subIn K (.ref C_NotSquare) (.type "BaseException") = some true
  tx_NotSquare : PySem.W.typeIn K (.ref C_NotSquare) = some (.type "type")
  m_Singular : mg "Singular" = some (.ref C_Singular)
  x_Singular : PySem.W.excIn K C_Singular [.type "ValueError", .type "Exception", .type "BaseException", .type "object"] "ValueError.__new__" = true
  kx_Singular : PySem.W.keepIn K (.ref C_Singular) = true
  bx_Singular : PySem.W.subIn K (.ref C_Singular) (.type "BaseException") = some true
  tx_Singular : PySem.W.typeIn K (.ref C_Singular) = some (.type "type")
  m_Web : mg "Web" = some (.ref C_Web)
  cl_Web : L2.Cls K C_Web
  na_Web_places : NoAttr K C_Web "places"
  na_Web_ties : NoAttr K C_Web "ties"
  mk_Web : Mk K C_Web a_Web_init
  F_look_at_table : Fun K "look_at_table" "look_at_table" s_look_at_table a_look_at_table d_look_at_table
  b_look_at_table : Binds K d_look_at_table ["table"] []
  m_look_at_table : mg "look_at_table" = some (.ref a_look_at_table)
  k_look_at_table : PySem.W.keepIn K (.ref a_look_at_table) = true
  F_first_row_with : Fun K "first_row_with" "first_row_with" s_first_row_with a_first_row_with d_first_row_with
  b_first_row_with : Binds K d_first_row_with ["rows", "at"] []
  m_first_row_with : mg "first_row_with" = some (.ref a_first_row_with)
  k_first_row_with : PySem.W.keepIn K (.ref a_first_row_with) = true
  F_cleared : Fun K "cleared" "cleared" s_cleared a_cleared d_cleared
  b_cleared : Binds K d_cleared ["rows", "at", "ahead"] []
  m_cleared : mg "cleared" = some (.ref a_cleared)
  k_cleared : PySem.W.keepIn K (.ref a_cleared) = true
  F_determinant : Fun K "determinant" "determinant" s_determinant a_determinant d_determinant
  b_determinant : Binds K d_determinant ["table"] []
  m_determinant : mg "determinant" = some (.ref a_determinant)
  k_determinant : PySem.W.keepIn K (.ref a_determinant) = true
  F_common_part : Fun K "common_part" "common_part" s_common_part a_common_part d_common_part
  b_common_part : Binds K d_common_part ["one", "other"] []
  m_common_part : mg "common_part" = some (.ref a_common_part)
  k_common_part : PySem.W.keepIn K (.ref a_common_part) = true
  F_as_fraction : Fun K "as_fraction" "as_fraction" s_as_fraction a_as_fraction d_as_fraction
  b_as_fraction : Binds K d_as_fraction ["top", "bottom"] []
  m_as_fraction : mg "as_fraction" = some (.ref a_as_fraction)
  k_as_fraction : PySem.W.keepIn K (.ref a_as_fraction) = true
  F_solved : Fun K "solved" "solved" s_solved a_solved d_solved
  b_solved : Binds K d_solved ["table", "right"] []
  m_solved : mg "solved" = some (.ref a_solved)
  k_solved : PySem.W.keepIn K (.ref a_solved) = true
  F_Web_init : Fun K "__init__" "Web.__init__" s_Web_init a_Web_init d_Web_init
  b_Web_init : Binds K d_Web_init ["self", "places", "ties"] []
  k_Web_init : PySem.W.keepIn K (.ref a_Web_init) = true
  F_pulls : Fun K "pulls" "pulls" s_pulls a_pulls d_pulls
  b_pulls : Binds K d_pulls ["count", "ties"] []
  m_pulls : mg "pulls" = some (.ref a_pulls)
  k_pulls : PySem.W.keepIn K (.ref a_pulls) = true
  F_pull_table : Fun K "pull_table" "pull_table" s_pull_table a_pull_table d_pull_table
  b_pull_table : Binds K d_pull_table ["web"] []
  m_pull_table : mg "pull_table" = some (.ref a_pull_table)
  k_pull_table : PySem.W.keepIn K (.ref a_pull_table) = true
  F_powers_of : Fun K "powers_of" "powers_of" s_powers_of a_powers_of d_powers_of
  b_powers_of : Binds K d_powers_of ["t", "count"] []
  m_powers_of : mg "powers_of" = some (.ref a_powers_of)
  k_powers_of : PySem.W.keepIn K (.ref a_powers_of) = true
  F_factors_of : Fun K "factors_of" "factors_of" s_factors_of a_factors_of d_factors_of
  b_factors_of : Binds K d_factors_of ["values"] []
  m_factors_of : mg "factors_of" = some (.ref a_factors_of)
  k_factors_of : PySem.W.keepIn K (.ref a_factors_of) = true
  F_rooted_forests : Fun K "rooted_forests" "rooted_forests" s_rooted_forests a_rooted_forests d_rooted_forests
  b_rooted_forests : Binds K d_rooted_forests ["web"] []
  m_rooted_forests : mg "rooted_forests" = some (.ref a_rooted_forests)
  k_rooted_forests : PySem.W.keepIn K (.ref a_rooted_forests) = true
  F_law_cell : Fun K "_law_cell" "_law_cell" s_law_cell a_law_cell d_law_cell
  b_law_cell : Binds K d_law_cell ["script", "k"] []
  m_law_cell : mg "_law_cell" = some (.ref a_law_cell)
  k_law_cell : PySem.W.keepIn K (.ref a_law_cell) = true
  F_law_mixed : Fun K "_law_mixed" "_law_mixed" s_law_mixed a_law_mixed d_law_mixed
  b_law_mixed : Binds K d_law_mixed ["cell", "k"] []
  m_law_mixed : mg "_law_mixed" = some (.ref a_law_mixed)
  k_law_mixed : PySem.W.keepIn K (.ref a_law_mixed) = true
  F_law_draws : Fun K "_law_draws" "_law_draws" s_law_draws a_law_draws d_law_draws
  b_law_draws : Binds K d_law_draws ["script", "start", "count", "way"] []
  m_law_draws : mg "_law_draws" = some (.ref a_law_draws)
  k_law_draws : PySem.W.keepIn K (.ref a_law_draws) = true
  F_law_ties : Fun K "_law_ties" "_law_ties" s_law_ties a_law_ties d_law_ties
  b_law_ties : Binds K d_law_ties ["draws", "places", "hang"] []
  m_law_ties : mg "_law_ties" = some (.ref a_law_ties)
  k_law_ties : PySem.W.keepIn K (.ref a_law_ties) = true
  F_law_web : Fun K "_law_web" "_law_web" s_law_web a_law_web d_law_web
  b_law_web : Binds K d_law_web ["script", "most", "count"] []
  m_law_web : mg "_law_web" = some (.ref a_law_web)
  k_law_web : PySem.W.keepIn K (.ref a_law_web) = true
  F_law_some : Fun K "_law_some" "_law_some" s_law_some a_law_some d_law_some
  b_law_some : Binds K d_law_some ["cell", "count"] []
  m_law_some : mg "_law_some" = some (.ref a_law_some)
  k_law_some : PySem.W.keepIn K (.ref a_law_some) = true
  F_law_marks : Fun K "_law_marks" "_law_marks" s_law_marks a_law_marks d_law_marks
  b_law_marks : Binds K d_law_marks ["places", "ties", "some"] []
  m_law_marks : mg "_law_marks" = some (.ref a_law_marks)
  k_law_marks : PySem.W.keepIn K (.ref a_law_marks) = true
  F_law_due_v8 : Fun K "_law_due" "_law_due" s_law_due_v8 a_law_due_v8 d_law_due_v8
  b_law_due_v8 : Binds K d_law_due_v8 ["places", "ties"] []
  m_law_due_v8 : mg "_law_due" = some (.ref a_law_due_v8)
  k_law_due_v8 : PySem.W.keepIn K (.ref a_law_due_v8) = true
  F_law_k72 : Fun K "law" "law" s_law_k72 a_law_k72 d_law_k72
  b_law_k72 : Binds K d_law_k72 ["script"] []
  m_law_k72 : mg "law" = some (.ref a_law_k72)
  k_law_k72 : PySem.W.keepIn K (.ref a_law_k72) = true
  v_MOST_PLACES : mg "MOST_PLACES" = some (.int 14 t_MOST_PLACES)
  v_MOST_TIES : mg "MOST_TIES" = some (.int 30 t_MOST_TIES)
  z_abs : mg "abs" = none
  z_all : mg "all" = none
  z_int : mg "int" = none
  z_isinstance : mg "isinstance" = none
  z_len : mg "len" = none
  z_list : mg "list" = none
  z_max : mg "max" = none
  z_min : mg "min" = none
  z_range : mg "range" = none
  z_set : mg "set" = none
  z_sorted : mg "sorted" = none
  z_sum : mg "sum" = none
  z_tuple : mg "tuple" = none
  z_zip : mg "zip" = none
section
variable {P : Program} {w : World} {K : PySem.W.Frag} {mg : Str → Option Value} {base : Heap}
def Tx.cls (T : Tx K mg) : DL.Cls := fun c => ([some (T.C_WebError, []), some (T.C_BadWeb, []), none, none, none, none, none, some (T.C_NotSquare, []), some (T.C_Singular, []), none, none, none, none, none, some (T.C_Web, ["places", "ties"]), none, none] : List (Option (Addr × List Str))).getD c none
theorem Tx.e_WebError (T : Tx K mg) : ExOk K mg T.cls 0 "WebError" T.C_WebError := ⟨rfl, T.m_WebError, T.x_WebError, T.kx_WebError, T.bx_WebError, T.tx_WebError⟩
theorem Tx.e_BadWeb (T : Tx K mg) : ExOk K mg T.cls 1 "BadWeb" T.C_BadWeb := ⟨rfl, T.m_BadWeb, T.x_BadWeb, T.kx_BadWeb, T.bx_BadWeb, T.tx_BadWeb⟩
theorem Tx.e_NotSquare (T : Tx K mg) : ExOk K mg T.cls 7 "NotSquare" T.C_NotSquare := ⟨rfl, T.m_NotSquare, T.x_NotSquare, T.kx_NotSquare, T.bx_NotSquare, T.tx_NotSquare⟩
theorem Tx.e_Singular (T : Tx K mg) : ExOk K mg T.cls 8 "Singular" T.C_Singular := ⟨rfl, T.m_Singular, T.x_Singular, T.kx_Singular, T.bx_Singular, T.tx_Singular⟩
theorem Tx.o_Web (T : Tx K mg) : ClsOk K T.cls 14 T.C_Web ["places", "ties"] := ⟨rfl, by decide +kernel, T.cl_Web, fun f h => (by simp at h; rcases h with rfl | rfl <;> first | exact T.na_Web_places | exact T.na_Web_ties)⟩
set_option maxHeartbeats 4000000 in
theorem ok_look_at_table (T : Tx K mg) : FnOk P w K mg base (L2.CX P w) 1 T.a_look_at_table T.d_look_at_table ["table"] (spD K T.cls 1 g_look_at_table) :=
  fnD_ok T.F_look_at_table sc_look_at_table rfl (fun cdv A outer s H E c => jss_one (js_for c (ji_seq (je_var 0)) (jg_name (i := 1) c.nd rfl (by first | exact Or.inl rfl | exact Or.inr rfl)) (jss_one (js_if (jt_cmp (op_ne4 c.eq) ok_ne (je_callB call_len ok_len T.z_len (by decide +kernel) (ja_cons (je_var 1) (ja_nil))) (je_callB call_len ok_len T.z_len (by decide +kernel) (ja_cons (je_var 0) (ja_nil))) (nomark _)) (jss_one (js_raise c T.e_NotSquare)) (jss_nil))))) (fun _ _ => .inr rfl)
set_option maxHeartbeats 4000000 in
theorem ok_first_row_with (T : Tx K mg) : FnOk P w K mg base (L2.CX P w) 1 T.a_first_row_with T.d_first_row_with ["rows", "at"] (spD K T.cls 2 g_first_row_with) :=
  fnD_ok T.F_first_row_with sc_first_row_with rfl (fun cdv A outer s H E c => jss_cons (js_for c (ji_rg2 T.z_range (ja_cons (je_var 1) (ja_cons (je_callB call_len ok_len T.z_len (by decide +kernel) (ja_cons (je_var 0) (ja_nil))) (ja_nil)))) (jg_name (i := 2) c.nd rfl (by first | exact Or.inl rfl | exact Or.inr rfl)) (jss_one (js_if (jt_cmp (op_ne4 c.eq) ok_ne (je_ix (je_ix (je_var 0) (je_var 2)) (je_var 1)) (je_int) (nomark _)) (jss_one (js_retV 2)) (jss_nil)))) (jss_one (js_ret (je_non)))) (fun _ _ => .inr rfl)
set_option maxHeartbeats 4000000 in
theorem ok_cleared (T : Tx K mg) : FnOk P w K mg base (L2.CX P w) 1 T.a_cleared T.d_cleared ["rows", "at", "ahead"] (spD K T.cls 3 g_cleared) :=
  fnD_ok T.F_cleared sc_cleared rfl (fun cdv A outer s H E c => jss_cons (js_set (i := 3) c rfl (by first | exact Or.inl rfl | exact Or.inr rfl) (je_lst (jao_nil))) (jss_cons (js_setF (i := 4) c rfl (by first | exact Or.inl rfl | exact Or.inr rfl) (je_ix (je_var 0) (je_var 1))) (jss_cons (js_for c (ji_seq (je_sl (je_var 0) (jp_some (je_bin op_add4 ok_add (je_var 1) (je_int))) (jp_none))) (jg_name (i := 5) c.nd rfl (by first | exact Or.inl rfl | exact Or.inr rfl)) (jss_cons (js_set (i := 6) c rfl (by first | exact Or.inl rfl | exact Or.inr rfl) (je_bin op_mul4 ok_mul (je_lst (jao_cons (je_int) (jao_nil))) (je_bin op_add4 ok_add (je_var 1) (je_int)))) (jss_cons (js_for c (ji_rg2 T.z_range (ja_cons (je_bin op_add4 ok_add (je_var 1) (je_int)) (ja_cons (je_callB call_len ok_len T.z_len (by decide +kernel) (ja_cons (je_var 5) (ja_nil))) (ja_nil)))) (jg_name (i := 7) c.nd rfl (by first | exact Or.inl rfl | exact Or.inr rfl)) (jss_one (js_app (i := 6) rfl (by first | exact Or.inl rfl | exact Or.inr (Or.inl rfl) | exact Or.inr (Or.inr rfl)) (je_bin op_divX ok_div (je_bin op_sub ok_sub (je_bin op_mul4 ok_mul (je_ix (je_var 5) (je_var 7)) (je_ix (je_var 4) (je_var 1))) (je_bin op_mul4 ok_mul (je_ix (je_var 5) (je_var 1)) (je_ix (je_var 4) (je_var 7)))) (je_var 2))))) (jss_one (js_frz 6 (js_app (i := 3) rfl (by first | exact Or.inl rfl | exact Or.inr (Or.inl rfl) | exact Or.inr (Or.inr rfl)) (je_var 6))))))) (jss_one (js_retV 3))))) (fun _ _ => .inr rfl)
set_option maxHeartbeats 4000000 in
theorem ok_determinant (T : Tx K mg) (G_look_at_table : FnOk P w K mg base (L2.CX P w) 1 T.a_look_at_table T.d_look_at_table ["table"] (spD K T.cls 1 g_look_at_table)) (G_first_row_with : FnOk P w K mg base (L2.CX P w) 1 T.a_first_row_with T.d_first_row_with ["rows", "at"] (spD K T.cls 2 g_first_row_with)) (G_cleared : FnOk P w K mg base (L2.CX P w) 1 T.a_cleared T.d_cleared ["rows", "at", "ahead"] (spD K T.cls 3 g_cleared)) : FnOk P w K mg base (L2.CX P w) 2 T.a_determinant T.d_determinant ["table"] (spD K T.cls 1 g_determinant) :=
  fnD_ok T.F_determinant sc_determinant rfl (fun cdv A outer s H E c => jss_cons (js_exp (je_own (c.mono (by decide)) G_look_at_table T.m_look_at_table T.k_look_at_table T.b_look_at_table (ja_cons (je_var 0) (ja_nil)) (alS (al0)))) (jss_cons (js_setLcI (i := 1) [("row", 6)] c rfl rfl (sw_true rfl rfl rfl (by decide +kernel)) (ji_seq (je_var 0)) (blkOk_by (N := N_determinant) (sc := defScope s_determinant) (by decide +kernel)) (fun _ _ _ _ _ => jg_name (i := 6) c.nd rfl (by first | exact Or.inl rfl | exact Or.inr rfl)) (fun _ _ _ _ _ c => jts_nil) (fun _ _ _ _ _ c => je_callTy call_list_of ok_list T.z_list (by decide +kernel) (ja_cons (je_var 6) (ja_nil))) (by decide)) (jss_cons (js_setF (i := 2) c rfl (by first | exact Or.inl rfl | exact Or.inr rfl) (je_int)) (jss_cons (js_setF (i := 3) c rfl (by first | exact Or.inl rfl | exact Or.inr rfl) (je_int)) (jss_cons (js_for c (ji_rg1 T.z_range (ja_cons (je_callB call_len ok_len T.z_len (by decide +kernel) (ja_cons (je_var 1) (ja_nil))) (ja_nil))) (jg_name (i := 4) c.nd rfl (by first | exact Or.inl rfl | exact Or.inr rfl)) (jss_cons (js_setF (i := 5) c rfl (by first | exact Or.inl rfl | exact Or.inr rfl) (je_own (c.mono (by decide)) G_first_row_with T.m_first_row_with T.k_first_row_with T.b_first_row_with (ja_cons (je_var 1) (ja_cons (je_var 4) (ja_nil))) (alS (alS (al0))))) (jss_cons (js_if (jt_cmp op_isN ok_isN (je_var 5) (je_non) (nomark _)) (jss_one (js_ret (je_int))) (jss_nil)) (jss_cons (js_if (jt_cmp (op_ne4 c.eq) ok_ne (je_var 5) (je_var 4) (nomark _)) (jss_cons (js_swp (i := 1) c rfl (by first | exact Or.inl rfl | exact Or.inr (Or.inl rfl) | exact Or.inr (Or.inr rfl)) (je_tup (jao_cons (je_ix (je_var 1) (je_var 5)) (jao_cons (je_ix (je_var 1) (je_var 4)) (jao_nil)))) (je_var 4) (je_var 5)) (jss_one (js_setF (i := 2) c rfl (by first | exact Or.inl rfl | exact Or.inr rfl) (je_un un_neg ok_neg (je_var 2))))) (jss_nil)) (jss_cons (js_frz 1 (js_set (i := 1) c rfl (by first | exact Or.inl rfl | exact Or.inr rfl) (je_bin op_add4 ok_add (je_sl (je_var 1) (jp_none) (jp_some (je_bin op_add4 ok_add (je_var 4) (je_int)))) (je_own (c.mono (by decide)) G_cleared T.m_cleared T.k_cleared T.b_cleared (ja_cons (je_var 1) (ja_cons (je_var 4) (ja_cons (je_var 3) (ja_nil)))) (alS (alS (alS (al0)))))))) (jss_one (js_setF (i := 3) c rfl (by first | exact Or.inl rfl | exact Or.inr rfl) (je_ix (je_ix (je_var 1) (je_var 4)) (je_var 4))))))))) (jss_one (js_ret (je_bin op_mul4 ok_mul (je_var 2) (je_var 3))))))))) (fun _ _ => .inr rfl)
set_option maxHeartbeats 4000000 in
theorem ok_common_part (T : Tx K mg) : FnOk P w K mg base (L2.CX P w) 1 T.a_common_part T.d_common_part ["one", "other"] (spD K T.cls 2 g_common_part) :=
  fnD_ok T.F_common_part sc_common_part rfl (fun cdv A outer s H E c => jss_cons (js_setF (i := 0) c rfl (by first | exact Or.inl rfl | exact Or.inr rfl) (je_callB call_abs ok_abs T.z_abs (by decide +kernel) (ja_cons (je_var 0) (ja_nil)))) (jss_cons (js_setF (i := 1) c rfl (by first | exact Or.inl rfl | exact Or.inr rfl) (je_callB call_abs ok_abs T.z_abs (by decide +kernel) (ja_cons (je_var 1) (ja_nil)))) (jss_cons (js_while c (jt_cmp op_gt ok_gt (je_var 1) (je_int) (nomark _)) (jss_one (js_par (i := 0) (j := 1) c rfl rfl (by decide) rfl rfl (jao_cons (je_var 1) (jao_cons (je_bin op_modX ok_mod (je_var 0) (je_var 1)) (jao_nil)))))) (jss_one (js_retV 0))))) (fun _ _ => .inr rfl)
set_option maxHeartbeats 4000000 in
theorem ok_as_fraction (T : Tx K mg) (G_common_part : FnOk P w K mg base (L2.CX P w) 1 T.a_common_part T.d_common_part ["one", "other"] (spD K T.cls 2 g_common_part)) : FnOk P w K mg base (L2.CX P w) 2 T.a_as_fraction T.d_as_fraction ["top", "bottom"] (spD K T.cls 2 g_as_fraction) :=
  fnD_ok T.F_as_fraction sc_as_fraction rfl (fun cdv A outer s H E c => jss_cons (js_setF (i := 2) c rfl (by first | exact Or.inl rfl | exact Or.inr rfl) (je_own (c.mono (by decide)) G_common_part T.m_common_part T.k_common_part T.b_common_part (ja_cons (je_var 0) (ja_cons (je_var 1) (ja_nil))) (alS (alS (al0))))) (jss_cons (js_if (jt_cmp op_lt ok_lt (je_var 1) (je_int) (nomark _)) (jss_one (js_setF (i := 2) c rfl (by first | exact Or.inl rfl | exact Or.inr rfl) (je_un un_neg ok_neg (je_var 2)))) (jss_nil)) (jss_one (js_ret (je_tup (jao_cons (je_bin op_divX ok_div (je_var 0) (je_var 2)) (jao_cons (je_bin op_divX ok_div (je_var 1) (je_var 2)) (jao_nil)))))))) (fun _ _ => .inr rfl)
set_option maxHeartbeats 4000000 in
theorem ok_solved (T : Tx K mg) (G_look_at_table : FnOk P w K mg base (L2.CX P w) 1 T.a_look_at_table T.d_look_at_table ["table"] (spD K T.cls 1 g_look_at_table)) (G_determinant : FnOk P w K mg base (L2.CX P w) 2 T.a_determinant T.d_determinant ["table"] (spD K T.cls 1 g_determinant)) (G_as_fraction : FnOk P w K mg base (L2.CX P w) 2 T.a_as_fraction T.d_as_fraction ["top", "bottom"] (spD K T.cls 2 g_as_fraction)) : FnOk P w K mg base (L2.CX P w) 3 T.a_solved T.d_solved ["table", "right"] (spD K T.cls 2 g_solved) :=
  fnD_ok T.F_solved sc_solved rfl (fun cdv A outer s H E c => jss_cons (js_exp (je_own (c.mono (by decide)) G_look_at_table T.m_look_at_table T.k_look_at_table T.b_look_at_table (ja_cons (je_var 0) (ja_nil)) (alS (al0)))) (jss_cons (js_if (jt_cmp (op_ne4 c.eq) ok_ne (je_callB call_len ok_len T.z_len (by decide +kernel) (ja_cons (je_var 1) (ja_nil))) (je_callB call_len ok_len T.z_len (by decide +kernel) (ja_cons (je_var 0) (ja_nil))) (nomark _)) (jss_one (js_raise c T.e_NotSquare)) (jss_nil)) (jss_cons (js_setF (i := 2) c rfl (by first | exact Or.inl rfl | exact Or.inr rfl) (je_own (c.mono (by decide)) G_determinant T.m_determinant T.k_determinant T.b_determinant (ja_cons (je_var 0) (ja_nil)) (alS (al0)))) (jss_cons (js_if (jt_cmp (op_eq4 c.eq) ok_eq (je_var 2) (je_int) (nomark _)) (jss_one (js_raise c T.e_Singular)) (jss_nil)) (jss_cons (js_set (i := 3) c rfl (by first | exact Or.inl rfl | exact Or.inr rfl) (je_lst (jao_nil))) (jss_cons (js_for c (ji_rg1 T.z_range (ja_cons (je_callB call_len ok_len T.z_len (by decide +kernel) (ja_cons (je_var 0) (ja_nil))) (ja_nil))) (jg_name (i := 4) c.nd rfl (by first | exact Or.inl rfl | exact Or.inr rfl)) (jss_cons (js_setLcF (i := 5) [("row", 6), ("number", 7)] c rfl rfl (sw_true rfl rfl rfl (by decide +kernel)) (ji_zip3 T.z_zip (ja_cons (je_var 0) (ja_cons (je_var 1) (ja_nil)))) (blkOk_by (N := N_solved) (sc := defScope s_solved) (by decide +kernel)) (fun _ _ _ _ _ => jg_tup c.calm (jgs_cons (jg_name (i := 6) c.nd rfl (by first | exact Or.inl rfl | exact Or.inr rfl)) (jgs_cons (jg_name (i := 7) c.nd rfl (by first | exact Or.inl rfl | exact Or.inr rfl)) (jgs_nil)))) (fun _ _ _ _ _ c => jts_nil) (fun _ _ _ _ _ c => je_bin op_add4 ok_add (je_bin op_add4 ok_add (je_callTy call_list_of ok_list T.z_list (by decide +kernel) (ja_cons (je_sl (je_var 6) (jp_none) (jp_some (je_var 4))) (ja_nil))) (je_lst (jao_cons (je_var 7) (jao_nil)))) (je_callTy call_list_of ok_list T.z_list (by decide +kernel) (ja_cons (je_sl (je_var 6) (jp_some (je_bin op_add4 ok_add (je_var 4) (je_int))) (jp_none)) (ja_nil)))) (by decide)) (jss_one (js_app (i := 3) rfl (by first | exact Or.inl rfl | exact Or.inr (Or.inl rfl) | exact Or.inr (Or.inr rfl)) (je_own (c.mono (by decide)) G_as_fraction T.m_as_fraction T.k_as_fraction T.b_as_fraction (ja_cons (je_own (c.mono (by decide)) G_determinant T.m_determinant T.k_determinant T.b_determinant (ja_cons (je_var 5) (ja_nil)) (alS (al0))) (ja_cons (je_var 2) (ja_nil))) (alS (alS (al0)))))))) (jss_one (js_ret (je_callTy call_tuple_of ok_tuple T.z_tuple (by decide +kernel) (ja_cons (je_var 3) (ja_nil))))))))))) (fun _ _ => .inr rfl)
set_option maxHeartbeats 4000000 in
theorem ok_Web_init (T : Tx K mg) : FnOk P w K mg base (L2.CX P w) 1 T.a_Web_init T.d_Web_init ["self", "places", "ties"] (spI K T.cls 14 2 g_Web_init) :=
  fnI_ok T.F_Web_init sc_Web_init rfl (fun cdv A outer s H E c => jss_cons (js_if (jt_w (jw_or (jt_not (jt_chain op_le op_le ok_le ok_le (je_int) (je_var 1) (je_gint T.v_MOST_PLACES))) (jw_or1 (jt_cmp op_gt ok_gt (je_callB call_len ok_len T.z_len (by decide +kernel) (ja_cons (je_var 2) (ja_nil))) (je_gint T.v_MOST_TIES) (nomark _))))) (jss_one (js_raise c T.e_BadWeb)) (jss_nil)) (jss_cons (js_for c (ji_seq (je_var 2)) (jg_tup c.calm (jgs_cons (jg_name (i := 3) c.nd rfl (by first | exact Or.inl rfl | exact Or.inr rfl)) (jgs_cons (jg_name (i := 4) c.nd rfl (by first | exact Or.inl rfl | exact Or.inr rfl)) (jgs_nil)))) (jss_one (js_if (jt_w (jw_or (jt_not (jt_chain op_le op_lt ok_le ok_lt (je_int) (je_var 3) (je_var 1))) (jw_or1 (jt_not (jt_chain op_le op_lt ok_le ok_lt (je_int) (je_var 4) (je_var 1)))))) (jss_one (js_raise c T.e_BadWeb)) (jss_nil)))) (jss_cons (js_fld (i := 0) T.o_Web (j := 0) rfl (by decide) rfl (by first | exact Or.inl rfl | exact Or.inr (Or.inl rfl) | exact Or.inr (Or.inr rfl)) (je_var 1)) (jss_one (js_fld (i := 0) T.o_Web (j := 1) rfl (by decide) rfl (by first | exact Or.inl rfl | exact Or.inr (Or.inl rfl) | exact Or.inr (Or.inr rfl)) (je_callTy call_list_of ok_list T.z_list (by decide +kernel) (ja_cons (je_var 2) (ja_nil)))))))) (mirI_ok)
set_option maxHeartbeats 4000000 in
theorem ok_pulls (T : Tx K mg) : FnOk P w K mg base (L2.CX P w) 1 T.a_pulls T.d_pulls ["count", "ties"] (spD K T.cls 2 g_pulls) :=
  fnD_ok T.F_pulls sc_pulls rfl (fun cdv A outer s H E c => jss_cons (js_setLc (i := 2) [("place", 5)] c rfl rfl (sw_true rfl rfl rfl (by decide +kernel)) (ji_rg1 T.z_range (ja_cons (je_var 0) (ja_nil))) (blkOk_by (N := N_pulls) (sc := defScope s_pulls) (by decide +kernel)) (fun _ _ _ _ _ => jg_name (i := 5) c.nd rfl (by first | exact Or.inl rfl | exact Or.inr rfl)) (fun _ _ _ _ _ c => jts_nil) (fun _ _ _ _ _ c => je_bin op_mul4 ok_mul (je_lst (jao_cons (je_int) (jao_nil))) (je_var 0)) (by decide)) (jss_cons (js_for c (ji_seq (je_var 1)) (jg_tup c.calm (jgs_cons (jg_name (i := 3) c.nd rfl (by first | exact Or.inl rfl | exact Or.inr rfl)) (jgs_cons (jg_name (i := 4) c.nd rfl (by first | exact Or.inl rfl | exact Or.inr rfl)) (jgs_nil)))) (jss_one (js_if (jt_cmp (op_ne4 c.eq) ok_ne (je_var 3) (je_var 4) (nomark _)) (jss_cons (js_aug2 (i := 2) (j1 := 3) (j2 := 3) ip_add rfl (by first | exact Or.inl rfl | exact Or.inr (Or.inl rfl) | exact Or.inr (Or.inr rfl)) rfl (by first | exact Or.inl rfl | exact Or.inr (Or.inl rfl) | exact Or.inr (Or.inr rfl)) rfl (by first | exact Or.inl rfl | exact Or.inr (Or.inl rfl) | exact Or.inr (Or.inr rfl)) (je_int)) (jss_cons (js_aug2 (i := 2) (j1 := 4) (j2 := 4) ip_add rfl (by first | exact Or.inl rfl | exact Or.inr (Or.inl rfl) | exact Or.inr (Or.inr rfl)) rfl (by first | exact Or.inl rfl | exact Or.inr (Or.inl rfl) | exact Or.inr (Or.inr rfl)) rfl (by first | exact Or.inl rfl | exact Or.inr (Or.inl rfl) | exact Or.inr (Or.inr rfl)) (je_int)) (jss_cons (js_aug2 (i := 2) (j1 := 3) (j2 := 4) ip_sub rfl (by first | exact Or.inl rfl | exact Or.inr (Or.inl rfl) | exact Or.inr (Or.inr rfl)) rfl (by first | exact Or.inl rfl | exact Or.inr (Or.inl rfl) | exact Or.inr (Or.inr rfl)) rfl (by first | exact Or.inl rfl | exact Or.inr (Or.inl rfl) | exact Or.inr (Or.inr rfl)) (je_int)) (jss_one (js_aug2 (i := 2) (j1 := 4) (j2 := 3) ip_sub rfl (by first | exact Or.inl rfl | exact Or.inr (Or.inl rfl) | exact Or.inr (Or.inr rfl)) rfl (by first | exact Or.inl rfl | exact Or.inr (Or.inl rfl) | exact Or.inr (Or.inr rfl)) rfl (by first | exact Or.inl rfl | exact Or.inr (Or.inl rfl) | exact Or.inr (Or.inr rfl)) (je_int)))))) (jss_nil)))) (jss_one (js_retV 2)))) (fun _ _ => .inr rfl)
set_option maxHeartbeats 4000000 in
theorem ok_pull_table (T : Tx K mg) (G_pulls : FnOk P w K mg base (L2.CX P w) 1 T.a_pulls T.d_pulls ["count", "ties"] (spD K T.cls 2 g_pulls)) : FnOk P w K mg base (L2.CX P w) 2 T.a_pull_table T.d_pull_table ["web"] (spD K T.cls 1 g_pull_table) :=
  fnD_ok T.F_pull_table sc_pull_table rfl (fun cdv A outer s H E c => jss_one (js_ret (je_own (c.mono (by decide)) G_pulls T.m_pulls T.k_pulls T.b_pulls (ja_cons (je_fld T.o_Web (i := 0) rfl (je_var 0)) (ja_cons (je_fld T.o_Web (i := 1) rfl (je_var 0)) (ja_nil))) (alS (alS (al0)))))) (fun _ _ => .inr rfl)
set_option maxHeartbeats 4000000 in
theorem ok_powers_of (T : Tx K mg) : FnOk P w K mg base (L2.CX P w) 1 T.a_powers_of T.d_powers_of ["t", "count"] (spD K T.cls 2 g_powers_of) :=
  fnD_ok T.F_powers_of sc_powers_of rfl (fun cdv A outer s H E c => jss_cons (js_set (i := 2) c rfl (by first | exact Or.inl rfl | exact Or.inr rfl) (je_lst (jao_cons (je_int) (jao_nil)))) (jss_cons (js_while c (jt_cmp op_lt ok_lt (je_callB call_len ok_len T.z_len (by decide +kernel) (ja_cons (je_var 2) (ja_nil))) (je_var 1) (nomark _)) (jss_one (js_app (i := 2) rfl (by first | exact Or.inl rfl | exact Or.inr (Or.inl rfl) | exact Or.inr (Or.inr rfl)) (je_bin op_mul4 ok_mul (je_ix (je_var 2) (je_un un_neg ok_neg (je_int))) (je_var 0))))) (jss_one (js_retV 2)))) (fun _ _ => .inr rfl)
set_option maxHeartbeats 4000000 in
theorem ok_factors_of (T : Tx K mg) (G_powers_of : FnOk P w K mg base (L2.CX P w) 1 T.a_powers_of T.d_powers_of ["t", "count"] (spD K T.cls 2 g_powers_of)) (G_solved : FnOk P w K mg base (L2.CX P w) 3 T.a_solved T.d_solved ["table", "right"] (spD K T.cls 2 g_solved)) : FnOk P w K mg base (L2.CX P w) 4 T.a_factors_of T.d_factors_of ["values"] (spD K T.cls 1 g_factors_of) :=
  fnD_ok T.F_factors_of sc_factors_of rfl (fun cdv A outer s H E c => jss_cons (js_setLcF (i := 1) [("t", 2)] c rfl rfl (sw_true rfl rfl rfl (by decide +kernel)) (ji_rg1 T.z_range (ja_cons (je_callB call_len ok_len T.z_len (by decide +kernel) (ja_cons (je_var 0) (ja_nil))) (ja_nil))) (blkOk_by (N := N_factors_of) (sc := defScope s_factors_of) (by decide +kernel)) (fun _ _ _ _ _ => jg_name (i := 2) c.nd rfl (by first | exact Or.inl rfl | exact Or.inr rfl)) (fun _ _ _ _ _ c => jts_nil) (fun _ _ _ _ _ c => je_own (c.mono (by decide)) G_powers_of T.m_powers_of T.k_powers_of T.b_powers_of (ja_cons (je_var 2) (ja_cons (je_callB call_len ok_len T.z_len (by decide +kernel) (ja_cons (je_var 0) (ja_nil))) (ja_nil))) (alS (alS (al0)))) (by decide)) (jss_one (js_ret (je_lc [("top", 3), ("bottom", 4)] c (ji_seq (je_own (c.mono (by decide)) G_solved T.m_solved T.k_solved T.b_solved (ja_cons (je_var 1) (ja_cons (je_var 0) (ja_nil))) (alS (alS (al0))))) (blkOk_by (N := N_factors_of) (sc := defScope s_factors_of) (by decide +kernel)) (fun _ _ _ _ _ => jg_tup c.calm (jgs_cons (jg_name (i := 3) c.nd rfl (by first | exact Or.inl rfl | exact Or.inr rfl)) (jgs_cons (jg_name (i := 4) c.nd rfl (by first | exact Or.inl rfl | exact Or.inr rfl)) (jgs_nil)))) (fun _ _ _ _ _ c => jts_nil) (fun _ _ _ _ _ c => je_bin op_divX ok_div (je_var 3) (je_var 4)) (by decide))))) (fun _ _ => .inr rfl)
set_option maxHeartbeats 4000000 in
theorem ok_rooted_forests (T : Tx K mg) (G_pull_table : FnOk P w K mg base (L2.CX P w) 2 T.a_pull_table T.d_pull_table ["web"] (spD K T.cls 1 g_pull_table)) (G_determinant : FnOk P w K mg base (L2.CX P w) 2 T.a_determinant T.d_determinant ["table"] (spD K T.cls 1 g_determinant)) (G_powers_of : FnOk P w K mg base (L2.CX P w) 1 T.a_powers_of T.d_powers_of ["t", "count"] (spD K T.cls 2 g_powers_of)) (G_factors_of : FnOk P w K mg base (L2.CX P w) 4 T.a_factors_of T.d_factors_of ["values"] (spD K T.cls 1 g_factors_of)) : FnOk P w K mg base (L2.CX P w) 5 T.a_rooted_forests T.d_rooted_forests ["web"] (spD K T.cls 1 g_rooted_forests) :=
  fnD_ok T.F_rooted_forests sc_rooted_forests rfl (fun cdv A outer s H E c => jss_cons (js_set (i := 1) c rfl (by first | exact Or.inl rfl | exact Or.inr rfl) (je_lst (jao_nil))) (jss_cons (js_for c (ji_rg1 T.z_range (ja_cons (je_fld T.o_Web (i := 0) rfl (je_var 0)) (ja_nil))) (jg_name (i := 2) c.nd rfl (by first | exact Or.inl rfl | exact Or.inr rfl)) (jss_cons (js_set (i := 3) c rfl (by first | exact Or.inl rfl | exact Or.inr rfl) (je_own (c.mono (by decide)) G_pull_table T.m_pull_table T.k_pull_table T.b_pull_table (ja_cons (je_var 0) (ja_nil)) (alS (al0)))) (jss_cons (js_for c (ji_rg1 T.z_range (ja_cons (je_fld T.o_Web (i := 0) rfl (je_var 0)) (ja_nil))) (jg_name (i := 4) c.nd rfl (by first | exact Or.inl rfl | exact Or.inr rfl)) (jss_one (js_aug2 (i := 3) (j1 := 4) (j2 := 4) ip_add rfl (by first | exact Or.inl rfl | exact Or.inr (Or.inl rfl) | exact Or.inr (Or.inr rfl)) rfl (by first | exact Or.inl rfl | exact Or.inr (Or.inl rfl) | exact Or.inr (Or.inr rfl)) rfl (by first | exact Or.inl rfl | exact Or.inr (Or.inl rfl) | exact Or.inr (Or.inr rfl)) (je_var 2)))) (jss_one (js_app (i := 1) rfl (by first | exact Or.inl rfl | exact Or.inr (Or.inl rfl) | exact Or.inr (Or.inr rfl)) (je_bin op_sub ok_sub (je_own (c.mono (by decide)) G_determinant T.m_determinant T.k_determinant T.b_determinant (ja_cons (je_var 3) (ja_nil)) (alS (al0))) (je_ix (je_own (c.mono (by decide)) G_powers_of T.m_powers_of T.k_powers_of T.b_powers_of (ja_cons (je_var 2) (ja_cons (je_bin op_add4 ok_add (je_fld T.o_Web (i := 0) rfl (je_var 0)) (je_int)) (ja_nil))) (alS (alS (al0)))) (je_un un_neg ok_neg (je_int))))))))) (jss_one (js_ret (je_callTy call_tuple_of ok_tuple T.z_tuple (by decide +kernel) (ja_cons (je_bin op_add4 ok_add (je_own (c.mono (by decide)) G_factors_of T.m_factors_of T.k_factors_of T.b_factors_of (ja_cons (je_var 1) (ja_nil)) (alS (al0))) (je_lst (jao_cons (je_int) (jao_nil)))) (ja_nil))))))) (fun _ _ => .inr rfl)
set_option maxHeartbeats 4000000 in
theorem ok_law_cell (T : Tx K mg) : FnOk P w K mg base (L2.CX P w) 1 T.a_law_cell T.d_law_cell ["script", "k"] (spD K T.cls 2 g_law_cell) :=
  fnD_ok T.F_law_cell sc_law_cell rfl (fun cdv A outer s H E c => jss_cons (js_if (jt_cmp op_lt ok_lt (je_var 1) (je_callB call_len ok_len T.z_len (by decide +kernel) (ja_cons (je_var 0) (ja_nil))) (nomark _)) (jss_one (js_ret (je_bin op_modX ok_mod (je_ix (je_var 0) (je_var 1)) (je_bin op_pow ok_pow (je_int) (je_int))))) (jss_nil)) (jss_one (js_ret (je_int)))) (fun _ _ => .inr rfl)
set_option maxHeartbeats 4000000 in
theorem ok_law_mixed (T : Tx K mg) : FnOk P w K mg base (L2.CX P w) 1 T.a_law_mixed T.d_law_mixed ["cell", "k"] (spD K T.cls 2 g_law_mixed) :=
  fnD_ok T.F_law_mixed sc_law_mixed rfl (fun cdv A outer s H E c => jss_cons (js_setF (i := 2) c rfl (by first | exact Or.inl rfl | exact Or.inr rfl) (je_bin op_modX ok_mod (je_bin op_mul4 ok_mul (je_bin op_add4 ok_add (je_bin op_add4 ok_add (je_var 0) (je_bin op_mul4 ok_mul (je_int) (je_var 1))) (je_int)) (je_int)) (je_int))) (jss_cons (js_setF (i := 3) c rfl (by first | exact Or.inl rfl | exact Or.inr rfl) (je_bin op_modX ok_mod (je_bin op_add4 ok_add (je_bin op_add4 ok_add (je_bin op_mul4 ok_mul (je_var 2) (je_var 2)) (je_bin op_mul4 ok_mul (je_int) (je_var 1))) (je_int)) (je_int))) (jss_one (js_ret (je_bin op_divX ok_div (je_bin op_modX ok_mod (je_bin op_mul4 ok_mul (je_var 3) (je_var 3)) (je_int)) (je_int)))))) (fun _ _ => .inr rfl)
set_option maxHeartbeats 4000000 in
theorem ok_law_draws (T : Tx K mg) (G_law_mixed : FnOk P w K mg base (L2.CX P w) 1 T.a_law_mixed T.d_law_mixed ["cell", "k"] (spD K T.cls 2 g_law_mixed)) : FnOk P w K mg base (L2.CX P w) 2 T.a_law_draws T.d_law_draws ["script", "start", "count", "way"] (spD K T.cls 4 g_law_draws) :=
  fnD_ok T.F_law_draws sc_law_draws rfl (fun cdv A outer s H E c => jss_cons (js_setF (i := 4) c rfl (by first | exact Or.inl rfl | exact Or.inr rfl) (je_bin op_modX ok_mod (je_callB (cr_sum c.calm) ok_sum T.z_sum (by decide +kernel) (ja_cons (je_lc [("cell", 9)] c (ji_seq (je_sl (je_var 0) (jp_some (je_var 1)) (jp_none))) (blkOk_by (N := N_law_draws) (sc := defScope s_law_draws) (by decide +kernel)) (fun _ _ _ _ _ => jg_name (i := 9) c.nd rfl (by first | exact Or.inl rfl | exact Or.inr rfl)) (fun _ _ _ _ _ c => jts_nil) (fun _ _ _ _ _ c => je_bin op_modX ok_mod (je_var 9) (je_bin op_pow ok_pow (je_int) (je_int))) (by decide)) (ja_nil))) (je_bin op_pow ok_pow (je_int) (je_int)))) (jss_cons (js_setLc (i := 5) [("k", 6)] c rfl rfl (sw_true rfl rfl rfl (by decide +kernel)) (ji_rg1 T.z_range (ja_cons (je_var 2) (ja_nil))) (blkOk_by (N := N_law_draws) (sc := defScope s_law_draws) (by decide +kernel)) (fun _ _ _ _ _ => jg_name (i := 6) c.nd rfl (by first | exact Or.inl rfl | exact Or.inr rfl)) (fun _ _ _ _ _ c => jts_nil) (fun _ _ _ _ _ c => je_bin op_add4 ok_add (je_bin op_mul4 ok_mul (je_int) (je_var 6)) (je_int)) (by decide)) (jss_cons (js_for c (ji_rg2 T.z_range (ja_cons (je_var 1) (ja_cons (je_callB call_len ok_len T.z_len (by decide +kernel) (ja_cons (je_var 0) (ja_nil))) (ja_nil)))) (jg_name (i := 6) c.nd rfl (by first | exact Or.inl rfl | exact Or.inr rfl)) (jss_cons (js_setF (i := 7) c rfl (by first | exact Or.inl rfl | exact Or.inr rfl) (je_bin op_modX ok_mod (je_var 6) (je_callB (call_max2 c.calm) ok_max2 T.z_max (by decide +kernel) (ja_cons (je_int) (ja_cons (je_var 2) (ja_nil)))))) (jss_one (js_if (jt_cmp op_gt ok_gt (je_var 2) (je_int) (nomark _)) (jss_one (js_setIx (i := 5) rfl (by first | exact Or.inl rfl | exact Or.inr (Or.inl rfl) | exact Or.inr (Or.inr rfl)) (je_bin op_modX ok_mod (je_bin op_add4 ok_add (je_bin op_mul4 ok_mul (je_ix (je_var 5) (je_var 7)) (je_int)) (je_ix (je_var 0) (je_var 6))) (je_bin op_pow ok_pow (je_int) (je_int))) (je_var 7))) (jss_nil))))) (jss_cons (js_set (i := 8) c rfl (by first | exact Or.inl rfl | exact Or.inr rfl) (je_lst (jao_nil))) (jss_cons (js_for c (ji_rg1 T.z_range (ja_cons (je_var 2) (ja_nil))) (jg_name (i := 6) c.nd rfl (by first | exact Or.inl rfl | exact Or.inr rfl)) (jss_one (js_if (jt_w (jw_and (jt_cmp (op_eq4 c.eq) ok_eq (je_var 3) (je_int) (nomark _)) (jw_and1 (jt_cmp op_gt ok_gt (je_var 4) (je_int) (nomark _))))) (jss_cons (js_app (i := 8) rfl (by first | exact Or.inl rfl | exact Or.inr (Or.inl rfl) | exact Or.inr (Or.inr rfl)) (je_bin op_modX ok_mod (je_var 4) (je_int))) (jss_one (js_setF (i := 4) c rfl (by first | exact Or.inl rfl | exact Or.inr rfl) (je_bin op_divX ok_div (je_var 4) (je_int))))) (jss_one (js_app (i := 8) rfl (by first | exact Or.inl rfl | exact Or.inr (Or.inl rfl) | exact Or.inr (Or.inr rfl)) (je_own (c.mono (by decide)) G_law_mixed T.m_law_mixed T.k_law_mixed T.b_law_mixed (ja_cons (je_ix (je_var 5) (je_var 6)) (ja_cons (je_var 6) (ja_nil))) (alS (alS (al0))))))))) (jss_one (js_retV 8))))))) (fun _ _ => .inr rfl)
set_option maxHeartbeats 4000000 in
theorem ok_law_ties (T : Tx K mg) : FnOk P w K mg base (L2.CX P w) 1 T.a_law_ties T.d_law_ties ["draws", "places", "hang"] (spD K T.cls 3 g_law_ties) :=
  fnD_ok T.F_law_ties sc_law_ties rfl (fun cdv A outer s H E c => jss_cons (js_set (i := 3) c rfl (by first | exact Or.inl rfl | exact Or.inr rfl) (je_lst (jao_nil))) (jss_cons (js_for c (ji_rg1 T.z_range (ja_cons (je_callB call_len ok_len T.z_len (by decide +kernel) (ja_cons (je_var 0) (ja_nil))) (ja_nil))) (jg_name (i := 4) c.nd rfl (by first | exact Or.inl rfl | exact Or.inr rfl)) (jss_cons (js_setF (i := 5) c rfl (by first | exact Or.inl rfl | exact Or.inr rfl) (je_bin op_modX ok_mod (je_ix (je_var 0) (je_var 4)) (je_var 1))) (jss_cons (js_setF (i := 6) c rfl (by first | exact Or.inl rfl | exact Or.inr rfl) (je_bin op_modX ok_mod (je_bin op_divX ok_div (je_ix (je_var 0) (je_var 4)) (je_var 1)) (je_var 1))) (jss_cons (js_if (jt_w (jw_and (jt_truth (je_var 2)) (jw_and1 (jt_cmp op_lt ok_lt (je_var 4) (je_bin op_sub ok_sub (je_var 1) (je_int)) (nomark _))))) (jss_cons (js_setF (i := 7) c rfl (by first | exact Or.inl rfl | exact Or.inr rfl) (je_tup (jao_cons (je_bin op_modX ok_mod (je_ix (je_var 0) (je_var 4)) (je_bin op_add4 ok_add (je_var 4) (je_int))) (jao_cons (je_bin op_add4 ok_add (je_var 4) (je_int)) (jao_nil))))) (jss_cons (js_setF (i := 5) c rfl (by first | exact Or.inl rfl | exact Or.inr rfl) (je_ix (je_var 7) (je_bin op_modX ok_mod (je_bin op_divX ok_div (je_ix (je_var 0) (je_var 4)) (je_int)) (je_int)))) (jss_one (js_setF (i := 6) c rfl (by first | exact Or.inl rfl | exact Or.inr rfl) (je_ix (je_var 7) (je_bin op_sub ok_sub (je_int) (je_bin op_modX ok_mod (je_bin op_divX ok_div (je_ix (je_var 0) (je_var 4)) (je_int)) (je_int)))))))) (jss_nil)) (jss_one (js_app (i := 3) rfl (by first | exact Or.inl rfl | exact Or.inr (Or.inl rfl) | exact Or.inr (Or.inr rfl)) (je_tup (jao_cons (je_var 5) (jao_cons (je_var 6) (jao_nil)))))))))) (jss_cons (js_setF (i := 8) c rfl (by first | exact Or.inl rfl | exact Or.inr rfl) (je_bin op_modX ok_mod (je_callB (cr_sum c.calm) ok_sum T.z_sum (by decide +kernel) (ja_cons (je_var 0) (ja_nil))) (je_callB (call_max2 c.calm) ok_max2 T.z_max (by decide +kernel) (ja_cons (je_int) (ja_cons (je_callB call_len ok_len T.z_len (by decide +kernel) (ja_cons (je_var 3) (ja_nil))) (ja_nil)))))) (jss_one (js_ret (je_bin op_add4 ok_add (je_sl (je_var 3) (jp_some (je_var 8)) (jp_none)) (je_sl (je_var 3) (jp_none) (jp_some (je_var 8))))))))) (fun _ _ => .inr rfl)
set_option maxHeartbeats 4000000 in
theorem ok_law_web (T : Tx K mg) (G_law_cell : FnOk P w K mg base (L2.CX P w) 1 T.a_law_cell T.d_law_cell ["script", "k"] (spD K T.cls 2 g_law_cell)) (G_law_draws : FnOk P w K mg base (L2.CX P w) 2 T.a_law_draws T.d_law_draws ["script", "start", "count", "way"] (spD K T.cls 4 g_law_draws)) (G_law_ties : FnOk P w K mg base (L2.CX P w) 1 T.a_law_ties T.d_law_ties ["draws", "places", "hang"] (spD K T.cls 3 g_law_ties)) : FnOk P w K mg base (L2.CX P w) 3 T.a_law_web T.d_law_web ["script", "most", "count"] (spD K T.cls 3 g_law_web) :=
  fnD_ok T.F_law_web sc_law_web rfl (fun cdv A outer s H E c => jss_cons (js_setF (i := 3) c rfl (by first | exact Or.inl rfl | exact Or.inr rfl) (je_own (c.mono (by decide)) G_law_cell T.m_law_cell T.k_law_cell T.b_law_cell (ja_cons (je_var 0) (ja_cons (je_int) (ja_nil))) (alS (alS (al0))))) (jss_cons (js_setF (i := 4) c rfl (by first | exact Or.inl rfl | exact Or.inr rfl) (je_bin op_add4 ok_add (je_int) (je_bin op_modX ok_mod (je_var 3) (je_var 1)))) (jss_cons (js_setF (i := 5) c rfl (by first | exact Or.inl rfl | exact Or.inr rfl) (je_callB (call_min2 c.calm) ok_min2 T.z_min (by decide +kernel) (ja_cons (je_var 2) (ja_cons (je_bin op_add4 ok_add (je_bin op_modX ok_mod (je_bin op_divX ok_div (je_var 3) (je_var 1)) (je_bin op_add4 ok_add (je_var 2) (je_int))) (je_bin op_mul4 ok_mul (je_bin op_modX ok_mod (je_bin op_divX ok_div (je_var 3) (je_int)) (je_int)) (je_var 4))) (ja_nil))))) (jss_cons (js_setF (i := 6) c rfl (by first | exact Or.inl rfl | exact Or.inr rfl) (je_own (c.mono (by decide)) G_law_draws T.m_law_draws T.k_law_draws T.b_law_draws (ja_cons (je_var 0) (ja_cons (je_int) (ja_cons (je_var 5) (ja_cons (je_bin op_modX ok_mod (je_bin op_divX ok_div (je_var 3) (je_int)) (je_int)) (ja_nil))))) (alS (alS (alS (alS (al0))))))) (jss_one (js_ret (je_tup (jao_cons (je_var 4) (jao_cons (je_own (c.mono (by decide)) G_law_ties T.m_law_ties T.k_law_ties T.b_law_ties (ja_cons (je_var 6) (ja_cons (je_var 4) (ja_cons (je_cmp op_gt ok_gt (je_bin op_modX ok_mod (je_bin op_divX ok_div (je_var 3) (je_int)) (je_int)) (je_int) (nomark _)) (ja_nil)))) (alS (alS (alS (al0))))) (jao_nil)))))))))) (fun _ _ => .inr rfl)
set_option maxHeartbeats 4000000 in
theorem ok_law_some (T : Tx K mg) : FnOk P w K mg base (L2.CX P w) 1 T.a_law_some T.d_law_some ["cell", "count"] (spD K T.cls 2 g_law_some) :=
  fnD_ok T.F_law_some sc_law_some rfl (fun cdv A outer s H E c => jss_cons (js_set (i := 2) c rfl (by first | exact Or.inl rfl | exact Or.inr rfl) (je_lst (jao_nil))) (jss_cons (js_for c (ji_rg1 T.z_range (ja_cons (je_var 1) (ja_nil))) (jg_name (i := 3) c.nd rfl (by first | exact Or.inl rfl | exact Or.inr rfl)) (jss_cons (js_if (jt_cmp (op_eq4 c.eq) ok_eq (je_bin op_modX ok_mod (je_var 0) (je_int)) (je_int) (nomark _)) (jss_one (js_app (i := 2) rfl (by first | exact Or.inl rfl | exact Or.inr (Or.inl rfl) | exact Or.inr (Or.inr rfl)) (je_var 3))) (jss_nil)) (jss_one (js_setF (i := 0) c rfl (by first | exact Or.inl rfl | exact Or.inr rfl) (je_bin op_divX ok_div (je_var 0) (je_int)))))) (jss_one (js_retV 2)))) (fun _ _ => .inr rfl)
set_option maxHeartbeats 4000000 in
theorem ok_law_marks (T : Tx K mg) : FnOk P w K mg base (L2.CX P w) 1 T.a_law_marks T.d_law_marks ["places", "ties", "some"] (spD K T.cls 3 g_law_marks) :=
  fnD_ok T.F_law_marks sc_law_marks rfl (fun cdv A outer s H E c => jss_cons (js_set (i := 3) c rfl (by first | exact Or.inl rfl | exact Or.inr rfl) (je_lr1 c T.z_list T.z_range (je_var 0))) (jss_cons (js_for c (ji_seq (je_var 2)) (jg_name (i := 4) c.nd rfl (by first | exact Or.inl rfl | exact Or.inr rfl)) (jss_cons (js_asgT (je_ix (je_var 1) (je_var 4)) (jg_tup c.calm (jgs_cons (jg_name (i := 5) c.nd rfl (by first | exact Or.inl rfl | exact Or.inr rfl)) (jgs_cons (jg_name (i := 6) c.nd rfl (by first | exact Or.inl rfl | exact Or.inr rfl)) (jgs_nil))))) (jss_one (js_if (jt_cmp (op_ne4 c.eq) ok_ne (je_ix (je_var 3) (je_var 5)) (je_ix (je_var 3) (je_var 6)) (nomark _)) (jss_cons (js_setF (i := 7) c rfl (by first | exact Or.inl rfl | exact Or.inr rfl) (je_ix (je_var 3) (je_var 6))) (jss_cons (js_setF (i := 8) c rfl (by first | exact Or.inl rfl | exact Or.inr rfl) (je_ix (je_var 3) (je_var 5))) (jss_one (js_for c (ji_rg1 T.z_range (ja_cons (je_var 0) (ja_nil))) (jg_name (i := 9) c.nd rfl (by first | exact Or.inl rfl | exact Or.inr rfl)) (jss_one (js_if (jt_cmp (op_eq4 c.eq) ok_eq (je_ix (je_var 3) (je_var 9)) (je_var 7) (nomark _)) (jss_one (js_setIx (i := 3) rfl (by first | exact Or.inl rfl | exact Or.inr (Or.inl rfl) | exact Or.inr (Or.inr rfl)) (je_var 8) (je_var 9))) (jss_nil))))))) (jss_nil))))) (jss_one (js_retV 3)))) (fun _ _ => .inr rfl)
set_option maxHeartbeats 4000000 in
theorem ok_law_due_v8 (T : Tx K mg) (G_law_some : FnOk P w K mg base (L2.CX P w) 1 T.a_law_some T.d_law_some ["cell", "count"] (spD K T.cls 2 g_law_some)) (G_law_marks : FnOk P w K mg base (L2.CX P w) 1 T.a_law_marks T.d_law_marks ["places", "ties", "some"] (spD K T.cls 3 g_law_marks)) : FnOk P w K mg base (L2.CX P w) 2 T.a_law_due_v8 T.d_law_due_v8 ["places", "ties"] (spD K T.cls 2 g_law_due_v8) :=
  fnD_ok T.F_law_due_v8 sc_law_due_v8 rfl (fun cdv A outer s H E c => jss_cons (js_set (i := 2) c rfl (by first | exact Or.inl rfl | exact Or.inr rfl) (je_bin op_mul4 ok_mul (je_lst (jao_cons (je_int) (jao_nil))) (je_bin op_add4 ok_add (je_var 0) (je_int)))) (jss_cons (js_setF (i := 3) c rfl (by first | exact Or.inl rfl | exact Or.inr rfl) (je_int)) (jss_cons (js_for c (ji_seq (je_var 1)) (jg_name (i := 4) c.nd rfl (by first | exact Or.inl rfl | exact Or.inr rfl)) (jss_one (js_setF (i := 3) c rfl (by first | exact Or.inl rfl | exact Or.inr rfl) (je_bin op_mul4 ok_mul (je_var 3) (je_int))))) (jss_cons (js_for c (ji_rg1 T.z_range (ja_cons (je_var 3) (ja_nil))) (jg_name (i := 5) c.nd rfl (by first | exact Or.inl rfl | exact Or.inr rfl)) (jss_cons (js_setF (i := 6) c rfl (by first | exact Or.inl rfl | exact Or.inr rfl) (je_own (c.mono (by decide)) G_law_some T.m_law_some T.k_law_some T.b_law_some (ja_cons (je_var 5) (ja_cons (je_callB call_len ok_len T.z_len (by decide +kernel) (ja_cons (je_var 1) (ja_nil))) (ja_nil))) (alS (alS (al0))))) (jss_cons (js_setF (i := 7) c rfl (by first | exact Or.inl rfl | exact Or.inr rfl) (je_own (c.mono (by decide)) G_law_marks T.m_law_marks T.k_law_marks T.b_law_marks (ja_cons (je_var 0) (ja_cons (je_var 1) (ja_cons (je_var 6) (ja_nil)))) (alS (alS (alS (al0)))))) (jss_cons (js_setF (i := 8) c rfl (by first | exact Or.inl rfl | exact Or.inr rfl) (je_sortedset c T.z_sorted T.z_set (je_var 7))) (jss_one (js_if (jt_cmp (op_eq4 c.eq) ok_eq (je_callB call_len ok_len T.z_len (by decide +kernel) (ja_cons (je_var 8) (ja_nil))) (je_bin op_sub ok_sub (je_var 0) (je_callB call_len ok_len T.z_len (by decide +kernel) (ja_cons (je_var 6) (ja_nil)))) (nomark _)) (jss_cons (js_setF (i := 9) c rfl (by first | exact Or.inl rfl | exact Or.inr rfl) (je_int)) (jss_cons (js_for c (ji_seq (je_var 8)) (jg_name (i := 10) c.nd rfl (by first | exact Or.inl rfl | exact Or.inr rfl)) (jss_one (js_setF (i := 9) c rfl (by first | exact Or.inl rfl | exact Or.inr rfl) (je_bin op_mul4 ok_mul (je_var 9) (je_count (je_var 7) (je_var 10)))))) (jss_one (js_augE (i := 2) ip_add rfl (by first | exact Or.inl rfl | exact Or.inr (Or.inl rfl) | exact Or.inr (Or.inr rfl)) (je_callB call_len ok_len T.z_len (by decide +kernel) (ja_cons (je_var 8) (ja_nil))) (je_var 9))))) (jss_nil))))))) (jss_one (js_ret (je_callTy call_tuple_of ok_tuple T.z_tuple (by decide +kernel) (ja_cons (je_var 2) (ja_nil))))))))) (fun _ _ => .inr rfl)
set_option maxHeartbeats 4000000 in
theorem ok_law_k72 (T : Tx K mg) (G_law_web : FnOk P w K mg base (L2.CX P w) 3 T.a_law_web T.d_law_web ["script", "most", "count"] (spD K T.cls 3 g_law_web)) (G_rooted_forests : FnOk P w K mg base (L2.CX P w) 5 T.a_rooted_forests T.d_rooted_forests ["web"] (spD K T.cls 1 g_rooted_forests)) (G_Web_init : FnOk P w K mg base (L2.CX P w) 1 T.a_Web_init T.d_Web_init ["self", "places", "ties"] (spI K T.cls 14 2 g_Web_init)) (G_law_due_v8 : FnOk P w K mg base (L2.CX P w) 2 T.a_law_due_v8 T.d_law_due_v8 ["places", "ties"] (spD K T.cls 2 g_law_due_v8)) : FnOk P w K mg base (L2.CX P w) 6 T.a_law_k72 T.d_law_k72 ["script"] (spD K T.cls 1 g_law_k72) :=
  fnD_ok T.F_law_k72 sc_law_k72 rfl (fun cdv A outer s H E c => jss_cons (js_asgT (je_own (c.mono (by decide)) G_law_web T.m_law_web T.k_law_web T.b_law_web (ja_cons (je_var 0) (ja_cons (je_int) (ja_cons (je_int) (ja_nil)))) (alS (alS (alS (al0))))) (jg_tup c.calm (jgs_cons (jg_name (i := 1) c.nd rfl (by first | exact Or.inl rfl | exact Or.inr rfl)) (jgs_cons (jg_name (i := 2) c.nd rfl (by first | exact Or.inl rfl | exact Or.inr rfl)) (jgs_nil))))) (jss_cons (js_setF (i := 3) c rfl (by first | exact Or.inl rfl | exact Or.inr rfl) (je_own (c.mono (by decide)) G_rooted_forests T.m_rooted_forests T.k_rooted_forests T.b_rooted_forests (ja_cons (je_make (c.mono (by decide)) T.o_Web.e T.mk_Web G_Web_init T.m_Web T.b_Web_init (ja_cons (je_var 1) (ja_cons (je_var 2) (ja_nil))) (alS (alS (al0)))) (ja_nil)) (alS (al0)))) (jss_cons (js_if (jt_w (jw_or (jt_not (jt_truth (je_isT T.z_isinstance T.z_tuple (by decide +kernel) (je_var 3)))) (jw_or1 (jt_not (jt_truth (je_callB (cr_all c.calm) ok_all T.z_all (by decide +kernel) (ja_cons (je_lc [("number", 4)] c (ji_seq (je_var 3)) (blkOk_by (N := N_law_k72) (sc := defScope s_law_k72) (by decide +kernel)) (fun _ _ _ _ _ => jg_name (i := 4) c.nd rfl (by first | exact Or.inl rfl | exact Or.inr rfl)) (fun _ _ _ _ _ c => jts_nil) (fun _ _ _ _ _ c => je_isT T.z_isinstance T.z_int (by decide +kernel) (je_var 4)) (by decide)) (ja_nil)))))))) (jss_one (js_ret (je_bl))) (jss_nil)) (jss_one (js_ret (je_cmp (op_eq4 c.eq) ok_eq (je_var 3) (je_own (c.mono (by decide)) G_law_due_v8 T.m_law_due_v8 T.k_law_due_v8 T.b_law_due_v8 (ja_cons (je_var 1) (ja_cons (je_var 2) (ja_nil))) (alS (alS (al0)))) (nomark _))))))) (fun _ _ => .inr rfl)
set_option maxHeartbeats 8000000 in
theorem all_mk {K : PySem.W.Frag} {h : Heap} {mg : Str → Option Value} (X : K.In h) (G : h.Ns mainGlobals mg) {C_WebError C_BadWeb C_NotSquare C_Singular C_Web a_look_at_table a_first_row_with a_cleared a_determinant a_common_part a_as_fraction a_solved a_Web_init a_pulls a_pull_table a_powers_of a_factors_of a_rooted_forests a_law_cell a_law_mixed a_law_draws a_law_ties a_law_web a_law_some a_law_marks a_law_due_v8 a_law_k72 : Addr} {od_look_at_table an_look_at_table od_first_row_with an_first_row_with od_cleared an_cleared od_determinant an_determinant od_common_part an_common_part od_as_fraction an_as_fraction od_solved an_solved od_Web_init an_Web_init od_pulls an_pulls od_pull_table an_pull_table od_powers_of an_powers_of od_factors_of an_factors_of od_rooted_forests an_rooted_forests od_law_cell an_law_cell od_law_mixed an_law_mixed od_law_draws an_law_draws od_law_ties an_law_ties od_law_web an_law_web od_law_some an_law_some od_law_marks an_law_marks od_law_due_v8 an_law_due_v8 od_law_k72 an_law_k72 : Option Addr} {sl_look_at_table sl_first_row_with sl_cleared sl_determinant sl_common_part sl_as_fraction sl_solved sl_Web_init sl_pulls sl_pull_table sl_powers_of sl_factors_of sl_rooted_forests sl_law_cell sl_law_mixed sl_law_draws sl_law_ties sl_law_web sl_law_some sl_law_marks sl_law_due_v8 sl_law_k72 : Array (Option Value)} {oc_look_at_table kV_look_at_table dc_look_at_table pm_look_at_table cd_look_at_table ct_look_at_table oc_first_row_with kV_first_row_with dc_first_row_with pm_first_row_with cd_first_row_with ct_first_row_with oc_cleared kV_cleared dc_cleared pm_cleared cd_cleared ct_cleared oc_determinant kV_determinant dc_determinant pm_determinant cd_determinant ct_determinant oc_common_part kV_common_part dc_common_part pm_common_part cd_common_part ct_common_part oc_as_fraction kV_as_fraction dc_as_fraction pm_as_fraction cd_as_fraction ct_as_fraction oc_solved kV_solved dc_solved pm_solved cd_solved ct_solved oc_Web_init kV_Web_init dc_Web_init pm_Web_init cd_Web_init ct_Web_init oc_pulls kV_pulls dc_pulls pm_pulls cd_pulls ct_pulls oc_pull_table kV_pull_table dc_pull_table pm_pull_table cd_pull_table ct_pull_table oc_powers_of kV_powers_of dc_powers_of pm_powers_of cd_powers_of ct_powers_of oc_factors_of kV_factors_of dc_factors_of pm_factors_of cd_factors_of ct_factors_of oc_rooted_forests kV_rooted_forests dc_rooted_forests pm_rooted_forests cd_rooted_forests ct_rooted_forests oc_law_cell kV_law_cell dc_law_cell pm_law_cell cd_law_cell ct_law_cell oc_law_mixed kV_law_mixed dc_law_mixed pm_law_mixed cd_law_mixed ct_law_mixed oc_law_draws kV_law_draws dc_law_draws pm_law_draws cd_law_draws ct_law_draws oc_law_ties kV_law_ties dc_law_ties pm_law_ties cd_law_ties ct_law_ties oc_law_web kV_law_web dc_law_web pm_law_web cd_law_web ct_law_web oc_law_some kV_law_some dc_law_some pm_law_some cd_law_some ct_law_some oc_law_marks kV_law_marks dc_law_marks pm_law_marks cd_law_marks ct_law_marks oc_law_due_v8 kV_law_due_v8 dc_law_due_v8 pm_law_due_v8 cd_law_due_v8 ct_law_due_v8 oc_law_k72 kV_law_k72 dc_law_k72 pm_law_k72 cd_law_k72 ct_law_k72 : Value} {t_MOST_PLACES t_MOST_TIES : Tok}
    (a_WebError : PySem.W.nsIn K mainGlobals "WebError" = some (some (.ref C_WebError)))
    (x_WebError : PySem.W.excIn K C_WebError [.type "ValueError", .type "Exception", .type "BaseException", .type "object"] "ValueError.__new__" = true)
    (kx_WebError : PySem.W.keepIn K (.ref C_WebError) = true)
    (bx_WebError : PySem.W.subIn K (.ref C_WebError) (.type "BaseException") = some true)
    (tx_WebError : PySem.W.typeIn K (.ref C_WebError) = some (.type "type"))
    (a_BadWeb : PySem.W.nsIn K mainGlobals "BadWeb" = some (some (.ref C_BadWeb)))
    (x_BadWeb : PySem.W.excIn K C_BadWeb [.type "ValueError", .type "Exception", .type "BaseException", .type "object"] "ValueError.__new__" = true)
    (kx_BadWeb : PySem.W.keepIn K (.ref C_BadWeb) = true)
    (bx_BadWeb : PySem.W.subIn K (.ref C_BadWeb) (.type "BaseException") = some true)
    (tx_BadWeb : PySem.W.typeIn K (.ref C_BadWeb) = some (.type "type"))
    (a_NotSquare : PySem.W.nsIn K mainGlobals "NotSquare" = some (some (.ref C_NotSquare)))
    (x_NotSquare : PySem.W.excIn K C_NotSquare [.type "ValueError", .type "Exception", .type "BaseException", .type "object"] "ValueError.__new__" = true)
    (kx_NotSquare : PySem.W.keepIn K (.ref C_NotSquare) = true)
    (bx_NotSquare : PySem.W.subIn K (.ref C_NotSquare) (.type "BaseException") = some true)
    (tx_NotSquare : PySem.W.typeIn K (.ref C_NotSquare) = some (.type "type"))
    (a_Singular : PySem.W.nsIn K mainGlobals "Singular" = some (some (.ref C_Singular)))
    (x_Singular : PySem.W.excIn K C_Singular [.type "ValueError", .type "Exception", .type "BaseException", .type "object"] "ValueError.__new__" = true)
    (kx_Singular : PySem.W.keepIn K (.ref C_Singular) = true)
    (bx_Singular : PySem.W.subIn K (.ref C_Singular) (.type "BaseException") = some true)
    (tx_Singular : PySem.W.typeIn K (.ref C_Singular) = some (.type "type"))
    (a_Web : PySem.W.nsIn K mainGlobals "Web" = some (some (.ref C_Web)))
    (pg_Web : PySem.W.plainGet K C_Web Str.empty = true)
    (hd_Web : PySem.W.hasDictIn K C_Web = true)
    (po_Web : PySem.W.plainOver K C_Web = true)
    (sa_Web : PySem.W.findIn K (.ref C_Web) "__setattr__" = some (some (.builtin "object.__setattr__")))
    (mk_Web : PySem.W.makesIn K C_Web = true)
    (kc_Web : PySem.W.keepIn K (.ref C_Web) = true)
    (na_Web_places : PySem.W.findIn K (.ref C_Web) "places" = some none)
    (na_Web_ties : PySem.W.findIn K (.ref C_Web) "ties" = some none)
    (n_look_at_table : PySem.W.nsIn K mainGlobals "look_at_table" = some (some (.ref a_look_at_table)))
    (l_look_at_table : K.lookup a_look_at_table = some ⟨oc_look_at_table, od_look_at_table, .func (PySem.W.fnOf "look_at_table" "look_at_table" (defArgs s_look_at_table) (defBody s_look_at_table) (defScope s_look_at_table) .none kV_look_at_table dc_look_at_table pm_look_at_table an_look_at_table cd_look_at_table ct_look_at_table), sl_look_at_table⟩)
    (c_look_at_table : PySem.W.codeIn K cd_look_at_table "look_at_table" = true)
    (k_look_at_table : PySem.W.keepIn K (.ref a_look_at_table) = true)
    (n_first_row_with : PySem.W.nsIn K mainGlobals "first_row_with" = some (some (.ref a_first_row_with)))
    (l_first_row_with : K.lookup a_first_row_with = some ⟨oc_first_row_with, od_first_row_with, .func (PySem.W.fnOf "first_row_with" "first_row_with" (defArgs s_first_row_with) (defBody s_first_row_with) (defScope s_first_row_with) .none kV_first_row_with dc_first_row_with pm_first_row_with an_first_row_with cd_first_row_with ct_first_row_with), sl_first_row_with⟩)
    (c_first_row_with : PySem.W.codeIn K cd_first_row_with "first_row_with" = true)
    (k_first_row_with : PySem.W.keepIn K (.ref a_first_row_with) = true)
    (n_cleared : PySem.W.nsIn K mainGlobals "cleared" = some (some (.ref a_cleared)))
    (l_cleared : K.lookup a_cleared = some ⟨oc_cleared, od_cleared, .func (PySem.W.fnOf "cleared" "cleared" (defArgs s_cleared) (defBody s_cleared) (defScope s_cleared) .none kV_cleared dc_cleared pm_cleared an_cleared cd_cleared ct_cleared), sl_cleared⟩)
    (c_cleared : PySem.W.codeIn K cd_cleared "cleared" = true)
    (k_cleared : PySem.W.keepIn K (.ref a_cleared) = true)
    (n_determinant : PySem.W.nsIn K mainGlobals "determinant" = some (some (.ref a_determinant)))
    (l_determinant : K.lookup a_determinant = some ⟨oc_determinant, od_determinant, .func (PySem.W.fnOf "determinant" "determinant" (defArgs s_determinant) (defBody s_determinant) (defScope s_determinant) .none kV_determinant dc_determinant pm_determinant an_determinant cd_determinant ct_determinant), sl_determinant⟩)
    (c_determinant : PySem.W.codeIn K cd_determinant "determinant" = true)
    (k_determinant : PySem.W.keepIn K (.ref a_determinant) = true)
    (n_common_part : PySem.W.nsIn K mainGlobals "common_part" = some (some (.ref a_common_part)))
    (l_common_part : K.lookup a_common_part = some ⟨oc_common_part, od_common_part, .func (PySem.W.fnOf "common_part" "common_part" (defArgs s_common_part) (defBody s_common_part) (defScope s_common_part) .none kV_common_part dc_common_part pm_common_part an_common_part cd_common_part ct_common_part), sl_common_part⟩)
    (c_common_part : PySem.W.codeIn K cd_common_part "common_part" = true)
    (k_common_part : PySem.W.keepIn K (.ref a_common_part) = true)
    (n_as_fraction : PySem.W.nsIn K mainGlobals "as_fraction" = some (some (.ref a_as_fraction)))
    (l_as_fraction : K.lookup a_as_fraction = some ⟨oc_as_fraction, od_as_fraction, .func (PySem.W.fnOf "as_fraction" "as_fraction" (defArgs s_as_fraction) (defBody s_as_fraction) (defScope s_as_fraction) .none kV_as_fraction dc_as_fraction pm_as_fraction an_as_fraction cd_as_fraction ct_as_fraction), sl_as_fraction⟩)
    (c_as_fraction : PySem.W.codeIn K cd_as_fraction "as_fraction" = true)
    (k_as_fraction : PySem.W.keepIn K (.ref a_as_fraction) = true)
    (n_solved : PySem.W.nsIn K mainGlobals "solved" = some (some (.ref a_solved)))
    (l_solved : K.lookup a_solved = some ⟨oc_solved, od_solved, .func (PySem.W.fnOf "solved" "solved" (defArgs s_solved) (defBody s_solved) (defScope s_solved) .none kV_solved dc_solved pm_solved an_solved cd_solved ct_solved), sl_solved⟩)
    (c_solved : PySem.W.codeIn K cd_solved "solved" = true)
    (k_solved : PySem.W.keepIn K (.ref a_solved) = true)
    (n_Web_init : PySem.W.findIn K (.ref C_Web) "__init__" = some (some (.ref a_Web_init)))
    (i_Web_init : PySem.W.isFn K (.ref a_Web_init) = true)
    (l_Web_init : K.lookup a_Web_init = some ⟨oc_Web_init, od_Web_init, .func (PySem.W.fnOf "__init__" "Web.__init__" (defArgs s_Web_init) (defBody s_Web_init) (defScope s_Web_init) .none kV_Web_init dc_Web_init pm_Web_init an_Web_init cd_Web_init ct_Web_init), sl_Web_init⟩)
    (c_Web_init : PySem.W.codeIn K cd_Web_init "Web.__init__" = true)
    (k_Web_init : PySem.W.keepIn K (.ref a_Web_init) = true)
    (n_pulls : PySem.W.nsIn K mainGlobals "pulls" = some (some (.ref a_pulls)))
    (l_pulls : K.lookup a_pulls = some ⟨oc_pulls, od_pulls, .func (PySem.W.fnOf "pulls" "pulls" (defArgs s_pulls) (defBody s_pulls) (defScope s_pulls) .none kV_pulls dc_pulls pm_pulls an_pulls cd_pulls ct_pulls), sl_pulls⟩)
    (c_pulls : PySem.W.codeIn K cd_pulls "pulls" = true)
    (k_pulls : PySem.W.keepIn K (.ref a_pulls) = true)
    (n_pull_table : PySem.W.nsIn K mainGlobals "pull_table" = some (some (.ref a_pull_table)))
    (l_pull_table : K.lookup a_pull_table = some ⟨oc_pull_table, od_pull_table, .func (PySem.W.fnOf "pull_table" "pull_table" (defArgs s_pull_table) (defBody s_pull_table) (defScope s_pull_table) .none kV_pull_table dc_pull_table pm_pull_table an_pull_table cd_pull_table ct_pull_table), sl_pull_table⟩)
    (c_pull_table : PySem.W.codeIn K cd_pull_table "pull_table" = true)
    (k_pull_table : PySem.W.keepIn K (.ref a_pull_table) = true)
    (n_powers_of : PySem.W.nsIn K mainGlobals "powers_of" = some (some (.ref a_powers_of)))
    (l_powers_of : K.lookup a_powers_of = some ⟨oc_powers_of, od_powers_of, .func (PySem.W.fnOf "powers_of" "powers_of" (defArgs s_powers_of) (defBody s_powers_of) (defScope s_powers_of) .none kV_powers_of dc_powers_of pm_powers_of an_powers_of cd_powers_of ct_powers_of), sl_powers_of⟩)
    (c_powers_of : PySem.W.codeIn K cd_powers_of "powers_of" = true)
    (k_powers_of : PySem.W.keepIn K (.ref a_powers_of) = true)
    (n_factors_of : PySem.W.nsIn K mainGlobals "factors_of" = some (some (.ref a_factors_of)))
    (l_factors_of : K.lookup a_factors_of = some ⟨oc_factors_of, od_factors_of, .func (PySem.W.fnOf "factors_of" "factors_of" (defArgs s_factors_of) (defBody s_factors_of) (defScope s_factors_of) .none kV_factors_of dc_factors_of pm_factors_of an_factors_of cd_factors_of ct_factors_of), sl_factors_of⟩)
    (c_factors_of : PySem.W.codeIn K cd_factors_of "factors_of" = true)
    (k_factors_of : PySem.W.keepIn K (.ref a_factors_of) = true)
    (n_rooted_forests : PySem.W.nsIn K mainGlobals "rooted_forests" = some (some (.ref a_rooted_forests)))
    (l_rooted_forests : K.lookup a_rooted_forests = some ⟨oc_rooted_forests, od_rooted_forests, .func (PySem.W.fnOf "rooted_forests" "rooted_forests" (defArgs s_rooted_forests) (defBody s_rooted_forests) (defScope s_rooted_forests) .none kV_rooted_forests dc_rooted_forests pm_rooted_forests an_rooted_forests cd_rooted_forests ct_rooted_forests), sl_rooted_forests⟩)
    (c_rooted_forests : PySem.W.codeIn K cd_rooted_forests "rooted_forests" = true)
    (k_rooted_forests : PySem.W.keepIn K (.ref a_rooted_forests) = true)
    (n_law_cell : PySem.W.nsIn K mainGlobals "_law_cell" = some (some (.ref a_law_cell)))
    (l_law_cell : K.lookup a_law_cell = some ⟨oc_law_cell, od_law_cell, .func (PySem.W.fnOf "_law_cell" "_law_cell" (defArgs s_law_cell) (defBody s_law_cell) (defScope s_law_cell) .none kV_law_cell dc_law_cell pm_law_cell an_law_cell cd_law_cell ct_law_cell), sl_law_cell⟩)
    (c_law_cell : PySem.W.codeIn K cd_law_cell "_law_cell" = true)
    (k_law_cell : PySem.W.keepIn K (.ref a_law_cell) = true)
    (n_law_mixed : PySem.W.nsIn K mainGlobals "_law_mixed" = some (some (.ref a_law_mixed)))
    (l_law_mixed : K.lookup a_law_mixed = some ⟨oc_law_mixed, od_law_mixed, .func (PySem.W.fnOf "_law_mixed" "_law_mixed" (defArgs s_law_mixed) (defBody s_law_mixed) (defScope s_law_mixed) .none kV_law_mixed dc_law_mixed pm_law_mixed an_law_mixed cd_law_mixed ct_law_mixed), sl_law_mixed⟩)
    (c_law_mixed : PySem.W.codeIn K cd_law_mixed "_law_mixed" = true)
    (k_law_mixed : PySem.W.keepIn K (.ref a_law_mixed) = true)
    (n_law_draws : PySem.W.nsIn K mainGlobals "_law_draws" = some (some (.ref a_law_draws)))
    (l_law_draws : K.lookup a_law_draws = some ⟨oc_law_draws, od_law_draws, .func (PySem.W.fnOf "_law_draws" "_law_draws" (defArgs s_law_draws) (defBody s_law_draws) (defScope s_law_draws) .none kV_law_draws dc_law_draws pm_law_draws an_law_draws cd_law_draws ct_law_draws), sl_law_draws⟩)
    (c_law_draws : PySem.W.codeIn K cd_law_draws "_law_draws" = true)
    (k_law_draws : PySem.W.keepIn K (.ref a_law_draws) = true)
    (n_law_ties : PySem.W.nsIn K mainGlobals "_law_ties" = some (some (.ref a_law_ties)))
    (l_law_ties : K.lookup a_law_ties = some ⟨oc_law_ties, od_law_ties, .func (PySem.W.fnOf "_law_ties" "_law_ties" (defArgs s_law_ties) (defBody s_law_ties) (defScope s_law_ties) .none kV_law_ties dc_law_ties pm_law_ties an_law_ties cd_law_ties ct_law_ties), sl_law_ties⟩)
    (c_law_ties : PySem.W.codeIn K cd_law_ties "_law_ties" = true)
    (k_law_ties : PySem.W.keepIn K (.ref a_law_ties) = true)
    (n_law_web : PySem.W.nsIn K mainGlobals "_law_web" = some (some (.ref a_law_web)))
    (l_law_web : K.lookup a_law_web = some ⟨oc_law_web, od_law_web, .func (PySem.W.fnOf "_law_web" "_law_web" (defArgs s_law_web) (defBody s_law_web) (defScope s_law_web) .none kV_law_web dc_law_web pm_law_web an_law_web cd_law_web ct_law_web), sl_law_web⟩)
    (c_law_web : PySem.W.codeIn K cd_law_web "_law_web" = true)
    (k_law_web : PySem.W.keepIn K (.ref a_law_web) = true)
    (n_law_some : PySem.W.nsIn K mainGlobals "_law_some" = some (some (.ref a_law_some)))
    (l_law_some : K.lookup a_law_some = some ⟨oc_law_some, od_law_some, .func (PySem.W.fnOf "_law_some" "_law_some" (defArgs s_law_some) (defBody s_law_some) (defScope s_law_some) .none kV_law_some dc_law_some pm_law_some an_law_some cd_law_some ct_law_some), sl_law_some⟩)
    (c_law_some : PySem.W.codeIn K cd_law_some "_law_some" = true)
    (k_law_some : PySem.W.keepIn K (.ref a_law_some) = true)
    (n_law_marks : PySem.W.nsIn K mainGlobals "_law_marks" = some (some (.ref a_law_marks)))
    (l_law_marks : K.lookup a_law_marks = some ⟨oc_law_marks, od_law_marks, .func (PySem.W.fnOf "_law_marks" "_law_marks" (defArgs s_law_marks) (defBody s_law_marks) (defScope s_law_marks) .none kV_law_marks dc_law_marks pm_law_marks an_law_marks cd_law_marks ct_law_marks), sl_law_marks⟩)
    (c_law_marks : PySem.W.codeIn K cd_law_marks "_law_marks" = true)
    (k_law_marks : PySem.W.keepIn K (.ref a_law_marks) = true)
    (n_law_due_v8 : PySem.W.nsIn K mainGlobals "_law_due" = some (some (.ref a_law_due_v8)))
    (l_law_due_v8 : K.lookup a_law_due_v8 = some ⟨oc_law_due_v8, od_law_due_v8, .func (PySem.W.fnOf "_law_due" "_law_due" (defArgs s_law_due_v8) (defBody s_law_due_v8) (defScope s_law_due_v8) .none kV_law_due_v8 dc_law_due_v8 pm_law_due_v8 an_law_due_v8 cd_law_due_v8 ct_law_due_v8), sl_law_due_v8⟩)
    (c_law_due_v8 : PySem.W.codeIn K cd_law_due_v8 "_law_due" = true)
    (k_law_due_v8 : PySem.W.keepIn K (.ref a_law_due_v8) = true)
    (n_law_k72 : PySem.W.nsIn K mainGlobals "law" = some (some (.ref a_law_k72)))
    (l_law_k72 : K.lookup a_law_k72 = some ⟨oc_law_k72, od_law_k72, .func (PySem.W.fnOf "law" "law" (defArgs s_law_k72) (defBody s_law_k72) (defScope s_law_k72) .none kV_law_k72 dc_law_k72 pm_law_k72 an_law_k72 cd_law_k72 ct_law_k72), sl_law_k72⟩)
    (c_law_k72 : PySem.W.codeIn K cd_law_k72 "law" = true)
    (k_law_k72 : PySem.W.keepIn K (.ref a_law_k72) = true)
    (v_MOST_PLACES : PySem.W.nsIn K mainGlobals "MOST_PLACES" = some (some (.int 14 t_MOST_PLACES)))
    (v_MOST_TIES : PySem.W.nsIn K mainGlobals "MOST_TIES" = some (some (.int 30 t_MOST_TIES)))
    (z_abs : PySem.W.nsIn K mainGlobals "abs" = some none)
    (z_all : PySem.W.nsIn K mainGlobals "all" = some none)
    (z_int : PySem.W.nsIn K mainGlobals "int" = some none)
    (z_isinstance : PySem.W.nsIn K mainGlobals "isinstance" = some none)
    (z_len : PySem.W.nsIn K mainGlobals "len" = some none)
    (z_list : PySem.W.nsIn K mainGlobals "list" = some none)
    (z_max : PySem.W.nsIn K mainGlobals "max" = some none)
    (z_min : PySem.W.nsIn K mainGlobals "min" = some none)
    (z_range : PySem.W.nsIn K mainGlobals "range" = some none)
    (z_set : PySem.W.nsIn K mainGlobals "set" = some none)
    (z_sorted : PySem.W.nsIn K mainGlobals "sorted" = some none)
    (z_sum : PySem.W.nsIn K mainGlobals "sum" = some none)
    (z_tuple : PySem.W.nsIn K mainGlobals "tuple" = some none)
    (z_zip : PySem.W.nsIn K mainGlobals "zip" = some none)
    : ∃ T : Tx K mg, mg "law" = some (.ref T.a_law_k72) ∧ ∀ (s : Shared) (v : Value), BindsTo s T.d_law_k72 ⟨[v], []⟩ [("script", v)] := by
  refine ⟨{
    C_WebError := C_WebError,
    C_BadWeb := C_BadWeb,
    C_NotSquare := C_NotSquare,
    C_Singular := C_Singular,
    C_Web := C_Web,
    a_look_at_table := a_look_at_table,
    d_look_at_table := PySem.W.fnOf "look_at_table" "look_at_table" (defArgs s_look_at_table) (defBody s_look_at_table) (defScope s_look_at_table) .none kV_look_at_table dc_look_at_table pm_look_at_table an_look_at_table cd_look_at_table ct_look_at_table,
    a_first_row_with := a_first_row_with,
    d_first_row_with := PySem.W.fnOf "first_row_with" "first_row_with" (defArgs s_first_row_with) (defBody s_first_row_with) (defScope s_first_row_with) .none kV_first_row_with dc_first_row_with pm_first_row_with an_first_row_with cd_first_row_with ct_first_row_with,
    a_cleared := a_cleared,
    d_cleared := PySem.W.fnOf "cleared" "cleared" (defArgs s_cleared) (defBody s_cleared) (defScope s_cleared) .none kV_cleared dc_cleared pm_cleared an_cleared cd_cleared ct_cleared,
    a_determinant := a_determinant,
    d_determinant := PySem.W.fnOf "determinant" "determinant" (defArgs s_determinant) (defBody s_determinant) (defScope s_determinant) .none kV_determinant dc_determinant pm_determinant an_determinant cd_determinant ct_determinant,
    a_common_part := a_common_part,
    d_common_part := PySem.W.fnOf "common_part" "common_part" (defArgs s_common_part) (defBody s_common_part) (defScope s_common_part) .none kV_common_part dc_common_part pm_common_part an_common_part cd_common_part ct_common_part,
    a_as_fraction := a_as_fraction,
    d_as_fraction := PySem.W.fnOf "as_fraction" "as_fraction" (defArgs s_as_fraction) (defBody s_as_fraction) (defScope s_as_fraction) .none kV_as_fraction dc_as_fraction pm_as_fraction an_as_fraction cd_as_fraction ct_as_fraction,
    a_solved := a_solved,
    d_solved := PySem.W.fnOf "solved" "solved" (defArgs s_solved) (defBody s_solved) (defScope s_solved) .none kV_solved dc_solved pm_solved an_solved cd_solved ct_solved,
    a_Web_init := a_Web_init,
    d_Web_init := PySem.W.fnOf "__init__" "Web.__init__" (defArgs s_Web_init) (defBody s_Web_init) (defScope s_Web_init) .none kV_Web_init dc_Web_init pm_Web_init an_Web_init cd_Web_init ct_Web_init,
    a_pulls := a_pulls,
    d_pulls := PySem.W.fnOf "pulls" "pulls" (defArgs s_pulls) (defBody s_pulls) (defScope s_pulls) .none kV_pulls dc_pulls pm_pulls an_pulls cd_pulls ct_pulls,
    a_pull_table := a_pull_table,
    d_pull_table := PySem.W.fnOf "pull_table" "pull_table" (defArgs s_pull_table) (defBody s_pull_table) (defScope s_pull_table) .none kV_pull_table dc_pull_table pm_pull_table an_pull_table cd_pull_table ct_pull_table,
    a_powers_of := a_powers_of,
    d_powers_of := PySem.W.fnOf "powers_of" "powers_of" (defArgs s_powers_of) (defBody s_powers_of) (defScope s_powers_of) .none kV_powers_of dc_powers_of pm_powers_of an_powers_of cd_powers_of ct_powers_of,
    a_factors_of := a_factors_of,
    d_factors_of := PySem.W.fnOf "factors_of" "factors_of" (defArgs s_factors_of) (defBody s_factors_of) (defScope s_factors_of) .none kV_factors_of dc_factors_of pm_factors_of an_factors_of cd_factors_of ct_factors_of,
    a_rooted_forests := a_rooted_forests,
    d_rooted_forests := PySem.W.fnOf "rooted_forests" "rooted_forests" (defArgs s_rooted_forests) (defBody s_rooted_forests) (defScope s_rooted_forests) .none kV_rooted_forests dc_rooted_forests pm_rooted_forests an_rooted_forests cd_rooted_forests ct_rooted_forests,
    a_law_cell := a_law_cell,
    d_law_cell := PySem.W.fnOf "_law_cell" "_law_cell" (defArgs s_law_cell) (defBody s_law_cell) (defScope s_law_cell) .none kV_law_cell dc_law_cell pm_law_cell an_law_cell cd_law_cell ct_law_cell,
    a_law_mixed := a_law_mixed,
    d_law_mixed := PySem.W.fnOf "_law_mixed" "_law_mixed" (defArgs s_law_mixed) (defBody s_law_mixed) (defScope s_law_mixed) .none kV_law_mixed dc_law_mixed pm_law_mixed an_law_mixed cd_law_mixed ct_law_mixed,
    a_law_draws := a_law_draws,
    d_law_draws := PySem.W.fnOf "_law_draws" "_law_draws" (defArgs s_law_draws) (defBody s_law_draws) (defScope s_law_draws) .none kV_law_draws dc_law_draws pm_law_draws an_law_draws cd_law_draws ct_law_draws,
    a_law_ties := a_law_ties,
    d_law_ties := PySem.W.fnOf "_law_ties" "_law_ties" (defArgs s_law_ties) (defBody s_law_ties) (defScope s_law_ties) .none kV_law_ties dc_law_ties pm_law_ties an_law_ties cd_law_ties ct_law_ties,
    a_law_web := a_law_web,
    d_law_web := PySem.W.fnOf "_law_web" "_law_web" (defArgs s_law_web) (defBody s_law_web) (defScope s_law_web) .none kV_law_web dc_law_web pm_law_web an_law_web cd_law_web ct_law_web,
    a_law_some := a_law_some,
    d_law_some := PySem.W.fnOf "_law_some" "_law_some" (defArgs s_law_some) (defBody s_law_some) (defScope s_law_some) .none kV_law_some dc_law_some pm_law_some an_law_some cd_law_some ct_law_some,
    a_law_marks := a_law_marks,
    d_law_marks := PySem.W.fnOf "_law_marks" "_law_marks" (defArgs s_law_marks) (defBody s_law_marks) (defScope s_law_marks) .none kV_law_marks dc_law_marks pm_law_marks an_law_marks cd_law_marks ct_law_marks,
    a_law_due_v8 := a_law_due_v8,
    d_law_due_v8 := PySem.W.fnOf "_law_due" "_law_due" (defArgs s_law_due_v8) (defBody s_law_due_v8) (defScope s_law_due_v8) .none kV_law_due_v8 dc_law_due_v8 pm_law_due_v8 an_law_due_v8 cd_law_due_v8 ct_law_due_v8,
    a_law_k72 := a_law_k72,
    d_law_k72 := PySem.W.fnOf "law" "law" (defArgs s_law_k72) (defBody s_law_k72) (defScope s_law_k72) .none kV_law_k72 dc_law_k72 pm_law_k72 an_law_k72 cd_law_k72 ct_law_k72,
    t_MOST_PLACES := t_MOST_PLACES,
    t_MOST_TIES := t_MOST_TIES,
    m_WebError := PySem.W.mg_of X G a_WebError,
    x_WebError := x_WebError,
    kx_WebError := kx_WebError,
    bx_WebError := bx_WebError,
    tx_WebError := tx_WebError,
    m_BadWeb := PySem.W.mg_of X G a_BadWeb,
    x_BadWeb := x_BadWeb,
    kx_BadWeb := kx_BadWeb,
    bx_BadWeb := bx_BadWeb,
    tx_BadWeb := tx_BadWeb,
    m_NotSquare := PySem.W.mg_of X G a_NotSquare,
    x_NotSquare := x_NotSquare,
    kx_NotSquare := kx_NotSquare,
    bx_NotSquare := bx_NotSquare,
    tx_NotSquare := tx_NotSquare,
    m_Singular := PySem.W.mg_of X G a_Singular,
    x_Singular := x_Singular,
    kx_Singular := kx_Singular,
    bx_Singular := bx_Singular,
    tx_Singular := tx_Singular,
    m_Web := PySem.W.mg_of X G a_Web,
    cl_Web := ⟨pg_Web, hd_Web, po_Web, sa_Web⟩,
    na_Web_places := na_Web_places,
    na_Web_ties := na_Web_ties,
    mk_Web := ⟨mk_Web, n_Web_init, i_Web_init, kc_Web⟩,
    F_look_at_table := fun_mk (st := s_look_at_table) l_look_at_table c_look_at_table k_look_at_table,
    b_look_at_table := (fun_mk (st := s_look_at_table) l_look_at_table c_look_at_table k_look_at_table).binds (ps := ["table"]) fun _ _ _ _ _ _ us hl => match us, hl with | [_], _ => rfl,
    m_look_at_table := PySem.W.mg_of X G n_look_at_table,
    k_look_at_table := k_look_at_table,
    F_first_row_with := fun_mk (st := s_first_row_with) l_first_row_with c_first_row_with k_first_row_with,
    b_first_row_with := (fun_mk (st := s_first_row_with) l_first_row_with c_first_row_with k_first_row_with).binds (ps := ["rows", "at"]) fun _ _ _ _ _ _ us hl => match us, hl with | [_, _], _ => rfl,
    m_first_row_with := PySem.W.mg_of X G n_first_row_with,
    k_first_row_with := k_first_row_with,
    F_cleared := fun_mk (st := s_cleared) l_cleared c_cleared k_cleared,
    b_cleared := (fun_mk (st := s_cleared) l_cleared c_cleared k_cleared).binds (ps := ["rows", "at", "ahead"]) fun _ _ _ _ _ _ us hl => match us, hl with | [_, _, _], _ => rfl,
    m_cleared := PySem.W.mg_of X G n_cleared,
    k_cleared := k_cleared,
    F_determinant := fun_mk (st := s_determinant) l_determinant c_determinant k_determinant,
    b_determinant := (fun_mk (st := s_determinant) l_determinant c_determinant k_determinant).binds (ps := ["table"]) fun _ _ _ _ _ _ us hl => match us, hl with | [_], _ => rfl,
    m_determinant := PySem.W.mg_of X G n_determinant,
    k_determinant := k_determinant,
    F_common_part := fun_mk (st := s_common_part) l_common_part c_common_part k_common_part,
    b_common_part := (fun_mk (st := s_common_part) l_common_part c_common_part k_common_part).binds (ps := ["one", "other"]) fun _ _ _ _ _ _ us hl => match us, hl with | [_, _], _ => rfl,
    m_common_part := PySem.W.mg_of X G n_common_part,
    k_common_part := k_common_part,
    F_as_fraction := fun_mk (st := s_as_fraction) l_as_fraction c_as_fraction k_as_fraction,
    b_as_fraction := (fun_mk (st := s_as_fraction) l_as_fraction c_as_fraction k_as_fraction).binds (ps := ["top", "bottom"]) fun _ _ _ _ _ _ us hl => match us, hl with | [_, _], _ => rfl,
    m_as_fraction := PySem.W.mg_of X G n_as_fraction,
    k_as_fraction := k_as_fraction,
    F_solved := fun_mk (st := s_solved) l_solved c_solved k_solved,
    b_solved := (fun_mk (st := s_solved) l_solved c_solved k_solved).binds (ps := ["table", "right"]) fun _ _ _ _ _ _ us hl => match us, hl with | [_, _], _ => rfl,
    m_solved := PySem.W.mg_of X G n_solved,
    k_solved := k_solved,
    F_Web_init := fun_mk (st := s_Web_init) l_Web_init c_Web_init k_Web_init,
    b_Web_init := (fun_mk (st := s_Web_init) l_Web_init c_Web_init k_Web_init).binds (ps := ["self", "places", "ties"]) fun _ _ _ _ _ _ us hl => match us, hl with | [_, _, _], _ => rfl,
    k_Web_init := k_Web_init,
    F_pulls := fun_mk (st := s_pulls) l_pulls c_pulls k_pulls,
    b_pulls := (fun_mk (st := s_pulls) l_pulls c_pulls k_pulls).binds (ps := ["count", "ties"]) fun _ _ _ _ _ _ us hl => match us, hl with | [_, _], _ => rfl,
    m_pulls := PySem.W.mg_of X G n_pulls,
    k_pulls := k_pulls,
    F_pull_table := fun_mk (st := s_pull_table) l_pull_table c_pull_table k_pull_table,
    b_pull_table := (fun_mk (st := s_pull_table) l_pull_table c_pull_table k_pull_table).binds (ps := ["web"]) fun _ _ _ _ _ _ us hl => match us, hl with | [_], _ => rfl,
    m_pull_table := PySem.W.mg_of X G n_pull_table,
    k_pull_table := k_pull_table,
    F_powers_of := fun_mk (st := s_powers_of) l_powers_of c_powers_of k_powers_of,
    b_powers_of := (fun_mk (st := s_powers_of) l_powers_of c_powers_of k_powers_of).binds (ps := ["t", "count"]) fun _ _ _ _ _ _ us hl => match us, hl with | [_, _], _ => rfl,
    m_powers_of := PySem.W.mg_of X G n_powers_of,
    k_powers_of := k_powers_of,
    F_factors_of := fun_mk (st := s_factors_of) l_factors_of c_factors_of k_factors_of,
    b_factors_of := (fun_mk (st := s_factors_of) l_factors_of c_factors_of k_factors_of).binds (ps := ["values"]) fun _ _ _ _ _ _ us hl => match us, hl with | [_], _ => rfl,
    m_factors_of := PySem.W.mg_of X G n_factors_of,
    k_factors_of := k_factors_of,
    F_rooted_forests := fun_mk (st := s_rooted_forests) l_rooted_forests c_rooted_forests k_rooted_forests,
    b_rooted_forests := (fun_mk (st := s_rooted_forests) l_rooted_forests c_rooted_forests k_rooted_forests).binds (ps := ["web"]) fun _ _ _ _ _ _ us hl => match us, hl with | [_], _ => rfl,
    m_rooted_forests := PySem.W.mg_of X G n_rooted_forests,
    k_rooted_forests := k_rooted_forests,
    F_law_cell := fun_mk (st := s_law_cell) l_law_cell c_law_cell k_law_cell,
    b_law_cell := (fun_mk (st := s_law_cell) l_law_cell c_law_cell k_law_cell).binds (ps := ["script", "k"]) fun _ _ _ _ _ _ us hl => match us, hl with | [_, _], _ => rfl,
    m_law_cell := PySem.W.mg_of X G n_law_cell,
    k_law_cell := k_law_cell,
    F_law_mixed := fun_mk (st := s_law_mixed) l_law_mixed c_law_mixed k_law_mixed,
    b_law_mixed := (fun_mk (st := s_law_mixed) l_law_mixed c_law_mixed k_law_mixed).binds (ps := ["cell", "k"]) fun _ _ _ _ _ _ us hl => match us, hl with | [_, _], _ => rfl,
    m_law_mixed := PySem.W.mg_of X G n_law_mixed,
    k_law_mixed := k_law_mixed,
    F_law_draws := fun_mk (st := s_law_draws) l_law_draws c_law_draws k_law_draws,
    b_law_draws := (fun_mk (st := s_law_draws) l_law_draws c_law_draws k_law_draws).binds (ps := ["script", "start", "count", "way"]) fun _ _ _ _ _ _ us hl => match us, hl with | [_, _, _, _], _ => rfl,
    m_law_draws := PySem.W.mg_of X G n_law_draws,
    k_law_draws := k_law_draws,
    F_law_ties := fun_mk (st := s_law_ties) l_law_ties c_law_ties k_law_ties,
    b_law_ties := (fun_mk (st := s_law_ties) l_law_ties c_law_ties k_law_ties).binds (ps := ["draws", "places", "hang"]) fun _ _ _ _ _ _ us hl => match us, hl with | [_, _, _], _ => rfl,
    m_law_ties := PySem.W.mg_of X G n_law_ties,
    k_law_ties := k_law_ties,
    F_law_web := fun_mk (st := s_law_web) l_law_web c_law_web k_law_web,
    b_law_web := (fun_mk (st := s_law_web) l_law_web c_law_web k_law_web).binds (ps := ["script", "most", "count"]) fun _ _ _ _ _ _ us hl => match us, hl with | [_, _, _], _ => rfl,
    m_law_web := PySem.W.mg_of X G n_law_web,
    k_law_web := k_law_web,
    F_law_some := fun_mk (st := s_law_some) l_law_some c_law_some k_law_some,
    b_law_some := (fun_mk (st := s_law_some) l_law_some c_law_some k_law_some).binds (ps := ["cell", "count"]) fun _ _ _ _ _ _ us hl => match us, hl with | [_, _], _ => rfl,
    m_law_some := PySem.W.mg_of X G n_law_some,
    k_law_some := k_law_some,
    F_law_marks := fun_mk (st := s_law_marks) l_law_marks c_law_marks k_law_marks,
    b_law_marks := (fun_mk (st := s_law_marks) l_law_marks c_law_marks k_law_marks).binds (ps := ["places", "ties", "some"]) fun _ _ _ _ _ _ us hl => match us, hl with | [_, _, _], _ => rfl,
    m_law_marks := PySem.W.mg_of X G n_law_marks,
    k_law_marks := k_law_marks,
    F_law_due_v8 := fun_mk (st := s_law_due_v8) l_law_due_v8 c_law_due_v8 k_law_due_v8,
    b_law_due_v8 := (fun_mk (st := s_law_due_v8) l_law_due_v8 c_law_due_v8 k_law_due_v8).binds (ps := ["places", "ties"]) fun _ _ _ _ _ _ us hl => match us, hl with | [_, _], _ => rfl,
    m_law_due_v8 := PySem.W.mg_of X G n_law_due_v8,
    k_law_due_v8 := k_law_due_v8,
    F_law_k72 := fun_mk (st := s_law_k72) l_law_k72 c_law_k72 k_law_k72,
    b_law_k72 := (fun_mk (st := s_law_k72) l_law_k72 c_law_k72 k_law_k72).binds (ps := ["script"]) fun _ _ _ _ _ _ us hl => match us, hl with | [_], _ => rfl,
    m_law_k72 := PySem.W.mg_of X G n_law_k72,
    k_law_k72 := k_law_k72,
    v_MOST_PLACES := PySem.W.mg_of X G v_MOST_PLACES,
    v_MOST_TIES := PySem.W.mg_of X G v_MOST_TIES,
    z_abs := PySem.W.mg_none_of X G z_abs,
    z_all := PySem.W.mg_none_of X G z_all,
    z_int := PySem.W.mg_none_of X G z_int,
    z_isinstance := PySem.W.mg_none_of X G z_isinstance,
    z_len := PySem.W.mg_none_of X G z_len,
    z_list := PySem.W.mg_none_of X G z_list,
    z_max := PySem.W.mg_none_of X G z_max,
    z_min := PySem.W.mg_none_of X G z_min,
    z_range := PySem.W.mg_none_of X G z_range,
    z_set := PySem.W.mg_none_of X G z_set,
    z_sorted := PySem.W.mg_none_of X G z_sorted,
    z_sum := PySem.W.mg_none_of X G z_sum,
    z_tuple := PySem.W.mg_none_of X G z_tuple,
    z_zip := PySem.W.mg_none_of X G z_zip }, PySem.W.mg_of X G n_law_k72, fun s v => .of_eq rfl⟩
def spLaw (K : PySem.W.Frag) : Sp := fun vs H Q _ => ∃ (a : Addr) (ns : List Int), vs = [.ref a] ∧ SqL K H a (ns.map V.int) ∧ ns.length ≤ 63 ∧ ∀ v H', v = .bl true → Q v H'
set_option maxHeartbeats 8000000 in
theorem law_ok (T : Tx K mg) : FnOk P w K mg base (L2.CX P w) 6 T.a_law_k72 T.d_law_k72 ["script"] (spLaw K) := by
  have G_look_at_table := ok_look_at_table (P := P) (w := w) (base := base) T
  have G_first_row_with := ok_first_row_with (P := P) (w := w) (base := base) T
  have G_cleared := ok_cleared (P := P) (w := w) (base := base) T
  have G_determinant := ok_determinant (P := P) (w := w) (base := base) T G_look_at_table G_first_row_with G_cleared
  have G_common_part := ok_common_part (P := P) (w := w) (base := base) T
  have G_as_fraction := ok_as_fraction (P := P) (w := w) (base := base) T G_common_part
  have G_solved := ok_solved (P := P) (w := w) (base := base) T G_look_at_table G_determinant G_as_fraction
  have G_Web_init := ok_Web_init (P := P) (w := w) (base := base) T
  have G_pulls := ok_pulls (P := P) (w := w) (base := base) T
  have G_pull_table := ok_pull_table (P := P) (w := w) (base := base) T G_pulls
  have G_powers_of := ok_powers_of (P := P) (w := w) (base := base) T
  have G_factors_of := ok_factors_of (P := P) (w := w) (base := base) T G_powers_of G_solved
  have G_rooted_forests := ok_rooted_forests (P := P) (w := w) (base := base) T G_pull_table G_determinant G_powers_of G_factors_of
  have G_law_cell := ok_law_cell (P := P) (w := w) (base := base) T
  have G_law_mixed := ok_law_mixed (P := P) (w := w) (base := base) T
  have G_law_draws := ok_law_draws (P := P) (w := w) (base := base) T G_law_mixed
  have G_law_ties := ok_law_ties (P := P) (w := w) (base := base) T
  have G_law_web := ok_law_web (P := P) (w := w) (base := base) T G_law_cell G_law_draws G_law_ties
  have G_law_some := ok_law_some (P := P) (w := w) (base := base) T
  have G_law_marks := ok_law_marks (P := P) (w := w) (base := base) T
  have G_law_due_v8 := ok_law_due_v8 (P := P) (w := w) (base := base) T G_law_some G_law_marks
  have G_law_k72 := ok_law_k72 (P := P) (w := w) (base := base) T G_law_web G_rooted_forests G_Web_init G_law_due_v8
  refine G_law_k72.imp fun vs H Q E q => ?_
  obtain ⟨a, ns, rfl, hS, hl, k⟩ := q
  have e := law_sp (K := K) (cls := T.cls) (g := g_law_k72) (H := H) (true_law_k72 ns hl) hS
  obtain ⟨F, ds, h1, h2, h3, h4⟩ := e
  refine ⟨F, ds, h1, h2, h3, ?_⟩
  cases eg : g_law_k72 ds with
  | ok d => rw [eg] at h4; exact fun v F' H' O' x y z => k v H' (h4 v F' H' O' x y z)
  | xc c => rw [eg] at h4; exact fun F' H' x => (h4 F' H' x).elim
  | bad => rw [eg] at h4; exact h4.elim
end
theorem walk {l : PySem.W.OpenLaw} {q : Program} {loose : List Str} {XP : (Str → Option Value) → Heap → Prop} {YP : World → Heap → Prop} {d : DefRec} {K : Params → PySem.W.Frag} (hn : l.most = some 63) (hdf : d.params.defaults = []) (hname : d.name = "law")
    (hY : ∀ (w : World) (h : Heap), YP w h → (K w.params).In h)
    (F : ∀ (w : World) (mg : Str → Option Value) (h : Heap), (K w.params).In h → h.Ns mainGlobals mg → ∃ T : Tx (K w.params) mg, mg "law" = some (.ref T.a_law_k72) ∧ ∀ (s : Shared) (v : Value), BindsTo s T.d_law_k72 ⟨[v], []⟩ [("script", v)]) :
    PySem.W.WalkO q loose XP YP l.row.toRowW d [] (fun f vs => PySem.call f vs) :=
  L2.walk_of (n := 63) (k := 6) (x := "script") (CX := fun w => L2.CX l.prog w) (sp := fun w => spLaw (K w.params)) hn (by decide) hdf ⟨rfl, by decide, by decide⟩ hY (fun w mg fa h KX G hmg => by
    obtain ⟨T, h1, h2⟩ := F w mg h KX G
    rw [hname, h1] at hmg
    cases hmg
    exact ⟨T.d_law_k72, h2, fun base _ _ => law_ok T⟩) (fun _ _ a ns hl _ hS => ⟨a, ns, rfl, hS, hl, fun _ _ h => h⟩) fun _ _ _ _ _ z => law_cx z
end Lw
open PySem PySem.W PyProof.Rows in
set_option maxRecDepth 100000 in
set_option maxHeartbeats 0 in
theorem PySem.Challenge.cw_spanrow_k72_rooted_forests_holds : PySem.Challenge.rw_spanrow_k72_rooted_forests.Holds := by
  w_on; o_law; k_head; (case hw => w_witness2)
  k_fill
  refine Lw.walk (l := PySem.Challenge.rw_spanrow_k72_rooted_forests) rfl rfl rfl (fun w h Y => PySem.W.kIn_of Y) ?F
  case F =>
    intro w mg h KX G
    refine' Lw.all_mk KX G ?a_WebError ?x_WebError ?kx_WebError ?bx_WebError ?tx_WebError ?a_BadWeb ?x_BadWeb ?kx_BadWeb ?bx_BadWeb ?tx_BadWeb ?a_NotSquare ?x_NotSquare ?kx_NotSquare ?bx_NotSquare ?tx_NotSquare ?a_Singular ?x_Singular ?kx_Singular ?bx_Singular ?tx_Singular ?a_Web ?pg_Web ?hd_Web ?po_Web ?sa_Web ?mk_Web ?kc_Web ?na_Web_places ?na_Web_ties ?n_look_at_table ?l_look_at_table ?c_look_at_table ?k_look_at_table ?n_first_row_with ?l_first_row_with ?c_first_row_with ?k_first_row_with ?n_cleared ?l_cleared ?c_cleared ?k_cleared ?n_determinant ?l_determinant ?c_determinant ?k_determinant ?n_common_part ?l_common_part ?c_common_part ?k_common_part ?n_as_fraction ?l_as_fraction ?c_as_fraction ?k_as_fraction ?n_solved ?l_solved ?c_solved ?k_solved ?n_Web_init ?i_Web_init ?l_Web_init ?c_Web_init ?k_Web_init ?n_pulls ?l_pulls ?c_pulls ?k_pulls ?n_pull_table ?l_pull_table ?c_pull_table ?k_pull_table ?n_powers_of ?l_powers_of ?c_powers_of ?k_powers_of ?n_factors_of ?l_factors_of ?c_factors_of ?k_factors_of ?n_rooted_forests ?l_rooted_forests ?c_rooted_forests ?k_rooted_forests ?n_law_cell ?l_law_cell ?c_law_cell ?k_law_cell ?n_law_mixed ?l_law_mixed ?c_law_mixed ?k_law_mixed ?n_law_draws ?l_law_draws ?c_law_draws ?k_law_draws ?n_law_ties ?l_law_ties ?c_law_ties ?k_law_ties ?n_law_web ?l_law_web ?c_law_web ?k_law_web ?n_law_some ?l_law_some ?c_law_some ?k_law_some ?n_law_marks ?l_law_marks ?c_law_marks ?k_law_marks ?n_law_due_v8 ?l_law_due_v8 ?c_law_due_v8 ?k_law_due_v8 ?n_law_k72 ?l_law_k72 ?c_law_k72 ?k_law_k72 ?v_MOST_PLACES ?v_MOST_TIES ?z_abs ?z_all ?z_int ?z_isinstance ?z_len ?z_list ?z_max ?z_min ?z_range ?z_set ?z_sorted ?z_sum ?z_tuple ?z_zip
    (case a_WebError => k_is)
    (case x_WebError => k_exc)
    (case kx_WebError => k_is)
    (case bx_WebError => k_is)
    (case tx_WebError => k_is)
    (case a_BadWeb => k_is)
    (case x_BadWeb => k_exc)
    (case kx_BadWeb => k_is)
    (case bx_BadWeb => k_is)
    (case tx_BadWeb => k_is)
    (case a_NotSquare => k_is)
    (case x_NotSquare => k_exc)
    (case kx_NotSquare => k_is)
    (case bx_NotSquare => k_is)
    (case tx_NotSquare => k_is)
    (case a_Singular => k_is)
    (case x_Singular => k_exc)
    (case kx_Singular => k_is)
    (case bx_Singular => k_is)
    (case tx_Singular => k_is)
    (case a_Web => k_is)
    (case pg_Web => k_is)
    (case hd_Web => k_is)
    (case po_Web => k_is)
    (case sa_Web => k_is)
    (case mk_Web => k_is)
    (case kc_Web => k_is)
    (case na_Web_places => k_is)
    (case na_Web_ties => k_is)
    (case n_look_at_table => k_is)
    (case l_look_at_table => k_is)
    (case c_look_at_table => k_is)
    (case k_look_at_table => k_is)
    (case n_first_row_with => k_is)
    (case l_first_row_with => k_is)
    (case c_first_row_with => k_is)
    (case k_first_row_with => k_is)
    (case n_cleared => k_is)
    (case l_cleared => k_is)
    (case c_cleared => k_is)
    (case k_cleared => k_is)
    (case n_determinant => k_is)
    (case l_determinant => k_is)
    (case c_determinant => k_is)
    (case k_determinant => k_is)
    (case n_common_part => k_is)
    (case l_common_part => k_is)
    (case c_common_part => k_is)
    (case k_common_part => k_is)
    (case n_as_fraction => k_is)
    (case l_as_fraction => k_is)
    (case c_as_fraction => k_is)
    (case k_as_fraction => k_is)
    (case n_solved => k_is)
    (case l_solved => k_is)
    (case c_solved => k_is)
    (case k_solved => k_is)
    (case n_Web_init => k_is)
    (case i_Web_init => k_is)
    (case l_Web_init => k_is)
    (case c_Web_init => k_is)
    (case k_Web_init => k_is)
    (case n_pulls => k_is)
    (case l_pulls => k_is)
    (case c_pulls => k_is)
    (case k_pulls => k_is)
    (case n_pull_table => k_is)
    (case l_pull_table => k_is)
    (case c_pull_table => k_is)
    (case k_pull_table => k_is)
    (case n_powers_of => k_is)
    (case l_powers_of => k_is)
    (case c_powers_of => k_is)
    (case k_powers_of => k_is)
    (case n_factors_of => k_is)
    (case l_factors_of => k_is)
    (case c_factors_of => k_is)
    (case k_factors_of => k_is)
    (case n_rooted_forests => k_is)
    (case l_rooted_forests => k_is)
    (case c_rooted_forests => k_is)
    (case k_rooted_forests => k_is)
    (case n_law_cell => k_is)
    (case l_law_cell => k_is)
    (case c_law_cell => k_is)
    (case k_law_cell => k_is)
    (case n_law_mixed => k_is)
    (case l_law_mixed => k_is)
    (case c_law_mixed => k_is)
    (case k_law_mixed => k_is)
    (case n_law_draws => k_is)
    (case l_law_draws => k_is)
    (case c_law_draws => k_is)
    (case k_law_draws => k_is)
    (case n_law_ties => k_is)
    (case l_law_ties => k_is)
    (case c_law_ties => k_is)
    (case k_law_ties => k_is)
    (case n_law_web => k_is)
    (case l_law_web => k_is)
    (case c_law_web => k_is)
    (case k_law_web => k_is)
    (case n_law_some => k_is)
    (case l_law_some => k_is)
    (case c_law_some => k_is)
    (case k_law_some => k_is)
    (case n_law_marks => k_is)
    (case l_law_marks => k_is)
    (case c_law_marks => k_is)
    (case k_law_marks => k_is)
    (case n_law_due_v8 => k_is)
    (case l_law_due_v8 => k_is)
    (case c_law_due_v8 => k_is)
    (case k_law_due_v8 => k_is)
    (case n_law_k72 => k_is)
    (case l_law_k72 => k_is)
    (case c_law_k72 => k_is)
    (case k_law_k72 => k_is)
    (case v_MOST_PLACES => k_is)
    (case v_MOST_TIES => k_is)
    (case z_abs => k_is)
    (case z_all => k_is)
    (case z_int => k_is)
    (case z_isinstance => k_is)
    (case z_len => k_is)
    (case z_list => k_is)
    (case z_max => k_is)
    (case z_min => k_is)
    (case z_range => k_is)
    (case z_set => k_is)
    (case z_sorted => k_is)
    (case z_sum => k_is)
    (case z_tuple => k_is)
    (case z_zip => k_is)
