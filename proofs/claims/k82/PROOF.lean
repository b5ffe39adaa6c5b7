import PyProof.Rows.All
import Wide.All
import OpenK.AllK
import Wide.FinOn
import HandS.ForMost
import HandS.ForExc
import HandS.TupAny
import HandS.Wide
import HandS.SortInts
import HandS.ExcIs
import HandS.TryOnly
import HandS.Rev
import HandS.RevRange
import HandS.WordsExc
import HandS.SetFor
import HandS.Strs
import HandS.Conv
import HandS.IsInst
import HandS.RevTup
import HandS.NamedTupSort
import HandS.SortRule
import HandS.Deep
import HandS.WideBits
import KE.DataMinMax
import HandS.Iter
import KE.GoesMore
import KE.SortData
import HandS.More
import HandS.Dict
import HandS.Zip
import KE.GoesZip
import KE.KTurns
import KE.KTupSum
import HandS.TupLe
import KE.KDictSum
import KE.DataFind
import HandS.WordsDict
import HandS.TupSets
import HandS.EndBits
import KE.RegKIsAll
import HandS.Codes
import PySem.Challenge.RW_spanrow_k82_refusals_stand_alone
set_option Elab.async false
set_option linter.all false
set_option maxRecDepth 100000
namespace DL
open PySem L2

inductive D where
  | un | non | bl (b : Bool) | int (i : Int) | str (x : Str)
  | sc (xs : List D) | ls (xs : List D) | tp (xs : List D) | ob (c : Nat) (fs : List D)
  | ol (xs : List D) | bo (xs : List D)
  | od (ks : List Key) (xs : List D) | bd (ks : List Key) (xs : List D)
  | oo (o : Option Addr) (c : Nat) (fs : List D) | bb (c : Nat) (fs : List D)
  | rf (a : Addr)

abbrev Cls := Nat → Option (Addr × List Str)
abbrev Env := List D

inductive Res (α : Type) where
  | ok (a : α) | xc (c : Nat) | bad
inductive Out where
  | nx (g : Env) | rt (d : D) | bk (g : Env) | ct (g : Env) | xc (c : Nat) (g : Env) | bad

def excV (cls : Cls) (c : Nat) : Value := match cls c with
  | some (C, _) => .ref C
  | none => .none

mutual
inductive Rp (K : PySem.W.Frag) (cls : Cls) (F : Hp) : V → D → Prop
  | non : Rp K cls F .non .non
  | bl (b : Bool) : Rp K cls F (.bl b) (.bl b)
  | int (i : Int) : Rp K cls F (.int i) (.int i)
  | str (x : Str) : Rp K cls F (.str x) (.str x)
  | rf (a : Addr) : Rp K cls F (.ref a) (.rf a)
  | sc {a : Addr} {vs : List V} {ds : List D} : SqL K F a vs → Rps K cls F vs ds → Rp K cls F (.ref a) (.sc ds)
  | ls {a : Addr} {vs : List V} {ds : List D} : F a = some (.lst vs) → Rps K cls F vs ds → Rp K cls F (.ref a) (.ls ds)
  | tp {a : Addr} {vs : List V} {ds : List D} : SqT K F a vs → Rps K cls F vs ds → Rp K cls F (.ref a) (.tp ds)
  | ob {a C dx : Addr} {c : Nat} {ns : List Str} {vs : List V} {ds : List D} : cls c = some (C, ns) → F a = some (.ins C dx (ns.zip vs)) → vs.length ≤ ns.length → Rps K cls F vs ds → Rp K cls F (.ref a) (.ob c ds)
inductive Rps (K : PySem.W.Frag) (cls : Cls) (F : Hp) : List V → List D → Prop
  | nil : Rps K cls F [] []
  | cons {v : V} {d : D} {vs : List V} {ds : List D} : Rp K cls F v d → Rps K cls F vs ds → Rps K cls F (v :: vs) (d :: ds)
end

mutual
inductive Ow (K : PySem.W.Frag) (cls : Cls) (F H : Hp) : V → D → List Addr → Prop
  | sh {v : V} {d : D} : Rp K cls F v d → Ow K cls F H v d []
  | ol {a : Addr} {vs : List V} {ds : List D} {O : List Addr} : F a = none → H a = some (.lst vs) → a ∉ O → Ows K cls F H vs ds O → Ow K cls F H (.ref a) (.ol ds) (a :: O)
  | od {a : Addr} {ks : List Key} {vs : List V} {ds : List D} {O : List Addr} : F a = none → H a = some (.dK (ks.zip vs)) → ks.length = vs.length → a ∉ O → Ows K cls F H vs ds O → Ow K cls F H (.ref a) (.od ks ds) (a :: O)
  | oo {o : Option Addr} {a C dx : Addr} {c : Nat} {ns : List Str} {vs : List V} {ds : List D} {O : List Addr} : (∀ x, o = some x → x = a) → cls c = some (C, ns) → F a = none → H a = some (.ins C dx (ns.zip vs)) → vs.length ≤ ns.length → a ∉ O → Ows K cls F H vs ds O → Ow K cls F H (.ref a) (.oo o c ds) (a :: O)
inductive Ows (K : PySem.W.Frag) (cls : Cls) (F H : Hp) : List V → List D → List Addr → Prop
  | nil : Ows K cls F H [] [] []
  | cons {v : V} {d : D} {vs : List V} {ds : List D} {O1 O2 O : List Addr} : Ow K cls F H v d O1 → Ows K cls F H vs ds O2 → (∀ a ∈ O1, a ∉ O2) → O = O1 ++ O2 → Ows K cls F H (v :: vs) (d :: ds) O
end

mutual
inductive Bo (K : PySem.W.Frag) (cls : Cls) (F H : Hp) : V → D → Prop
  | sh {v : V} {d : D} : Rp K cls F v d → Bo K cls F H v d
  | bo {a : Addr} {vs : List V} {ds : List D} : H a = some (.lst vs) → Bos K cls F H vs ds → Bo K cls F H (.ref a) (.bo ds)
  | bd {a : Addr} {ks : List Key} {vs : List V} {ds : List D} : H a = some (.dK (ks.zip vs)) → ks.length = vs.length → Bos K cls F H vs ds → Bo K cls F H (.ref a) (.bd ks ds)
  | bb {a C dx : Addr} {c : Nat} {ns : List Str} {vs : List V} {ds : List D} : cls c = some (C, ns) → H a = some (.ins C dx (ns.zip vs)) → vs.length ≤ ns.length → Bos K cls F H vs ds → Bo K cls F H (.ref a) (.bb c ds)
inductive Bos (K : PySem.W.Frag) (cls : Cls) (F H : Hp) : List V → List D → Prop
  | nil : Bos K cls F H [] []
  | cons {v : V} {d : D} {vs : List V} {ds : List D} : Bo K cls F H v d → Bos K cls F H vs ds → Bos K cls F H (v :: vs) (d :: ds)
end

def Tm (K : PySem.W.Frag) (cls : Cls) (F H : Hp) (v : V) (d : D) (O : List Addr) : Prop := Ow K cls F H v d O ∨ (Bo K cls F H v d ∧ O = [])

inductive Sts (K : PySem.W.Frag) (cls : Cls) (F H : Hp) : St → Env → List Addr → Prop
  | nil : Sts K cls F H [] [] []
  | un {o : Option V} {σ : St} {g : Env} {O : List Addr} : Sts K cls F H σ g O → Sts K cls F H (o :: σ) (.un :: g) O
  | cons {v : V} {d : D} {σ : St} {g : Env} {O1 O2 O : List Addr} : Ow K cls F H v d O1 → Sts K cls F H σ g O2 → (∀ a ∈ O1, a ∉ O2) → O = O1 ++ O2 → Sts K cls F H (some v :: σ) (d :: g) O

def Fresh (H : Hp) (O : List Addr) : Prop := ∀ a ∈ O, H a = none

structure Ext (F H F' H' : Hp) : Prop where
  ff : Same F F'
  hh : Same H H'
  fh : Same F' H'
  ow : ∀ a, F a = none → H a ≠ none → F' a = none

structure SExt (F H : Hp) (O : List Addr) (F' H' : Hp) (O' : List Addr) : Prop where
  ff : Same F F'
  fh : Same F' H'
  fr : ∀ a o, H a = some o → a ∉ O → H' a = some o
  ow : ∀ a, F a = none → H a ≠ none → a ∉ O → F' a = none
  oo : ∀ a ∈ O', a ∈ O ∨ H a = none

section
variable {K : PySem.W.Frag} {cls : Cls} {F H F' H' F'' H'' : Hp} {O O' O'' : List Addr}

theorem Ext.refl (s : Same F H) : Ext F H F H := ⟨.refl F, .refl H, s, fun _ h _ => h⟩
theorem Ext.trans (x : Ext F H F' H') (y : Ext F' H' F'' H'') : Ext F H F'' H'' :=
  ⟨x.ff.trans y.ff, x.hh.trans y.hh, y.fh, fun a h1 h2 => y.ow a (x.ow a h1 h2) (fun e => by
    cases q : H a with
    | none => exact h2 q
    | some o => rw [x.hh a o q] at e; cases e)⟩
theorem Ext.some (x : Ext F H F' H') {a : Addr} (h : H a ≠ none) : H' a ≠ none := fun e => by
  cases q : H a with
  | none => exact h q
  | some o => rw [x.hh a o q] at e; cases e
theorem Ext.fresh (x : Ext F H F' H') (h : Fresh H' O) : Fresh H O := fun a ha => x.hh.free (h a ha)
theorem Fresh.mono (s : Same H H') (h : Fresh H' O) : Fresh H O := fun a ha => s.free (h a ha)
theorem Fresh.nil : Fresh H [] := fun _ h => nomatch h
theorem SExt.refl (s : Same F H) : SExt F H O F H O := ⟨.refl F, s, fun _ _ h _ => h, fun _ h _ _ => h, fun _ h => .inl h⟩
theorem SExt.trans (x : SExt F H O F' H' O') (y : SExt F' H' O' F'' H'' O'') : SExt F H O F'' H'' O'' := by
  have no : ∀ a o, H a = .some o → a ∉ O → a ∉ O' := fun a o h n h' => by
    rcases x.oo a h' with e | e
    · exact n e
    · rw [h] at e; cases e
  have ne : ∀ a, H a ≠ none → ∃ o, H a = .some o := fun a h => by
    cases q : H a with
    | none => exact (h q).elim
    | some o => exact ⟨o, rfl⟩
  refine ⟨x.ff.trans y.ff, y.fh, fun a o h n => y.fr a o (x.fr a o h n) (no a o h n), fun a h1 h2 n => ?_, fun a h => ?_⟩
  · obtain ⟨o, q⟩ := ne a h2
    exact y.ow a (x.ow a h1 h2 n) (by rw [x.fr a o q n]; exact fun e => nomatch e) (no a o q n)
  · rcases y.oo a h with e | e
    · exact x.oo a e
    · cases q : H a with
      | none => exact .inr rfl
      | some o =>
        by_cases n : a ∈ O
        · exact .inl n
        · rw [x.fr a o q n] at e; cases e
theorem Ext.sext (x : Ext F H F' H') (h : ∀ a ∈ O', a ∈ O ∨ H a = none) : SExt F H O F' H' O' := ⟨x.ff, x.fh, fun a o e _ => x.hh a o e, fun a h1 h2 _ => x.ow a h1 h2, h⟩
theorem SExt.ext (x : SExt F H [] F' H' O') : Ext F H F' H' := ⟨x.ff, fun a o e => x.fr a o e (by simp), x.fh, fun a h1 h2 => x.ow a h1 h2 (by simp)⟩

mutual
theorem Rp.mono (s : Same F F') : ∀ {v : V} {d : D}, Rp K cls F v d → Rp K cls F' v d
  | _, _, .non => .non
  | _, _, .bl b => .bl b
  | _, _, .int i => .int i
  | _, _, .str x => .str x
  | _, _, .rf x => .rf x
  | _, _, .sc h r => .sc (s.seq h) (Rps.mono s r)
  | _, _, .ls h r => .ls (s _ _ h) (Rps.mono s r)
  | _, _, .tp h r => .tp (by
      rcases h with (h | ⟨o, h⟩) | h
      · exact .inl (.inl (s _ _ h))
      · exact .inl (.inr ⟨o, s _ _ h⟩)
      · exact .inr h) (Rps.mono s r)
  | _, _, .ob c h l r => .ob c (s _ _ h) l (Rps.mono s r)
theorem Rps.mono (s : Same F F') : ∀ {v : List V} {d : List D}, Rps K cls F v d → Rps K cls F' v d
  | _, _, .nil => .nil
  | _, _, .cons h r => .cons (Rp.mono s h) (Rps.mono s r)
end
mutual
theorem Ow.frame (s : Same F F') : ∀ {v : V} {d : D} {O : List Addr}, Ow K cls F H v d O → (∀ a ∈ O, H' a = H a ∧ F' a = none) → Ow K cls F' H' v d O
  | _, _, _, .sh r, _ => .sh (r.mono s)
  | _, _, _, .ol h1 h2 h3 r, k => .ol (k _ (by simp)).2 ((k _ (by simp)).1.trans h2) h3 (Ows.frame s r fun a ha => k a (by simp [ha]))
  | _, _, _, .od h1 h2 hl h3 r, k => .od (k _ (by simp)).2 ((k _ (by simp)).1.trans h2) hl h3 (Ows.frame s r fun a ha => k a (by simp [ha]))
  | _, _, _, .oo ho hc h1 h2 hl h3 r, k => .oo ho hc (k _ (by simp)).2 ((k _ (by simp)).1.trans h2) hl h3 (Ows.frame s r fun a ha => k a (by simp [ha]))
theorem Ows.frame (s : Same F F') : ∀ {v : List V} {d : List D} {O : List Addr}, Ows K cls F H v d O → (∀ a ∈ O, H' a = H a ∧ F' a = none) → Ows K cls F' H' v d O
  | _, _, _, .nil, _ => .nil
  | _, _, _, .cons h r dj e, k => .cons (Ow.frame s h fun a ha => k a (by simp [e, ha])) (Ows.frame s r fun a ha => k a (by simp [e, ha])) dj e
end
mutual
theorem Ow.dom : ∀ {v : V} {d : D} {O : List Addr}, Ow K cls F H v d O → ∀ a ∈ O, F a = none ∧ H a ≠ none
  | _, _, _, .sh r, _, h => nomatch h
  | _, _, _, .ol h1 h2 h3 r, a, h => by
    rcases List.mem_cons.mp h with rfl | h
    · exact ⟨h1, by rw [h2]; exact fun e => nomatch e⟩
    · exact Ows.dom r a h
  | _, _, _, .od h1 h2 hl h3 r, a, h => by
    rcases List.mem_cons.mp h with rfl | h
    · exact ⟨h1, by rw [h2]; exact fun e => nomatch e⟩
    · exact Ows.dom r a h
  | _, _, _, .oo ho hc h1 h2 hl h3 r, a, h => by
    rcases List.mem_cons.mp h with rfl | h
    · exact ⟨h1, by rw [h2]; exact fun e => nomatch e⟩
    · exact Ows.dom r a h
theorem Ows.dom : ∀ {v : List V} {d : List D} {O : List Addr}, Ows K cls F H v d O → ∀ a ∈ O, F a = none ∧ H a ≠ none
  | _, _, _, .nil, _, h => nomatch h
  | _, _, _, .cons h r dj e, a, ha => by
    rw [e] at ha
    rcases List.mem_append.mp ha with q | q
    · exact Ow.dom h a q
    · exact Ows.dom r a q
end
theorem Ext.get (x : Ext F H F' H') {a : Addr} (h1 : F a = none) (h2 : H a ≠ none) : H' a = H a ∧ F' a = none := by
  refine ⟨?_, x.ow a h1 h2⟩
  cases q : H a with
  | none => exact (h2 q).elim
  | some o => exact x.hh a o q
theorem Ow.ext (x : Ext F H F' H') {v : V} {d : D} (h : Ow K cls F H v d O) : Ow K cls F' H' v d O :=
  h.frame x.ff fun a ha => x.get (h.dom a ha).1 (h.dom a ha).2
theorem Ows.ext (x : Ext F H F' H') {v : List V} {d : List D} (h : Ows K cls F H v d O) : Ows K cls F' H' v d O :=
  h.frame x.ff fun a ha => x.get (h.dom a ha).1 (h.dom a ha).2
mutual
theorem Bo.ext (x : Ext F H F' H') : ∀ {v : V} {d : D}, Bo K cls F H v d → Bo K cls F' H' v d
  | _, _, .sh r => .sh (r.mono x.ff)
  | _, _, .bo h r => .bo (x.hh _ _ h) (Bos.ext x r)
  | _, _, .bd h l r => .bd (x.hh _ _ h) l (Bos.ext x r)
  | _, _, .bb hc h l r => .bb hc (x.hh _ _ h) l (Bos.ext x r)
theorem Bos.ext (x : Ext F H F' H') : ∀ {v : List V} {d : List D}, Bos K cls F H v d → Bos K cls F' H' v d
  | _, _, .nil => .nil
  | _, _, .cons h r => .cons (Bo.ext x h) (Bos.ext x r)
end
theorem Tm.ext (x : Ext F H F' H') {v : V} {d : D} (h : Tm K cls F H v d O) : Tm K cls F' H' v d O := by
  rcases h with h | ⟨h, e⟩
  · exact .inl (h.ext x)
  · exact .inr ⟨h.ext x, e⟩
theorem Sts.dom : ∀ {σ : St} {g : Env} {O : List Addr}, Sts K cls F H σ g O → ∀ a ∈ O, F a = none ∧ H a ≠ none
  | _, _, _, .nil, _, h => nomatch h
  | _, _, _, .un r, a, h => r.dom a h
  | _, _, _, .cons h r dj e, a, ha => by
    rw [e] at ha
    rcases List.mem_append.mp ha with q | q
    · exact Ow.dom h a q
    · exact Sts.dom r a q
theorem Sts.frame (s : Same F F') : ∀ {σ : St} {g : Env} {O : List Addr}, Sts K cls F H σ g O → (∀ a ∈ O, H' a = H a ∧ F' a = none) → Sts K cls F' H' σ g O
  | _, _, _, .nil, _ => .nil
  | _, _, _, .un r, k => .un (r.frame s k)
  | _, _, _, .cons h r dj e, k => .cons (h.frame s fun a ha => k a (by simp [e, ha])) (r.frame s fun a ha => k a (by simp [e, ha])) dj e
theorem Sts.ext (x : Ext F H F' H') {σ : St} {g : Env} (h : Sts K cls F H σ g O) : Sts K cls F' H' σ g O :=
  h.frame x.ff fun a ha => x.get (h.dom a ha).1 (h.dom a ha).2
theorem Sts.len : ∀ {σ : St} {g : Env} {O : List Addr}, Sts K cls F H σ g O → σ.length = g.length
  | _, _, _, .nil => rfl
  | _, _, _, .un r => by simp [r.len]
  | _, _, _, .cons h r dj e => by simp [r.len]

theorem Sts.at : ∀ {σ : St} {g : Env} {O : List Addr} (i : Nat), Sts K cls F H σ g O → i < g.length → ∃ O1 : List Addr, (∀ a ∈ O1, a ∈ O) ∧
    (g[i]? = some .un ∧ O1 = [] ∨ ∃ v d, σ[i]? = some (some v) ∧ g[i]? = some d ∧ Ow K cls F H v d O1) ∧
    (∀ (F' H' : Hp) (v' : V) (d' : D) (O1' : List Addr), (∀ b ∈ O, b ∉ O1 → H' b = H b ∧ F' b = none) → Same F F' → Ow K cls F' H' v' d' O1' → (∀ a ∈ O1', a ∈ O → a ∈ O1) →
      ∃ O'', Sts K cls F' H' (σ.set i (some v')) (g.set i d') O'' ∧ ∀ a ∈ O'', a ∈ O ∨ a ∈ O1') ∧
    (∀ (F' H' : Hp) (o : Option V), (∀ b ∈ O, b ∉ O1 → H' b = H b ∧ F' b = none) → Same F F' →
      ∃ O'', Sts K cls F' H' (σ.set i o) (g.set i .un) O'' ∧ (∀ a ∈ O'', a ∈ O) ∧ ∀ a ∈ O'', a ∉ O1)
  | _, _, _, i, .nil, h => absurd h (Nat.not_lt_zero i)
  | _, _, _, 0, .un (o := o) (O := O) r, _ => by
    refine ⟨[], fun _ h => (nomatch h), .inl ⟨rfl, rfl⟩, fun F' H' v' d' O1' k s w dj => ⟨O1' ++ O, ?_, fun a ha => ?_⟩, fun F' H' o' k s => ⟨O, ?_, fun _ h => h, fun _ _ h => (nomatch h)⟩⟩
    · exact .cons w (r.frame s fun a ha => k a ha (by simp)) (fun a h1 h2 => (nomatch (dj a h1 h2))) rfl
    · rcases List.mem_append.mp ha with q | q
      · exact .inr q
      · exact .inl q
    · exact .un (r.frame s fun a ha => k a ha (by simp))
  | _, _, _, 0, .cons (v := v) (d := d) (O1 := O1) (O2 := O2) h r dj e, _ => by
    subst e
    refine ⟨O1, fun a h => List.mem_append_left _ h, .inr ⟨v, d, rfl, rfl, h⟩, fun F' H' v' d' O1' k s w dj' => ⟨O1' ++ O2, ?_, fun a ha => ?_⟩, fun F' H' o' k s => ⟨O2, ?_, fun a h => List.mem_append_right _ h, fun a h1 h2 => dj a h2 h1⟩⟩
    · refine .cons w (r.frame s fun a ha => k a (List.mem_append_right _ ha) fun q => dj a q ha) (fun a h1 h2 => ?_) rfl
      exact dj a (dj' a h1 (List.mem_append_right _ h2)) h2
    · rcases List.mem_append.mp ha with q | q
      · exact .inr q
      · exact .inl (List.mem_append_right _ q)
    · exact .un (r.frame s fun a ha => k a (List.mem_append_right _ ha) fun q => dj a q ha)
  | _, _, _, i + 1, .un (o := o) (O := O) r, hi => by
    obtain ⟨O1, h1, h2, h3, h4⟩ := r.at i (Nat.lt_of_succ_lt_succ hi)
    refine ⟨O1, h1, by simpa using h2, fun F' H' v' d' O1' k s w dj => ?_, fun F' H' o' k s => ?_⟩
    · obtain ⟨O'', q1, q2⟩ := h3 F' H' v' d' O1' k s w dj
      exact ⟨O'', .un q1, q2⟩
    · obtain ⟨O'', q1, q2⟩ := h4 F' H' o' k s
      exact ⟨O'', .un q1, q2⟩
  | _, _, _, i + 1, .cons (v := v) (d := d) (O1 := P1) (O2 := P2) h r dj e, hi => by
    subst e
    obtain ⟨O1, h1, h2, h3, h4⟩ := r.at i (Nat.lt_of_succ_lt_succ hi)
    have n1 : ∀ a ∈ P1, a ∉ O1 := fun a q q' => dj a q (h1 a q')
    refine ⟨O1, fun a q => List.mem_append_right _ (h1 a q), by simpa using h2, fun F' H' v' d' O1' k s w dj' => ?_, fun F' H' o' k s => ?_⟩
    · obtain ⟨O'', q1, q2⟩ := h3 F' H' v' d' O1' (fun b hb => k b (List.mem_append_right _ hb)) s w fun a q q' => dj' a q (List.mem_append_right _ q')
      refine ⟨P1 ++ O'', .cons (h.frame s fun a ha => k a (List.mem_append_left _ ha) (n1 a ha)) q1 (fun a ha hb => ?_) rfl, fun a ha => ?_⟩
      · rcases q2 a hb with z | z
        · exact dj a ha z
        · exact n1 a ha (dj' a z (List.mem_append_left _ ha))
      · rcases List.mem_append.mp ha with z | z
        · exact .inl (List.mem_append_left _ z)
        · rcases q2 a z with z | z
          · exact .inl (List.mem_append_right _ z)
          · exact .inr z
    · obtain ⟨O'', q1, q2, q3⟩ := h4 F' H' o' (fun b hb => k b (List.mem_append_right _ hb)) s
      refine ⟨P1 ++ O'', .cons (h.frame s fun a ha => k a (List.mem_append_left _ ha) (n1 a ha)) q1 (fun a ha hb => dj a ha (q2 a hb)) rfl, fun a ha => ?_, fun a ha hb => ?_⟩
      · rcases List.mem_append.mp ha with z | z
        · exact List.mem_append_left _ z
        · exact List.mem_append_right _ (q2 a z)
      · rcases List.mem_append.mp ha with z | z
        · exact n1 a z hb
        · exact q3 a z hb

mutual
/-- a value all of whose lists are shared from now on -/
def frz : D → D
  | .ol xs => .ls (frzs xs)
  | .oo _ c xs => .ob c (frzs xs)
  | d => d
def frzs : List D → List D
  | [] => []
  | d :: ds => frz d :: frzs ds
end
mutual
/-- how an owned value is read -/
def brw : D → D
  | .ol xs => .bo (brws xs)
  | .od ks xs => .bd ks (brws xs)
  | .oo _ c xs => .bb c (brws xs)
  | d => d
def brws : List D → List D
  | [] => []
  | d :: ds => brw d :: brws ds
end
mutual
/-- a borrowed value as plain data -/
def pln : D → D
  | .bo xs => .ls (plns xs)
  | .bb c xs => .ob c (plns xs)
  | d => d
def plns : List D → List D
  | [] => []
  | d :: ds => pln d :: plns ds
end
mutual
theorem Ow.brw (s : Same F H) : ∀ {v : V} {d : D} {O : List Addr}, Ow K cls F H v d O → Bo K cls F H v (brw d)
  | _, _, _, .sh r => by cases r <;> exact .sh (by first | assumption | constructor <;> assumption | constructor)
  | _, _, _, .ol h1 h2 h3 r => .bo h2 (Ows.brws s r)
  | _, _, _, .od h1 h2 hl h3 r => .bd h2 hl (Ows.brws s r)
  | _, _, _, .oo ho hc h1 h2 hl h3 r => .bb hc h2 hl (Ows.brws s r)
theorem Ows.brws (s : Same F H) : ∀ {v : List V} {d : List D} {O : List Addr}, Ows K cls F H v d O → Bos K cls F H v (brws d)
  | _, _, _, .nil => .nil
  | _, _, _, .cons h r _ _ => .cons (Ow.brw s h) (Ows.brws s r)
end
end
end DL

namespace DL
open PySem L2

def Res.bind {α β : Type} (r : Res α) (f : α → Res β) : Res β := match r with
  | .ok a => f a
  | .xc c => .xc c
  | .bad => .bad
@[simp] theorem Res.bind_ok {α β : Type} (a : α) (f : α → Res β) : (Res.ok a).bind f = f a := rfl
@[simp] theorem Res.bind_xc {α β : Type} (c : Nat) (f : α → Res β) : (Res.xc c : Res α).bind f = .xc c := rfl
@[simp] theorem Res.bind_bad {α β : Type} (f : α → Res β) : (Res.bad : Res α).bind f = .bad := rfl
def Res.of {α : Type} : Option α → Res α
  | some a => .ok a
  | none => .bad
@[simp] theorem Res.of_some {α : Type} (a : α) : Res.of (some a) = .ok a := rfl
@[simp] theorem Res.of_none {α : Type} : Res.of (none : Option α) = .bad := rfl

mutual
@[simp] def nod : D → Bool
  | .od _ _ => false
  | .ol xs => nods xs
  | .oo _ _ xs => nods xs
  | _ => true
@[simp] def nods : List D → Bool
  | [] => true
  | d :: ds => nod d && nods ds
end
section
variable {K : PySem.W.Frag} {cls : Cls} {F H F' H' F'' H'' : Hp} {O O' O'' : List Addr}
mutual
theorem Ow.freeze (s : Same F F') : ∀ {v : V} {d : D} {O : List Addr}, Ow K cls F H v d O → (∀ a ∈ O, F' a = H a) → nod d = true → Rp K cls F' v (frz d)
  | _, d, _, .sh r, _, _ => by
    have r' := r.mono s
    cases r <;> (simp only [frz]; exact r')
  | _, _, _, .ol (ds := ds) h1 h2 h3 r, k, n => by
    simp only [frz]
    exact .ls ((k _ (by simp)).trans h2) (Ows.freeze s r (fun a ha => k a (by simp [ha])) (by simpa using n))
  | _, _, _, .od h1 h2 hl h3 r, k, n => by simp at n
  | _, _, _, .oo (ds := ds) ho hc h1 h2 hl h3 r, k, n => by
    simp only [frz]
    exact .ob hc ((k _ (by simp)).trans h2) hl (Ows.freeze s r (fun a ha => k a (by simp [ha])) (by simpa using n))
theorem Ows.freeze (s : Same F F') : ∀ {v : List V} {d : List D} {O : List Addr}, Ows K cls F H v d O → (∀ a ∈ O, F' a = H a) → nods d = true → Rps K cls F' v (frzs d)
  | _, _, _, .nil, _, _ => .nil
  | _, _, _, .cons h r dj e, k, n => by
    simp only [nods, Bool.and_eq_true] at n
    simp only [frzs]
    exact .cons (Ow.freeze s h (fun a ha => k a (by simp [e, ha])) n.1) (Ows.freeze s r (fun a ha => k a (by simp [e, ha])) n.2)
end
def addF (F H : Hp) (O : List Addr) : Hp := fun a => if a ∈ O then H a else F a
theorem addF_ext {F0 H0 : Hp} (x : Ext F0 H0 F H) (f : Fresh H0 O) (n : ∀ a ∈ O, F a = none) : Ext F0 H0 (addF F H O) H := by
  have s1 : Same F (addF F H O) := fun a o e => by
    unfold addF
    split
    · rename_i q; rw [n a q] at e; cases e
    · exact e
  refine ⟨x.ff.trans s1, x.hh, fun a o e => ?_, fun a h1 h2 => ?_⟩
  · unfold addF at e
    split at e
    · exact e
    · exact x.fh a o e
  · unfold addF
    rw [if_neg (fun q => h2 (f a q))]
    exact x.ow a h1 h2
theorem addF_same (n : ∀ a ∈ O, F a = none) : Same F (addF F H O) := fun a o e => by
  unfold addF
  split
  · rename_i q; rw [n a q] at e; cases e
  · exact e
theorem addF_at : ∀ a ∈ O, addF F H O a = H a := fun a h => by unfold addF; rw [if_pos h]
theorem addF_no {a : Addr} (h : a ∉ O) : addF F H O a = F a := by unfold addF; rw [if_neg h]

def opd (d : D) : D := if nod d = true then frz d else brw d
theorem Rp.opd {v : V} {d : D} (r : Rp K cls F v d) : opd d = d := by cases r <;> rfl
theorem Bo.opd {v : V} {d : D} (r : Bo K cls F H v d) : opd d = d := by
  cases r with
  | sh r => exact r.opd
  | bo => rfl
  | bd => rfl
  | bb => rfl
@[simp] theorem opd_un : opd .un = .un := rfl
@[simp] theorem opd_non : opd .non = .non := rfl
@[simp] theorem opd_bl {b} : opd (.bl b) = .bl b := rfl
@[simp] theorem opd_int {b} : opd (.int b) = .int b := rfl
@[simp] theorem opd_str {b} : opd (.str b) = .str b := rfl
@[simp] theorem opd_sc {b} : opd (.sc b) = .sc b := rfl
@[simp] theorem opd_ls {b} : opd (.ls b) = .ls b := rfl
@[simp] theorem opd_tp {b} : opd (.tp b) = .tp b := rfl
@[simp] theorem opd_ob {c b} : opd (.ob c b) = .ob c b := rfl
@[simp] theorem opd_bo {b} : opd (.bo b) = .bo b := rfl
@[simp] theorem opd_bd {c b} : opd (.bd c b) = .bd c b := rfl
@[simp] theorem opd_od {c b} : opd (.od c b) = .bd c (brws b) := rfl
@[simp] theorem opd_rf {b} : opd (.rf b) = .rf b := rfl
@[simp] theorem opd_bb {c b} : opd (.bb c b) = .bb c b := rfl
@[simp] theorem opd_oo {o c b} : opd (.oo o c b) = if nods b = true then .ob c (frzs b) else .bb c (brws b) := rfl
@[simp] theorem opd_ol {b} : opd (.ol b) = if nods b = true then .ls (frzs b) else .bo (brws b) := by
  rfl
theorem Tm.operand {F0 H0 : Hp} {v : V} {d : D} (x : Ext F0 H0 F H) (f : Fresh H0 O) (t : Tm K cls F H v d O) : ∃ F', Ext F0 H0 F' H ∧ Same F F' ∧ (∀ a, a ∉ O → F' a = F a) ∧ Bo K cls F' H v (opd d) := by
  rcases t with t | ⟨t, e⟩
  · by_cases n : nod d = true
    · refine ⟨addF F H O, addF_ext x f fun a ha => (t.dom a ha).1, addF_same fun a ha => (t.dom a ha).1, fun a ha => addF_no ha, ?_⟩
      unfold DL.opd
      rw [if_pos n]
      exact .sh (t.freeze (addF_same fun a ha => (t.dom a ha).1) addF_at n)
    · refine ⟨F, x, .refl F, fun _ _ => rfl, ?_⟩
      unfold DL.opd
      rw [if_neg n]
      exact t.brw x.fh
  · refine ⟨F, x, .refl F, fun _ _ => rfl, ?_⟩
    rw [t.opd]
    exact t

@[simp] def kp : D → Res D
  | .bo _ => .bad
  | .bd _ _ => .bad
  | .bb _ _ => .bad
  | d => .ok d
theorem Tm.keep {v : V} {d d' : D} (t : Tm K cls F H v d O) (e : kp d = .ok d') : Ow K cls F H v d' O := by
  rcases t with t | ⟨t, rfl⟩
  · have : d' = d := by
      cases t with
      | sh r => cases r <;> (simp at e; exact e.symm)
      | ol => simp at e; exact e.symm
      | od => simp at e; exact e.symm
      | oo => simp at e; exact e.symm
    rw [this]; exact t
  · cases t with
    | sh r =>
      have : d' = d := by cases r <;> (simp at e; exact e.symm)
      rw [this]; exact .sh r
    | bo => simp at e
    | bd => simp at e
    | bb => simp at e

def PostE (K : PySem.W.Frag) (cls : Cls) (W : WX) (σ : St) (F H : Hp) (Q : VK) : Res D → Prop
  | .ok d => ∀ v F' H' O', Ext F H F' H' → Fresh H O' → Tm K cls F' H' v d O' → Q v H'
  | .xc c => ∀ F' H', Ext F H F' H' → W (excV cls c) none σ H'
  | .bad => False
def PostB (K : PySem.W.Frag) (cls : Cls) (W : WX) (σ : St) (F H : Hp) (Q : VK) : Res D → Prop
  | .ok d => ∀ v F' H', Ext F H F' H' → Bo K cls F' H' v d → Q v H'
  | .xc c => ∀ F' H', Ext F H F' H' → W (excV cls c) none σ H'
  | .bad => False
def PostO (K : PySem.W.Frag) (cls : Cls) (W : WX) (σ : St) (F H : Hp) (Q : VK) : Res D → Prop
  | .ok d => ∀ v F' H' O', Ext F H F' H' → Fresh H O' → Ow K cls F' H' v d O' → Q v H'
  | .xc c => ∀ F' H', Ext F H F' H' → W (excV cls c) none σ H'
  | .bad => False
def PostT (cls : Cls) (W : WX) (σ : St) (F H : Hp) (Q : Bool → Hp → Prop) : Res Bool → Prop
  | .ok b => ∀ F' H', Ext F H F' H' → Q b H'
  | .xc c => ∀ F' H', Ext F H F' H' → W (excV cls c) none σ H'
  | .bad => False
def PostA (K : PySem.W.Frag) (cls : Cls) (W : WX) (σ : St) (F H : Hp) (Q : List V → Hp → Prop) : Res (List D) → Prop
  | .ok d => ∀ v F' H', Ext F H F' H' → Bos K cls F' H' v d → Q v H'
  | .xc c => ∀ F' H', Ext F H F' H' → W (excV cls c) none σ H'
  | .bad => False
def PostAO (K : PySem.W.Frag) (cls : Cls) (W : WX) (σ : St) (F H : Hp) (Q : List V → Hp → Prop) : Res (List D) → Prop
  | .ok d => ∀ v F' H' O', Ext F H F' H' → Fresh H O' → Ows K cls F' H' v d O' → Q v H'
  | .xc c => ∀ F' H', Ext F H F' H' → W (excV cls c) none σ H'
  | .bad => False
def DE (K : PySem.W.Frag) (cls : Cls) (W : WX) (t : TE) (f : Env → Res D) : Prop :=
  ∀ σ F H g O Q, Same F H → Sts K cls F H σ g O → PostE K cls W σ F H Q (f g) → t σ H Q
def DB (K : PySem.W.Frag) (cls : Cls) (W : WX) (t : TE) (f : Env → Res D) : Prop :=
  ∀ σ F H g O Q, Same F H → Sts K cls F H σ g O → PostB K cls W σ F H Q (f g) → t σ H Q
def DO (K : PySem.W.Frag) (cls : Cls) (W : WX) (t : TE) (f : Env → Res D) : Prop :=
  ∀ σ F H g O Q, Same F H → Sts K cls F H σ g O → PostO K cls W σ F H Q (f g) → t σ H Q
def DT (K : PySem.W.Frag) (cls : Cls) (W : WX) (t : TT) (f : Env → Res Bool) : Prop :=
  ∀ σ F H g O Q, Same F H → Sts K cls F H σ g O → PostT cls W σ F H Q (f g) → t σ H Q
def DA (K : PySem.W.Frag) (cls : Cls) (W : WX) (t : TA) (f : Env → Res (List D)) : Prop :=
  ∀ σ F H g O Q, Same F H → Sts K cls F H σ g O → PostA K cls W σ F H Q (f g) → t σ H Q
def DAO (K : PySem.W.Frag) (cls : Cls) (W : WX) (t : TA) (f : Env → Res (List D)) : Prop :=
  ∀ σ F H g O Q, Same F H → Sts K cls F H σ g O → PostAO K cls W σ F H Q (f g) → t σ H Q

def bF (f : Env → Res D) : Env → Res D := fun g => (f g).bind fun d => .ok (opd d)
def oF (f : Env → Res D) : Env → Res D := fun g => (f g).bind kp
section
variable {f : Env → Res D} {g : Env}
theorem bF_ok {d : D} (e : f g = .ok d) : bF f g = .ok (opd d) := by unfold bF; rw [e]; rfl
theorem bF_xc {d : Nat} (e : f g = .xc d) : bF f g = .xc d := by unfold bF; rw [e]; rfl
theorem bF_bad (e : f g = .bad) : bF f g = .bad := by unfold bF; rw [e]; rfl
theorem oF_ok {d : D} (e : f g = .ok d) : oF f g = kp d := by unfold oF; rw [e]; rfl
theorem oF_xc {d : Nat} (e : f g = .xc d) : oF f g = .xc d := by unfold oF; rw [e]; rfl
theorem oF_bad (e : f g = .bad) : oF f g = .bad := by unfold oF; rw [e]; rfl
end
theorem kp_ok {d : D} : kp d = .ok d ∨ kp d = .bad := by cases d <;> simp
theorem DE.toB {W : WX} {t : TE} {f : Env → Res D} (h : DE K cls W t f) : DB K cls W t (bF f) := by
  intro σ F H g O Q s st p
  refine h σ F H g O Q s st ?_
  cases e : f g with
  | ok d =>
    rw [bF_ok e] at p
    intro v F' H' O' x fr tm
    obtain ⟨F2, x2, _, _, b⟩ := tm.operand x fr
    exact p v F2 H' x2 b
  | xc c => rw [bF_xc e] at p; exact p
  | bad => rw [bF_bad e] at p; exact p
theorem DE.toO {W : WX} {t : TE} {f : Env → Res D} (h : DE K cls W t f) : DO K cls W t (oF f) := by
  intro σ F H g O Q s st p
  refine h σ F H g O Q s st ?_
  cases e : f g with
  | ok d =>
    rw [oF_ok e] at p
    intro v F' H' O' x fr tm
    rcases kp_ok (d := d) with e2 | e2
    · rw [e2] at p; exact p v F' H' O' x fr (tm.keep e2)
    · rw [e2] at p; exact p.elim
  | xc c => rw [oF_xc e] at p; exact p
  | bad => rw [oF_bad e] at p; exact p

theorem PostE.mono {W : WX} {σ : St} {F H F1 H1 : Hp} {Q : VK} {r : Res D} (x : Ext F H F1 H1) (p : PostE K cls W σ F H Q r) : PostE K cls W σ F1 H1 Q r := by
  cases r with
  | ok d => exact fun v F' H' O' y fr tm => p v F' H' O' (x.trans y) (fr.mono x.hh) tm
  | xc c => exact fun F' H' y => p F' H' (x.trans y)
  | bad => exact p
theorem PostT.mono {W : WX} {σ : St} {F H F1 H1 : Hp} {Q : Bool → Hp → Prop} {r : Res Bool} (x : Ext F H F1 H1) (p : PostT cls W σ F H Q r) : PostT cls W σ F1 H1 Q r := by
  cases r with
  | ok d => exact fun F' H' y => p F' H' (x.trans y)
  | xc c => exact fun F' H' y => p F' H' (x.trans y)
  | bad => exact p
theorem PostA.mono {W : WX} {σ : St} {F H F1 H1 : Hp} {Q : List V → Hp → Prop} {r : Res (List D)} (x : Ext F H F1 H1) (p : PostA K cls W σ F H Q r) : PostA K cls W σ F1 H1 Q r := by
  cases r with
  | ok d => exact fun v F' H' y tm => p v F' H' (x.trans y) tm
  | xc c => exact fun F' H' y => p F' H' (x.trans y)
  | bad => exact p
theorem PostAO.mono {W : WX} {σ : St} {F H F1 H1 : Hp} {Q : List V → Hp → Prop} {r : Res (List D)} (x : Ext F H F1 H1) (p : PostAO K cls W σ F H Q r) : PostAO K cls W σ F1 H1 Q r := by
  cases r with
  | ok d => exact fun v F' H' O' y fr tm => p v F' H' O' (x.trans y) (fr.mono x.hh) tm
  | xc c => exact fun F' H' y => p F' H' (x.trans y)
  | bad => exact p

structure JE (X : Cx) (cls : Cls) (W : WX) (e : Expr) (f : Env → Res D) : Prop where
  ex : ∃ t, PE X e t ∧ DE X.K cls W t f
structure JT (X : Cx) (cls : Cls) (W : WX) (e : Expr) (f : Env → Res Bool) : Prop where
  ex : ∃ t, PT X e t ∧ DT X.K cls W t f
structure JW (X : Cx) (cls : Cls) (W : WX) (e : Expr) (f : Env → Res Bool) : Prop where
  ex : ∃ t, PW X e t ∧ DT X.K cls W t f
structure JA (X : Cx) (cls : Cls) (W : WX) (e : List Expr) (f : Env → Res (List D)) : Prop where
  ex : ∃ t, PA X e t ∧ DA X.K cls W t f
structure JAO (X : Cx) (cls : Cls) (W : WX) (e : List Expr) (f : Env → Res (List D)) : Prop where
  ex : ∃ t, PA X e t ∧ DAO X.K cls W t f
end

section
variable {X : Cx} {cls : Cls} {W : WX} {a b c : Expr} {es : List Expr} {fa fb fc : Env → Res D} {fs : Env → Res (List D)} {pos : Pos}
@[simp] def gv (g : Env) (i : Nat) : Res D := match g[i]? with
  | some .un => .bad
  | some d => .ok (brw d)
  | none => .bad
def eVar (i : Nat) : Env → Res D := fun g => gv g i
@[simp] theorem eVar_ (i : Nat) (g : Env) : eVar i g = gv g i := rfl
theorem de_var {K : PySem.W.Frag} (i : Nat) : DE K cls W (tVar i) (eVar i) := by
  intro σ F H g O Q s st p
  unfold eVar gv at p
  cases e : g[i]? with
  | none => rw [e] at p; exact p.elim
  | some d =>
    have hi : i < g.length := (List.getElem?_eq_some_iff.mp e).1
    obtain ⟨O1, h1, h2, _⟩ := st.at i hi
    rcases h2 with ⟨h2, _⟩ | ⟨v, d', h2, h3, ow⟩
    · rw [e] at h2; cases h2; rw [e] at p; exact p.elim
    · rw [e] at h3; cases h3
      refine ⟨v, h2, ?_⟩
      rw [e] at p
      have q : PostE K cls W σ F H Q (.ok (brw d)) := by
        cases d <;> first | exact p | exact p.elim
      exact q v F H [] (.refl s) Fresh.nil (.inr ⟨ow.brw s, rfl⟩)
theorem je_var (i : Nat) {x : Str} (hN : X.N[i]? = some x := by rfl) (hv : Vis X.env.scope x := by first | exact Or.inl rfl | exact Or.inr (Or.inl rfl) | exact Or.inr (Or.inr rfl)) (hd : (x == ("__debug__" : Str)) = false := by decide)
    (hcd : (x == ("__classdict__" : Str)) = false := by decide) : JE X cls W (.Name x pos) (eVar i) := ⟨_, pe_var hN hv hd hcd, de_var i⟩
def eC (d : D) : Env → Res D := fun _ => .ok d
@[simp] theorem eC_ (d : D) (g : Env) : eC d g = .ok d := rfl
theorem de_c {K : PySem.W.Frag} {v : V} {d : D} (h : ∀ F, Rp K cls F v d) : DE K cls W (tC v) (eC d) := by
  intro σ F H g O Q s st p
  exact p v F H [] (.refl s) Fresh.nil (.inl (.sh (h F)))
theorem je_int {i : Int} {j} : JE X cls W (.Constant (.int i) j pos) (eC (.int i)) := ⟨_, pe_int, de_c fun _ => .int i⟩
theorem je_bl {i : Bool} {j} : JE X cls W (.Constant (.bool i) j pos) (eC (.bl i)) := ⟨_, pe_bl, de_c fun _ => .bl i⟩
theorem je_non {j} : JE X cls W (.Constant .none j pos) (eC .non) := ⟨_, pe_non, de_c fun _ => .non⟩
theorem je_str {i : Str} {j} : JE X cls W (.Constant (.str i) j pos) (eC (.str i)) := ⟨_, pe_str, de_c fun _ => .str i⟩
theorem je_gint {x : Str} {i : Int} {t : Tok} (hm : X.mg x = some (.int i t)) (hg : Gl X x := by rfl) (hd : (x == ("__debug__" : Str)) = false := by decide) : JE X cls W (.Name x pos) (eC (.int i)) :=
  ⟨_, pe_glob (v := .int i) hg hm ⟨t, rfl⟩ hd, de_c fun _ => .int i⟩
theorem je_gstr {x i : Str} {t : Tok} (hm : X.mg x = some (.str i t)) (hg : Gl X x := by rfl) (hd : (x == ("__debug__" : Str)) = false := by decide) : JE X cls W (.Name x pos) (eC (.str i)) :=
  ⟨_, pe_glob (v := .str i) hg hm ⟨t, rfl⟩ hd, de_c fun _ => .str i⟩

def R2Ok (K : PySem.W.Frag) (cls : Cls) (r : R2) (op : D → D → Option D) : Prop :=
  ∀ F H x y a b d Q, Same F H → Bo K cls F H x a → Bo K cls F H y b → op a b = some d → (∀ v F' H' O', Ext F H F' H' → Fresh H O' → Tm K cls F' H' v d O' → Q v H') → r x y H Q
def eBin (op : D → D → Option D) (fa fb : Env → Res D) : Env → Res D := fun g => (fa g).bind fun a => (fb g).bind fun b => .of (op (opd a) (opd b))
@[simp] theorem eBin_ (op : D → D → Option D) (fa fb : Env → Res D) (g : Env) : eBin op fa fb g = (fa g).bind fun a => (fb g).bind fun b => .of (op (opd a) (opd b)) := rfl
theorem de_bin {K : PySem.W.Frag} {r : R2} {op : D → D → Option D} {ta tb : TE} (hr : R2Ok K cls r op) (ha : DE K cls W ta fa) (hb : DE K cls W tb fb) : DE K cls W (tOp r ta tb) (eBin op fa fb) := by
  intro σ F H g O Q s st p
  have e0 : eBin op fa fb g = (fa g).bind fun a => (fb g).bind fun b => .of (op (opd a) (opd b)) := rfl
  rw [e0] at p
  refine ha.toB σ F H g O _ s st ?_
  cases ea : fa g with
  | xc c => rw [ea] at p; rw [bF_xc ea]; exact p
  | bad => rw [ea] at p; exact p.elim
  | ok a =>
    rw [ea] at p
    rw [bF_ok ea]
    intro x F1 H1 x1 b1
    refine hb.toB σ F1 H1 g O _ x1.fh (st.ext x1) ?_
    simp only [Res.bind] at p
    cases eb : fb g with
    | xc c => rw [eb] at p; rw [bF_xc eb]; exact p.mono x1
    | bad => rw [eb] at p; exact p.elim
    | ok b =>
      rw [eb] at p
      rw [bF_ok eb]
      simp only [] at p
      intro y F2 H2 x2 b2
      cases eo : op (opd a) (opd b) with
      | none => rw [eo] at p; exact p.elim
      | some d =>
        rw [eo] at p
        exact hr F2 H2 x y _ _ d Q x2.fh (b1.ext x2) b2 eo fun v F' H' O' x3 fr tm => p v F' H' O' (x1.trans (x2.trans x3)) (fr.mono (x1.trans x2).hh) tm
theorem je_bin {o : Operator} {r : R2} {op : D → D → Option D} (ho : OpR X (binaryOp o) r) (hr : R2Ok X.K cls r op) (ha : JE X cls W a fa) (hb : JE X cls W b fb) : JE X cls W (.BinOp a o b pos) (eBin op fa fb) := by
  obtain ⟨ta, pa, da⟩ := ha.ex
  obtain ⟨tb, pb, db⟩ := hb.ex
  exact ⟨_, pe_op ho pa pb, de_bin hr da db⟩
def C2Ok (K : PySem.W.Frag) (cls : Cls) (r : R2) (op : D → D → Option Bool) : Prop :=
  ∀ F H x y a b d Q, Same F H → Bo K cls F H x a → Bo K cls F H y b → op a b = some d → Q (.bl d) H → r x y H Q
def tC2 (op : D → D → Option Bool) (fa fb : Env → Res D) : Env → Res Bool := fun g => (fa g).bind fun a => (fb g).bind fun b => .of (op (opd a) (opd b))
@[simp] theorem tC2_ (op : D → D → Option Bool) (fa fb : Env → Res D) (g : Env) : tC2 op fa fb g = (fa g).bind fun a => (fb g).bind fun b => .of (op (opd a) (opd b)) := rfl
def eB (f : Env → Res Bool) : Env → Res D := fun g => (f g).bind fun b => .ok (.bl b)
@[simp] theorem eB_ (f : Env → Res Bool) (g : Env) : eB f g = (f g).bind fun b => .ok (.bl b) := rfl
theorem de_c2 {K : PySem.W.Frag} {r : R2} {op : D → D → Option Bool} {ta tb : TE} (hr : C2Ok K cls r op) (ha : DE K cls W ta fa) (hb : DE K cls W tb fb) : DE K cls W (tOp r ta tb) (eB (tC2 op fa fb)) := by
  have h : R2Ok K cls r (fun a b => (op a b).map D.bl) := fun F H x y a b d Q s b1 b2 e q => by
    have e : (op a b).map D.bl = some d := e
    cases eo : op a b with
    | none => rw [eo] at e; cases e
    | some k =>
      rw [eo] at e
      cases e
      exact hr F H x y a b k Q s b1 b2 eo (q _ F H [] (.refl s) Fresh.nil (.inl (.sh (.bl k))))
  have q := de_bin (W := W) h ha hb
  have e : eBin (fun a b => (op a b).map D.bl) fa fb = eB (tC2 op fa fb) := by
    funext g
    unfold eBin eB tC2
    cases fa g with
    | ok a =>
      cases fb g with
      | ok b => simp only [Res.bind]; cases op (opd a) (opd b) <;> rfl
      | xc c => rfl
      | bad => rfl
    | xc c => rfl
    | bad => rfl
  rw [e] at q
  exact q
theorem dt_of {K : PySem.W.Frag} {t : TE} {f : Env → Res Bool} (h : DE K cls W t (eB f)) : DT K cls W (tTest t) f := by
  intro σ F H g O Q s st p
  refine h σ F H g O _ s st ?_
  unfold eB
  cases e : f g with
  | ok k =>
    rw [e] at p
    intro v F' H' O' x fr tm
    have : v = .bl k := by
      rcases tm with t | ⟨t, _⟩
      · cases t with
        | sh r => cases r; rfl
      · cases t with
        | sh r => cases r; rfl
    subst this
    exact ⟨k, rfl, p F' H' x⟩
  | xc c => rw [e] at p; exact p
  | bad => rw [e] at p; exact p
theorem je_cmp {o : CmpOp} {r : R2} {op : D → D → Option Bool} (ho : OpR X (compareOp o) r) (hr : C2Ok X.K cls r op) (ha : JE X cls W a fa) (hb : JE X cls W b fb) (hm : behindInMarks o b = false) : JE X cls W (.Compare a [o] [b] pos) (eB (tC2 op fa fb)) := by
  obtain ⟨ta, pa, da⟩ := ha.ex
  obtain ⟨tb, pb, db⟩ := hb.ex
  exact ⟨_, pe_cmpR ho pa pb hm, de_c2 hr da db⟩
theorem jt_cmp {o : CmpOp} {r : R2} {op : D → D → Option Bool} (ho : OpR X (compareOp o) r) (hr : C2Ok X.K cls r op) (ha : JE X cls W a fa) (hb : JE X cls W b fb) (hm : behindInMarks o b = false) : JT X cls W (.Compare a [o] [b] pos) (tC2 op fa fb) := by
  obtain ⟨ta, pa, da⟩ := ha.ex
  obtain ⟨tb, pb, db⟩ := hb.ex
  exact ⟨_, pt_cmpR ho pa pb hm, dt_of (de_c2 hr da db)⟩
end
end DL

namespace DL
open PySem L2
section
variable {K : PySem.W.Frag} {cls : Cls} {W : WX} {X : Cx} {a b c : Expr} {es : List Expr} {fa fb fc : Env → Res D} {ga gb : Env → Res Bool} {fs : Env → Res (List D)} {pos : Pos}
  {F H F1 H1 : Hp} {Q : VK} {σ : St}

def R1Ok (K : PySem.W.Frag) (cls : Cls) (r : V → Hp → VK → Prop) (op : D → Option D) : Prop :=
  ∀ F H x a d Q, Same F H → Bo K cls F H x a → op a = some d → (∀ v F' H' O', Ext F H F' H' → Fresh H O' → Tm K cls F' H' v d O' → Q v H') → r x H Q
def eUn (op : D → Option D) (fa : Env → Res D) : Env → Res D := fun g => (fa g).bind fun a => .of (op (opd a))
@[simp] theorem eUn_ (op : D → Option D) (fa : Env → Res D) (g : Env) : eUn op fa g = (fa g).bind fun a => .of (op (opd a)) := rfl
theorem de_un {r : V → Hp → VK → Prop} {op : D → Option D} {ta : TE} (hr : R1Ok K cls r op) (ha : DE K cls W ta fa) : DE K cls W (tUn r ta) (eUn op fa) := by
  intro σ F H g O Q s st p
  rw [eUn_] at p
  refine ha.toB σ F H g O _ s st ?_
  cases ea : fa g with
  | xc c => rw [ea] at p; rw [bF_xc ea]; exact p
  | bad => rw [ea] at p; exact p.elim
  | ok a =>
    rw [ea] at p
    rw [bF_ok ea]
    simp only [Res.bind] at p
    intro x F1 H1 x1 b1
    cases eo : op (opd a) with
    | none => rw [eo] at p; exact p.elim
    | some d =>
      rw [eo] at p
      exact hr F1 H1 x _ d Q x1.fh b1 eo fun v F' H' O' x3 fr tm => p v F' H' O' (x1.trans x3) (fr.mono x1.hh) tm
theorem je_un {o : UnaryOp} {r : V → Hp → VK → Prop} {op : D → Option D} (ho : UnR X (unaryOp o) r) (hr : R1Ok X.K cls r op) (ha : JE X cls W a fa) : JE X cls W (.UnaryOp o a pos) (eUn op fa) := by
  obtain ⟨ta, pa, da⟩ := ha.ex
  exact ⟨_, pe_un ho pa, de_un hr da⟩

def tru : D → Option Bool
  | .non => some false
  | .bl b => some b
  | .int i => some (i != 0)
  | .str y => if y.length ≤ 1000000 then some ((y.length : Int) != 0) else none
  | .sc xs => some (!xs.isEmpty)
  | .ls xs => some (!xs.isEmpty)
  | .bo xs => some (!xs.isEmpty)
  | .tp xs => some (!xs.isEmpty)
  | .bd ks xs => some (!ks.isEmpty)
  | _ => none
theorem Rps.empty {vs : List V} {ds : List D} (h : Rps K cls F vs ds) : (!vs.isEmpty) = !ds.isEmpty := by cases h <;> rfl
theorem Bos.empty {vs : List V} {ds : List D} (h : Bos K cls F H vs ds) : (!vs.isEmpty) = !ds.isEmpty := by cases h <;> rfl
theorem sameL {a : Addr} {xs : List V} (s : Same F H) (h : SqL K F a xs) : SqL K H a xs := s.seq h
theorem sameT {a : Addr} {xs : List V} (s : Same F H) (h : SqT K F a xs) : SqT K H a xs := by
  rcases h with (h | ⟨o, h⟩) | h
  · exact .inl (.inl (s _ _ h))
  · exact .inl (.inr ⟨o, s _ _ h⟩)
  · exact .inr h
theorem lim_line : (1000000 : Nat) < sizeLine := by rw [sizeLine_eq]; decide
theorem Bo.tru {v : V} {d : D} {k : Bool} (s : Same F H) (b : Bo K cls F H v d) (e : tru d = some k) : TruV K v H k := by
  cases b with
  | sh r =>
    cases r with
    | non => cases e; rfl
    | bl => cases e; rfl
    | int => cases e; rfl
    | str y =>
      have e : (if y.length ≤ 1000000 then some ((y.length : Int) != 0) else none) = some k := e
      split at e
      · rename_i hy
        cases e
        exact ⟨Nat.le_trans hy (Nat.le_of_lt lim_line), rfl⟩
      · cases e
    | sc h r => cases e; exact .inl ⟨_, sameL s h, r.empty.symm⟩
    | ls h r => cases e; exact .inl ⟨_, SqL.of (s _ _ h), r.empty.symm⟩
    | tp h r => cases e; exact .inr (.inl ⟨_, sameT s h, r.empty.symm⟩)
    | ob => cases e
    | rf => cases e
  | bo h r => cases e; exact .inl ⟨_, SqL.of h, r.empty.symm⟩
  | bd h l r =>
    cases e
    refine .inr (.inr ⟨_, h, ?_⟩)
    rename_i a ks vs ds
    cases ks <;> cases vs <;> first | rfl | (simp at l)
  | bb => cases e
def tTr (fa : Env → Res D) : Env → Res Bool := fun g => (fa g).bind fun a => .of (tru (opd a))
@[simp] theorem tTr_ (fa : Env → Res D) (g : Env) : tTr fa g = (fa g).bind fun a => .of (tru (opd a)) := rfl
theorem jt_truth (ha : JE X cls W a fa) (he : ∀ whole, isTrue a X.env whole = (do let v ← whole; standAt a.pos; holding [v] (truthy v)) := by intro _; rfl) : JT X cls W a (tTr fa) := by
  obtain ⟨ta, pa, da⟩ := ha.ex
  refine ⟨_, pt_truth pa he, ?_⟩
  intro σ F H g O Q s st p
  rw [tTr_] at p
  refine da.toB σ F H g O _ s st ?_
  cases ea : fa g with
  | xc c => rw [ea] at p; rw [bF_xc ea]; exact p
  | bad => rw [ea] at p; exact p.elim
  | ok a =>
    rw [ea] at p
    rw [bF_ok ea]
    simp only [Res.bind] at p
    intro x F1 H1 x1 b1
    cases eo : tru (opd a) with
    | none => rw [eo] at p; exact p.elim
    | some d =>
      rw [eo] at p
      exact ⟨d, b1.tru x1.fh eo, p F1 H1 x1⟩
def tAn (ga gb : Env → Res Bool) : Env → Res Bool := fun g => (ga g).bind fun k => if k = true then gb g else .ok false
def tOr_ (ga gb : Env → Res Bool) : Env → Res Bool := fun g => (ga g).bind fun k => if k = true then .ok true else gb g
def tNo (ga : Env → Res Bool) : Env → Res Bool := fun g => (ga g).bind fun k => .ok (!k)
@[simp] theorem tAn_ (ga gb : Env → Res Bool) (g : Env) : tAn ga gb g = (ga g).bind fun k => if k = true then gb g else .ok false := rfl
@[simp] theorem tOr__ (ga gb : Env → Res Bool) (g : Env) : tOr_ ga gb g = (ga g).bind fun k => if k = true then .ok true else gb g := rfl
@[simp] theorem tNo_ (ga : Env → Res Bool) (g : Env) : tNo ga g = (ga g).bind fun k => .ok (!k) := rfl
theorem DT.go {t : TT} (ha : DT K cls W t ga) {σ : St} {F H : Hp} {g : Env} {O : List Addr} {Q : Bool → Hp → Prop} (s : Same F H) (st : Sts K cls F H σ g O)
    (hx : ∀ c, ga g = .xc c → ∀ F' H', Ext F H F' H' → W (excV cls c) none σ H') (hb : ga g ≠ .bad) (hk : ∀ k, ga g = .ok k → ∀ F' H', Ext F H F' H' → Q k H') : t σ H Q := by
  refine ha σ F H g O Q s st ?_
  cases e : ga g with
  | ok k => exact hk k e
  | xc c => exact hx c e
  | bad => exact (hb e).elim
theorem dt_and {ta tb : TT} (ha : DT K cls W ta ga) (hb : DT K cls W tb gb) : DT K cls W (tAnd ta tb) (tAn ga gb) := by
  intro σ F H g O Q s st p
  rw [tAn_] at p
  refine ha.go s st (fun c e => by rw [e] at p; exact p) (fun e => by rw [e] at p; exact p) fun k e F1 H1 x => ?_
  rw [e] at p
  simp only [Res.bind] at p
  cases k with
  | true =>
    rw [if_pos rfl] at p
    rw [if_pos rfl]
    exact hb σ F1 H1 g O Q x.fh (st.ext x) (p.mono x)
  | false =>
    rw [if_neg (by decide)] at p
    rw [if_neg (by decide)]
    exact p F1 H1 x
theorem dt_or {ta tb : TT} (ha : DT K cls W ta ga) (hb : DT K cls W tb gb) : DT K cls W (tOr ta tb) (tOr_ ga gb) := by
  intro σ F H g O Q s st p
  rw [tOr__] at p
  refine ha.go s st (fun c e => by rw [e] at p; exact p) (fun e => by rw [e] at p; exact p) fun k e F1 H1 x => ?_
  rw [e] at p
  simp only [Res.bind] at p
  cases k with
  | true =>
    rw [if_pos rfl] at p
    rw [if_pos rfl]
    exact p F1 H1 x
  | false =>
    rw [if_neg (by decide)] at p
    rw [if_neg (by decide)]
    exact hb σ F1 H1 g O Q x.fh (st.ext x) (p.mono x)
theorem dt_not {ta : TT} (ha : DT K cls W ta ga) : DT K cls W (tNot ta) (tNo ga) := by
  intro σ F H g O Q s st p
  rw [tNo_] at p
  refine ha.go s st (fun c e => by rw [e] at p; exact p) (fun e => by rw [e] at p; exact p) fun k e F1 H1 x => ?_
  rw [e] at p
  exact p F1 H1 x
theorem jw_and1 (h : JT X cls W a ga) : JW X cls W (.BoolOp .And [a] pos) ga := by
  obtain ⟨ta, pa, da⟩ := h.ex
  exact ⟨_, pw_and1 pa, da⟩
theorem jw_or1 (h : JT X cls W a ga) : JW X cls W (.BoolOp .Or [a] pos) ga := by
  obtain ⟨ta, pa, da⟩ := h.ex
  exact ⟨_, pw_or1 pa, da⟩
theorem jw_and (h : JT X cls W a ga) (h2 : JW X cls W (.BoolOp .And (b :: es) pos) gb) : JW X cls W (.BoolOp .And (a :: b :: es) pos) (tAn ga gb) := by
  obtain ⟨ta, pa, da⟩ := h.ex
  obtain ⟨tb, pb, db⟩ := h2.ex
  exact ⟨_, pw_and pa pb, dt_and da db⟩
theorem jw_or (h : JT X cls W a ga) (h2 : JW X cls W (.BoolOp .Or (b :: es) pos) gb) : JW X cls W (.BoolOp .Or (a :: b :: es) pos) (tOr_ ga gb) := by
  obtain ⟨ta, pa, da⟩ := h.ex
  obtain ⟨tb, pb, db⟩ := h2.ex
  exact ⟨_, pw_or pa pb, dt_or da db⟩
theorem jt_w (h : JW X cls W a ga) : JT X cls W a ga := by
  obtain ⟨ta, pa, da⟩ := h.ex
  exact ⟨_, pa.pt, da⟩
theorem jt_not (h : JT X cls W a ga) : JT X cls W (.UnaryOp .Not a pos) (tNo ga) := by
  obtain ⟨ta, pa, da⟩ := h.ex
  exact ⟨_, pt_not pa, dt_not da⟩
theorem DE.goB {t : TE} (ha : DE K cls W t (eB ga)) {σ : St} {F H : Hp} {g : Env} {O : List Addr} {Q : VK} (s : Same F H) (st : Sts K cls F H σ g O)
    (hx : ∀ c, ga g = .xc c → ∀ F' H', Ext F H F' H' → W (excV cls c) none σ H') (hb : ga g ≠ .bad) (hk : ∀ k, ga g = .ok k → ∀ F' H', Ext F H F' H' → Q (.bl k) H') : t σ H Q := by
  refine ha σ F H g O Q s st ?_
  rw [eB_]
  cases e : ga g with
  | ok k =>
    intro v F' H' O' x fr tm
    have : v = .bl k := by
      rcases tm with t | ⟨t, _⟩
      · cases t with
        | sh r => cases r; rfl
      · cases t with
        | sh r => cases r; rfl
    subst this
    exact hk k e F' H' x
  | xc c => exact hx c e
  | bad => exact (hb e).elim
theorem PostE.bl {k : Bool} {g : Env} (p : PostE K cls W σ F H Q (.ok (.bl k))) (x : Ext F H F1 H1) : Q (.bl k) H1 := p _ F1 H1 [] x Fresh.nil (.inl (.sh (.bl k)))
theorem de_and {ta tb : TE} (ha : DE K cls W ta (eB ga)) (hb : DE K cls W tb (eB gb)) : DE K cls W (tAndV ta tb) (eB (tAn ga gb)) := by
  intro σ F H g O Q s st p
  rw [eB_, tAn_] at p
  refine ha.goB s st (fun c e => by rw [e] at p; exact p) (fun e => by rw [e] at p; exact p) fun k e F1 H1 x => ?_
  rw [e] at p
  simp only [Res.bind] at p
  refine ⟨k, rfl, ?_⟩
  cases k with
  | true =>
    rw [if_pos rfl] at p
    rw [if_pos rfl]
    exact hb σ F1 H1 g O Q x.fh (st.ext x) (PostE.mono x p)
  | false =>
    rw [if_neg (by decide)] at p
    rw [if_neg (by decide)]
    exact p _ F1 H1 [] x Fresh.nil (.inl (.sh (.bl false)))
theorem je_one {op} (h : JE X cls W a fa) : JE X cls W (.BoolOp op [a] pos) fa := by
  obtain ⟨ta, pa, da⟩ := h.ex
  exact ⟨_, pe_one pa, da⟩
theorem je_and (h : JE X cls W a (eB ga)) (h2 : JE X cls W (.BoolOp .And (b :: es) pos) (eB gb)) : JE X cls W (.BoolOp .And (a :: b :: es) pos) (eB (tAn ga gb)) := by
  obtain ⟨ta, pa, da⟩ := h.ex
  obtain ⟨tb, pb, db⟩ := h2.ex
  exact ⟨_, pe_and pa pb, de_and da db⟩
@[simp] def blv : D → Res Bool
  | .bl b => .ok b
  | _ => .bad
def tV (fa : Env → Res D) : Env → Res Bool := fun g => (fa g).bind blv
@[simp] theorem tV_ (fa : Env → Res D) (g : Env) : tV fa g = (fa g).bind blv := rfl
theorem je_tV (h : JE X cls W a fa) : JE X cls W a (eB (tV fa)) := by
  obtain ⟨ta, pa, da⟩ := h.ex
  refine ⟨ta, pa, ?_⟩
  intro σ F H g O Q s st p
  refine da σ F H g O Q s st ?_
  rw [eB_, tV_] at p
  cases e : fa g with
  | ok d =>
    rw [e] at p
    cases d <;> first | exact p | exact p.elim
  | xc c => rw [e] at p; exact p
  | bad => rw [e] at p; exact p
def eIf (ga : Env → Res Bool) (fa fb : Env → Res D) : Env → Res D := fun g => (ga g).bind fun k => if k = true then fa g else fb g
@[simp] theorem eIf_ (ga : Env → Res Bool) (fa fb : Env → Res D) (g : Env) : eIf ga fa fb g = (ga g).bind fun k => if k = true then fa g else fb g := rfl
theorem je_if (hc : JT X cls W c ga) (ha : JE X cls W a fa) (hb : JE X cls W b fb) : JE X cls W (.IfExp c a b pos) (eIf ga fa fb) := by
  obtain ⟨tc, pc, dc⟩ := hc.ex
  obtain ⟨ta, pa, da⟩ := ha.ex
  obtain ⟨tb, pb, db⟩ := hb.ex
  refine ⟨_, pe_ifExp pc pa pb, ?_⟩
  intro σ F H g O Q s st p
  rw [eIf_] at p
  refine dc.go s st (fun c e => by rw [e] at p; exact p) (fun e => by rw [e] at p; exact p) fun k e F1 H1 x => ?_
  rw [e] at p
  simp only [Res.bind] at p
  cases k with
  | true =>
    rw [if_pos rfl] at p
    rw [if_pos rfl]
    exact da σ F1 H1 g O Q x.fh (st.ext x) (p.mono x)
  | false =>
    rw [if_neg (by decide)] at p
    rw [if_neg (by decide)]
    exact db σ F1 H1 g O Q x.fh (st.ext x) (p.mono x)
def tCh (op op' : D → D → Option Bool) (fa fb fc : Env → Res D) : Env → Res Bool := fun g => (fa g).bind fun a => (fb g).bind fun b => (Res.of (op (opd a) (opd b))).bind fun k => if k = true then (fc g).bind fun c => .of (op' (opd b) (opd c)) else .ok false
@[simp] theorem tCh_ (op op' : D → D → Option Bool) (fa fb fc : Env → Res D) (g : Env) : tCh op op' fa fb fc g = (fa g).bind fun a => (fb g).bind fun b => (Res.of (op (opd a) (opd b))).bind fun k => if k = true then (fc g).bind fun c => .of (op' (opd b) (opd c)) else .ok false := rfl
theorem DE.go {t : TE} (ha : DE K cls W t fa) {σ : St} {F H : Hp} {g : Env} {O : List Addr} {Q : VK} (s : Same F H) (st : Sts K cls F H σ g O)
    (hx : ∀ c, fa g = .xc c → ∀ F' H', Ext F H F' H' → W (excV cls c) none σ H') (hb : fa g ≠ .bad) (hk : ∀ d, fa g = .ok d → ∀ v F' H', Ext F H F' H' → Bo K cls F' H' v (opd d) → Q v H') : t σ H Q := by
  refine ha.toB σ F H g O Q s st ?_
  cases e : fa g with
  | ok k => rw [bF_ok e]; exact hk k e
  | xc c => rw [bF_xc e]; exact hx c e
  | bad => exact (hb e).elim
theorem DE.goO {t : TE} (ha : DE K cls W t fa) {σ : St} {F H : Hp} {g : Env} {O : List Addr} {Q : VK} (s : Same F H) (st : Sts K cls F H σ g O)
    (hx : ∀ c, fa g = .xc c → ∀ F' H', Ext F H F' H' → W (excV cls c) none σ H') (hb : (fa g).bind kp ≠ .bad) (hk : ∀ d, (fa g).bind kp = .ok d → ∀ v F' H' O', Ext F H F' H' → Fresh H O' → Ow K cls F' H' v d O' → Q v H') : t σ H Q := by
  refine ha.toO σ F H g O Q s st ?_
  cases e : fa g with
  | ok k =>
    rw [oF_ok e]
    rw [e] at hb hk
    rcases kp_ok (d := k) with e2 | e2
    · rw [e2]; exact hk k e2
    · exact (hb e2).elim
  | xc c => rw [oF_xc e]; exact hx c e
  | bad => rw [e] at hb; exact (hb rfl).elim
theorem dt_chain {r r' : R2} {op op' : D → D → Option Bool} {ta tb tc : TE} (hr : C2Ok K cls r op) (hr' : C2Ok K cls r' op') (ha : DE K cls W ta fa) (hb : DE K cls W tb fb) (hc : DE K cls W tc fc) :
    DE K cls W (tChain r r' ta tb tc) (eB (tCh op op' fa fb fc)) := by
  intro σ F H g O Q s st p
  rw [eB_, tCh_] at p
  refine ha.go s st (fun c e => by rw [e] at p; exact p) (fun e => by rw [e] at p; exact p) fun da ea va F1 H1 x1 b1 => ?_
  rw [ea] at p
  simp only [Res.bind] at p
  refine hb.go x1.fh (st.ext x1) (fun c e F' H' x => by rw [e] at p; exact p F' H' (x1.trans x)) (fun e => by rw [e] at p; exact p) fun db eb vb F2 H2 x2 b2 => ?_
  rw [eb] at p
  simp only [] at p
  cases eo : op (opd da) (opd db) with
  | none => rw [eo] at p; exact p.elim
  | some k =>
    rw [eo] at p
    simp only [Res.of] at p
    refine hr F2 H2 va vb _ _ k _ x2.fh (b1.ext x2) b2 eo ⟨k, rfl, ?_⟩
    cases k with
    | true =>
      rw [if_pos rfl] at p
      rw [if_pos rfl]
      have x12 := x1.trans x2
      refine hc.go x2.fh ((st.ext x1).ext x2) (fun c e F' H' x => by rw [e] at p; exact p F' H' (x12.trans x)) (fun e => by rw [e] at p; exact p) fun dc ec vc F3 H3 x3 b3 => ?_
      rw [ec] at p
      simp only [] at p
      cases eo' : op' (opd db) (opd dc) with
      | none => rw [eo'] at p; exact p.elim
      | some k' =>
        rw [eo'] at p
        exact hr' F3 H3 vb vc _ _ k' _ x3.fh (b2.ext x3) b3 eo' (p _ F3 H3 [] (x12.trans x3) Fresh.nil (.inl (.sh (.bl k'))))
    | false =>
      rw [if_neg (by decide)] at p
      rw [if_neg (by decide)]
      exact p _ F2 H2 [] (x1.trans x2) Fresh.nil (.inl (.sh (.bl false)))
theorem jt_chain {o o' : CmpOp} {r r' : R2} {op op' : D → D → Option Bool} (ho : OpR X (compareOp o) r) (ho' : OpR X (compareOp o') r') (hr : C2Ok X.K cls r op) (hr' : C2Ok X.K cls r' op') (ha : JE X cls W a fa) (hb : JE X cls W b fb) (hc : JE X cls W c fc)
    (hm : lastMarks [o, o'] [b, c] = false := by with_unfolding_all rfl) : JT X cls W (.Compare a [o, o'] [b, c] pos) (tCh op op' fa fb fc) := by
  obtain ⟨ta, pa, da⟩ := ha.ex
  obtain ⟨tb, pb, db⟩ := hb.ex
  obtain ⟨tc, pc, dc⟩ := hc.ex
  exact ⟨_, pt_chain ho ho' pa pb pc hm, dt_of (dt_chain hr hr' da db dc)⟩
end
end DL

namespace DL
open PySem L2
def shd1 : D → Bool
  | .bo _ => false
  | .bd _ _ => false
  | .bb _ _ => false
  | _ => true
@[simp] theorem shd1_bo {b} : shd1 (.bo b) = false := rfl
@[simp] theorem shd1_bd {k b} : shd1 (.bd k b) = false := rfl
@[simp] theorem shd1_bb {k b} : shd1 (.bb k b) = false := rfl
@[simp] theorem shd1_un : shd1 .un = true := rfl
@[simp] theorem shd1_non : shd1 .non = true := rfl
@[simp] theorem shd1_bl {b} : shd1 (.bl b) = true := rfl
@[simp] theorem shd1_int {b} : shd1 (.int b) = true := rfl
@[simp] theorem shd1_str {b} : shd1 (.str b) = true := rfl
@[simp] theorem shd1_sc {b} : shd1 (.sc b) = true := rfl
@[simp] theorem shd1_ls {b} : shd1 (.ls b) = true := rfl
@[simp] theorem shd1_tp {b} : shd1 (.tp b) = true := rfl
@[simp] theorem shd1_ob {k b} : shd1 (.ob k b) = true := rfl
@[simp] theorem shd1_rf {b} : shd1 (.rf b) = true := rfl
def shd (l : List D) : Bool := l.all shd1
@[simp] theorem shd_nil : shd [] = true := rfl
@[simp] theorem shd_cons (d : D) (l : List D) : shd (d :: l) = (shd1 d && shd l) := rfl
@[simp] def lsv : D → Option (List D)
  | .ls xs => some xs
  | .bo xs => if shd xs = true then some xs else none
  | _ => none
@[simp] def sqL : D → Option (List D)
  | .ls xs => some xs
  | .sc xs => some xs
  | .bo xs => some xs
  | _ => none
@[simp] def sqK : D → Option (List D)
  | .ls xs => some xs
  | .sc xs => some xs
  | .bo xs => if shd xs = true then some xs else none
  | _ => none
@[simp] def intOf : D → Option Int
  | .int i => some i
  | _ => none
@[simp] def strOf : D → Option Str
  | .str i => some i
  | _ => none
@[simp] def blOf : D → Option Bool
  | .bl i => some i
  | _ => none
def intsOf : List D → Option (List Int)
  | [] => some []
  | d :: ds => match intOf d, intsOf ds with
    | some i, some is => some (i :: is)
    | _, _ => none
def strsOf : List D → Option (List Str)
  | [] => some []
  | d :: ds => match strOf d, strsOf ds with
    | some i, some is => some (i :: is)
    | _, _ => none
def blsOf : List D → Option (List Bool)
  | [] => some []
  | d :: ds => match blOf d, blsOf ds with
    | some i, some is => some (i :: is)
    | _, _ => none
theorem intsOf_eq : ∀ {ds : List D} {ns : List Int}, intsOf ds = some ns → ds = ns.map D.int
  | [], ns, h => by simp [intsOf] at h; subst h; rfl
  | d :: ds, ns, h => by
    unfold intsOf at h
    cases d <;> simp at h
    cases q : intsOf ds with
    | none => rw [q] at h; simp at h
    | some is => rw [q] at h; simp at h; subst h; rw [intsOf_eq q]; rfl
theorem strsOf_eq : ∀ {ds : List D} {ns : List Str}, strsOf ds = some ns → ds = ns.map D.str
  | [], ns, h => by simp [strsOf] at h; subst h; rfl
  | d :: ds, ns, h => by
    unfold strsOf at h
    cases d <;> simp at h
    cases q : strsOf ds with
    | none => rw [q] at h; simp at h
    | some is => rw [q] at h; simp at h; subst h; rw [strsOf_eq q]; rfl
theorem blsOf_eq : ∀ {ds : List D} {ns : List Bool}, blsOf ds = some ns → ds = ns.map D.bl
  | [], ns, h => by simp [blsOf] at h; subst h; rfl
  | d :: ds, ns, h => by
    unfold blsOf at h
    cases d <;> simp at h
    cases q : blsOf ds with
    | none => rw [q] at h; simp at h
    | some is => rw [q] at h; simp at h; subst h; rw [blsOf_eq q]; rfl
@[simp] theorem intsOf_map : ∀ ns : List Int, intsOf (ns.map D.int) = some ns
  | [] => rfl
  | n :: ns => by simp [intsOf, intsOf_map ns]
@[simp] theorem intsOf_nil : intsOf [] = some [] := rfl
@[simp] theorem intsOf_cons (i : Int) (ds : List D) : intsOf (.int i :: ds) = (intsOf ds).map (i :: ·) := by
  simp only [intsOf, intOf]; cases intsOf ds <;> rfl
@[simp] theorem strsOf_map : ∀ ns : List Str, strsOf (ns.map D.str) = some ns
  | [] => rfl
  | n :: ns => by simp [strsOf, strsOf_map ns]
@[simp] theorem strsOf_nil : strsOf [] = some [] := rfl
@[simp] theorem strsOf_cons (i : Str) (ds : List D) : strsOf (.str i :: ds) = (strsOf ds).map (i :: ·) := by
  simp only [strsOf, strOf]; cases strsOf ds <;> rfl
@[simp] theorem blsOf_map : ∀ ns : List Bool, blsOf (ns.map D.bl) = some ns
  | [] => rfl
  | n :: ns => by simp [blsOf, blsOf_map ns]
@[simp] theorem blsOf_nil : blsOf [] = some [] := rfl
@[simp] theorem blsOf_cons (i : Bool) (ds : List D) : blsOf (.bl i :: ds) = (blsOf ds).map (i :: ·) := by
  simp only [blsOf, blOf]; cases blsOf ds <;> rfl

section
variable {K : PySem.W.Frag} {cls : Cls} {W : WX} {X : Cx} {F H F' H' : Hp} {Q : VK} {σ : St}
theorem Rps.len {vs : List V} {ds : List D} (h : Rps K cls F vs ds) : vs.length = ds.length := by
  induction ds generalizing vs with
  | nil => cases h; rfl
  | cons d ds ih => cases h with | cons a b => simp [ih b]
theorem Bos.len {vs : List V} {ds : List D} (h : Bos K cls F H vs ds) : vs.length = ds.length := by
  induction ds generalizing vs with
  | nil => cases h; rfl
  | cons d ds ih => cases h with | cons a b => simp [ih b]
theorem Ows.len {vs : List V} {ds : List D} {O : List Addr} (h : Ows K cls F H vs ds O) : vs.length = ds.length := by
  induction ds generalizing vs O with
  | nil => cases h; rfl
  | cons d ds ih => cases h with | cons a b => simp [ih b]
theorem Rps.toBos {vs : List V} {ds : List D} (h : Rps K cls F vs ds) : Bos K cls F H vs ds := by
  induction ds generalizing vs with
  | nil => cases h; exact .nil
  | cons d ds ih => cases h with | cons a b => exact .cons (.sh a) (ih b)
theorem Rps.toOws {vs : List V} {ds : List D} (h : Rps K cls F vs ds) : Ows K cls F H vs ds [] := by
  induction ds generalizing vs with
  | nil => cases h; exact .nil
  | cons d ds ih => cases h with | cons a b => exact .cons (.sh a) (ih b) (fun _ q => (nomatch q)) rfl
theorem Bo.toRp {v : V} {d : D} (h : Bo K cls F H v d) (e : shd1 d = true) : Rp K cls F v d := by
  cases h with
  | sh r => exact r
  | bo => simp at e
  | bd => simp at e
  | bb => simp at e
theorem Bos.toRps {vs : List V} {ds : List D} (h : Bos K cls F H vs ds) (e : shd ds = true) : Rps K cls F vs ds := by
  induction ds generalizing vs with
  | nil => cases h; exact .nil
  | cons d ds ih =>
    cases h with
    | cons a b =>
      simp only [shd, List.all_cons, Bool.and_eq_true] at e
      exact .cons (a.toRp e.1) (ih b e.2)
theorem Bos.get : ∀ {vs : List V} {ds : List D} {i : Nat} {d : D}, Bos K cls F H vs ds → ds[i]? = some d → ∃ v, vs[i]? = some v ∧ Bo K cls F H v d
  | _, _, _, _, .nil, e => by simp at e
  | _, _, 0, _, .cons r _, e => by simp at e; subst e; exact ⟨_, rfl, r⟩
  | _, _, i + 1, _, .cons _ t, e => by
    obtain ⟨v, h1, h2⟩ := Bos.get (i := i) t (by simpa using e)
    exact ⟨v, by simpa using h1, h2⟩
theorem Rps.get : ∀ {vs : List V} {ds : List D} {i : Nat} {d : D}, Rps K cls F vs ds → ds[i]? = some d → ∃ v, vs[i]? = some v ∧ Rp K cls F v d
  | _, _, _, _, .nil, e => by simp at e
  | _, _, 0, _, .cons r _, e => by simp at e; subst e; exact ⟨_, rfl, r⟩
  | _, _, i + 1, _, .cons _ t, e => by
    obtain ⟨v, h1, h2⟩ := Rps.get (i := i) t (by simpa using e)
    exact ⟨v, by simpa using h1, h2⟩
theorem Rps.append : ∀ {vs ws : List V} {ds es : List D}, Rps K cls F vs ds → Rps K cls F ws es → Rps K cls F (vs ++ ws) (ds ++ es)
  | _, _, _, _, .nil, h => h
  | _, _, _, _, .cons a b, h => .cons a (b.append h)
theorem Rps.take : ∀ {vs : List V} {ds : List D} (n : Nat), Rps K cls F vs ds → Rps K cls F (vs.take n) (ds.take n)
  | _, _, 0, _ => by simp; exact .nil
  | _, _, n + 1, .nil => by simp; exact .nil
  | _, _, n + 1, .cons a b => .cons a (b.take n)
theorem Rps.drop : ∀ {vs : List V} {ds : List D} (n : Nat), Rps K cls F vs ds → Rps K cls F (vs.drop n) (ds.drop n)
  | _, _, 0, h => h
  | _, _, n + 1, .nil => by simp; exact .nil
  | _, _, n + 1, .cons a b => b.drop n
theorem Rps.reverse {vs : List V} {ds : List D} (h : Rps K cls F vs ds) : Rps K cls F vs.reverse ds.reverse := by
  induction ds generalizing vs with
  | nil => cases h; exact .nil
  | cons d ds ih =>
    cases h with
    | cons a b =>
      rw [List.reverse_cons, List.reverse_cons]
      exact (ih b).append (.cons a .nil)
theorem Rps.ints {vs : List V} : ∀ {ns : List Int}, Rps K cls F vs (ns.map D.int) → vs = ns.map V.int := by
  intro ns
  induction ns generalizing vs with
  | nil => intro h; cases h; rfl
  | cons n ns ih => intro h; cases h with | cons a b => cases a; rw [ih b]; rfl
theorem Bos.ints {vs : List V} : ∀ {ns : List Int}, Bos K cls F H vs (ns.map D.int) → vs = ns.map V.int := by
  intro ns
  induction ns generalizing vs with
  | nil => intro h; cases h; rfl
  | cons n ns ih => intro h; cases h with | cons a b => cases a with | sh a => cases a; rw [ih b]; rfl
theorem Bos.strs {vs : List V} : ∀ {ns : List Str}, Bos K cls F H vs (ns.map D.str) → vs = ns.map V.str := by
  intro ns
  induction ns generalizing vs with
  | nil => intro h; cases h; rfl
  | cons n ns ih => intro h; cases h with | cons a b => cases a with | sh a => cases a; rw [ih b]; rfl
theorem Bos.bls {vs : List V} : ∀ {ns : List Bool}, Bos K cls F H vs (ns.map D.bl) → vs = ns.map V.bl := by
  intro ns
  induction ns generalizing vs with
  | nil => intro h; cases h; rfl
  | cons n ns ih => intro h; cases h with | cons a b => cases a with | sh a => cases a; rw [ih b]; rfl
theorem rps_ints : ∀ {ns : List Int}, Rps K cls F (ns.map V.int) (ns.map D.int)
  | [] => .nil
  | n :: ns => .cons (.int n) rps_ints
theorem rps_strs : ∀ {ns : List Str}, Rps K cls F (ns.map V.str) (ns.map D.str)
  | [] => .nil
  | n :: ns => .cons (.str n) rps_strs
theorem Bo.lsv {v : V} {d : D} {xs : List D} (s : Same F H) (b : Bo K cls F H v d) (e : lsv d = some xs) : ∃ a vs, v = .ref a ∧ H a = some (.lst vs) ∧ Rps K cls F vs xs := by
  cases b with
  | sh r => cases r <;> simp at e <;> (subst e; exact ⟨_, _, rfl, s _ _ (by assumption), by assumption⟩)
  | bo h r =>
    simp at e
    obtain ⟨e1, e2⟩ := e
    subst e2
    exact ⟨_, _, rfl, h, r.toRps (by simpa using e1)⟩
  | bd => simp at e
  | bb => simp at e
theorem Bo.sqL {v : V} {d : D} {xs : List D} (s : Same F H) (b : Bo K cls F H v d) (e : sqL d = some xs) : ∃ a vs, v = .ref a ∧ SqL K H a vs ∧ Bos K cls F H vs xs := by
  cases b with
  | sh r =>
    cases r <;> simp at e
    · subst e; exact ⟨_, _, rfl, s.seq (by assumption), Rps.toBos (by assumption)⟩
    · subst e; exact ⟨_, _, rfl, SqL.of (s _ _ (by assumption)), Rps.toBos (by assumption)⟩
  | bo h r => simp at e; subst e; exact ⟨_, _, rfl, SqL.of h, r⟩
  | bd => simp at e
  | bb => simp at e
theorem Bo.sqK {v : V} {d : D} {xs : List D} (s : Same F H) (b : Bo K cls F H v d) (e : sqK d = some xs) : ∃ a vs, v = .ref a ∧ SqL K H a vs ∧ Rps K cls F vs xs := by
  cases b with
  | sh r =>
    cases r <;> simp at e
    · subst e; exact ⟨_, _, rfl, s.seq (by assumption), by assumption⟩
    · subst e; exact ⟨_, _, rfl, SqL.of (s _ _ (by assumption)), by assumption⟩
  | bo h r =>
    simp at e
    obtain ⟨e1, e2⟩ := e
    subst e2
    exact ⟨_, _, rfl, SqL.of h, r.toRps (by simpa using e1)⟩
  | bd => simp at e
  | bb => simp at e
@[simp] def tpv : D → Option (List D)
  | .tp xs => some xs
  | _ => none
theorem Bo.tpv {v : V} {d : D} {xs : List D} (s : Same F H) (b : Bo K cls F H v d) (e : tpv d = some xs) : ∃ a vs, v = .ref a ∧ SqT K H a vs ∧ SqT K F a vs ∧ Rps K cls F vs xs := by
  cases b with
  | sh r => cases r <;> simp at e <;> (subst e; exact ⟨_, _, rfl, sameT s (by assumption), by assumption, by assumption⟩)
  | bo => simp at e
  | bd => simp at e
  | bb => simp at e
theorem Bo.int {v : V} {i : Int} (b : Bo K cls F H v (.int i)) : v = .int i := by cases b with | sh r => cases r; rfl
theorem Bo.str {v : V} {i : Str} (b : Bo K cls F H v (.str i)) : v = .str i := by cases b with | sh r => cases r; rfl
theorem Bo.bl {v : V} {i : Bool} (b : Bo K cls F H v (.bl i)) : v = .bl i := by cases b with | sh r => cases r; rfl
theorem Bo.non {v : V} (b : Bo K cls F H v .non) : v = .non := by cases b with | sh r => cases r; rfl

theorem upd_same' {a : Addr} {o : HO} (hn : H a = none) : Same H (upd H a o) := fun b u e => by rw [upd_ne (ne_of_none e hn)]; exact e
theorem Ext.own {a : Addr} {o : HO} (s : Same F H) (hn : H a = none) : Ext F H F (upd H a o) := ⟨.refl F, upd_same' hn, s.trans (upd_same' hn), fun _ h _ => h⟩
theorem Ext.put {a : Addr} {o : HO} (s : Same F H) (hn : H a = none) : Ext F H (upd F a o) (upd H a o) := by
  have hf : F a = none := by
    cases q : F a with
    | none => rfl
    | some u => rw [s a u q] at hn; cases hn
  refine ⟨upd_same' hf, upd_same' hn, fun b u e => ?_, fun b h1 h2 => ?_⟩
  · by_cases hb : b = a
    · subst hb; rw [upd_same] at e ⊢; exact e
    · rw [upd_ne hb] at e ⊢; exact s b u e
  · have hb : b ≠ a := fun z => h2 (by rw [z]; exact hn)
    rw [upd_ne hb]; exact h1
theorem ow_new {a : Addr} {vs : List V} {ds : List D} {O : List Addr} (s : Same F H) (hn : H a = none) (r : Ows K cls F H vs ds O) : Ow K cls F (upd H a (.lst vs)) (.ref a) (.ol ds) (a :: O) := by
  have hf : F a = none := by
    cases q : F a with
    | none => rfl
    | some u => rw [s a u q] at hn; cases hn
  have no : a ∉ O := fun q => (r.dom a q).2 hn
  exact .ol hf upd_same no (r.frame (.refl F) fun b hb => ⟨upd_ne fun z => no (z ▸ hb), (r.dom b hb).1⟩)
theorem fresh_new {a : Addr} (hn : H a = none) : Fresh H [a] := fun b hb => by simp at hb; subst hb; exact hn

@[simp] def mulOk (i j : Int) : Prop := ((-(2 ^ 64) < i ∧ i < 2 ^ 64) ∨ (-(2 ^ 64) < j ∧ j < 2 ^ 64)) ∨ i.natAbs.log2 + j.natAbs.log2 < 100000000
def divOk (j : Int) : Prop := j ≠ 0 ∧ (j.natAbs < 1073741824 ∨ j.natAbs.log2 < 9000)
instance (i j : Int) : Decidable (mulOk i j) := by unfold mulOk; infer_instance
instance (j : Int) : Decidable (divOk j) := by unfold divOk; infer_instance
instance (i j : Int) : Decidable (CPow i j) := by unfold CPow; infer_instance
def lim : Nat := 1000000
theorem lim_ok {n : Nat} (h : n ≤ lim) : n ≤ sizeLine := Nat.le_trans h (Nat.le_of_lt lim_line)
theorem lim_lt {n : Nat} (h : n < lim) : n < sizeLine := Nat.lt_trans h lim_line

def opAddL (a b : D) : Option D := match lsv a, lsv b with
    | some xs, some ys => if xs.length + ys.length ≤ lim then some (.ol (xs ++ ys)) else none
    | _, _ => none
def opAdd : D → D → Option D
  | .int i, .int j => some (.int (i + j))
  | .str x, .str y => if x.length + y.length ≤ lim then some (.str (x ++ y)) else none
  | .tp xs, .tp ys => if xs.length + ys.length ≤ lim then some (.tp (xs ++ ys)) else none
  | a, b => opAddL a b
def opSub : D → D → Option D
  | .int i, .int j => some (.int (i - j))
  | _, _ => none
def opMul : D → D → Option D
  | .int i, .int j => if mulOk i j then some (.int (i * j)) else none
  | a, .int k => match lsv a with
    | some xs => if k < 2 ^ 63 ∧ -(2 ^ 63) ≤ k ∧ xs.length * k.toNat ≤ lim then some (.ol (List.replicate k.toNat xs).flatten) else none
    | none => none
  | _, _ => none
def opDiv : D → D → Option D
  | .int i, .int j => if divOk j then some (.int (if 0 < j then i / j else i.fdiv j)) else none
  | _, _ => none
def opMod : D → D → Option D
  | .int i, .int j => if j ≠ 0 then some (.int (if 0 < j then i % j else i.fmod j)) else none
  | _, _ => none
def opPow : D → D → Option D
  | .int i, .int j => if CPow i j then some (.int (i ^ j.toNat)) else none
  | _, _ => none
def opNeg : D → Option D
  | .int i => some (.int (-i))
  | _ => none
def rAdd4 (K : PySem.W.Frag) : R2 := fun x y H Q => ((rI0 fun i j => .int (i + j)) x y H Q ∨ (∃ i j, x = .str i ∧ y = .str j ∧ i.length + j.length ≤ sizeLine ∧ Q (.str (i ++ j)) H)) ∨ (rCat x y H Q ∨ rCatA K x y H Q)
theorem op_add4 : OpR X (binaryOp .Add) (rAdd4 X.K) := (op_add.or op_add_str).or (op_cat.or op_catA)
theorem pi1 {v : V} {d : D} (s : Same F H) (r : Rp K cls F v d) (q : ∀ v F' H' O', Ext F H F' H' → Fresh H O' → Tm K cls F' H' v d O' → Q v H') : Q v H := q v F H [] (.refl s) Fresh.nil (.inl (.sh r))
theorem ok_add : R2Ok K cls (rAdd4 K) opAdd := by
  intro F H x y a b d Q s b1 b2 e q
  unfold opAdd at e
  split at e
  · cases e
    obtain rfl := b1.int
    obtain rfl := b2.int
    exact .inl (.inl ⟨_, _, rfl, rfl, pi1 s (.int _) q⟩)
  · split at e
    · rename_i h
      cases e
      obtain rfl := b1.str
      obtain rfl := b2.str
      exact .inl (.inr ⟨_, _, rfl, rfl, lim_ok h, pi1 s (.str _) q⟩)
    · cases e
  · rename_i xs ys
    split at e
    · rename_i h
      cases e
      obtain ⟨a1, vs, rfl, h1, f1, r1⟩ := b1.tpv s (xs := xs) rfl
      obtain ⟨a2, ws, rfl, h2, f2, r2⟩ := b2.tpv s (xs := ys) rfl
      have l1 := r1.len
      have l2 := r2.len
      refine .inr (.inr ⟨_, _, vs, ws, rfl, rfl, h1, h2, lim_ok (by rw [l1, l2]; exact h), fun e => ?_, fun e1 e2 => ?_, fun e1 e2 p hp => ?_⟩)
      · subst e
        cases r1
        exact pi1 s (.tp f2 r2) q
      · subst e2
        cases r2
        rw [List.append_nil] at q
        exact pi1 s (.tp f1 r1) q
      · exact q _ _ _ [] (Ext.put s hp) Fresh.nil (.inl (.sh (.tp (SqT.of upd_same) ((r1.append r2).mono (Ext.put s hp).ff))))
    · cases e
  · unfold opAddL at e
    split at e
    · rename_i xs ys q1 q2
      split at e
      · rename_i h
        cases e
        obtain ⟨a1, vs, rfl, h1, r1⟩ := b1.lsv s q1
        obtain ⟨a2, ws, rfl, h2, r2⟩ := b2.lsv s q2
        refine .inr (.inl ⟨_, _, _, _, rfl, rfl, h1, h2, lim_ok (by rw [r1.len, r2.len]; exact h), fun p hp => ?_⟩)
        exact q _ _ _ [p] (Ext.own s hp) (fresh_new hp) (.inl (ow_new s hp (r1.append r2).toOws))
      · cases e
    · cases e
theorem ok_sub : R2Ok K cls (rI0 fun i j => .int (i - j)) opSub := by
  intro F H x y a b d Q s b1 b2 e q
  unfold opSub at e
  split at e
  · cases e
    obtain rfl := b1.int
    obtain rfl := b2.int
    exact ⟨_, _, rfl, rfl, pi1 s (.int _) q⟩
  · cases e
theorem mulW_ok {a b : Int} (h : a.natAbs.log2 + b.natAbs.log2 < 100000000) : IntMulOk a b := by
  unfold IntMulOk Builtin.Int.intTooBig
  have h1 : ∀ z : Int, Builtin.Int.intBits z ≤ z.natAbs.log2 + 1 := fun z => by unfold Builtin.Int.intBits; split <;> omega
  have h3 := h1 a
  have h4 := h1 b
  have h5 := bitsLine_eq
  simp only [Bool.and_eq_true, decide_eq_true_eq]
  omega
theorem op_mulX : OpR X (binaryOp .Mult) (rI mulOk fun i j => .int (i * j)) := opI fun _ _ _ _ _ _ _ hc q => PyProof.Rows.mul_int q (by
  rcases hc with hc | hc
  · exact CMul.ok hc
  · exact mulW_ok hc)
theorem op_mul4 : OpR X (binaryOp .Mult) (fun x y H Q => (rI mulOk fun i j => .int (i * j)) x y H Q ∨ rRep x y H Q) := op_mulX.or op_rep
theorem Rps.rep {vs : List V} {ds : List D} (h : Rps K cls F vs ds) : ∀ k : Nat, Rps K cls F (List.replicate k vs).flatten (List.replicate k ds).flatten
  | 0 => by simp; exact .nil
  | k + 1 => by rw [List.replicate_succ, List.replicate_succ, List.flatten_cons, List.flatten_cons]; exact h.append (h.rep k)
theorem ok_mul : R2Ok K cls (fun x y H Q => (rI mulOk fun i j => .int (i * j)) x y H Q ∨ rRep x y H Q) opMul := by
  intro F H x y a b d Q s b1 b2 e q
  unfold opMul at e
  split at e
  · split at e
    · rename_i h
      cases e
      obtain rfl := b1.int
      obtain rfl := b2.int
      exact .inl ⟨_, _, rfl, rfl, h, pi1 s (.int _) q⟩
    · cases e
  · split at e
    · rename_i xs q1
      split at e
      · rename_i h
        cases e
        obtain rfl := b2.int
        obtain ⟨a1, vs, rfl, h1, r1⟩ := b1.lsv s q1
        refine .inr ⟨_, _, _, rfl, rfl, h1, h.2.1, h.1, lim_ok (by rw [r1.len]; exact h.2.2), fun p hp => ?_⟩
        exact q _ _ _ [p] (Ext.own s hp) (fresh_new hp) (.inl (ow_new s hp (r1.rep _).toOws))
      · cases e
    · cases e
  · cases e
theorem op_divX : OpR X (binaryOp .FloorDiv) (rI (fun _ j => divOk j) fun i j => .int (if 0 < j then i / j else i.fdiv j)) := opI fun i j _ _ _ _ _ hc q => by
  have e : (if 0 < j then i / j else i.fdiv j) = i.fdiv j := by
    split
    · rw [Int.fdiv_eq_ediv_of_nonneg i (by omega)]
    · rfl
  rw [e] at q
  rcases hc with ⟨h0, h | h⟩
  · exact PyProof.Rows.floordiv_int h0 q (.inl (PyProof.noPylong_small h))
  · exact PyProof.Rows.floordiv_int h0 q (.inl (PyProof.noPylong_of_log2 h))
theorem ok_div : R2Ok K cls (rI (fun _ j => divOk j) fun i j => .int (if 0 < j then i / j else i.fdiv j)) opDiv := by
  intro F H x y a b d Q s b1 b2 e q
  unfold opDiv at e
  split at e
  · rename_i i j
    by_cases h : divOk j
    · rw [if_pos h] at e
      cases e
      obtain rfl := b1.int
      obtain rfl := b2.int
      exact ⟨_, _, rfl, rfl, h, pi1 s (.int _) q⟩
    · rw [if_neg h] at e; cases e
  · cases e
theorem op_modX : OpR X (binaryOp .Mod) (rI (fun _ j => j ≠ 0) fun i j => .int (if 0 < j then i % j else i.fmod j)) := opI fun i j _ _ _ _ _ hc q => by
  have e : (if 0 < j then i % j else i.fmod j) = i.fmod j := by
    split
    · rw [Int.fmod_eq_emod_of_nonneg i (by omega)]
    · rfl
  rw [e] at q
  exact PyProof.Rows.mod_int' hc q
theorem ok_mod : R2Ok K cls (rI (fun _ j => j ≠ 0) fun i j => .int (if 0 < j then i % j else i.fmod j)) opMod := by
  intro F H x y a b d Q s b1 b2 e q
  unfold opMod at e
  split at e
  · rename_i i j
    by_cases h : j ≠ 0
    · rw [if_pos h] at e
      cases e
      obtain rfl := b1.int
      obtain rfl := b2.int
      exact ⟨_, _, rfl, rfl, h, pi1 s (.int _) q⟩
    · rw [if_neg h] at e; cases e
  · cases e
theorem ok_pow : R2Ok K cls (rI CPow fun i j => .int (i ^ j.toNat)) opPow := by
  intro F H x y a b d Q s b1 b2 e q
  unfold opPow at e
  split at e
  · rename_i i j
    by_cases h : CPow i j
    · rw [if_pos h] at e
      cases e
      obtain rfl := b1.int
      obtain rfl := b2.int
      exact ⟨_, _, rfl, rfl, h, pi1 s (.int _) q⟩
    · rw [if_neg h] at e; cases e
  · cases e
theorem ok_neg : R1Ok K cls (rU fun i => .int (-i)) opNeg := by
  intro F H x a d Q s b1 e q
  unfold opNeg at e
  split at e
  · cases e
    obtain rfl := b1.int
    exact ⟨_, rfl, pi1 s (.int _) q⟩
  · cases e

def cLt : D → D → Option Bool
  | .int i, .int j => some (decide (i < j))
  | _, _ => none
def cLe : D → D → Option Bool
  | .int i, .int j => some (decide (i ≤ j))
  | _, _ => none
def cGt : D → D → Option Bool
  | .int i, .int j => some (decide (j < i))
  | _, _ => none
def cGe : D → D → Option Bool
  | .int i, .int j => some (decide (j ≤ i))
  | _, _ => none
theorem ok_lt : C2Ok K cls (rI0 fun i j => .bl (decide (i < j))) cLt := by
  intro F H x y a b d Q s b1 b2 e q
  unfold cLt at e
  split at e
  · cases e
    obtain rfl := b1.int
    obtain rfl := b2.int
    exact ⟨_, _, rfl, rfl, q⟩
  · cases e
theorem ok_le : C2Ok K cls (rI0 fun i j => .bl (decide (i ≤ j))) cLe := by
  intro F H x y a b d Q s b1 b2 e q
  unfold cLe at e
  split at e
  · cases e
    obtain rfl := b1.int
    obtain rfl := b2.int
    exact ⟨_, _, rfl, rfl, q⟩
  · cases e
theorem ok_gt : C2Ok K cls (rI0 fun i j => .bl (decide (j < i))) cGt := by
  intro F H x y a b d Q s b1 b2 e q
  unfold cGt at e
  split at e
  · cases e
    obtain rfl := b1.int
    obtain rfl := b2.int
    exact ⟨_, _, rfl, rfl, q⟩
  · cases e
theorem ok_ge : C2Ok K cls (rI0 fun i j => .bl (decide (j ≤ i))) cGe := by
  intro F H x y a b d Q s b1 b2 e q
  unfold cGe at e
  split at e
  · cases e
    obtain rfl := b1.int
    obtain rfl := b2.int
    exact ⟨_, _, rfl, rfl, q⟩
  · cases e
mutual
def toPy : D → Option PyData
  | .non => some .none
  | .bl b => some (.bool b)
  | .int i => some (.int i)
  | .str x => some (.str x)
  | .sc xs => (toPys xs).map .list
  | .ls xs => (toPys xs).map .list
  | .bo xs => (toPys xs).map .list
  | .tp xs => (toPys xs).map .tuple
  | _ => none
def toPys : List D → Option (List PyData)
  | [] => some []
  | d :: ds => match toPy d, toPys ds with
    | some p, some ps => some (p :: ps)
    | _, _ => none
end
mutual
theorem Rp.dp (s : Same F H) : ∀ {v : V} {d : D} {p : PyData}, Rp K cls F v d → toPy d = some p → Dp K H v p
  | _, _, _, .non, e => by simp [toPy] at e; subst e; exact .non
  | _, _, _, .bl b, e => by simp [toPy] at e; subst e; exact .bl b
  | _, _, _, .int b, e => by simp [toPy] at e; subst e; exact .int b
  | _, _, _, .str b, e => by simp [toPy] at e; subst e; exact .str b
  | _, _, _, .sc (ds := ds) h r, e => by
    simp [toPy] at e
    obtain ⟨ps, e1, e2⟩ := e
    subst e2
    exact .lst (s.seq h) (Rps.dp s r e1)
  | _, _, _, .ls (ds := ds) h r, e => by
    simp [toPy] at e
    obtain ⟨ps, e1, e2⟩ := e
    subst e2
    exact .lst (SqL.of (s _ _ h)) (Rps.dp s r e1)
  | _, _, _, .tp (ds := ds) h r, e => by
    simp [toPy] at e
    obtain ⟨ps, e1, e2⟩ := e
    subst e2
    exact .tup (sameT s h) (Rps.dp s r e1)
  | _, _, _, .ob .., e => by simp [toPy] at e
theorem Rps.dp (s : Same F H) : ∀ {v : List V} {d : List D} {p : List PyData}, Rps K cls F v d → toPys d = some p → DpAll K H v p
  | _, _, _, .nil, e => by simp [toPys] at e; subst e; exact .nil
  | _, _, _, .cons (d := d) (ds := ds) a b, e => by
    unfold toPys at e
    cases q1 : toPy d with
    | none => rw [q1] at e; cases e
    | some p =>
      cases q2 : toPys ds with
      | none => rw [q1, q2] at e; cases e
      | some ps =>
        rw [q1, q2] at e
        cases e
        exact .cons (Rp.dp s a q1) (Rps.dp s b q2)
end
mutual
theorem Bo.dp (s : Same F H) : ∀ {v : V} {d : D} {p : PyData}, Bo K cls F H v d → toPy d = some p → Dp K H v p
  | _, _, _, .sh r, e => r.dp s e
  | _, _, _, .bo (ds := ds) h r, e => by
    simp [toPy] at e
    obtain ⟨ps, e1, e2⟩ := e
    subst e2
    exact .lst (SqL.of h) (Bos.dp s r e1)
  | _, _, _, .bd .., e => by simp [toPy] at e
theorem Bos.dp (s : Same F H) : ∀ {v : List V} {d : List D} {p : List PyData}, Bos K cls F H v d → toPys d = some p → DpAll K H v p
  | _, _, _, .nil, e => by simp [toPys] at e; subst e; exact .nil
  | _, _, _, .cons (d := d) (ds := ds) a b, e => by
    unfold toPys at e
    cases q1 : toPy d with
    | none => rw [q1] at e; cases e
    | some p =>
      cases q2 : toPys ds with
      | none => rw [q1, q2] at e; cases e
      | some ps =>
        rw [q1, q2] at e
        cases e
        exact .cons (Bo.dp s a q1) (Bos.dp s b q2)
end
def pyEq (a b : D) : Option Bool := match toPy a, toPy b with
  | some p, some q => if SeqAt.shaped p = true ∧ SeqAt.shaped q = true then some (PyData.eqv p q) else none
  | _, _ => none
def cEq : D → D → Option Bool
  | .int i, .int j => some (decide (i = j))
  | .str i, .str j => some (decide (i = j))
  | .bl i, .bl j => some (decide (i = j))
  | .non, .non => some true
  | .non, .int _ => some false
  | .int _, .non => some false
  | .int _, .str _ => some false
  | .str _, .int _ => some false
  | .non, .str _ => some false
  | .str _, .non => some false
  | a, b => pyEq a b
def cNe (a b : D) : Option Bool := (cEq a b).map (!·)
theorem cEq_ok {x y : V} {a b : D} {k : Bool} (s : Same F H) (b1 : Bo K cls F H x a) (b2 : Bo K cls F H y b) (e : cEq a b = some k) :
    (scal x y = true ∧ decide (x = y) = k) ∨ ∃ d e, Dp K H x d ∧ Dp K H y e ∧ SeqAt.shaped d = true ∧ SeqAt.shaped e = true ∧ PyData.eqv d e = k := by
  have py : ∀ {a b : D}, Bo K cls F H x a → Bo K cls F H y b → pyEq a b = some k → ∃ d e, Dp K H x d ∧ Dp K H y e ∧ SeqAt.shaped d = true ∧ SeqAt.shaped e = true ∧ PyData.eqv d e = k := fun {a b} b1 b2 e => by
    unfold pyEq at e
    split at e
    · rename_i p q h1 h2
      split at e
      · rename_i h
        cases e
        exact ⟨p, q, b1.dp s h1, b2.dp s h2, h.1, h.2, rfl⟩
      · cases e
    · cases e
  unfold cEq at e
  split at e
  · cases e; obtain rfl := b1.int; obtain rfl := b2.int; exact .inl ⟨rfl, by simp⟩
  · cases e; obtain rfl := b1.str; obtain rfl := b2.str; exact .inl ⟨rfl, by simp⟩
  · cases e; obtain rfl := b1.bl; obtain rfl := b2.bl; exact .inl ⟨rfl, by simp⟩
  · cases e; obtain rfl := b1.non; obtain rfl := b2.non; exact .inl ⟨rfl, by simp⟩
  · cases e; obtain rfl := b1.non; obtain rfl := b2.int; exact .inl ⟨rfl, by simp⟩
  · cases e; obtain rfl := b1.int; obtain rfl := b2.non; exact .inl ⟨rfl, by simp⟩
  · cases e; obtain rfl := b1.int; obtain rfl := b2.str; exact .inl ⟨rfl, by simp⟩
  · cases e; obtain rfl := b1.str; obtain rfl := b2.int; exact .inl ⟨rfl, by simp⟩
  · cases e; obtain rfl := b1.non; obtain rfl := b2.str; exact .inl ⟨rfl, by simp⟩
  · cases e; obtain rfl := b1.str; obtain rfl := b2.non; exact .inl ⟨rfl, by simp⟩
  · exact .inr (py b1 b2 e)
theorem ok_eq : C2Ok K cls (fun x y H Q => rEq x y H Q ∨ rEqD K x y H Q) cEq := by
  intro F H x y a b d Q s b1 b2 e q
  rcases cEq_ok s b1 b2 e with ⟨h1, h2⟩ | ⟨p, r, h1, h2, h3, h4, h5⟩
  · exact .inl ⟨h1, by rw [h2]; exact q⟩
  · exact .inr ⟨p, r, h1, h2, h3, h4, by rw [h5]; exact q⟩
theorem ok_ne : C2Ok K cls (fun x y H Q => rNe x y H Q ∨ rNeD K x y H Q) cNe := by
  intro F H x y a b d Q s b1 b2 e q
  unfold cNe at e
  cases e0 : cEq a b with
  | none => rw [e0] at e; cases e
  | some k =>
    rw [e0] at e
    cases e
    rcases cEq_ok s b1 b2 e0 with ⟨h1, h2⟩ | ⟨p, r, h1, h2, h3, h4, h5⟩
    · exact .inl ⟨h1, by rw [h2]; exact q⟩
    · exact .inr ⟨p, r, h1, h2, h3, h4, by rw [h5]; exact q⟩
theorem op_eq4 (hu : X.A.units + 64 < cLine) : OpR X (compareOp .Eq) (fun x y H Q => rEq x y H Q ∨ rEqD X.K x y H Q) := op_eq.or (op_eqD hu)
theorem op_ne4 (hu : X.A.units + 64 < cLine) : OpR X (compareOp .NotEq) (fun x y H Q => rNe x y H Q ∨ rNeD X.K x y H Q) := op_ne.or (op_neD hu)
def cIsN : D → D → Option Bool
  | .un, _ => none
  | a, .non => some (match a with | .non => true | _ => false)
  | _, _ => none
theorem cIsN_ok {x y : V} {a b : D} {k : Bool} (b1 : Bo K cls F H x a) (b2 : Bo K cls F H y b) (e : cIsN a b = some k) : y = .non ∧ decide (x = .non) = k := by
  unfold cIsN at e
  split at e
  · cases e
  · obtain rfl := b2.non
    refine ⟨rfl, ?_⟩
    cases e
    cases b1 with
    | sh r => cases r <;> simp
    | bo => simp
    | bd => simp
    | bb => simp
  · cases e
theorem ok_isN : C2Ok K cls (fun x y H Q => y = .non ∧ Q (.bl (decide (x = .non))) H) cIsN := by
  intro F H x y a b d Q s b1 b2 e q
  obtain ⟨h1, h2⟩ := cIsN_ok b1 b2 e
  exact ⟨h1, by rw [h2]; exact q⟩
end
end DL

namespace DL
open PySem L2
section
variable {K : PySem.W.Frag} {cls : Cls} {W : WX} {X : Cx} {F H F' H' : Hp} {Q : VK} {σ : St} {a b c e : Expr} {es : List Expr} {fa fb fc : Env → Res D} {ga gb : Env → Res Bool} {fs : Env → Res (List D)} {pos : Pos}

theorem inV_ints (i : Int) (ns : List Int) : inV (.int i) (ns.map V.int) = decide (i ∈ ns) := by
  induction ns with
  | nil => rfl
  | cons n ns ih =>
    unfold inV at ih ⊢
    rw [List.map_cons, List.any_cons, ih]
    have : eqV (.int n) (.int i) = decide (i = n) := by
      show (n == i) = decide (i = n)
      by_cases h : n = i
      · subst h; simp
      · have h' : ¬ i = n := fun q => h q.symm
        simp [h, h']
    rw [this, ← Bool.decide_or]
    simp
theorem inV_strs (i : Str) (ns : List Str) : inV (.str i) (ns.map V.str) = decide (i ∈ ns) := by
  induction ns with
  | nil => rfl
  | cons n ns ih =>
    unfold inV at ih ⊢
    rw [List.map_cons, List.any_cons, ih]
    have : eqV (.str n) (.str i) = decide (i = n) := by
      show (n == i) = decide (i = n)
      by_cases h : n = i
      · subst h; simp
      · have h' : ¬ i = n := fun q => h q.symm
        simp [h, h']
    rw [this, ← Bool.decide_or]
    simp
@[simp] def sqA : D → Option (List D)
  | .ls xs => some xs
  | .sc xs => some xs
  | .bo xs => some xs
  | .tp xs => some xs
  | _ => none
def cIn : D → D → Option Bool
  | .int i, s => match sqA s with
    | some xs => match intsOf xs with
      | some ns => some (decide (i ∈ ns))
      | none => none
    | none => none
  | .str i, s => match sqA s with
    | some xs => match strsOf xs with
      | some ns => some (decide (i ∈ ns))
      | none => none
    | none => none
  | _, _ => none
def cNIn (a b : D) : Option Bool := (cIn a b).map (!·)
theorem Bo.sqA {v : V} {d : D} {xs : List D} (s : Same F H) (b : Bo K cls F H v d) (e : sqA d = some xs) : ∃ a vs, v = .ref a ∧ (SqL K H a vs ∨ SqT K H a vs) ∧ Bos K cls F H vs xs := by
  cases d with
  | tp ys => obtain ⟨a, vs, e1, h1, h2, r⟩ := b.tpv s (xs := xs) (by simpa using e); exact ⟨a, vs, e1, .inr h1, r.toBos⟩
  | ls ys => obtain ⟨a, vs, e1, h1, r⟩ := b.sqL s (xs := xs) (by simpa using e); exact ⟨a, vs, e1, .inl h1, r⟩
  | sc ys => obtain ⟨a, vs, e1, h1, r⟩ := b.sqL s (xs := xs) (by simpa using e); exact ⟨a, vs, e1, .inl h1, r⟩
  | bo ys => obtain ⟨a, vs, e1, h1, r⟩ := b.sqL s (xs := xs) (by simpa using e); exact ⟨a, vs, e1, .inl h1, r⟩
  | _ => simp at e
theorem flat_ints (ns : List Int) : (ns.map V.int).all flatV = true := by
  induction ns with
  | nil => rfl
  | cons n ns ih => rw [List.map_cons, List.all_cons, ih]; rfl
theorem flat_strs (ns : List Str) : (ns.map V.str).all flatV = true := by
  induction ns with
  | nil => rfl
  | cons n ns ih => rw [List.map_cons, List.all_cons, ih]; rfl
theorem cIn_ok {x y : V} {a b : D} {k : Bool} (s : Same F H) (b1 : Bo K cls F H x a) (b2 : Bo K cls F H y b) (e : cIn a b = some k) :
    ∃ p xs, y = .ref p ∧ (SqL K H p xs ∨ SqT K H p xs) ∧ flatV x = true ∧ xs.all flatV = true ∧ inV x xs = k := by
  unfold cIn at e
  split at e
  · split at e
    · rename_i xs h1
      split at e
      · rename_i ns h2
        cases e
        obtain rfl := b1.int
        obtain ⟨p, vs, rfl, h3, r⟩ := b2.sqA s h1
        rw [intsOf_eq h2] at r
        rw [r.ints] at h3
        exact ⟨p, _, rfl, h3, rfl, flat_ints ns, inV_ints _ _⟩
      · cases e
    · cases e
  · split at e
    · rename_i xs h1
      split at e
      · rename_i ns h2
        cases e
        obtain rfl := b1.str
        obtain ⟨p, vs, rfl, h3, r⟩ := b2.sqA s h1
        rw [strsOf_eq h2] at r
        rw [r.strs] at h3
        exact ⟨p, _, rfl, h3, rfl, flat_strs ns, inV_strs _ _⟩
      · cases e
    · cases e
  · cases e
theorem ok_in : C2Ok K cls (rIn K false) cIn := by
  intro F H x y a b d Q s b1 b2 e q
  obtain ⟨p, xs, e1, h1, h2, h3, h4⟩ := cIn_ok s b1 b2 e
  exact ⟨p, xs, e1, h1, h2, h3, by rw [if_neg (by decide), h4]; exact q⟩
theorem ok_nin : C2Ok K cls (rIn K true) cNIn := by
  intro F H x y a b d Q s b1 b2 e q
  unfold cNIn at e
  cases e0 : cIn a b with
  | none => rw [e0] at e; cases e
  | some k =>
    rw [e0] at e
    cases e
    obtain ⟨p, xs, e1, h1, h2, h3, h4⟩ := cIn_ok s b1 b2 e0
    exact ⟨p, xs, e1, h1, h2, h3, by rw [if_pos rfl, h4]; exact q⟩

def opIx : D → D → Option D
  | .str z, .int i => if z.length ≤ lim then (atI z.cps.toList i).map fun c => .str ⟨#[c]⟩ else none
  | a, .int i => match sqA a with
    | some xs => atI xs i
    | none => none
  | _, _ => none
theorem atI_some {α : Type} {xs : List α} {i : Int} {d : α} (h : atI xs i = some d) : ∃ j, ixN xs.length i = some j ∧ xs[j]? = some d := by
  unfold atI at h
  cases q : ixN xs.length i with
  | none => rw [q] at h; cases h
  | some j => rw [q] at h; exact ⟨j, rfl, h⟩
theorem Bos.at {vs : List V} {ds : List D} {i : Int} {d : D} (h : Bos K cls F H vs ds) (e : atI ds i = some d) : ∃ v, atI vs i = some v ∧ Bo K cls F H v d := by
  obtain ⟨j, h1, h2⟩ := atI_some e
  obtain ⟨v, h3, h4⟩ := h.get h2
  refine ⟨v, ?_, h4⟩
  unfold atI
  rw [h.len, h1]
  exact h3
theorem ok_ix : R2Ok K cls (rIx K) opIx := by
  intro F H x y a b d Q s b1 b2 e q
  unfold opIx at e
  split at e
  · rename_i z i
    by_cases h : z.length ≤ lim
    · rw [if_pos h] at e
      obtain rfl := b1.str
      obtain rfl := b2.int
      cases e0 : atI z.cps.toList i with
      | none => rw [e0] at e; cases e
      | some c =>
        rw [e0] at e
        cases e
        exact .inr (.inr ⟨z, i, c, rfl, rfl, lim_ok h, e0, pi1 s (.str _) q⟩)
    · rw [if_neg h] at e; cases e
  · split at e
    · rename_i xs h1
      obtain rfl := b2.int
      obtain ⟨p, vs, rfl, h3, r⟩ := b1.sqA s h1
      obtain ⟨v, h4, h5⟩ := r.at e
      have q' : Q v H := q v F H [] (.refl s) Fresh.nil (.inr ⟨h5, rfl⟩)
      rcases h3 with h3 | h3
      · exact .inl ⟨p, vs, _, v, rfl, rfl, h3, h4, q'⟩
      · exact .inr (.inl ⟨p, vs, _, v, rfl, rfl, h3, h4, q'⟩)
    · cases e
  · cases e
theorem je_ix (ha : JE X cls W a fa) (hb : JE X cls W b fb) (hs : PlainIx b := by exact fun _ _ => rfl) : JE X cls W (.Subscript a b pos) (eBin opIx fa fb) := by
  obtain ⟨ta, pa, da⟩ := ha.ex
  obtain ⟨tb, pb, db⟩ := hb.ex
  exact ⟨_, pe_ix ix_seq pa pb hs, de_bin ok_ix da db⟩

def sIx (n d : Nat) : Option Int → Nat := HT.sIx n d
def cut {α : Type} (xs : List α) (lo hi : Option Int) : List α := (xs.drop (HT.sIx xs.length 0 lo)).take (HT.sIx xs.length xs.length hi - HT.sIx xs.length 0 lo)
def opSl (a : D) (lo hi : Option Int) : Option D := match a with
  | .tp xs => some (.tp (cut xs lo hi))
  | a => match sqK a with
    | some xs => some (.ol (cut xs lo hi))
    | none => none
def ePart (o : Option (Env → Res D)) : Env → Res (Option Int) := fun g => match o with
  | none => .ok none
  | some f => (f g).bind fun d => (Res.of (intOf (opd d))).bind fun i => .ok (some i)
@[simp] theorem ePart_none (g : Env) : ePart none g = .ok none := rfl
@[simp] theorem ePart_some (f : Env → Res D) (g : Env) : ePart (some f) g = (f g).bind fun d => (Res.of (intOf (opd d))).bind fun i => .ok (some i) := rfl
structure JP (X : Cx) (cls : Cls) (W : WX) (e : Option Expr) (f : Env → Res (Option Int)) : Prop where
  ex : ∃ t, PO X e t ∧ ∀ σ F H g O (Q : Option Int → Hp → Prop), Same F H → Sts X.K cls F H σ g O → (match f g with
    | .ok o => ∀ F' H', Ext F H F' H' → Q o H'
    | .xc c => ∀ F' H', Ext F H F' H' → W (excV cls c) none σ H'
    | .bad => False) → t σ H Q
theorem jp_none : JP X cls W none (ePart none) := ⟨_, po_none, fun σ F H g O Q s st p => p F H (.refl s)⟩
theorem jp_some (ha : JE X cls W a fa) : JP X cls W (some a) (ePart (some fa)) := by
  obtain ⟨ta, pa, da⟩ := ha.ex
  refine ⟨_, po_some pa, fun σ F H g O Q s st p => ?_⟩
  rw [ePart_some] at p
  refine da.go s st (fun c e => by rw [e] at p; exact p) (fun e => by rw [e] at p; exact p) fun d e v F' H' x b => ?_
  rw [e] at p
  simp only [Res.bind] at p
  cases e2 : intOf (opd d) with
  | none => rw [e2] at p; exact p.elim
  | some i =>
    rw [e2] at p
    have e3 : opd d = .int i := by
      cases e4 : opd d <;> rw [e4] at e2 <;> simp at e2
      rw [e2]
    rw [e3] at b
    exact ⟨i, b.int, p F' H' x⟩
def eSl (fa : Env → Res D) (lo hi : Env → Res (Option Int)) : Env → Res D := fun g => (fa g).bind fun a => (lo g).bind fun l => (hi g).bind fun h => .of (opSl (opd a) l h)
@[simp] theorem eSl_ (fa : Env → Res D) (lo hi : Env → Res (Option Int)) (g : Env) : eSl fa lo hi g = (fa g).bind fun a => (lo g).bind fun l => (hi g).bind fun h => .of (opSl (opd a) l h) := rfl
theorem Rps.cut {vs : List V} {ds : List D} (h : Rps K cls F vs ds) (lo hi : Option Int) : Rps K cls F (cutV vs lo hi) (cut ds lo hi) := by
  unfold cutV DL.cut
  rw [h.len]
  exact (h.drop _).take _
theorem cut_whole {α : Type} {xs : List α} {lo hi : Option Int} (h : HT.sIx xs.length 0 lo = 0 ∧ HT.sIx xs.length xs.length hi = xs.length) : cut xs lo hi = xs := by
  unfold cut
  rw [h.1, h.2]
  simp
theorem je_sl {lo hi : Option Expr} {fl fh : Env → Res (Option Int)} {p2 : Pos} (ha : JE X cls W a fa) (hl : JP X cls W lo fl) (hh : JP X cls W hi fh) : JE X cls W (.Subscript a (.Slice lo hi none p2) pos) (eSl fa fl fh) := by
  obtain ⟨ta, pa, da⟩ := ha.ex
  obtain ⟨tl, pl, dl⟩ := hl.ex
  obtain ⟨th, ph, dh⟩ := hh.ex
  refine ⟨_, pe_slice (sl_list.or sl_tupA) pa pl ph, ?_⟩
  intro σ F H g O Q s st p
  rw [eSl_] at p
  refine da.go s st (fun c e => by rw [e] at p; exact p) (fun e => by rw [e] at p; exact p) fun d e v F1 H1 x1 b1 => ?_
  rw [e] at p
  simp only [Res.bind] at p
  refine dl σ F1 H1 g O _ x1.fh (st.ext x1) ?_
  cases el : fl g with
  | bad => rw [el] at p; exact p.elim
  | xc c => rw [el] at p; exact fun F' H' x => p F' H' (x1.trans x)
  | ok l =>
    rw [el] at p
    simp only [] at p ⊢
    intro F2 H2 x2
    refine dh σ F2 H2 g O _ x2.fh ((st.ext x1).ext x2) ?_
    cases eh : fh g with
    | bad => rw [eh] at p; exact p.elim
    | xc c => rw [eh] at p; exact fun F' H' x => p F' H' ((x1.trans x2).trans x)
    | ok h =>
      rw [eh] at p
      simp only [] at p ⊢
      intro F3 H3 x3
      have x23 := x2.trans x3
      have x13 := x1.trans x23
      have b3 := b1.ext x23
      cases eo : opSl (opd d) l h with
      | none => rw [eo] at p; exact p.elim
      | some r =>
        rw [eo] at p
        have q : ∀ v F' H' O', Ext F3 H3 F' H' → Fresh H3 O' → Tm X.K cls F' H' v r O' → Q v H' := fun v F' H' O' y fr tm => p v F' H' O' (x13.trans y) (fr.mono x13.hh) tm
        unfold opSl at eo
        split at eo
        · rename_i xs ed
          cases eo
          rw [ed] at b3
          obtain ⟨a1, vs, rfl, h1, f1, r1⟩ := b3.tpv x3.fh (xs := xs) rfl
          refine .inr ⟨a1, vs, rfl, h1, fun w => ?_, fun w p hp => ?_⟩
          · rw [r1.len] at w
            exact q _ F3 H3 [] (.refl x3.fh) Fresh.nil (.inl (.sh (by rw [cut_whole w]; exact .tp f1 r1)))
          · exact q _ _ _ [] (Ext.put x3.fh hp) Fresh.nil (.inl (.sh (.tp (SqT.of upd_same) ((r1.cut l h).mono (Ext.put x3.fh hp).ff))))
        · split at eo
          · rename_i xs ek
            cases eo
            obtain ⟨a1, vs, rfl, h1, r1⟩ := b3.sqK x3.fh ek
            refine .inl ⟨a1, vs, rfl, h1, fun p hp => ?_⟩
            exact q _ _ _ [p] (Ext.own x3.fh hp) (fresh_new hp) (.inl (ow_new x3.fh hp (r1.cut l h).toOws))
          · cases eo

def aNil : Env → Res (List D) := fun _ => .ok []
def aCons (fa : Env → Res D) (fs : Env → Res (List D)) : Env → Res (List D) := fun g => (fa g).bind fun a => (fs g).bind fun r => .ok (opd a :: r)
def aConsO (fa : Env → Res D) (fs : Env → Res (List D)) : Env → Res (List D) := fun g => (fa g).bind fun a => (kp a).bind fun a => (fs g).bind fun r => .ok (a :: r)
@[simp] theorem aNil_ (g : Env) : aNil g = .ok [] := rfl
@[simp] theorem aCons_ (fa : Env → Res D) (fs : Env → Res (List D)) (g : Env) : aCons fa fs g = (fa g).bind fun a => (fs g).bind fun r => .ok (opd a :: r) := rfl
@[simp] theorem aConsO_ (fa : Env → Res D) (fs : Env → Res (List D)) (g : Env) : aConsO fa fs g = (fa g).bind fun a => (kp a).bind fun a => (fs g).bind fun r => .ok (a :: r) := rfl
theorem ja_nil : JA X cls W [] aNil := ⟨_, pa_nil, fun σ F H g O Q s st p => p [] F H (.refl s) .nil⟩
theorem jao_nil : JAO X cls W [] aNil := ⟨_, pa_nil, fun σ F H g O Q s st p => p [] F H [] (.refl s) Fresh.nil .nil⟩
theorem DA.go {t : TA} (ha : DA K cls W t fs) {σ : St} {F H : Hp} {g : Env} {O : List Addr} {Q : List V → Hp → Prop} (s : Same F H) (st : Sts K cls F H σ g O)
    (hx : ∀ c, fs g = .xc c → ∀ F' H', Ext F H F' H' → W (excV cls c) none σ H') (hb : fs g ≠ .bad) (hk : ∀ d, fs g = .ok d → ∀ v F' H', Ext F H F' H' → Bos K cls F' H' v d → Q v H') : t σ H Q := by
  refine ha σ F H g O Q s st ?_
  cases e : fs g with
  | ok k => exact hk k e
  | xc c => exact hx c e
  | bad => exact (hb e).elim
theorem DAO.go {t : TA} (ha : DAO K cls W t fs) {σ : St} {F H : Hp} {g : Env} {O : List Addr} {Q : List V → Hp → Prop} (s : Same F H) (st : Sts K cls F H σ g O)
    (hx : ∀ c, fs g = .xc c → ∀ F' H', Ext F H F' H' → W (excV cls c) none σ H') (hb : fs g ≠ .bad) (hk : ∀ d, fs g = .ok d → ∀ v F' H' O', Ext F H F' H' → Fresh H O' → Ows K cls F' H' v d O' → Q v H') : t σ H Q := by
  refine ha σ F H g O Q s st ?_
  cases e : fs g with
  | ok k => exact hk k e
  | xc c => exact hx c e
  | bad => exact (hb e).elim
theorem ja_cons (ha : JE X cls W a fa) (hr : JA X cls W es fs) (hs : starEach (a :: es) X.env = (false, eval a X.env) :: starEach es X.env := by rfl) : JA X cls W (a :: es) (aCons fa fs) := by
  obtain ⟨ta, pa, da⟩ := ha.ex
  obtain ⟨tr, pr, dr⟩ := hr.ex
  refine ⟨_, pa_cons pa pr hs, ?_⟩
  intro σ F H g O Q s st p
  rw [aCons_] at p
  refine da.go s st (fun c e => by rw [e] at p; exact p) (fun e => by rw [e] at p; exact p) fun d e v F1 H1 x1 b1 => ?_
  rw [e] at p
  simp only [Res.bind] at p
  refine dr.go x1.fh (st.ext x1) (fun c e F' H' x => by rw [e] at p; exact p F' H' (x1.trans x)) (fun e => by rw [e] at p; exact p) fun ds es vs F2 H2 x2 b2 => ?_
  rw [es] at p
  exact p _ F2 H2 (x1.trans x2) (.cons (b1.ext x2) b2)
theorem jao_cons (ha : JE X cls W a fa) (hr : JAO X cls W es fs) (hs : starEach (a :: es) X.env = (false, eval a X.env) :: starEach es X.env := by rfl) : JAO X cls W (a :: es) (aConsO fa fs) := by
  obtain ⟨ta, pa, da⟩ := ha.ex
  obtain ⟨tr, pr, dr⟩ := hr.ex
  refine ⟨_, pa_cons pa pr hs, ?_⟩
  intro σ F H g O Q s st p
  rw [aConsO_] at p
  refine da.goO s st (fun c e => by rw [e] at p; exact p) (fun e => ?_) fun d e v F1 H1 O1 x1 fr1 b1 => ?_
  · cases q : fa g with
    | ok d => rw [q] at e p; simp only [Res.bind] at e p; rw [e] at p; exact p
    | xc c => rw [q] at e; cases e
    | bad => rw [q] at p; exact p
  have p : PostAO X.K cls W σ F H Q ((fs g).bind fun r => .ok (d :: r)) := by
    cases q : fa g with
    | ok d => rw [q] at e p; simp only [Res.bind] at e p; rw [e] at p; exact p
    | xc c => rw [q] at e; cases e
    | bad => rw [q] at e; cases e
  refine dr.go x1.fh (st.ext x1) (fun c e F' H' x => by rw [e] at p; exact p F' H' (x1.trans x)) (fun e => by rw [e] at p; exact p) fun ds es vs F2 H2 O2 x2 fr2 b2 => ?_
  rw [es] at p
  refine p _ F2 H2 (O1 ++ O2) (x1.trans x2) (fun a ha => ?_) (.cons (b1.ext x2) b2 (fun a h1 h2 => ?_) rfl)
  · rcases List.mem_append.mp ha with q | q
    · exact fr1 a q
    · exact x1.hh.free (fr2 a q)
  · exact (b1.dom a h1).2 (fr2 a h2)
def eLst (fs : Env → Res (List D)) : Env → Res D := fun g => (fs g).bind fun ds => if ds.length ≤ lim then .ok (.ol ds) else .bad
def eTup (fs : Env → Res (List D)) : Env → Res D := fun g => (fs g).bind fun ds => if ds.length ≤ lim ∧ nods ds = true then .ok (.tp (frzs ds)) else .bad
@[simp] theorem eLst_ (fs : Env → Res (List D)) (g : Env) : eLst fs g = (fs g).bind fun ds => if ds.length ≤ lim then .ok (.ol ds) else .bad := rfl
@[simp] theorem eTup_ (fs : Env → Res (List D)) (g : Env) : eTup fs g = (fs g).bind fun ds => if ds.length ≤ lim ∧ nods ds = true then .ok (.tp (frzs ds)) else .bad := rfl
theorem je_lst (h : JAO X cls W es fs) : JE X cls W (.List es pos) (eLst fs) := by
  obtain ⟨ta, pa, da⟩ := h.ex
  refine ⟨_, pe_lst pa, ?_⟩
  intro σ F H g O Q s st p
  rw [eLst_] at p
  refine da.go s st (fun c e => by rw [e] at p; exact p) (fun e => by rw [e] at p; exact p) fun ds e vs F1 H1 O1 x1 fr1 b1 => ?_
  rw [e] at p
  simp only [Res.bind] at p
  split at p
  · rename_i hl
    refine ⟨lim_ok (by rw [b1.len]; exact hl), fun q hq => ?_⟩
    exact p _ _ _ (q :: O1) (x1.trans (Ext.own x1.fh hq)) (fun a ha => by
      rcases List.mem_cons.mp ha with rfl | ha
      · exact x1.hh.free hq
      · exact fr1 a ha) (.inl (ow_new x1.fh hq b1))
  · exact p.elim
theorem je_tup {k : Nat} (h : JAO X cls W es fs) : JE X cls W (.Tuple es k pos) (eTup fs) := by
  obtain ⟨ta, pa, da⟩ := h.ex
  refine ⟨_, pe_tup pa, ?_⟩
  intro σ F H g O Q s st p
  rw [eTup_] at p
  refine da.go s st (fun c e => by rw [e] at p; exact p) (fun e => by rw [e] at p; exact p) fun ds e vs F1 H1 O1 x1 fr1 b1 => ?_
  rw [e] at p
  simp only [Res.bind] at p
  split at p
  · rename_i hl
    refine ⟨lim_ok (by rw [b1.len]; exact hl.1), fun q hq => ?_⟩
    have no : ∀ a ∈ O1, F1 a = none := fun a ha => (b1.dom a ha).1
    have x2 := addF_ext x1 fr1 no
    have r2 := b1.freeze (addF_same no) addF_at hl.2
    exact p _ _ _ [] (x2.trans (Ext.put x2.fh hq)) Fresh.nil (.inl (.sh (.tp (SqT.of upd_same) (r2.mono (Ext.put x2.fh hq).ff))))
  · exact p.elim

def CaOk (K : PySem.W.Frag) (cls : Cls) (r : List V → Hp → VK → Prop) (op : List D → Option D) : Prop :=
  ∀ F H vs ds d Q, Same F H → Bos K cls F H vs ds → op ds = some d → (∀ v F' H' O', Ext F H F' H' → Fresh H O' → Tm K cls F' H' v d O' → Q v H') → r vs H Q
def eCall (op : List D → Option D) (fs : Env → Res (List D)) : Env → Res D := fun g => (fs g).bind fun ds => .of (op ds)
@[simp] theorem eCall_ (op : List D → Option D) (fs : Env → Res (List D)) (g : Env) : eCall op fs g = (fs g).bind fun ds => .of (op ds) := rfl
theorem de_call {r : List V → Hp → VK → Prop} {op : List D → Option D} {t : TA} (hr : CaOk K cls r op) (ha : DA K cls W t fs) : DE K cls W (tCB r t) (eCall op fs) := by
  intro σ F H g O Q s st p
  rw [eCall_] at p
  refine ha.go s st (fun c e => by rw [e] at p; exact p) (fun e => by rw [e] at p; exact p) fun ds e vs F1 H1 x1 b1 => ?_
  rw [e] at p
  simp only [Res.bind] at p
  cases eo : op ds with
  | none => rw [eo] at p; exact p.elim
  | some d =>
    rw [eo] at p
    exact hr F1 H1 vs ds d Q x1.fh b1 eo fun v F' H' O' y fr tm => p v F' H' O' (x1.trans y) (fr.mono x1.hh) tm
theorem je_callB {x : Str} {id : String} {p : Pos} {r : List V → Hp → VK → Prop} {op : List D → Option D} (hc : CallR X (.builtin id) r) (hr : CaOk X.K cls r op) (hm : X.mg x = none) (hv : bootBuiltins x = some (.builtin id)) (ha : JA X cls W (e :: es) fs)
    (hg : Gl X x := by rfl) (hn : x ≠ "__name__" := by decide) (hdb : (x == ("__debug__" : Str)) = false := by decide)
    (he : starEach (e :: es) X.env = (false, eval e X.env) :: starEach es X.env := by rfl) (hpl : (backTo pos (starEach es X.env)).any (·.1) = false := by rfl) : JE X cls W (.Call (.Name x p) (e :: es) [] pos) (eCall op fs) := by
  obtain ⟨ta, pa, da⟩ := ha.ex
  exact ⟨_, pe_callB hc hg hm hv pa hn hdb he hpl, de_call hr da⟩
theorem je_callTy {x : Str} {T : String} {p : Pos} {r : List V → Hp → VK → Prop} {op : List D → Option D} (hc : CallR X (.type T) r) (hr : CaOk X.K cls r op) (hm : X.mg x = none) (hv : bootBuiltins x = some (.type T)) (ha : JA X cls W (e :: es) fs)
    (hg : Gl X x := by rfl) (hn : x ≠ "__name__" := by decide) (hdb : (x == ("__debug__" : Str)) = false := by decide)
    (he : starEach (e :: es) X.env = (false, eval e X.env) :: starEach es X.env := by rfl) (hpl : (backTo pos (starEach es X.env)).any (·.1) = false := by rfl) : JE X cls W (.Call (.Name x p) (e :: es) [] pos) (eCall op fs) := by
  obtain ⟨ta, pa, da⟩ := ha.ex
  exact ⟨_, pe_callTy hc hg hm hv pa hn hdb he hpl, de_call hr da⟩
def caLen : List D → Option D
  | [.str z] => if z.length ≤ lim then some (.int z.length) else none
  | [d] => match sqA d with
    | some xs => some (.int xs.length)
    | none => match d with
      | .bd ks _ => none
      | _ => none
  | _ => none
theorem Bos.one {vs : List V} {d : D} (h : Bos K cls F H vs [d]) : ∃ v, vs = [v] ∧ Bo K cls F H v d := by
  cases h with | cons a b => cases b; exact ⟨_, rfl, a⟩
theorem Bos.two {vs : List V} {d d' : D} (h : Bos K cls F H vs [d, d']) : ∃ v v', vs = [v, v'] ∧ Bo K cls F H v d ∧ Bo K cls F H v' d' := by
  cases h with | cons a b => cases b with | cons a' b' => cases b'; exact ⟨_, _, rfl, a, a'⟩
theorem ok_len : CaOk K cls (fun xs H Q => ∃ x n, xs = [x] ∧ LenV K x H n ∧ Q (.int n) H) caLen := by
  intro F H vs ds d Q s b e q
  unfold caLen at e
  split at e
  · rename_i z
    by_cases h : z.length ≤ lim
    · rw [if_pos h] at e
      cases e
      obtain ⟨v, rfl, b1⟩ := b.one
      obtain rfl := b1.str
      exact ⟨_, _, rfl, ⟨lim_ok h, rfl⟩, pi1 s (.int _) q⟩
    · rw [if_neg h] at e; cases e
  · split at e
    · rename_i xs h1
      cases e
      obtain ⟨v, rfl, b1⟩ := b.one
      obtain ⟨p, vs, rfl, h3, r⟩ := b1.sqA s h1
      have q' : Q (.int (xs.length : Int)) H := pi1 s (.int _) q
      rw [← r.len] at q'
      rcases h3 with h3 | h3
      · exact ⟨_, vs.length, rfl, .inl ⟨vs, h3, rfl⟩, q'⟩
      · exact ⟨_, vs.length, rfl, .inr ⟨vs, h3, rfl⟩, q'⟩
    · split at e <;> cases e
  · cases e
def caMax2 : List D → Option D
  | [.int i, .int j] => some (.int (if j > i then j else i))
  | _ => none
def caMin2 : List D → Option D
  | [.int i, .int j] => some (.int (if j < i then j else i))
  | _ => none
theorem ok_max2 : CaOk K cls (fun xs H Q => ∃ i j, xs = [.int i, .int j] ∧ Q (.int (if j > i then j else i)) H) caMax2 := by
  intro F H vs ds d Q s b e q
  unfold caMax2 at e
  split at e
  · cases e
    obtain ⟨v, v', rfl, b1, b2⟩ := b.two
    obtain rfl := b1.int
    obtain rfl := b2.int
    exact ⟨_, _, rfl, pi1 s (.int _) q⟩
  · cases e
theorem ok_min2 : CaOk K cls (fun xs H Q => ∃ i j, xs = [.int i, .int j] ∧ Q (.int (if j < i then j else i)) H) caMin2 := by
  intro F H vs ds d Q s b e q
  unfold caMin2 at e
  split at e
  · cases e
    obtain ⟨v, v', rfl, b1, b2⟩ := b.two
    obtain rfl := b1.int
    obtain rfl := b2.int
    exact ⟨_, _, rfl, pi1 s (.int _) q⟩
  · cases e
def caAbs : List D → Option D
  | [.int i] => some (.int (if i < 0 then -i else i))
  | _ => none
theorem ok_abs : CaOk K cls (fun xs H Q => ∃ i, xs = [.int i] ∧ Q (.int (if i < 0 then -i else i)) H) caAbs := by
  intro F H vs ds d Q s b e q
  unfold caAbs at e
  split at e
  · cases e
    obtain ⟨v, rfl, b1⟩ := b.one
    obtain rfl := b1.int
    exact ⟨_, rfl, pi1 s (.int _) q⟩
  · cases e
@[simp] def sqKA : D → Option (List D)
  | .tp xs => some xs
  | d => sqK d
theorem Bo.sqKA {v : V} {d : D} {xs : List D} (s : Same F H) (b : Bo K cls F H v d) (e : sqKA d = some xs) : ∃ a vs, v = .ref a ∧ (SqL K H a vs ∨ SqT K H a vs) ∧ Rps K cls F vs xs := by
  cases d with
  | tp ys => obtain ⟨a, vs, e1, h1, h2, r⟩ := b.tpv s (xs := xs) (by simpa using e); exact ⟨a, vs, e1, .inr h1, r⟩
  | ls ys => obtain ⟨a, vs, e1, h1, r⟩ := b.sqK s (xs := xs) (by simpa using e); exact ⟨a, vs, e1, .inl h1, r⟩
  | sc ys => obtain ⟨a, vs, e1, h1, r⟩ := b.sqK s (xs := xs) (by simpa using e); exact ⟨a, vs, e1, .inl h1, r⟩
  | bo ys => obtain ⟨a, vs, e1, h1, r⟩ := b.sqK s (xs := xs) (by simpa using e); exact ⟨a, vs, e1, .inl h1, r⟩
  | _ => simp at e
def caList : List D → Option D
  | [d] => (sqKA d).map .ol
  | _ => none
theorem ok_list : CaOk K cls (fun xs H Q => ∃ p ys, xs = [.ref p] ∧ (SqL K H p ys ∨ SqT K H p ys) ∧ ∀ l, H l = none → Q (.ref l) (upd H l (.lst ys))) caList := by
  intro F H vs ds d Q s b e q
  unfold caList at e
  split at e
  · rename_i d0
    cases h1 : sqKA d0 with
    | none => rw [h1] at e; cases e
    | some xs =>
      rw [h1] at e
      cases e
      obtain ⟨v, rfl, b1⟩ := b.one
      obtain ⟨p, ws, rfl, h2, r⟩ := b1.sqKA s h1
      exact ⟨p, ws, rfl, h2, fun l hl => q _ _ _ [l] (Ext.own s hl) (fresh_new hl) (.inl (ow_new s hl r.toOws))⟩
  · cases e
def caTuple : List D → Option D
  | [d] => (sqKA d).map .tp
  | _ => none
theorem ok_tuple : CaOk K cls (fun xs H Q => ∃ p ys, xs = [.ref p] ∧ ((SqL K H p ys ∧ ∀ l, H l = none → Q (.ref l) (upd H l (.tup ys))) ∨ (SqT K H p ys ∧ Q (.ref p) H))) caTuple := by
  intro F H vs ds d Q s b e q
  unfold caTuple at e
  split at e
  · rename_i d0
    cases h1 : sqKA d0 with
    | none => rw [h1] at e; cases e
    | some xs =>
      rw [h1] at e
      cases e
      obtain ⟨v, rfl, b1⟩ := b.one
      have lst : ∀ {a : Addr} {ws : List V}, SqL K H a ws → Rps K cls F ws xs → ∀ l, H l = none → Q (.ref l) (upd H l (.tup ws)) := fun {a ws} h r l hl =>
        q _ _ _ [] (Ext.put s hl) Fresh.nil (.inl (.sh (.tp (SqT.of upd_same) (r.mono (Ext.put s hl).ff))))
      cases d0 with
      | tp ys =>
        obtain ⟨a, ws, rfl, h2, h3, r⟩ := b1.tpv s (xs := xs) (by simpa using h1)
        exact ⟨a, ws, rfl, .inr ⟨h2, pi1 s (.tp h3 r) q⟩⟩
      | ls ys => obtain ⟨a, ws, rfl, h2, r⟩ := b1.sqK s (xs := xs) (by simpa using h1); exact ⟨a, ws, rfl, .inl ⟨h2, lst h2 r⟩⟩
      | sc ys => obtain ⟨a, ws, rfl, h2, r⟩ := b1.sqK s (xs := xs) (by simpa using h1); exact ⟨a, ws, rfl, .inl ⟨h2, lst h2 r⟩⟩
      | bo ys => obtain ⟨a, ws, rfl, h2, r⟩ := b1.sqK s (xs := xs) (by simpa using h1); exact ⟨a, ws, rfl, .inl ⟨h2, lst h2 r⟩⟩
      | _ => simp at h1
  · cases e
theorem Bo.sqI {v : V} {d : D} {xs : List D} {ns : List Int} (s : Same F H) (b : Bo K cls F H v d) (e : DL.sqL d = some xs) (e2 : intsOf xs = some ns) : ∃ a, v = .ref a ∧ L2.SqL K H a (ns.map V.int) := by
  obtain ⟨a, vs, e1, h, r⟩ := Bo.sqL s b e
  rw [intsOf_eq e2] at r
  rw [r.ints] at h
  exact ⟨a, e1, h⟩
def ins (x : Int) : List Int → List Int
  | [] => [x]
  | y :: r => if x ≤ y then x :: y :: r else y :: ins x r
def srt : List Int → List Int
  | [] => []
  | x :: r => ins x (srt r)
theorem ins_perm (x : Int) : ∀ l : List Int, (ins x l).Perm (x :: l)
  | [] => List.Perm.refl _
  | y :: r => by
    unfold ins
    split
    · exact List.Perm.refl _
    · exact ((ins_perm x r).cons y).trans (List.Perm.swap x y r)
theorem srt_perm : ∀ l : List Int, (srt l).Perm l
  | [] => List.Perm.refl _
  | x :: r => (ins_perm x _).trans ((srt_perm r).cons x)
theorem ins_sorted (x : Int) : ∀ {l : List Int}, l.Pairwise (· ≤ ·) → (ins x l).Pairwise (· ≤ ·)
  | [], _ => by simp [ins]
  | y :: r, h => by
    unfold ins
    obtain ⟨h1, h2⟩ := List.pairwise_cons.mp h
    split
    · rename_i hxy
      refine List.pairwise_cons.mpr ⟨fun z hz => ?_, h⟩
      rcases List.mem_cons.mp hz with rfl | hz
      · exact hxy
      · exact Int.le_trans hxy (h1 z hz)
    · rename_i hxy
      refine List.pairwise_cons.mpr ⟨fun z hz => ?_, ins_sorted x h2⟩
      rcases List.mem_cons.mp ((ins_perm x r).mem_iff.mp hz) with rfl | hz
      · omega
      · exact h1 z hz
theorem srt_sorted : ∀ l : List Int, (srt l).Pairwise (· ≤ ·)
  | [] => List.Pairwise.nil
  | x :: r => ins_sorted x (srt_sorted r)
theorem sorted_uniq : ∀ {l m : List Int}, l.Perm m → l.Pairwise (· ≤ ·) → m.Pairwise (· ≤ ·) → l = m
  | [], m, p, _, _ => (List.nil_perm.mp p).symm
  | x :: l, [], p, _, _ => absurd p.length_eq (by simp)
  | x :: l, y :: m, p, h1, h2 => by
    obtain ⟨a1, a2⟩ := List.pairwise_cons.mp h1
    obtain ⟨b1, b2⟩ := List.pairwise_cons.mp h2
    have e : x = y := by
      have hx : x ∈ y :: m := p.mem_iff.mp List.mem_cons_self
      have hy : y ∈ x :: l := p.mem_iff.mpr List.mem_cons_self
      rcases List.mem_cons.mp hx with q | q
      · exact q
      · rcases List.mem_cons.mp hy with q' | q'
        · exact q'.symm
        · exact Int.le_antisymm (a1 y q') (b1 x q)
    subst e
    rw [sorted_uniq (List.Perm.cons_inv p) a2 b2]
theorem srt_uniq {l m : List Int} (p : l.Perm m) (h : l.Pairwise (· ≤ ·)) : l = srt m := sorted_uniq (p.trans (srt_perm m).symm) h (srt_sorted m)
def caSorted : List D → Option D
  | [d] => match sqL d with
    | some xs => (intsOf xs).map fun ns => .ol ((srt ns).map D.int)
    | none => none
  | _ => none
theorem ok_sorted : CaOk K cls (rSortedI K) caSorted := by
  intro F H vs ds d Q s b e q
  unfold caSorted at e
  split at e
  · split at e
    · rename_i xs h1
      cases h2 : intsOf xs with
      | none => rw [h2] at e; cases e
      | some ns =>
        rw [h2] at e
        cases e
        obtain ⟨v, rfl, b1⟩ := b.one
        obtain ⟨a, rfl, h3⟩ := b1.sqI s h1 h2
        refine ⟨a, ns, rfl, h3, fun ns' p pm pw hp => ?_⟩
        obtain rfl := srt_uniq pm pw
        exact q _ _ _ [p] (Ext.own s hp) (fresh_new hp) (.inl (ow_new s hp rps_ints.toOws))
    · cases e
  · cases e
def caAny : List D → Option D
  | [d] => match sqL d with
    | some xs => (blsOf xs).map fun ns => .bl (ns.any id)
    | none => none
  | _ => none
def caAll : List D → Option D
  | [d] => match sqL d with
    | some xs => (blsOf xs).map fun ns => .bl (ns.all id)
    | none => none
  | _ => none
theorem ok_any : CaOk K cls (rAny K) caAny := by
  intro F H vs ds d Q s b e q
  unfold caAny at e
  split at e
  · split at e
    · rename_i xs h1
      cases h2 : blsOf xs with
      | none => rw [h2] at e; cases e
      | some ns =>
        rw [h2] at e
        cases e
        obtain ⟨v, rfl, b1⟩ := b.one
        obtain ⟨a, vs, rfl, h3, r⟩ := b1.sqL s h1
        rw [blsOf_eq h2] at r
        rw [r.bls] at h3
        exact ⟨a, ns, rfl, h3, pi1 s (.bl _) q⟩
    · cases e
  · cases e
theorem ok_all : CaOk K cls (rAll K) caAll := by
  intro F H vs ds d Q s b e q
  unfold caAll at e
  split at e
  · split at e
    · rename_i xs h1
      cases h2 : blsOf xs with
      | none => rw [h2] at e; cases e
      | some ns =>
        rw [h2] at e
        cases e
        obtain ⟨v, rfl, b1⟩ := b.one
        obtain ⟨a, vs, rfl, h3, r⟩ := b1.sqL s h1
        rw [blsOf_eq h2] at r
        rw [r.bls] at h3
        exact ⟨a, ns, rfl, h3, pi1 s (.bl _) q⟩
    · cases e
  · cases e
end
end DL

namespace DL
open PySem L2
theorem set_self {α : Type} : ∀ {l : List α} {i : Nat} {a : α}, l[i]? = some a → l.set i a = l
  | [], _, _, h => by simp at h
  | x :: l, 0, a, h => by simp at h; subst h; rfl
  | x :: l, i + 1, a, h => by rw [List.set_cons_succ, set_self (by simpa using h)]
structure Cn (X : Cx) (W : WX) (k : Nat) : Prop where
  tk : Takes X W
  hp : PassesOwn (model X.prog X.w) X.A X.env X.xe
  calm : X.calm = true
  nd : X.N.Nodup
  hr : Room k X.A
theorem Cn.mono {X : Cx} {W : WX} {j k : Nat} (c : Cn X W k) (h : j ≤ k) : Cn X W j := ⟨c.tk, c.hp, c.calm, c.nd, c.hr.mono h⟩
theorem Cn.eq {X : Cx} {W : WX} {k : Nat} (c : Cn X W k) : X.A.units + 64 < cLine := c.hr.units
abbrev W0 : WX := fun _ _ _ _ => False
theorem Cn.blk {X : Cx} {W : WX} {k : Nat} (c : Cn X W k) {s : Shared} {H : Hp} {scope : Scope} {cenv : PySem.Env} {fp : List Addr} : Cn (X.blk s H scope cenv fp) W0 k :=
  ⟨takes0, PassesOwn.never, c.calm, c.nd, c.hr⟩

structure ClsOk (K : PySem.W.Frag) (cls : Cls) (c : Nat) (C : Addr) (ns : List Str) : Prop where
  e : cls c = some (C, ns)
  nd : ns.Nodup
  cl : L2.Cls K C
  na : ∀ f ∈ ns, NoAttr K C f
theorem lookup_zip : ∀ {ns : List Str} {vs : List V} {i : Nat} {f : Str} {v : V}, ns.Nodup → ns[i]? = some f → vs[i]? = some v → (ns.zip vs).lookup f = some v
  | [], _, _, _, _, _, h, _ => by simp at h
  | n :: ns, [], _, _, _, _, _, h => by simp at h
  | n :: ns, w :: vs, 0, f, v, nd, h1, h2 => by
    simp at h1 h2
    subst h1 h2
    simp [List.lookup]
  | n :: ns, w :: vs, i + 1, f, v, nd, h1, h2 => by
    obtain ⟨a1, a2⟩ := List.nodup_cons.mp nd
    have h1' : ns[i]? = some f := by simpa using h1
    have : ¬ f = n := fun e => a1 (e ▸ List.mem_of_getElem? h1')
    rw [List.zip_cons_cons, List.lookup]
    have e : (f == n) = false := by simpa using this
    rw [e]
    exact lookup_zip a2 h1' (by simpa using h2)
def opFld (c i : Nat) : D → Option D
  | .ob c' ds => if c' = c then ds[i]? else none
  | .bb c' ds => if c' = c then ds[i]? else none
  | _ => none
section
variable {K : PySem.W.Frag} {cls : Cls} {W : WX} {X : Cx} {F H F' H' F1 H1 : Hp} {O O1 : List Addr} {Q : VK} {σ : St} {a b e : Expr} {es : List Expr} {fa fb fc : Env → Res D} {ga gb : Env → Res Bool} {fs : Env → Res (List D)} {pos : Pos}
theorem Bo.fld {c i : Nat} {C : Addr} {ns : List Str} {f : Str} {v : V} {d r : D} (s : Same F H) (T : ClsOk K cls c C ns) (hi : ns[i]? = some f) (b : Bo K cls F H v d) (e : opFld c i d = some r) :
    ∃ a dx fs w, v = .ref a ∧ H a = some (.ins C dx fs) ∧ fs.lookup f = some w ∧ Bo K cls F H w r := by
  cases d with
  | ob c' ds =>
    have e2 : (if c' = c then ds[i]? else none) = some r := e
    split at e2
    · rename_i hc
      subst hc
      cases b with
      | sh rr =>
        cases rr with
        | ob he hF hl hr =>
          have := he.symm.trans T.e
          cases this
          obtain ⟨w, h1, h2⟩ := hr.get e2
          exact ⟨_, _, _, w, rfl, s _ _ hF, lookup_zip T.nd hi h1, .sh h2⟩
    · cases e2
  | bb c' ds =>
    have e2 : (if c' = c then ds[i]? else none) = some r := e
    split at e2
    · rename_i hc
      subst hc
      cases b with
      | sh rr => cases rr
      | bb he hF hl hr =>
        have := he.symm.trans T.e
        cases this
        obtain ⟨w, h1, h2⟩ := hr.get e2
        exact ⟨_, _, _, w, rfl, hF, lookup_zip T.nd hi h1, h2⟩
    · cases e2
  | _ => cases e
theorem je_fld {c i : Nat} {C : Addr} {ns : List Str} {f : Str} (T : ClsOk X.K cls c C ns) (hi : ns[i]? = some f) (ha : JE X cls W a fa) (hb : attributeBase a f X.env (eval a X.env) = eval a X.env := by rfl) : JE X cls W (.Attribute a f pos) (eUn (opFld c i) fa) := by
  obtain ⟨ta, pa, da⟩ := ha.ex
  refine ⟨_, pe_fld pa hb, ?_⟩
  intro σ F H g O Q s st p
  rw [eUn_] at p
  refine da.go s st (fun c e => by rw [e] at p; exact p) (fun e => by rw [e] at p; exact p) fun d e v F1 H1 x1 b1 => ?_
  rw [e] at p
  simp only [Res.bind] at p
  cases eo : opFld c i (opd d) with
  | none => rw [eo] at p; exact p.elim
  | some r =>
    rw [eo] at p
    obtain ⟨a, dx, fs, w, rfl, h1, h2, h3⟩ := b1.fld x1.fh T hi eo
    exact ⟨_, _, _, _, w, rfl, h1, T.cl, T.na f (List.mem_of_getElem? hi), h2, p w F1 H1 [] x1 Fresh.nil (.inr ⟨h3, rfl⟩)⟩

def spD (K : PySem.W.Frag) (cls : Cls) (n : Nat) (g : List D → Res D) : Sp := fun vs H Q E => ∃ F ds, Same F H ∧ Rps K cls F vs ds ∧ ds.length = n ∧
  match g ds with
  | .ok d => ∀ v F' H' O', Ext F H F' H' → Fresh H O' → Ow K cls F' H' v d O' → Q v H'
  | .xc c => ∀ F' H', Ext F H F' H' → E (excV cls c) none H'
  | .bad => False
mutual
/-- nothing but scalars, in new lists -/
@[simp] def flat : D → Bool
  | .non => true
  | .bl _ => true
  | .int _ => true
  | .str _ => true
  | .ol xs => flats xs
  | _ => false
@[simp] def flats : List D → Bool
  | [] => true
  | d :: ds => flat d && flats ds
end
mutual
@[simp] def plok : D → Bool
  | .bd _ _ => false
  | .bo xs => ploks xs
  | .bb _ xs => ploks xs
  | _ => true
@[simp] def ploks : List D → Bool
  | [] => true
  | d :: ds => plok d && ploks ds
end
mutual
theorem Bo.pln (s : Same F H) : ∀ {v : V} {d : D}, Bo K cls F H v d → plok d = true → Rp K cls H v (pln d)
  | _, _, .sh r, _ => by
    have r' := r.mono s
    cases r <;> exact r'
  | _, _, .bo h r, e => by
    simp only [DL.pln]
    exact .ls h (Bos.plns s r (by simpa using e))
  | _, _, .bb hc h l r, e => by
    simp only [DL.pln]
    exact .ob hc h l (Bos.plns s r (by simpa using e))
  | _, _, .bd .., e => by simp at e
theorem Bos.plns (s : Same F H) : ∀ {v : List V} {d : List D}, Bos K cls F H v d → ploks d = true → Rps K cls H v (plns d)
  | _, _, .nil, _ => .nil
  | _, _, .cons a b, e => by
    simp only [ploks, Bool.and_eq_true] at e
    simp only [DL.plns]
    exact .cons (Bo.pln s a e.1) (Bos.plns s b e.2)
end
mutual
theorem Ow.flat : ∀ {v : V} {d : D} {O : List Addr}, Ow K cls F' H' v d O → flat d = true → (∀ a ∈ O, F a = none) → Ow K cls F H' v d O
  | _, _, _, .sh r, e, _ => by
    cases r with
    | non => exact .sh .non
    | bl b => exact .sh (.bl b)
    | int b => exact .sh (.int b)
    | str b => exact .sh (.str b)
    | _ => simp at e
  | _, _, _, .ol h1 h2 h3 r, e, k => .ol (k _ (by simp)) h2 h3 (Ows.flats r (by simpa using e) fun a ha => k a (by simp [ha]))
  | _, _, _, .od .., e, _ => by simp at e
  | _, _, _, .oo .., e, _ => by simp at e
theorem Ows.flats : ∀ {v : List V} {d : List D} {O : List Addr}, Ows K cls F' H' v d O → flats d = true → (∀ a ∈ O, F a = none) → Ows K cls F H' v d O
  | _, _, _, .nil, _, _ => .nil
  | _, _, _, .cons a b dj q, e, k => by
    simp only [DL.flats, Bool.and_eq_true] at e
    exact .cons (Ow.flat a e.1 fun x hx => k x (by simp [q, hx])) (Ows.flats b e.2 fun x hx => k x (by simp [q, hx])) dj q
end
def calD (g : List D → Res D) (ds : List D) : Res D :=
  if shd ds = true then g ds
  else if ploks ds = true then (g (plns ds)).bind fun d => if flat d = true then .ok d else .bad
  else .bad
def eOwn (g : List D → Res D) (fs : Env → Res (List D)) : Env → Res D := fun e => (fs e).bind fun ds => calD g ds
@[simp] theorem eOwn_ (g : List D → Res D) (fs : Env → Res (List D)) (e : Env) : eOwn g fs e = (fs e).bind fun ds => calD g ds := rfl
theorem plns_len : ∀ ds : List D, (plns ds).length = ds.length
  | [] => rfl
  | d :: ds => by simp [plns, plns_len ds]
theorem spD_call {n : Nat} {g : List D → Res D} {vs : List V} {ds : List D} {E : XK} (s : Same F H) (b : Bos K cls F H vs ds) (hn : ds.length = n)
    (p : match calD g ds with
      | .ok d => ∀ v F' H' O', Ext F H F' H' → Fresh H O' → Ow K cls F' H' v d O' → Q v H'
      | .xc c => ∀ F' H', Ext F H F' H' → E (excV cls c) none H'
      | .bad => False) : spD K cls n g vs H Q E := by
  unfold calD at p
  by_cases h1 : shd ds = true
  · rw [if_pos h1] at p
    exact ⟨F, ds, s, b.toRps h1, hn, p⟩
  · rw [if_neg h1] at p
    by_cases h2 : ploks ds = true
    · rw [if_pos h2] at p
      refine ⟨H, plns ds, .refl H, b.plns s h2, by rw [plns_len]; exact hn, ?_⟩
      have up : ∀ {F' H'}, Ext H H F' H' → Ext F H F H' := fun x => ⟨.refl F, x.hh, s.trans x.hh, fun _ h _ => h⟩
      cases e : g (plns ds) with
      | ok d =>
        rw [e] at p
        simp only [Res.bind] at p ⊢
        by_cases h3 : flat d = true
        · rw [if_pos h3] at p
          intro v F' H' O' x fr ow
          refine p v F H' O' (up x) fr (ow.flat h3 fun a ha => ?_)
          cases q : F a with
          | none => rfl
          | some o => have := fr a ha; rw [s a o q] at this; cases this
        · rw [if_neg h3] at p; exact p.elim
      | xc c =>
        rw [e] at p
        exact fun F' H' x => p F H' (up x)
      | bad => rw [e] at p; exact p.elim
    · rw [if_neg h2] at p; exact p.elim
theorem je_own {x : Str} {f : Addr} {fd : FuncData} {ps : List Str} {k n : Nat} {g : List D → Res D} {p : Pos} (c : Cn X W k) (G : FnOk X.prog X.w X.K X.mg X.base (L2.CX X.prog X.w) k f fd ps (spD X.K cls n g))
    (hm : X.mg x = some (.ref f)) (hk : PySem.W.keepIn X.K (.ref f) = true) (hb : Binds X.K fd ps []) (ha : JA X cls W (e :: es) fs) (hn : ∀ g ds, fs g = .ok ds → ds.length = n) (hg : Gl X x := by rfl)
    (hdb : (x == ("__debug__" : Str)) = false := by decide) (he : starEach (e :: es) X.env = (false, eval e X.env) :: starEach es X.env := by rfl) (hpl : (backTo pos (starEach es X.env)).any (·.1) = false := by rfl) :
    JE X cls W (.Call (.Name x p) (e :: es) [] pos) (eOwn g fs) := by
  obtain ⟨ta, pa, da⟩ := ha.ex
  refine ⟨_, pe_callS G c.hr hg hm hk hb (fun σ => passAt c.tk σ) pa hdb he hpl, ?_⟩
  intro σ F H env O Q s st p
  rw [eOwn_] at p
  refine da.go s st (fun c e => by rw [e] at p; exact p) (fun e => by rw [e] at p; exact p) fun ds e vs F1 H1 x1 b1 => ?_
  rw [e] at p
  simp only [Res.bind] at p
  refine spD_call x1.fh b1 (hn env ds e) ?_
  cases eo : calD g ds with
  | ok d => rw [eo] at p; exact fun v F' H' O' y fr ow => p v F' H' O' (x1.trans y) (fr.mono x1.hh) (.inl ow)
  | xc c => rw [eo] at p; exact fun F' H' y => p F' H' (x1.trans y)
  | bad => rw [eo] at p; exact p
theorem an_len {g : Env} {ds : List D} {n : Nat} (h : ∀ g ds, fs g = .ok ds → ds.length = n) (e : aCons fa fs g = .ok ds) : ds.length = n + 1 := by
  rw [aCons_] at e
  cases q1 : fa g with
  | ok d =>
    rw [q1] at e
    simp only [Res.bind] at e
    cases q2 : fs g with
    | ok r => rw [q2] at e; cases e; simp [h g r q2]
    | xc c => rw [q2] at e; cases e
    | bad => rw [q2] at e; cases e
  | xc c => rw [q1] at e; cases e
  | bad => rw [q1] at e; cases e
theorem al0 : ∀ g ds, aNil g = .ok ds → ds.length = 0 := fun g ds e => by cases e; rfl
theorem alS {n : Nat} (h : ∀ g ds, fs g = .ok ds → ds.length = n) : ∀ g ds, aCons fa fs g = .ok ds → ds.length = n + 1 := fun g ds e => an_len h e

def PostS (K : PySem.W.Frag) (cls : Cls) (W : WX) (D : Ends) (F H : Hp) (O : List Addr) : Out → Prop
  | .nx g => ∀ σ' F' H' O', SExt F H O F' H' O' → Sts K cls F' H' σ' g O' → D.nx σ' H'
  | .rt d => ∀ v F' H' O', SExt F H O F' H' O' → Ow K cls F' H' v d O' → D.rt v H'
  | .bk g => ∀ σ' F' H' O', SExt F H O F' H' O' → Sts K cls F' H' σ' g O' → D.bk σ' H'
  | .ct g => ∀ σ' F' H' O', SExt F H O F' H' O' → Sts K cls F' H' σ' g O' → D.ct σ' H'
  | .xc c g => ∀ σ' F' H' O', SExt F H O F' H' O' → Sts K cls F' H' σ' g O' → W (excV cls c) none σ' H'
  | .bad => False
def DS (K : PySem.W.Frag) (cls : Cls) (W : WX) (t : TS) (f : Env → Out) : Prop :=
  ∀ D σ F H g O, Same F H → Sts K cls F H σ g O → PostS K cls W D F H O (f g) → t D σ H
structure JS (X : Cx) (cls : Cls) (W : WX) (st : Stmt) (f : Env → Out) : Prop where
  ex : ∃ t, PS X st t ∧ DS X.K cls W t f
structure JSs (X : Cx) (cls : Cls) (W : WX) (st : List Stmt) (f : Env → Out) : Prop where
  ex : ∃ t, PSs X st t ∧ DS X.K cls W t f
theorem PostS.mono {D : Ends} {r : Out} (x : SExt F H O F1 H1 O1) (p : PostS K cls W D F H O r) : PostS K cls W D F1 H1 O1 r := by
  cases r with
  | nx g => exact fun σ' F' H' O' y => p σ' F' H' O' (x.trans y)
  | rt d => exact fun v F' H' O' y => p v F' H' O' (x.trans y)
  | bk g => exact fun σ' F' H' O' y => p σ' F' H' O' (x.trans y)
  | ct g => exact fun σ' F' H' O' y => p σ' F' H' O' (x.trans y)
  | xc c g => exact fun σ' F' H' O' y => p σ' F' H' O' (x.trans y)
  | bad => exact p
def Res.st {α : Type} (r : Res α) (g : Env) (f : α → Out) : Out := match r with
  | .ok a => f a
  | .xc c => .xc c g
  | .bad => .bad
@[simp] theorem Res.st_ok {α : Type} (a : α) (g : Env) (f : α → Out) : (Res.ok a).st g f = f a := rfl
@[simp] theorem Res.st_xc {α : Type} (c : Nat) (g : Env) (f : α → Out) : (Res.xc c : Res α).st g f = .xc c g := rfl
@[simp] theorem Res.st_bad {α : Type} (g : Env) (f : α → Out) : (Res.bad : Res α).st g f = .bad := rfl
theorem xc_st {D : Ends} {c : Nat} {g : Env} (st : Sts K cls F H σ g O) (p : PostS K cls W D F H O (.xc c g)) : ∀ F' H', Ext F H F' H' → W (excV cls c) none σ H' :=
  fun F' H' x => p σ F' H' O (x.sext fun a h => .inl h) (st.ext x)
def sSeq (f u : Env → Out) : Env → Out := fun g => match f g with
  | .nx g' => u g'
  | o => o
@[simp] theorem sSeq_ (f u : Env → Out) (g : Env) : sSeq f u g = match f g with
  | .nx g' => u g'
  | o => o := rfl
def sNil : Env → Out := fun g => .nx g
@[simp] theorem sNil_ (g : Env) : sNil g = .nx g := rfl
theorem ds_seq {t u : TS} {f1 f2 : Env → Out} (h1 : DS K cls W t f1) (h2 : DS K cls W u f2) : DS K cls W (tSeq t u) (sSeq f1 f2) := by
  intro D σ F H g O s st p
  rw [sSeq_] at p
  refine h1 _ σ F H g O s st ?_
  cases e : f1 g with
  | nx g' => rw [e] at p; exact fun σ' F' H' O' x st' => h2 D σ' F' H' g' O' x.fh st' (PostS.mono x p)
  | rt d => rw [e] at p; exact p
  | bk g' => rw [e] at p; exact p
  | ct g' => rw [e] at p; exact p
  | xc c g' => rw [e] at p; exact p
  | bad => rw [e] at p; exact p
theorem jss_nil : JSs X cls W [] sNil := ⟨_, pss_nil, fun D σ F H g O s st p => p σ F H O (.refl s) st⟩
theorem jss_cons {st : Stmt} {sts : List Stmt} {f1 f2 : Env → Out} (h1 : JS X cls W st f1) (h2 : JSs X cls W sts f2) : JSs X cls W (st :: sts) (sSeq f1 f2) := by
  obtain ⟨t, p, d⟩ := h1.ex
  obtain ⟨u, q, d'⟩ := h2.ex
  exact ⟨_, pss_cons p q, ds_seq d d'⟩
theorem jss_one {st : Stmt} {f1 : Env → Out} (h1 : JS X cls W st f1) : JSs X cls W [st] f1 := by
  obtain ⟨t, p, d⟩ := h1.ex
  exact ⟨_, pss_one p, d⟩
def sNever : Env → Out := fun _ => .bad
@[simp] theorem sNever_ (g : Env) : sNever g = .bad := rfl
theorem js_never {st : Stmt} : JS X cls W st sNever := ⟨_, ps_never, fun _ _ _ _ _ _ _ _ p => p⟩
theorem jss_never {st : List Stmt} : JSs X cls W st sNever := ⟨_, pss_never, fun _ _ _ _ _ _ _ _ p => p⟩
def sIf (c : Env → Res Bool) (f1 f2 : Env → Out) : Env → Out := fun g => (c g).st g fun k => if k = true then f1 g else f2 g
@[simp] theorem sIf_ (c : Env → Res Bool) (f1 f2 : Env → Out) (g : Env) : sIf c f1 f2 g = (c g).st g fun k => if k = true then f1 g else f2 g := rfl
theorem js_if {c : Expr} {s1 s2 : List Stmt} {f1 f2 : Env → Out} (hc : JT X cls W c ga) (h1 : JSs X cls W s1 f1) (h2 : JSs X cls W s2 f2) : JS X cls W (.If c s1 s2 pos) (sIf ga f1 f2) := by
  obtain ⟨tc, pc, dc⟩ := hc.ex
  obtain ⟨t1, p1, d1⟩ := h1.ex
  obtain ⟨t2, p2, d2⟩ := h2.ex
  refine ⟨_, ps_if pc p1 p2, ?_⟩
  intro D σ F H g O s st p
  rw [sIf_] at p
  refine dc.go s st (fun c e => by rw [e] at p; exact xc_st st p) (fun e => by rw [e] at p; exact p) fun k e F1 H1 x => ?_
  rw [e, Res.st_ok] at p
  have x' : SExt F H O F1 H1 O := x.sext fun a h => .inl h
  cases k with
  | true =>
    rw [if_pos rfl] at p
    rw [if_pos rfl]
    exact d1 D σ F1 H1 g O x.fh (st.ext x) (p.mono x')
  | false =>
    rw [if_neg (by decide)] at p
    rw [if_neg (by decide)]
    exact d2 D σ F1 H1 g O x.fh (st.ext x) (p.mono x')
theorem DE.goS {t : TE} (ha : DE K cls W t fa) {σ : St} {F H : Hp} {g : Env} {O : List Addr} {Q : VK} {Dn : Ends} {f : D → Out} (s : Same F H) (st : Sts K cls F H σ g O)
    (p : PostS K cls W Dn F H O (((fa g).bind kp).st g f)) (hk : ∀ d, (fa g).bind kp = .ok d → PostS K cls W Dn F H O (f d) → ∀ v F' H' O', Ext F H F' H' → Fresh H O' → Ow K cls F' H' v d O' → Q v H') : t σ H Q := by
  refine ha.goO s st (fun c e => ?_) (fun e => by rw [e] at p; exact p) fun d e => ?_
  · have e' : (fa g).bind kp = .xc c := by rw [e]; rfl
    rw [e'] at p
    exact xc_st st p
  · rw [e] at p
    exact hk d e p
def sAsg (i : Nat) (fa : Env → Res D) : Env → Out := fun g => ((fa g).bind kp).st g fun d => .nx (g.set i d)
@[simp] theorem sAsg_ (i : Nat) (fa : Env → Res D) (g : Env) : sAsg i fa g = ((fa g).bind kp).st g fun d => .nx (g.set i d) := rfl
def sAsgF (i : Nat) (fa : Env → Res D) : Env → Out := fun g => ((fa g).bind kp).st g fun d => if nod d = true then .nx (g.set i (frz d)) else .bad
@[simp] theorem sAsgF_ (i : Nat) (fa : Env → Res D) (g : Env) : sAsgF i fa g = ((fa g).bind kp).st g fun d => if nod d = true then .nx (g.set i (frz d)) else .bad := rfl
theorem Sts.put {i : Nat} {v : V} {d : D} {g : Env} {Od : List Addr} (st : Sts K cls F H σ g O) (x : Ext F H F' H') (fr : Fresh H Od) (w : Ow K cls F' H' v d Od) :
    ∃ O'', Sts K cls F' H' (σ.set i (some v)) (g.set i d) O'' ∧ SExt F H O F' H' O'' := by
  have ne : ∀ a ∈ O, H a ≠ none := fun a ha => (st.dom a ha).2
  by_cases hi : i < g.length
  · obtain ⟨O1, h1, h2, h3, h4⟩ := st.at i hi
    obtain ⟨O'', q1, q2⟩ := h3 F' H' v d Od (fun b hb _ => x.get (st.dom b hb).1 (ne b hb)) x.ff w (fun a h1 h2 => absurd (fr a h1) (ne a h2))
    exact ⟨O'', q1, x.sext fun a ha => (q2 a ha).imp id (fr a)⟩
  · have hl := st.len
    rw [List.set_eq_of_length_le (by omega), List.set_eq_of_length_le (by omega)]
    exact ⟨O, st.ext x, x.sext fun a h => .inl h⟩
theorem Sts.putS {i : Nat} {v : V} {d : D} {g : Env} (s : Same F H) (st : Sts K cls F H σ g O) (w : Rp K cls F v d) :
    ∃ O'', Sts K cls F H (σ.set i (some v)) (g.set i d) O'' ∧ SExt F H O F H O'' := st.put (.refl s) Fresh.nil (.sh w)
theorem ds_asg {t : TE} {i : Nat} (ha : DE K cls W t fa) : DS K cls W (tAsg t (gName i)) (sAsg i fa) := by
  intro D σ F H g O s st p
  refine ha.goS s st p fun d e p v F1 H1 O1 x fr w => ?_
  obtain ⟨O'', q1, q2⟩ := st.put (i := i) x fr w
  exact p _ F1 H1 O'' q2 q1
theorem ds_asgF {t : TE} {i : Nat} (ha : DE K cls W t fa) : DS K cls W (tAsg t (gName i)) (sAsgF i fa) := by
  intro D σ F H g O s st p
  refine ha.goS s st p fun d e p v F1 H1 O1 x fr w => ?_
  split at p
  · rename_i n
    have no : ∀ a ∈ O1, F1 a = none := fun a ha => (w.dom a ha).1
    have x2 := addF_ext x fr no
    obtain ⟨O'', q1, q2⟩ := st.put (i := i) x2 Fresh.nil (.sh (w.freeze (addF_same no) addF_at n))
    exact p _ _ H1 O'' q2 q1
  · exact p.elim
theorem js_set {i : Nat} {x : Str} {pos' : Pos} {k : Nat} (c : Cn X W k) (hi : X.N[i]? = some x) (hx : Loc X.env.scope x) (ha : JE X cls W a fa) (hs : swapsWith a (some (.Name x pos')) pos.line X.env = pure false := by rfl)
    (hf : X.fn x = true ∨ X.env.scope.names.lookup x = some .local := by first | exact .inl rfl | exact .inr rfl) : JS X cls W (.Assign [.Name x pos'] a pos) (sAsg i fa) := by
  obtain ⟨t, p, d⟩ := ha.ex
  exact ⟨_, ps_set c.nd hi hx p hs hf, ds_asg d⟩
theorem js_setF {i : Nat} {x : Str} {pos' : Pos} {k : Nat} (c : Cn X W k) (hi : X.N[i]? = some x) (hx : Loc X.env.scope x) (ha : JE X cls W a fa) (hs : swapsWith a (some (.Name x pos')) pos.line X.env = pure false := by rfl)
    (hf : X.fn x = true ∨ X.env.scope.names.lookup x = some .local := by first | exact .inl rfl | exact .inr rfl) : JS X cls W (.Assign [.Name x pos'] a pos) (sAsgF i fa) := by
  obtain ⟨t, p, d⟩ := ha.ex
  exact ⟨_, ps_set c.nd hi hx p hs hf, ds_asgF d⟩
def sRet (fa : Env → Res D) : Env → Out := fun g => ((fa g).bind kp).st g .rt
@[simp] theorem sRet_ (fa : Env → Res D) (g : Env) : sRet fa g = ((fa g).bind kp).st g .rt := rfl
theorem js_ret (ha : JE X cls W a fa) : JS X cls W (.Return (some a) pos) (sRet fa) := by
  obtain ⟨t, p, d⟩ := ha.ex
  refine ⟨_, ps_ret p, ?_⟩
  intro D σ F H g O s st p
  exact d.goS s st p fun d e p v F1 H1 O1 x fr w => p v F1 H1 O1 (x.sext fun a h => .inr (fr a h)) w
def sRetV (i : Nat) : Env → Out := fun g => match g[i]? with
  | some .un => .bad
  | some d => .rt d
  | none => .bad
@[simp] theorem sRetV_ (i : Nat) (g : Env) : sRetV i g = match g[i]? with
  | some .un => .bad
  | some d => .rt d
  | none => .bad := rfl
theorem js_retV (i : Nat) {x : Str} {pos' : Pos} (hN : X.N[i]? = some x := by rfl) (hv : Vis X.env.scope x := by first | exact Or.inl rfl | exact Or.inr (Or.inl rfl) | exact Or.inr (Or.inr rfl)) (hd : (x == ("__debug__" : Str)) = false := by decide)
    (hcd : (x == ("__classdict__" : Str)) = false := by decide) : JS X cls W (.Return (some (.Name x pos')) pos) (sRetV i) := by
  refine ⟨_, ps_ret (pe_var hN hv hd hcd), ?_⟩
  intro D σ F H g O s st p
  rw [sRetV_] at p
  cases e : g[i]? with
  | none => rw [e] at p; exact p.elim
  | some d =>
    have hi : i < g.length := (List.getElem?_eq_some_iff.mp e).1
    obtain ⟨O1, h1, h2, _⟩ := st.at i hi
    rcases h2 with ⟨h2, _⟩ | ⟨v, d', h2, h3, ow⟩
    · rw [e] at h2; cases h2; rw [e] at p; exact p.elim
    · rw [e] at h3; cases h3
      rw [e] at p
      have q : PostS X.K cls W D F H O (.rt d) := by cases d <;> first | exact p | exact p.elim
      exact ⟨v, h2, q v F H O1 ⟨.refl F, s, fun _ _ h _ => h, fun _ h _ _ => h, fun a ha => .inl (h1 a ha)⟩ ow⟩
def sExp (fa : Env → Res D) : Env → Out := fun g => (fa g).st g fun _ => .nx g
@[simp] theorem sExp_ (fa : Env → Res D) (g : Env) : sExp fa g = (fa g).st g fun _ => .nx g := rfl
theorem js_exp (ha : JE X cls W a fa) (hs : swapsWith a none pos.line X.env = pure false := by rfl) : JS X cls W (.Expr a pos) (sExp fa) := by
  obtain ⟨t, p, d⟩ := ha.ex
  refine ⟨_, ps_expr p hs, ?_⟩
  intro D σ F H g O s st p
  rw [sExp_] at p
  exact d.go s st (fun c e => by rw [e] at p; exact xc_st st p) (fun e => by rw [e] at p; exact p) fun d e v F1 H1 x b => by
    rw [e] at p
    exact p σ F1 H1 O (x.sext fun a h => .inl h) (st.ext x)
def frzAt (g : Env) (i : Nat) : Env := match g[i]? with
  | some d => if nod d = true then g.set i (frz d) else g
  | none => g
def sFrz (i : Nat) (f : Env → Out) : Env → Out := fun g => f (frzAt g i)
@[simp] theorem sFrz_ (i : Nat) (f : Env → Out) (g : Env) : sFrz i f g = f (frzAt g i) := rfl
theorem Sts.frzAt (s : Same F H) {g : Env} (i : Nat) (st : Sts K cls F H σ g O) : ∃ F' O', SExt F H O F' H O' ∧ Sts K cls F' H σ (frzAt g i) O' := by
  unfold DL.frzAt
  cases e : g[i]? with
  | none => exact ⟨F, O, .refl s, st⟩
  | some d =>
    simp only []
    by_cases n : nod d = true
    · rw [if_pos n]
      have hi : i < g.length := (List.getElem?_eq_some_iff.mp e).1
      obtain ⟨O1, h1, h2, h3, h4⟩ := st.at i hi
      rcases h2 with ⟨h2, _⟩ | ⟨v, d', h2, h3', ow⟩
      · rw [e] at h2; cases h2
        rw [show frz .un = .un from rfl, set_self e]
        exact ⟨F, O, .refl s, st⟩
      · rw [e] at h3'; cases h3'
        have no : ∀ a ∈ O1, F a = none := fun a ha => (ow.dom a ha).1
        obtain ⟨O'', q1, q2⟩ := h3 (addF F H O1) H v (frz d) [] (fun b hb hn => ⟨rfl, by rw [addF_no hn]; exact (st.dom b hb).1⟩) (addF_same no) (.sh (ow.freeze (addF_same no) addF_at n)) (fun _ h => nomatch h)
        rw [set_self h2] at q1
        refine ⟨_, O'', ⟨addF_same no, fun a o e => ?_, fun _ _ h _ => h, fun a ha hb hc => ?_, fun a ha => .inl ((q2 a ha).resolve_right (fun h => nomatch h))⟩, q1⟩
        · unfold addF at e
          split at e
          · exact e
          · exact s a o e
        · rw [addF_no fun q => hc (h1 a q)]; exact ha
    · rw [if_neg n]; exact ⟨F, O, .refl s, st⟩
theorem ds_frz {t : TS} {f : Env → Out} {i : Nat} (h : DS K cls W t f) : DS K cls W t (sFrz i f) := by
  intro D σ F H g O s st p
  obtain ⟨F', O', x, st'⟩ := st.frzAt s i
  exact h D σ F' H (frzAt g i) O' x.fh st' (p.mono x)
theorem js_frz {st : Stmt} {f : Env → Out} (i : Nat) (h : JS X cls W st f) : JS X cls W st (sFrz i f) := by
  obtain ⟨t, p, d⟩ := h.ex
  exact ⟨t, p, ds_frz d⟩
end
end DL

namespace DL
open PySem L2
theorem wipe_set {σ : St} {i : Nat} {o : Option V} : ∀ {vs : List Nat}, wipe (σ.set i o) vs = if i ∈ vs then wipe σ vs else (wipe σ vs).set i o
  | [] => by simp [wipe]
  | v :: vs => by
    unfold wipe
    rw [wipe_set (vs := vs)]
    by_cases h : i = v
    · subst h
      simp only [List.mem_cons, true_or, if_true]
      split
      · rfl
      · rw [List.set_set]
    · by_cases h2 : i ∈ vs
      · simp [h2]
      · have : ¬ i ∈ v :: vs := by simp [h, h2]
        rw [if_neg this, if_neg h2, List.set_comm _ _ h]
theorem wipe_in {σ : St} {i : Nat} {o : Option V} {vs : List Nat} (h : i ∈ vs) : wipe (σ.set i o) vs = wipe σ vs := by rw [wipe_set, if_pos h]
theorem wipe_wipe {σ : St} : ∀ {us vs : List Nat}, (∀ i ∈ us, i ∈ vs) → wipe (wipe σ us) vs = wipe σ vs
  | [], _, _ => rfl
  | u :: us, vs, h => by
    show wipe ((wipe σ us).set u none) vs = _
    rw [wipe_in (h u (by simp))]
    exact wipe_wipe fun i hi => h i (by simp [hi])
def wipeG (g : Env) : List Nat → Env
  | [] => g
  | v :: vs => (wipeG g vs).set v .un
@[simp] theorem wipeG_nil (g : Env) : wipeG g [] = g := rfl
@[simp] theorem wipeG_cons (g : Env) (v : Nat) (vs : List Nat) : wipeG g (v :: vs) = (wipeG g vs).set v .un := rfl
section
variable {K : PySem.W.Frag} {cls : Cls} {W : WX} {X : Cx} {F H F' H' F1 H1 : Hp} {O O1 : List Addr} {Q : VK} {σ : St} {a b e tg iter : Expr} {es : List Expr} {fa fb fc : Env → Res D} {ga gb : Env → Res Bool} {fs : Env → Res (List D)} {pos : Pos}
theorem Sts.wipe (s : Same F H) {g : Env} (st : Sts K cls F H σ g O) : ∀ vs : List Nat, ∃ O', Sts K cls F H (wipe σ vs) (wipeG g vs) O' ∧ ∀ a ∈ O', a ∈ O
  | [] => ⟨O, st, fun _ h => h⟩
  | v :: vs => by
    obtain ⟨O', st', h'⟩ := st.wipe s vs
    by_cases hi : v < (wipeG g vs).length
    · obtain ⟨O1, h1, h2, h3, h4⟩ := st'.at v hi
      obtain ⟨O'', q1, q2, _⟩ := h4 F H none (fun b hb _ => ⟨rfl, (st'.dom b hb).1⟩) (.refl F)
      exact ⟨O'', q1, fun a ha => h' a (q2 a ha)⟩
    · have hl := st'.len
      refine ⟨O', ?_, h'⟩
      show Sts K cls F H ((L2.wipe σ vs).set v none) ((wipeG g vs).set v .un) O'
      rw [List.set_eq_of_length_le (by omega), List.set_eq_of_length_le (by omega)]
      exact st'

def DG (K : PySem.W.Frag) (cls : Cls) (t : TG) (f : D → Env → Option Env) (ss : List Nat) : Prop :=
  ∀ v d σ F H g O g' Q, Same F H → Sts K cls F H σ g O → Rp K cls F v d → f d g = some g' →
    (∀ σ' O', SExt F H O F H O' → Sts K cls F H σ' g' O' → (∀ vs : List Nat, (∀ i ∈ ss, i ∈ vs) → wipe σ' vs = wipe σ vs) → Q σ' H) → t v σ H Q
def DGs (K : PySem.W.Frag) (cls : Cls) (t : TGs) (f : List D → Env → Option Env) (ss : List Nat) : Prop :=
  ∀ v d σ F H g O g' Q, Same F H → Sts K cls F H σ g O → Rps K cls F v d → f d g = some g' →
    (∀ σ' O', SExt F H O F H O' → Sts K cls F H σ' g' O' → (∀ vs : List Nat, (∀ i ∈ ss, i ∈ vs) → wipe σ' vs = wipe σ vs) → Q σ' H) → t v σ H Q
structure JG (X : Cx) (cls : Cls) (e : Expr) (f : D → Env → Option Env) (ss : List Nat) : Prop where
  ex : ∃ t, PG X e t ∧ DG X.K cls t f ss
structure JGs (X : Cx) (cls : Cls) (e : List Expr) (f : List D → Env → Option Env) (ss : List Nat) : Prop where
  ex : ∃ t, PGs X e t ∧ DGs X.K cls t f ss
def gtN (i : Nat) : D → Env → Option Env := fun d g => some (g.set i d)
@[simp] theorem gtN_ (i : Nat) (d : D) (g : Env) : gtN i d g = some (g.set i d) := rfl
def gtNil : List D → Env → Option Env := fun ds g => match ds with | [] => some g | _ => none
@[simp] theorem gtNil_nil (g : Env) : gtNil [] g = some g := rfl
def gtCons (f : D → Env → Option Env) (fs : List D → Env → Option Env) : List D → Env → Option Env := fun ds g => match ds with
  | d :: r => match f d g with
    | some g1 => fs r g1
    | none => none
  | [] => none
@[simp] theorem gtCons_cons (f : D → Env → Option Env) (fs : List D → Env → Option Env) (d : D) (r : List D) (g : Env) : gtCons f fs (d :: r) g = match f d g with
    | some g1 => fs r g1
    | none => none := rfl
def gtT (n : Nat) (fs : List D → Env → Option Env) : D → Env → Option Env := fun d g => match d with
  | .tp ds => if ds.length = n then fs ds g else none
  | .ls ds => if ds.length = n then fs ds g else none
  | _ => none
@[simp] theorem gtT_tp (n : Nat) (fs : List D → Env → Option Env) (ds : List D) (g : Env) : gtT n fs (.tp ds) g = if ds.length = n then fs ds g else none := rfl
@[simp] theorem gtT_ls (n : Nat) (fs : List D → Env → Option Env) (ds : List D) (g : Env) : gtT n fs (.ls ds) g = if ds.length = n then fs ds g else none := rfl
theorem jg_name {i : Nat} {x : Str} (hN : X.N.Nodup) (hi : X.N[i]? = some x) (hx : Loc X.env.scope x) (hf : X.fn x = true ∨ X.env.scope.names.lookup x = some .local := by first | exact .inl rfl | exact .inr rfl) : JG X cls (.Name x pos) (gtN i) [i] := by
  refine ⟨_, pg_name hN hi hx hf, ?_⟩
  intro v d σ F H g O g' Q s st r e k
  cases e
  obtain ⟨O', q1, q2⟩ := st.putS (i := i) s r
  exact k _ O' q2 q1 fun vs h => wipe_in (h i (by simp))
theorem jgs_nil : JGs X cls [] gtNil [] := by
  refine ⟨_, pgs_nil, ?_⟩
  intro v d σ F H g O g' Q s st r e k
  cases r with
  | nil => cases e; exact ⟨rfl, k σ O (.refl s) st fun _ _ => rfl⟩
  | cons => cases e
theorem jgs_cons {f : D → Env → Option Env} {fs : List D → Env → Option Env} {ss us : List Nat} (h1 : JG X cls e f ss) (h2 : JGs X cls es fs us) (hs : (assignEach (e :: es) X.env).map (·.2) = assign e X.env :: (assignEach es X.env).map (·.2) := by rfl) :
    JGs X cls (e :: es) (gtCons f fs) (ss ++ us) := by
  obtain ⟨t, p, d⟩ := h1.ex
  obtain ⟨u, q, d'⟩ := h2.ex
  refine ⟨_, pgs_cons p q hs, ?_⟩
  intro v ds σ F H g O g' Q s st r e k
  cases r with
  | nil => cases e
  | cons r1 r2 =>
    rename_i v1 d1 vs1 ds1
    rw [gtCons_cons] at e
    cases e1 : f d1 g with
    | none => rw [e1] at e; cases e
    | some g1 =>
      rw [e1] at e
      refine ⟨v1, vs1, rfl, d v1 d1 σ F H g O g1 _ s st r1 e1 fun σ1 O1 x1 st1 w1 => ?_⟩
      refine d' vs1 ds1 σ1 F H g1 O1 g' _ s st1 r2 e fun σ2 O2 x2 st2 w2 => ?_
      exact k σ2 O2 (x1.trans x2) st2 fun vs h => (w2 vs fun i hi => h i (List.mem_append_right _ hi)).trans (w1 vs fun i hi => h i (List.mem_append_left _ hi))
theorem pg_or {t u : TG} (h : PG X tg t) (h' : PG X tg u) : PG X tg (fun v σ H Q => t v σ H Q ∨ u v σ H Q) :=
  ⟨fun pins s σ H v uu Q I r q => q.elim (h.run pins s σ H v uu Q I r) (h'.run pins s σ H v uu Q I r)⟩
theorem jg_tup {kk n : Nat} {fs : List D → Env → Option Env} {ss : List Nat} (hc : X.calm = true) (h : JGs X cls es fs ss)
    (hn : (assignEach es X.env).length = n := by rfl) (hst : (assignEach es X.env).findIdx? (·.1) = none := by rfl) : JG X cls (.Tuple es kk pos) (gtT n fs) ss := by
  obtain ⟨t, p, d⟩ := h.ex
  refine ⟨_, pg_or (pg_tup hc p hn hst) (pg_lst hc p hn hst), ?_⟩
  intro v dd σ F H g O g' Q s st r e k
  cases r with
  | tp hT hr =>
    rw [gtT_tp] at e
    split at e
    · rename_i hl
      exact .inl ⟨_, _, rfl, sameT s hT, by rw [hr.len]; exact hl, d _ _ σ F H g O g' Q s st hr e k⟩
    · cases e
  | ls hT hr =>
    rw [gtT_ls] at e
    split at e
    · rename_i hl
      exact .inr ⟨_, _, rfl, SqL.of (s _ _ hT), by rw [hr.len]; exact hl, d _ _ σ F H g O g' Q s st hr e k⟩
    · cases e
  | _ => cases e
def sAsgT (tg : D → Env → Option Env) (fa : Env → Res D) : Env → Out := fun g => ((fa g).bind kp).st g fun d => if nod d = true then match tg (frz d) g with
  | some g' => .nx g'
  | none => .bad else .bad
@[simp] theorem sAsgT_ (tg : D → Env → Option Env) (fa : Env → Res D) (g : Env) : sAsgT tg fa g = ((fa g).bind kp).st g fun d => if nod d = true then match tg (frz d) g with
  | some g' => .nx g'
  | none => .bad else .bad := rfl
theorem js_asgT {ft : D → Env → Option Env} {ss : List Nat} (ha : JE X cls W a fa) (hg : JG X cls tg ft ss) (hs : swapsWithSole [tg] a pos.line X.env = pure false := by rfl) (hw : swappedStores [tg] a X.env = pure none := by rfl)
    (h1 : (assignEach [tg] X.env).map (·.2) = [assign tg X.env] := by rfl) : JS X cls W (.Assign [tg] a pos) (sAsgT ft fa) := by
  obtain ⟨t, p, d⟩ := ha.ex
  obtain ⟨u, q, d'⟩ := hg.ex
  refine ⟨_, ps_asg p q hs hw h1, ?_⟩
  intro D σ F H g O s st p
  rw [sAsgT_] at p
  refine d.goS s st p fun dd e p v F1 H1 O1 x fr w => ?_
  split at p
  · rename_i n
    have no : ∀ a ∈ O1, F1 a = none := fun a ha => (w.dom a ha).1
    have x2 := addF_ext x fr no
    have r := w.freeze (addF_same no) addF_at n
    cases eo : ft (frz dd) g with
    | none => rw [eo] at p; exact p.elim
    | some g' =>
      rw [eo] at p
      refine d' v (frz dd) σ _ H1 g O g' _ x2.fh (st.ext x2) r eo fun σ' O' y st' _ => ?_
      exact p σ' _ H1 O' ((x2.sext fun a h => .inl h).trans y) st'
  · exact p.elim
def sPar (i j : Nat) (fs : Env → Res (List D)) : Env → Out := fun g => (fs g).st g fun ds => if nods ds = true then match frzs ds with
  | [d, d'] => .nx ((g.set i d).set j d')
  | _ => .bad else .bad
@[simp] theorem sPar_ (i j : Nat) (fs : Env → Res (List D)) (g : Env) : sPar i j fs g = (fs g).st g fun ds => if nods ds = true then match frzs ds with
  | [d, d'] => .nx ((g.set i d).set j d')
  | _ => .bad else .bad := rfl
theorem js_par {i j : Nat} {x y : Str} {px py pt : Pos} {kt k2 pt2} {k : Nat} (c : Cn X W k) (hi : X.N[i]? = some x) (hj : X.N[j]? = some y) (hij : i ≠ j)
    (hx : X.env.scope.names.lookup x = some .local) (hy : X.env.scope.names.lookup y = some .local) (ha : JAO X cls W [a, b] fs)
    (hw : swappedStores [.Tuple [.Name x px, .Name y py] kt pt] (.Tuple [a, b] k2 pt2) X.env = pure (some [x, y]) := by rfl)
    (hs : swapsWithSole [.Tuple [.Name x px, .Name y py] kt pt] (.Tuple [a, b] k2 pt2) pos.line X.env = pure false := by rfl) :
    JS X cls W (.Assign [.Tuple [.Name x px, .Name y py] kt pt] (.Tuple [a, b] k2 pt2) pos) (sPar i j fs) := by
  obtain ⟨t, p, d⟩ := ha.ex
  refine ⟨_, ps_par c.calm c.nd hi hj hij hx hy p hw hs, ?_⟩
  intro D σ F H g O s st p
  rw [sPar_] at p
  refine d.go s st (fun c e => by rw [e] at p; exact xc_st st p) (fun e => by rw [e] at p; exact p) fun ds e vs F1 H1 O1 x fr w => ?_
  rw [e, Res.st_ok] at p
  split at p
  · rename_i n
    have no : ∀ a ∈ O1, F1 a = none := fun a ha => (w.dom a ha).1
    have x2 := addF_ext x fr no
    have r := w.freeze (addF_same no) addF_at n
    split at p
    · rename_i d1 d2 eq
      rw [eq] at r
      cases r with
      | cons r1 r2 =>
        cases r2 with
        | cons r2 r3 =>
          cases r3
          obtain ⟨O2, q1, q2⟩ := st.put (i := i) x2 Fresh.nil (.sh r1)
          obtain ⟨O3, z1, z2⟩ := q1.putS (i := j) x2.fh r2
          exact ⟨_, _, rfl, p _ _ H1 O3 (q2.trans z2) z1⟩
    · exact p.elim
  · exact p.elim
end
end DL

namespace DL
open PySem L2
section
variable {K : PySem.W.Frag} {cls : Cls} {W : WX} {X : Cx} {F H F' H' F1 H1 : Hp} {O O1 : List Addr} {Q : VK} {σ : St} {a b e tg iter : Expr} {es : List Expr} {fa fb fc : Env → Res D} {ga gb : Env → Res Bool} {fs : Env → Res (List D)} {pos : Pos}
structure Feeds (K : PySem.W.Frag) (cls : Cls) (F : Hp) (J : It) (ds : List D) : Prop where
  go : ∀ i d, ds[i]? = some d → ∀ F' H', Same F F' → Same F' H' → J.go i H' ∧ ∀ x H'', J.yld i H' x H'' → ∃ F'', Ext F' H' F'' H'' ∧ Rp K cls F'' x d
  stop : ∀ F' H', Same F F' → Same F' H' → J.stop ds.length H'
def PostI (K : PySem.W.Frag) (cls : Cls) (W : WX) (σ : St) (F H : Hp) (R : It → Hp → Prop) : Res (List D) → Prop
  | .ok ds => ∀ J F' H', Ext F H F' H' → Feeds K cls F' J ds → R J H'
  | .xc c => ∀ F' H', Ext F H F' H' → W (excV cls c) none σ H'
  | .bad => False
def DI (K : PySem.W.Frag) (cls : Cls) (W : WX) (wi : TI) (f : Env → Res (List D)) : Prop :=
  ∀ σ F H g O (R : It → Hp → Prop), Same F H → Sts K cls F H σ g O → PostI K cls W σ F H R (f g) → wi σ H R
structure JI (X : Cx) (cls : Cls) (W : WX) (tg e : Expr) (f : Env → Res (List D)) : Prop where
  ex : ∃ wi, PI X tg e wi ∧ DI X.K cls W wi f
theorem pi_or {w1 w2 : TI} (h1 : PI X tg iter w1) (h2 : PI X tg iter w2) : PI X tg iter (fun σ H R => w1 σ H R ∨ w2 σ H R) :=
  ⟨fun pins s σ H R I q => q.elim (h1.run pins s σ H R I) (h2.run pins s σ H R I)⟩
theorem feeds_list {a : Addr} {vs : List V} {ds : List D} (h : SqL K F a vs) (r : Rps K cls F vs ds) : Feeds K cls F (Itl K a) ds where
  go := fun i d e F' H' s1 s2 => by
    obtain ⟨v, h1, h2⟩ := r.get e
    have h' : SqL K H' a vs := (s1.trans s2).seq h
    refine ⟨⟨vs, v, h', h1⟩, fun x H'' y => ?_⟩
    obtain ⟨e1, y⟩ := y
    subst e1
    have := y vs h'
    rw [h1] at this
    cases this
    exact ⟨F', .refl s2, h2.mono s1⟩
  stop := fun F' H' s1 s2 => ⟨vs, (s1.trans s2).seq h, by rw [r.len]; exact Nat.le_refl _⟩
theorem feeds_tup {a : Addr} {vs : List V} {ds : List D} (h : SqT K F a vs) (r : Rps K cls F vs ds) : Feeds K cls F (Itt K a) ds where
  go := fun i d e F' H' s1 s2 => by
    obtain ⟨v, h1, h2⟩ := r.get e
    have h' : SqT K H' a vs := sameT (s1.trans s2) h
    refine ⟨⟨vs, v, h', h1⟩, fun x H'' y => ?_⟩
    obtain ⟨e1, y⟩ := y
    subst e1
    have := y vs h'
    rw [h1] at this
    cases this
    exact ⟨F', .refl s2, h2.mono s1⟩
  stop := fun F' H' s1 s2 => ⟨vs, sameT (s1.trans s2) h, by rw [r.len]; exact Nat.le_refl _⟩
@[simp] def lsS : D → Option (List D)
  | .ls xs => some xs
  | .sc xs => some xs
  | _ => none
theorem Bo.lsS {v : V} {d : D} {xs : List D} (b : Bo K cls F H v d) (e : lsS d = some xs) : ∃ a vs, v = .ref a ∧ SqL K F a vs ∧ Rps K cls F vs xs := by
  cases b with
  | sh r =>
    cases r <;> simp at e
    · subst e; exact ⟨_, _, rfl, by assumption, by assumption⟩
    · subst e; exact ⟨_, _, rfl, SqL.of (by assumption), by assumption⟩
  | bo => simp at e
  | bd => simp at e
  | bb => simp at e
@[simp] def sqS : D → Option (List D)
  | .ls xs => some xs
  | .sc xs => some xs
  | .tp xs => some xs
  | _ => none
def iSeq (fa : Env → Res D) : Env → Res (List D) := fun g => (fa g).bind fun a => .of (sqS (opd a))
@[simp] theorem iSeq_ (fa : Env → Res D) (g : Env) : iSeq fa g = (fa g).bind fun a => .of (sqS (opd a)) := rfl
theorem ji_seq (ha : JE X cls W iter fa) : JI X cls W tg iter (iSeq fa) := by
  obtain ⟨t, p, d⟩ := ha.ex
  refine ⟨_, pi_or (pi_list p) (pi_tup p), ?_⟩
  intro σ F H g O R s st p
  rw [iSeq_] at p
  cases ea : fa g with
  | xc c =>
    rw [ea] at p
    exact .inl (d.go s st (fun c e => by rw [ea] at e; cases e; exact p) (fun e => by rw [ea] at e; cases e) fun d e => by rw [ea] at e; cases e)
  | bad => rw [ea] at p; exact p.elim
  | ok dd =>
    rw [ea] at p
    simp only [Res.bind] at p
    have side : (∃ xs, lsS (opd dd) = some xs ∧ sqS (opd dd) = some xs) ∨ (∃ xs, tpv (opd dd) = some xs ∧ sqS (opd dd) = some xs) ∨ sqS (opd dd) = none := by
      cases opd dd <;> simp
    rcases side with ⟨xs, e1, e2⟩ | ⟨xs, e1, e2⟩ | e2
    · rw [e2] at p
      refine .inl (d.go s st (fun c e => by rw [ea] at e; cases e) (fun e => by rw [ea] at e; cases e) fun d e v F1 H1 x b => ?_)
      rw [ea] at e; cases e
      obtain ⟨a, vs, rfl, h, r⟩ := b.lsS e1
      exact ⟨a, rfl, ⟨vs, x.fh.seq h⟩, p _ F1 H1 x (feeds_list h r)⟩
    · rw [e2] at p
      refine .inr (d.go s st (fun c e => by rw [ea] at e; cases e) (fun e => by rw [ea] at e; cases e) fun d e v F1 H1 x b => ?_)
      rw [ea] at e; cases e
      obtain ⟨a, vs, rfl, h, h', r⟩ := b.tpv x.fh e1
      exact ⟨a, rfl, ⟨vs, h⟩, p _ F1 H1 x (feeds_tup h' r)⟩
    · rw [e2] at p; exact p.elim
def rng (lo : Int) (n : Nat) : List D := (List.range n).map fun i : Nat => D.int (lo + (i : Int))
theorem rng_len (lo : Int) (n : Nat) : (rng lo n).length = n := by unfold rng; simp
theorem rng_get {lo : Int} {n i : Nat} {d : D} (h : (rng lo n)[i]? = some d) : i < n ∧ d = .int (lo + (i : Int)) := by
  unfold rng at h
  rw [List.getElem?_map] at h
  by_cases hi : i < n
  · rw [List.getElem?_range hi] at h
    cases h
    exact ⟨hi, rfl⟩
  · rw [List.getElem?_eq_none (by simpa using hi)] at h; cases h
theorem feeds_rng (lo : Int) (n : Nat) : Feeds K cls F (Itr lo n) (rng lo n) where
  go := fun i d e F' H' s1 s2 => by
    obtain ⟨h1, rfl⟩ := rng_get e
    refine ⟨h1, fun x H'' y => ?_⟩
    obtain ⟨e1, e2⟩ := y
    subst e1 e2
    exact ⟨F', .refl s2, .int _⟩
  stop := fun F' H' s1 s2 => by rw [rng_len]; exact Nat.le_refl _
def rgOk (i : Int) : Prop := i.natAbs ≤ 1000000000
theorem rgOk.lo {i : Int} (h : rgOk i) : -(2 ^ 62) ≤ i := by unfold rgOk at h; omega
theorem rgOk.hi {i : Int} (h : rgOk i) : i < 2 ^ 62 := by unfold rgOk at h; omega
instance (i : Int) : Decidable (rgOk i) := by unfold rgOk; infer_instance
theorem rgOk_of {i : Int} (h : -1000000000 ≤ i) (h' : i ≤ 1000000000) : rgOk i := by unfold rgOk; omega
def iRg1 (fs : Env → Res (List D)) : Env → Res (List D) := fun g => (fs g).bind fun ds => match ds with
  | [.int j] => if rgOk j then .ok (rng 0 j.toNat) else .bad
  | _ => .bad
def iRg2 (fs : Env → Res (List D)) : Env → Res (List D) := fun g => (fs g).bind fun ds => match ds with
  | [.int i, .int j] => if rgOk i ∧ rgOk j then .ok (rng i (j - i).toNat) else .bad
  | _ => .bad
@[simp] theorem iRg1_ (fs : Env → Res (List D)) (g : Env) : iRg1 fs g = (fs g).bind fun ds => match ds with
  | [.int j] => if rgOk j then .ok (rng 0 j.toNat) else .bad
  | _ => .bad := rfl
@[simp] theorem iRg2_ (fs : Env → Res (List D)) (g : Env) : iRg2 fs g = (fs g).bind fun ds => match ds with
  | [.int i, .int j] => if rgOk i ∧ rgOk j then .ok (rng i (j - i).toNat) else .bad
  | _ => .bad := rfl
theorem ji_rg1 {p : Pos} (hm : X.mg "range" = none) (ha : JA X cls W [a] fs) (hg : Gl X "range" := by rfl) (hs : starEach [a] X.env = [(false, eval a X.env)] := by rfl) : JI X cls W tg (.Call (.Name "range" p) [a] [] pos) (iRg1 fs) := by
  obtain ⟨t, p, d⟩ := ha.ex
  refine ⟨_, pi_range1 hg hm p hs, ?_⟩
  intro σ F H g O R s st p
  rw [iRg1_] at p
  refine d.go s st (fun c e => by rw [e] at p; exact p) (fun e => by rw [e] at p; exact p) fun ds e vs F1 H1 x b => ?_
  rw [e] at p
  simp only [Res.bind] at p
  split at p
  · rename_i j
    split at p
    · rename_i hj
      obtain ⟨v, rfl, b1⟩ := b.one
      obtain rfl := b1.int
      exact ⟨j, rfl, hj.lo, hj.hi, p _ F1 H1 x (feeds_rng 0 j.toNat)⟩
    · exact p.elim
  · exact p.elim
theorem ji_rg2 {p : Pos} (hm : X.mg "range" = none) (ha : JA X cls W [a, b] fs) (hg : Gl X "range" := by rfl) (hs : starEach [a, b] X.env = [(false, eval a X.env), (false, eval b X.env)] := by rfl) (hs2 : starEach [b] X.env = [(false, eval b X.env)] := by rfl) :
    JI X cls W tg (.Call (.Name "range" p) [a, b] [] pos) (iRg2 fs) := by
  obtain ⟨t, p, d⟩ := ha.ex
  refine ⟨_, pi_range2 hg hm p hs hs2, ?_⟩
  intro σ F H g O R s st p
  rw [iRg2_] at p
  refine d.go s st (fun c e => by rw [e] at p; exact p) (fun e => by rw [e] at p; exact p) fun ds e vs F1 H1 x b => ?_
  rw [e] at p
  simp only [Res.bind] at p
  split at p
  · rename_i i j
    split at p
    · rename_i hj
      obtain ⟨v, v', rfl, b1, b2⟩ := b.two
      obtain rfl := b1.int
      obtain rfl := b2.int
      exact ⟨i, j, rfl, ⟨hj.1.lo, hj.1.hi, hj.2.lo, hj.2.hi⟩, p _ F1 H1 x (feeds_rng i _)⟩
    · exact p.elim
  · exact p.elim
def enm (i : Nat) : List D → List D
  | [] => []
  | d :: ds => .tp [.int (i : Int), d] :: enm (i + 1) ds
theorem enm_len : ∀ (ds : List D) (i : Nat), (enm i ds).length = ds.length
  | [], _ => rfl
  | d :: ds, i => by simp [enm, enm_len ds]
theorem enm_get : ∀ {ds : List D} {j i : Nat} {d : D}, (enm j ds)[i]? = some d → ∃ e, ds[i]? = some e ∧ d = .tp [.int ((j + i : Nat) : Int), e]
  | [], _, _, _, h => by simp [enm] at h
  | d :: ds, j, 0, _, h => by simp [enm] at h; exact ⟨d, rfl, by simp [← h]⟩
  | d :: ds, j, i + 1, d2, h => by
    have h' : (enm (j + 1) ds)[i]? = some d2 := by simpa [enm] using h
    obtain ⟨e, h1, h2⟩ := enm_get h'
    exact ⟨e, by simpa using h1, by rw [h2, show j + 1 + i = j + (i + 1) by omega]⟩
theorem feeds_enum {a : Addr} {vs : List V} {ds : List D} (h : SqL K F a vs) (r : Rps K cls F vs ds) : Feeds K cls F (Ite K a) (enm 0 ds) where
  go := fun i d e F' H' s1 s2 => by
    obtain ⟨d', e1, rfl⟩ := enm_get e
    obtain ⟨v, h1, h2⟩ := r.get e1
    have h' : SqL K H' a vs := (s1.trans s2).seq h
    refine ⟨⟨vs, v, h', h1⟩, fun x H'' y => ?_⟩
    obtain ⟨T, w, e1, e2, e3, y⟩ := y
    subst e1 e3
    have := y vs h'
    rw [h1] at this
    cases this
    have px := Ext.put (o := .tup [.int ((0 + i : Nat) : Int), v]) s2 e2
    rw [Nat.zero_add] at px ⊢
    exact ⟨_, px, .tp (SqT.of upd_same) (.cons (.int _) (.cons (h2.mono (s1.trans px.ff)) .nil))⟩
  stop := fun F' H' s1 s2 => ⟨vs, (s1.trans s2).seq h, by rw [enm_len, r.len]; exact Nat.le_refl _⟩
def iEnm (fs : Env → Res (List D)) : Env → Res (List D) := fun g => (fs g).bind fun ds => match ds with
  | [d] => (Res.of (lsS d)).bind fun xs => .ok (enm 0 xs)
  | _ => .bad
@[simp] theorem iEnm_ (fs : Env → Res (List D)) (g : Env) : iEnm fs g = (fs g).bind fun ds => match ds with
  | [d] => (Res.of (lsS d)).bind fun xs => .ok (enm 0 xs)
  | _ => .bad := rfl
theorem ji_enm {p tpos : Pos} {elts : List Expr} {kk : Nat} (hm : X.mg "enumerate" = none) (ha : JA X cls W [a] fs) (hg : Gl X "enumerate" := by rfl) (hs : starEach [a] X.env = [(false, eval a X.env)] := by rfl) :
    JI X cls W (.Tuple elts kk tpos) (.Call (.Name "enumerate" p) [a] [] pos) (iEnm fs) := by
  obtain ⟨t, p, d⟩ := ha.ex
  refine ⟨_, pi_enum hg hm p hs, ?_⟩
  intro σ F H g O R s st p
  rw [iEnm_] at p
  refine d.go s st (fun c e => by rw [e] at p; exact p) (fun e => by rw [e] at p; exact p) fun ds e vs F1 H1 x b => ?_
  rw [e] at p
  simp only [Res.bind] at p
  split at p
  · rename_i d1
    cases e1 : lsS d1 with
    | none => rw [e1] at p; exact p.elim
    | some xs =>
      rw [e1] at p
      simp only [Res.of] at p
      obtain ⟨v, rfl, b1⟩ := b.one
      obtain ⟨a, vs, rfl, h, r⟩ := b1.lsS e1
      exact ⟨a, vs, rfl, x.fh.seq h, p _ F1 H1 x (feeds_enum h r)⟩
  · exact p.elim
def zipD : List D → List D → List D
  | a :: xs, b :: ys => .tp [a, b] :: zipD xs ys
  | _, _ => []
theorem zipD_len : ∀ (xs ys : List D), (zipD xs ys).length = min xs.length ys.length
  | [], _ => by simp [zipD]
  | _ :: _, [] => by simp [zipD]
  | a :: xs, b :: ys => by simp [zipD, zipD_len xs ys]
theorem zipD_get : ∀ {xs ys : List D} {i : Nat} {d : D}, (zipD xs ys)[i]? = some d → ∃ x y, xs[i]? = some x ∧ ys[i]? = some y ∧ d = .tp [x, y]
  | [], _, _, _, h => by simp [zipD] at h
  | _ :: _, [], _, _, h => by simp [zipD] at h
  | a :: xs, b :: ys, 0, _, h => by simp [zipD] at h; exact ⟨a, b, rfl, rfl, h.symm⟩
  | a :: xs, b :: ys, i + 1, d2, h => by
    have h' : (zipD xs ys)[i]? = some d2 := by simpa [zipD] using h
    obtain ⟨x, y, h1, h2, h3⟩ := zipD_get h'
    exact ⟨x, y, by simpa using h1, by simpa using h2, h3⟩
theorem feeds_zip {a b : Addr} {vs ws : List V} {ds es : List D} (h : SqL K F a vs) (r : Rps K cls F vs ds) (h2 : SqL K F b ws) (r2 : Rps K cls F ws es) : Feeds K cls F (Itz K a b) (zipD ds es) where
  go := fun i d e F' H' s1 s2 => by
    obtain ⟨x, y, e1, e2, rfl⟩ := zipD_get e
    obtain ⟨v, q1, q2⟩ := r.get e1
    obtain ⟨w, q3, q4⟩ := r2.get e2
    have h' : SqL K H' a vs := (s1.trans s2).seq h
    have h2' : SqL K H' b ws := (s1.trans s2).seq h2
    refine ⟨⟨vs, ws, v, w, h', h2', q1, q3⟩, fun x H'' z => ?_⟩
    obtain ⟨T, v', w', e1, e2, e3, z1, z2⟩ := z
    subst e1 e3
    have := z1 vs h'
    rw [q1] at this
    cases this
    have := z2 ws h2'
    rw [q3] at this
    cases this
    have px := Ext.put (o := .tup [v, w]) s2 e2
    exact ⟨_, px, .tp (SqT.of upd_same) (.cons (q2.mono (s1.trans px.ff)) (.cons (q4.mono (s1.trans px.ff)) .nil))⟩
  stop := fun F' H' s1 s2 => ⟨vs, ws, (s1.trans s2).seq h, (s1.trans s2).seq h2, by rw [zipD_len, r.len, r2.len]; omega⟩
def forL (tg : D → Env → Option Env) (b : Env → Out) : List D → Env → Out
  | [], g => .nx g
  | d :: ds, g => match tg d g with
    | none => .bad
    | some g1 => match b g1 with
      | .nx g' => forL tg b ds g'
      | .ct g' => forL tg b ds g'
      | .bk g' => .nx g'
      | o => o
@[simp] theorem forL_nil (tg : D → Env → Option Env) (b : Env → Out) (g : Env) : forL tg b [] g = .nx g := rfl
theorem forL_cons (tg : D → Env → Option Env) (b : Env → Out) (d : D) (ds : List D) (g : Env) : forL tg b (d :: ds) g = match tg d g with
    | none => .bad
    | some g1 => match b g1 with
      | .nx g' => forL tg b ds g'
      | .ct g' => forL tg b ds g'
      | .bk g' => .nx g'
      | o => o := rfl
def sFor (fi : Env → Res (List D)) (tg : D → Env → Option Env) (b : Env → Out) : Env → Out := fun g => (fi g).st g fun ds => forL tg b ds g
@[simp] theorem sFor_ (fi : Env → Res (List D)) (tg : D → Env → Option Env) (b : Env → Out) (g : Env) : sFor fi tg b g = (fi g).st g fun ds => forL tg b ds g := rfl
theorem ds_for {wi : TI} {t : TG} {tb : TS} {ft : D → Env → Option Env} {fbo : Env → Out} {ss : List Nat} (hi : DI K cls W wi fs) (hg : DG K cls t ft ss) (hb : DS K cls W tb fbo) : DS K cls W (tFor wi t tb) (sFor fs ft fbo) := by
  intro D σ F H g O s st p
  rw [sFor_] at p
  refine hi σ F H g O _ s st ?_
  cases e : fs g with
  | bad => rw [e] at p; exact p
  | xc c => rw [e] at p; exact xc_st st p
  | ok ds =>
    rw [e, Res.st_ok] at p
    intro J F1 H1 x1 fd
    have x1' : SExt F H O F1 H1 O := x1.sext fun a h => .inl h
    refine ⟨fun i m σ2 H2 => m = ds.length - i ∧ i ≤ ds.length ∧ ∃ F2 g2 O2, SExt F1 H1 O F2 H2 O2 ∧ Sts K cls F2 H2 σ2 g2 O2 ∧ PostS K cls W D F1 H1 O (forL ft fbo (ds.drop i) g2),
      ⟨ds.length, rfl, Nat.zero_le _, F1, g, O, .refl x1.fh, st.ext x1, by rw [List.drop_zero]; exact p.mono x1'⟩, ?_⟩
    rintro i m σ2 H2 ⟨rfl, hi, F2, g2, O2, x2, st2, p2⟩
    by_cases hlt : i < ds.length
    · have ed : ds.drop i = ds[i] :: ds.drop (i + 1) := List.drop_eq_getElem_cons hlt
      rw [ed, forL_cons] at p2
      obtain ⟨g0, y0⟩ := fd.go i ds[i] (by simp [hlt]) F2 H2 x2.ff x2.fh
      have nxt : ∀ {g' : Env} {F3 H3 O3 : _} {σ3 : St}, SExt F1 H1 O F3 H3 O3 → Sts K cls F3 H3 σ3 g' O3 → PostS K cls W D F1 H1 O (forL ft fbo (ds.drop (i + 1)) g') →
          ∃ m', m' < ds.length - i ∧ m' = ds.length - (i + 1) ∧ i + 1 ≤ ds.length ∧ ∃ F2 g2 O2, SExt F1 H1 O F2 H3 O2 ∧ Sts K cls F2 H3 σ3 g2 O2 ∧ PostS K cls W D F1 H1 O (forL ft fbo (ds.drop (i + 1)) g2) :=
        fun {g' F3 H3 O3 σ3} x st' q => ⟨ds.length - (i + 1), by omega, rfl, hlt, F3, g', O3, x, st', q⟩
      refine .inr ⟨g0, fun σ3 H3 => ∃ F3 g' O3, SExt F1 H1 O F3 H3 O3 ∧ Sts K cls F3 H3 σ3 g' O3 ∧ PostS K cls W D F1 H1 O (forL ft fbo (ds.drop (i + 1)) g'), fun σ3 H3 ⟨F3, g', O3, x, st', q⟩ => nxt x st' q, fun v H3 yv => ?_⟩
      obtain ⟨F3, x3, rv⟩ := y0 v H3 yv
      cases et : ft ds[i] g2 with
      | none => rw [et] at p2; exact p2.elim
      | some g3 =>
        rw [et] at p2
        simp only [] at p2
        refine hg v ds[i] σ2 F3 H3 g2 O2 g3 _ x3.fh (st2.ext x3) rv et fun σ4 O4 x4 st4 _ => ?_
        have x34 : SExt F1 H1 O F3 H3 O4 := x2.trans ((x3.sext fun a h => .inl h).trans x4)
        refine hb _ σ4 F3 H3 g3 O4 x3.fh st4 ?_
        cases eb : fbo g3 with
        | nx g' => rw [eb] at p2; exact fun σ5 F5 H5 O5 x5 st5 => ⟨F5, g', O5, x34.trans x5, st5, p2⟩
        | ct g' => rw [eb] at p2; exact fun σ5 F5 H5 O5 x5 st5 => ⟨F5, g', O5, x34.trans x5, st5, p2⟩
        | bk g' => rw [eb] at p2; exact fun σ5 F5 H5 O5 x5 st5 => p2 σ5 F5 H5 O5 (x34.trans x5) st5
        | rt d => rw [eb] at p2; exact fun v F5 H5 O5 x5 w => p2 v F5 H5 O5 (x34.trans x5) w
        | xc c g' => rw [eb] at p2; exact fun σ5 F5 H5 O5 x5 st5 => p2 σ5 F5 H5 O5 (x34.trans x5) st5
        | bad => rw [eb] at p2; exact p2
    · have ei : i = ds.length := by omega
      subst ei
      rw [List.drop_length] at p2
      exact .inl ⟨fd.stop F2 H2 x2.ff x2.fh, p2 σ2 F2 H2 O2 x2 st2⟩
theorem js_for {body : List Stmt} {ft : D → Env → Option Env} {fbo : Env → Out} {ss : List Nat} {k : Nat} (c : Cn X W k) (hi : JI X cls W tg iter fs) (hg : JG X cls tg ft ss) (hb : JSs X cls W body fbo)
    (hs : ∀ x, foldedSetIterable iter X.env x = pure x := by intro _; rfl) : JS X cls W (.For tg iter body [] pos) (sFor fs ft fbo) := by
  obtain ⟨wi, p, d⟩ := hi.ex
  obtain ⟨t, q, d'⟩ := hg.ex
  obtain ⟨tb, r, d''⟩ := hb.ex
  exact ⟨_, ps_for c.hp c.calm p q r hs, ds_for d d' d''⟩

def whileN (c : Env → Res Bool) (b : Env → Out) : Nat → Env → Out
  | 0, _ => .bad
  | n + 1, g => (c g).st g fun k => if k = true then match b g with
      | .nx g' => whileN c b n g'
      | .ct g' => whileN c b n g'
      | .bk g' => .nx g'
      | o => o
    else .nx g
theorem whileN_succ (c : Env → Res Bool) (b : Env → Out) (n : Nat) (g : Env) : whileN c b (n + 1) g = (c g).st g fun k => if k = true then match b g with
      | .nx g' => whileN c b n g'
      | .ct g' => whileN c b n g'
      | .bk g' => .nx g'
      | o => o
    else .nx g := rfl
def fuel : Nat := 1000000000
def sWhile (c : Env → Res Bool) (b : Env → Out) : Env → Out := fun g => whileN c b fuel g
@[simp] theorem sWhile_ (c : Env → Res Bool) (b : Env → Out) (g : Env) : sWhile c b g = whileN c b fuel g := rfl
theorem ds_while {tc : TT} {tb : TS} {fbo : Env → Out} (hc : DT K cls W tc ga) (hb : DS K cls W tb fbo) : DS K cls W (tWhile tc tb) (sWhile ga fbo) := by
  intro D σ F H g O s st p
  rw [sWhile_] at p
  refine ⟨fun m σ2 H2 => ∃ F2 g2 O2, SExt F H O F2 H2 O2 ∧ Sts K cls F2 H2 σ2 g2 O2 ∧ PostS K cls W D F H O (whileN ga fbo m g2), ⟨fuel, F, g, O, .refl s, st, p⟩, ?_⟩
  rintro m σ2 H2 ⟨F2, g2, O2, x2, st2, p2⟩
  cases m with
  | zero => exact p2.elim
  | succ m =>
    rw [whileN_succ] at p2
    refine hc.go x2.fh st2 (fun c e F' H' y => by rw [e] at p2; exact p2 σ2 F' H' O2 (x2.trans (y.sext fun a h => .inl h)) (st2.ext y)) (fun e => by rw [e] at p2; exact p2) fun k e F3 H3 y => ?_
    rw [e, Res.st_ok] at p2
    have x3 : SExt F H O F3 H3 O2 := x2.trans (y.sext fun a h => .inl h)
    cases k with
    | true =>
      rw [if_pos rfl] at p2
      rw [if_pos rfl]
      refine ⟨fun σ3 H3 => ∃ F3 g' O3, SExt F H O F3 H3 O3 ∧ Sts K cls F3 H3 σ3 g' O3 ∧ PostS K cls W D F H O (whileN ga fbo m g'), fun σ3 H3 ⟨F3, g', O3, x, st', q⟩ => ⟨m, Nat.lt_succ_self m, F3, g', O3, x, st', q⟩, ?_⟩
      refine hb _ σ2 F3 H3 g2 O2 y.fh (st2.ext y) ?_
      cases eb : fbo g2 with
      | nx g' => rw [eb] at p2; exact fun σ5 F5 H5 O5 x5 st5 => ⟨F5, g', O5, x3.trans x5, st5, p2⟩
      | ct g' => rw [eb] at p2; exact fun σ5 F5 H5 O5 x5 st5 => ⟨F5, g', O5, x3.trans x5, st5, p2⟩
      | bk g' => rw [eb] at p2; exact fun σ5 F5 H5 O5 x5 st5 => p2 σ5 F5 H5 O5 (x3.trans x5) st5
      | rt d => rw [eb] at p2; exact fun v F5 H5 O5 x5 w => p2 v F5 H5 O5 (x3.trans x5) w
      | xc c g' => rw [eb] at p2; exact fun σ5 F5 H5 O5 x5 st5 => p2 σ5 F5 H5 O5 (x3.trans x5) st5
      | bad => rw [eb] at p2; exact p2
    | false =>
      rw [if_neg (by decide)] at p2
      rw [if_neg (by decide)]
      exact p2 σ2 F3 H3 O2 x3 (st2.ext y)
theorem js_while {c : Expr} {body : List Stmt} {fbo : Env → Out} {k : Nat} (n : Cn X W k) (hc : JT X cls W c ga) (hb : JSs X cls W body fbo) : JS X cls W (.While c body [] pos) (sWhile ga fbo) := by
  obtain ⟨tc, p, d⟩ := hc.ex
  obtain ⟨tb, q, d'⟩ := hb.ex
  exact ⟨_, ps_while n.hp p q, ds_while d d'⟩

def lcL (tg : D → Env → Option Env) (tt : Env → Res Bool) (te : Env → Res D) (g : Env) : List D → Res (List D)
  | [] => .ok []
  | d :: ds => match tg d g with
    | none => .bad
    | some g1 => (tt g1).bind fun b => if b = true then ((te g1).bind kp).bind fun y => (lcL tg tt te g ds).bind fun r => .ok (y :: r) else lcL tg tt te g ds
@[simp] theorem lcL_nil (tg : D → Env → Option Env) (tt : Env → Res Bool) (te : Env → Res D) (g : Env) : lcL tg tt te g [] = .ok [] := rfl
theorem lcL_cons (tg : D → Env → Option Env) (tt : Env → Res Bool) (te : Env → Res D) (g : Env) (d : D) (ds : List D) : lcL tg tt te g (d :: ds) = match tg d g with
    | none => .bad
    | some g1 => (tt g1).bind fun b => if b = true then ((te g1).bind kp).bind fun y => (lcL tg tt te g ds).bind fun r => .ok (y :: r) else lcL tg tt te g ds := rfl
def eLc (fi : Env → Res (List D)) (own : List Nat) (tg : D → Env → Option Env) (tt : Env → Res Bool) (te : Env → Res D) : Env → Res D := fun g => (fi g).bind fun ds => if ds.length ≤ lim then
  match lcL tg tt te (wipeG g own) ds with
  | .ok r => .ok (.ol r)
  | _ => .bad
  else .bad
@[simp] theorem eLc_ (fi : Env → Res (List D)) (own : List Nat) (tg : D → Env → Option Env) (tt : Env → Res Bool) (te : Env → Res D) (g : Env) : eLc fi own tg tt te g = (fi g).bind fun ds => if ds.length ≤ lim then
  match lcL tg tt te (wipeG g own) ds with
  | .ok r => .ok (.ol r)
  | _ => .bad
  else .bad := rfl
def tYesG : Env → Res Bool := fun _ => .ok true
@[simp] theorem tYesG_ (g : Env) : tYesG g = .ok true := rfl
theorem Ows.snoc {vs : List V} {ds : List D} {O1 O2 : List Addr} {v : V} {d : D} (h : Ows K cls F H vs ds O1) (w : Ow K cls F H v d O2) (dj : ∀ a ∈ O1, a ∉ O2) : Ows K cls F H (vs ++ [v]) (ds ++ [d]) (O1 ++ O2) := by
  induction ds generalizing vs O1 with
  | nil => cases h; exact .cons w .nil (fun _ _ q => nomatch q) (by simp)
  | cons d' ds ih =>
    cases h with
    | cons a b dj' e =>
      subst e
      refine .cons a (ih b fun x hx => dj x (List.mem_append_right _ hx)) (fun x h1 h2 => ?_) (by simp)
      rcases List.mem_append.mp h2 with q | q
      · exact dj' x h1 q
      · exact dj x (List.mem_append_left _ h1) q
theorem de_lc {wi : TI} {t : TG} {tt : TT} {te : TE} {ft : D → Env → Option Env} {gt : Env → Res Bool} {fe : Env → Res D} {ss own : List Nat} (hi : DI K cls W wi fs) (hg : DG K cls t ft ss) (ht : DT K cls W0 tt gt) (he : DE K cls W0 te fe) (hss : ∀ i ∈ ss, i ∈ own) :
    DE K cls W (tLc wi t tt te own) (eLc fs own ft gt fe) := by
  intro σ F H g O Q s st p
  rw [eLc_] at p
  refine hi σ F H g O _ s st ?_
  cases e : fs g with
  | bad => rw [e] at p; exact p
  | xc c => rw [e] at p; exact p
  | ok ds =>
    rw [e] at p
    simp only [Res.bind] at p
    intro J F1 H1 x1 fd A hA
    by_cases hlen : ds.length ≤ lim
    · rw [if_pos hlen] at p
      -- the env within the block
      obtain ⟨Ow1, stw, hw⟩ := (st.ext x1).wipe x1.fh own
      have fA : F1 A = none := by
        cases q : F1 A with
        | none => rfl
        | some u => rw [x1.fh A u q] at hA; cases hA
      have sA : Same H1 (upd H1 A (.lst [])) := upd_same' hA
      let Inv := fun (i : Nat) (H2 : Hp) => ∃ F2 acc es' O2, Ext F1 H1 F2 H2 ∧ H2 A = some (.lst acc) ∧ F2 A = none ∧ A ∉ O2 ∧ Fresh H1 O2 ∧ Ows K cls F2 H2 acc es' O2 ∧ es'.length ≤ i ∧
        ∃ r, lcL ft gt fe (wipeG g own) (ds.drop i) = .ok r ∧ lcL ft gt fe (wipeG g own) ds = .ok (es' ++ r)
      cases er : lcL ft gt fe (wipeG g own) ds with
      | bad => rw [er] at p; exact p.elim
      | xc c => rw [er] at p; exact p.elim
      | ok r0 =>
        rw [er] at p
        simp only [] at p
        refine ⟨fun i m H2 => m = ds.length - i ∧ i ≤ ds.length ∧ Inv i H2, ⟨ds.length, rfl, Nat.zero_le _, F1, [], [], [], Ext.own x1.fh hA, upd_same, fA, by simp, Fresh.nil, .nil, Nat.zero_le _, r0, by rw [List.drop_zero]; exact er, by simpa using er⟩, ?_⟩
        rintro i m H2 ⟨rfl, hi, F2, acc, es', O2, x2, h2, f2, n2, fr2, w2, hl2, r, e1, e2⟩
        by_cases hlt : i < ds.length
        · have ed : ds.drop i = ds[i] :: ds.drop (i + 1) := List.drop_eq_getElem_cons hlt
          rw [ed, lcL_cons] at e1
          obtain ⟨g0, y0⟩ := fd.go i ds[i] (by simp [hlt]) F2 H2 x2.ff x2.fh
          refine .inr ⟨g0, fun H3 => Inv (i + 1) H3, fun H3 q => ⟨ds.length - (i + 1), by omega, rfl, hlt, q⟩, fun v H3 yv => ?_⟩
          obtain ⟨F3, x3, rv⟩ := y0 v H3 yv
          cases et : ft ds[i] (wipeG g own) with
          | none => rw [et] at e1; cases e1
          | some g3 =>
            rw [et] at e1
            simp only [] at e1
            have stw3 := (stw.ext x2).ext x3
            refine hg v ds[i] _ F3 H3 (wipeG g own) Ow1 g3 _ x3.fh stw3 rv et fun σ4 O4 x4 st4 w4 => ⟨?_, ?_⟩
            · exact (w4 own hss).trans (wipe_wipe fun _ h => h)
            · have h3 : H3 A = some (.lst acc) := x3.hh _ _ h2
              have f3 : F3 A = none := x3.ow A f2 (by rw [h2]; exact fun e => nomatch e)
              refine ht σ4 F3 H3 g3 O4 _ x3.fh st4 ?_
              cases eb : gt g3 with
              | bad => rw [eb] at e1; cases e1
              | xc c => rw [eb] at e1; cases e1
              | ok b =>
                rw [eb, Res.bind_ok] at e1
                intro F5 H5 x5
                have h5 : H5 A = some (.lst acc) := x5.hh _ _ h3
                have f5 : F5 A = none := x5.ow A f3 (by rw [h3]; exact fun e => nomatch e)
                have x25 := x2.trans (x3.trans x5)
                cases b with
                | false =>
                  rw [if_neg (by decide)] at e1
                  rw [if_neg (by decide)]
                  exact ⟨F5, acc, es', O2, x25, h5, f5, n2, fr2, (w2.ext x3).ext x5, Nat.le_succ_of_le hl2, r, e1, e2⟩
                | true =>
                  rw [if_pos rfl] at e1
                  rw [if_pos rfl]
                  refine he.goO x5.fh (st4.ext x5) (fun c e => by rw [e] at e1; cases e1) (fun e => by rw [e] at e1; cases e1) fun d e v F6 H6 O6 x6 fr6 w6 => ?_
                  rw [e, Res.bind_ok] at e1
                  cases er2 : lcL ft gt fe (wipeG g own) (ds.drop (i + 1)) with
                  | bad => rw [er2] at e1; cases e1
                  | xc c => rw [er2] at e1; cases e1
                  | ok r2 =>
                    rw [er2] at e1
                    cases e1
                    have h6 : H6 A = some (.lst acc) := x6.hh _ _ h5
                    have f6 : F6 A = none := x6.ow A f5 (by rw [h5]; exact fun e => nomatch e)
                    have x26 := x25.trans x6
                    have n6 : A ∉ O6 := fun q => by have := fr6 A q; rw [h5] at this; cases this
                    refine ⟨acc, h6, ?_, F6, acc ++ [v], es' ++ [d], O2 ++ O6, ?_, upd_same, f6, ?_, ?_, ?_, by simp; omega, r2, er2, by rw [e2]; simp⟩
                    · rw [w2.len]; exact lim_lt (by omega)
                    · exact ⟨x26.ff, fun b o q => by rw [upd_ne (ne_of_none q hA)]; exact x26.hh b o q, fun b o q => by
                        rw [upd_ne (fun z => by rw [z, f6] at q; cases q)]; exact x26.fh b o q, x26.ow⟩
                    · intro q
                      rcases List.mem_append.mp q with q | q
                      · exact n2 q
                      · exact n6 q
                    · intro a ha
                      rcases List.mem_append.mp ha with q | q
                      · exact fr2 a q
                      · exact (x25.hh).free (fr6 a q)
                    · have w2' := ((w2.ext x3).ext x5).ext x6
                      have dj : ∀ a ∈ O2, a ∉ O6 := fun a h1 h2 => ((((w2.ext x3).ext x5).dom a h1).2) (fr6 a h2)
                      refine (w2'.snoc w6 dj).frame (.refl F6) fun a ha => ⟨upd_ne fun z => ?_, ((w2'.snoc w6 dj).dom a ha).1⟩
                      rcases List.mem_append.mp ha with q | q
                      · exact n2 (z ▸ q)
                      · exact n6 (z ▸ q)
        · have ei : i = ds.length := by omega
          subst ei
          rw [List.drop_length] at e1
          cases e1
          rw [List.append_nil, er] at e2
          cases e2
          refine .inl ⟨fd.stop F2 H2 x2.ff x2.fh, p _ F2 H2 (A :: O2) (x1.trans x2) (fun a ha => ?_) (.inl (.ol f2 h2 n2 w2))⟩
          rcases List.mem_cons.mp ha with rfl | ha
          · exact x1.hh.free hA
          · exact x1.hh.free (fr2 a ha)
    · rw [if_neg hlen] at p; exact p.elim
structure JTs (X : Cx) (cls : Cls) (W : WX) (e : List Expr) (f : Env → Res Bool) : Prop where
  ex : ∃ t, PTs X e t ∧ DT X.K cls W t f
theorem jts_nil : JTs X cls W [] tYesG := ⟨_, pts_nil, fun σ F H g O Q s st p => p F H (.refl s)⟩
theorem jts_one (h : JT X cls W a ga) : JTs X cls W [a] ga := by
  obtain ⟨t, p, d⟩ := h.ex
  exact ⟨_, pts_one p, d⟩
end
end DL

namespace DL
open PySem L2
section
variable {K : PySem.W.Frag} {cls : Cls} {W : WX} {X : Cx} {F H F' H' F1 H1 : Hp} {O O1 : List Addr} {Q : VK} {σ : St} {a b e tg iter elt : Expr} {es : List Expr} {fa fb fc : Env → Res D} {ga gb : Env → Res Bool} {fs : Env → Res (List D)} {pos : Pos}
def cE (K : PySem.W.Frag) (cls : Cls) (W : WX) (f : Env → Res D) : TE := fun σ H Q => ∃ F g O, Same F H ∧ Sts K cls F H σ g O ∧ PostE K cls W σ F H Q (f g)
def cT (K : PySem.W.Frag) (cls : Cls) (W : WX) (f : Env → Res Bool) : TT := fun σ H Q => ∃ F g O, Same F H ∧ Sts K cls F H σ g O ∧ PostT cls W σ F H Q (f g)
def cG (K : PySem.W.Frag) (cls : Cls) (f : D → Env → Option Env) (ss : List Nat) : TG := fun v σ H Q => ∃ d F g O g', Same F H ∧ Sts K cls F H σ g O ∧ Rp K cls F v d ∧ f d g = some g' ∧
  (∀ σ' O', SExt F H O F H O' → Sts K cls F H σ' g' O' → (∀ vs : List Nat, (∀ i ∈ ss, i ∈ vs) → wipe σ' vs = wipe σ vs) → Q σ' H)
def cS (K : PySem.W.Frag) (cls : Cls) (f : Env → Out) (W : WX) : TS := fun D σ H => ∃ F g O, Same F H ∧ Sts K cls F H σ g O ∧ PostS K cls W D F H O (f g)
theorem de_cE {f : Env → Res D} : DE K cls W (cE K cls W f) f := fun σ F H g O Q s st p => ⟨F, g, O, s, st, p⟩
theorem dt_cT {f : Env → Res Bool} : DT K cls W (cT K cls W f) f := fun σ F H g O Q s st p => ⟨F, g, O, s, st, p⟩
theorem dg_cG {f : D → Env → Option Env} {ss : List Nat} : DG K cls (cG K cls f ss) f ss := fun v d σ F H g O g' Q s st r e k => ⟨d, F, g, O, g', s, st, r, e, k⟩
theorem JE.canon {f : Env → Res D} (h : JE X cls W e f) : PE X e (cE X.K cls W f) := by
  obtain ⟨t, p, d⟩ := h.ex
  exact ⟨fun pins s σ H Q I ⟨F, g, O, sm, st, q⟩ => p.run pins s σ H Q I (d σ F H g O Q sm st q)⟩
theorem JTs.canon {f : Env → Res Bool} (h : JTs X cls W es f) : PTs X es (cT X.K cls W f) := by
  obtain ⟨t, p, d⟩ := h.ex
  exact ⟨fun pins s σ H Q I ⟨F, g, O, sm, st, q⟩ => p.run pins s σ H Q I (d σ F H g O Q sm st q)⟩
theorem JG.canon {f : D → Env → Option Env} {ss : List Nat} (h : JG X cls e f ss) : PG X e (cG X.K cls f ss) := by
  obtain ⟨t, p, d⟩ := h.ex
  exact ⟨fun pins s σ H v u Q I r ⟨dd, F, g, O, g', sm, st, rr, ee, q⟩ => p.run pins s σ H v u Q I r (d v dd σ F H g O g' Q sm st rr ee q)⟩
theorem JSs.canon {st : List Stmt} {f : Env → Out} (h : JSs X cls W st f) : PSs X st (cS X.K cls f W) := by
  obtain ⟨t, p, d⟩ := h.ex
  exact ⟨fun pins s σ H D I ⟨F, g, O, sm, st, q⟩ => p.run pins s σ H D I (d D σ F H g O sm st q)⟩

theorem je_lc {ifs : List Expr} {scope : Scope} {ft : D → Env → Option Env} {gt : Env → Res Bool} {fe : Env → Res D} {ss : List Nat} {k : Nat} (own : List (Str × Nat)) (c : Cn X W k) (hi : JI X cls W tg iter fs) (ok : BlkOk X.N X.env.scope scope own)
    (hg : ∀ (s : Shared) (H : Hp) (C : Addr) (cl : List (Str × Addr)) (fp : List Addr), JG (X.blk s H scope (compEnvC scope cl C X.env) fp) cls tg ft ss)
    (ht : ∀ (s : Shared) (H : Hp) (C : Addr) (cl : List (Str × Addr)) (fp : List Addr), Cn (X.blk s H scope (compEnvC scope cl C X.env) fp) W0 k → JTs (X.blk s H scope (compEnvC scope cl C X.env) fp) cls W0 ifs gt)
    (he : ∀ (s : Shared) (H : Hp) (C : Addr) (cl : List (Str × Addr)) (fp : List Addr), Cn (X.blk s H scope (compEnvC scope cl C X.env) fp) W0 k → JE (X.blk s H scope (compEnvC scope cl C X.env) fp) cls W0 elt fe)
    (hss : ∀ i ∈ ss, i ∈ own.map (·.2)) (hs : ∀ x, foldedSetIterable iter X.env x = pure x := by intro _; rfl) :
    JE X cls W (.ListComp elt [⟨tg, iter, ifs, 0⟩] scope pos) (eLc fs (own.map (·.2)) ft gt fe) := by
  obtain ⟨wi, p, d⟩ := hi.ex
  exact ⟨_, pe_lc (own := own) c.calm c.nd p ok (fun s H C cl fp => (hg s H C cl fp).canon) (fun s H C cl fp => (ht s H C cl fp c.blk).canon) (fun s H C cl fp => (he s H C cl fp c.blk).canon) hs, de_lc d dg_cG dt_cT de_cE hss⟩
theorem js_setLc {i : Nat} {y : Str} {py spos : Pos} {ifs : List Expr} {scope : Scope} {ft : D → Env → Option Env} {gt : Env → Res Bool} {fe : Env → Res D} {ss : List Nat} {k : Nat} (own : List (Str × Nat)) (c : Cn X W k) (hy : X.N[i]? = some y) (hyl : X.env.scope.names.lookup y = some .local)
    (hsw : swapsWith (.ListComp elt [⟨tg, iter, ifs, 0⟩] scope pos) (some (.Name y py)) spos.line X.env = pure true) (hi : JI X cls W tg iter fs) (ok : BlkOk X.N X.env.scope scope own)
    (hg : ∀ (s : Shared) (H : Hp) (C : Addr) (cl : List (Str × Addr)) (fp : List Addr), JG (X.blk s H scope (compEnvC scope cl C X.env) fp) cls tg ft ss)
    (ht : ∀ (s : Shared) (H : Hp) (C : Addr) (cl : List (Str × Addr)) (fp : List Addr), Cn (X.blk s H scope (compEnvC scope cl C X.env) fp) W0 k → JTs (X.blk s H scope (compEnvC scope cl C X.env) fp) cls W0 ifs gt)
    (he : ∀ (s : Shared) (H : Hp) (C : Addr) (cl : List (Str × Addr)) (fp : List Addr), Cn (X.blk s H scope (compEnvC scope cl C X.env) fp) W0 k → JE (X.blk s H scope (compEnvC scope cl C X.env) fp) cls W0 elt fe)
    (hss : ∀ i ∈ ss, i ∈ own.map (·.2)) (hs : ∀ x, foldedSetIterable iter X.env x = pure x := by intro _; rfl) :
    JS X cls W (.Assign [.Name y py] (.ListComp elt [⟨tg, iter, ifs, 0⟩] scope pos) spos) (sAsg i (eLc fs (own.map (·.2)) ft gt fe)) := by
  obtain ⟨wi, p, d⟩ := hi.ex
  exact ⟨_, ps_setLc (own := own) c.calm c.nd hy hyl hsw p ok (fun s H C cl fp => (hg s H C cl fp).canon) (fun s H C cl fp => (ht s H C cl fp c.blk).canon) (fun s H C cl fp => (he s H C cl fp c.blk).canon) hs, ds_asg (de_lc d dg_cG dt_cT de_cE hss)⟩
theorem js_setLcF {i : Nat} {y : Str} {py spos : Pos} {ifs : List Expr} {scope : Scope} {ft : D → Env → Option Env} {gt : Env → Res Bool} {fe : Env → Res D} {ss : List Nat} {k : Nat} (own : List (Str × Nat)) (c : Cn X W k) (hy : X.N[i]? = some y) (hyl : X.env.scope.names.lookup y = some .local)
    (hsw : swapsWith (.ListComp elt [⟨tg, iter, ifs, 0⟩] scope pos) (some (.Name y py)) spos.line X.env = pure true) (hi : JI X cls W tg iter fs) (ok : BlkOk X.N X.env.scope scope own)
    (hg : ∀ (s : Shared) (H : Hp) (C : Addr) (cl : List (Str × Addr)) (fp : List Addr), JG (X.blk s H scope (compEnvC scope cl C X.env) fp) cls tg ft ss)
    (ht : ∀ (s : Shared) (H : Hp) (C : Addr) (cl : List (Str × Addr)) (fp : List Addr), Cn (X.blk s H scope (compEnvC scope cl C X.env) fp) W0 k → JTs (X.blk s H scope (compEnvC scope cl C X.env) fp) cls W0 ifs gt)
    (he : ∀ (s : Shared) (H : Hp) (C : Addr) (cl : List (Str × Addr)) (fp : List Addr), Cn (X.blk s H scope (compEnvC scope cl C X.env) fp) W0 k → JE (X.blk s H scope (compEnvC scope cl C X.env) fp) cls W0 elt fe)
    (hss : ∀ i ∈ ss, i ∈ own.map (·.2)) (hs : ∀ x, foldedSetIterable iter X.env x = pure x := by intro _; rfl) :
    JS X cls W (.Assign [.Name y py] (.ListComp elt [⟨tg, iter, ifs, 0⟩] scope pos) spos) (sAsgF i (eLc fs (own.map (·.2)) ft gt fe)) := by
  obtain ⟨wi, p, d⟩ := hi.ex
  exact ⟨_, ps_setLc (own := own) c.calm c.nd hy hyl hsw p ok (fun s H C cl fp => (hg s H C cl fp).canon) (fun s H C cl fp => (ht s H C cl fp c.blk).canon) (fun s H C cl fp => (he s H C cl fp c.blk).canon) hs, ds_asgF (de_lc d dg_cG dt_cT de_cE hss)⟩

theorem Sts.lst {g : Env} {i : Nat} {xs : List D} (st : Sts K cls F H σ g O) (e : g[i]? = some (.ol xs)) : ∃ p vs O1, σ[i]? = some (some (.ref p)) ∧ H p = some (.lst vs) ∧ F p = none ∧ p ∉ O1 ∧ Ows K cls F H vs xs O1 ∧ p ∈ O ∧ (∀ a ∈ O1, a ∈ O) ∧
    ∀ (F' H' : Hp) (ws : List V) (ys : List D) (O2 : List Addr), Ext F H F' H' → Ows K cls F' H' ws ys O2 → p ∉ O2 → (∀ a ∈ O2, a ∈ O1 ∨ H a = none) →
      ∃ O'', Sts K cls F' (upd H' p (.lst ws)) σ (g.set i (.ol ys)) O'' ∧ SExt F H O F' (upd H' p (.lst ws)) O'' := by
  obtain ⟨P, h1, h2, h3, _⟩ := st.at i (List.getElem?_eq_some_iff.mp e).1
  rcases h2 with ⟨h2, _⟩ | ⟨v, d, h2, h2', ow⟩
  · rw [e] at h2; cases h2
  · rw [e] at h2'; cases h2'
    cases ow with
    | sh r => cases r
    | @ol p vs _ O1 f1 f2 f3 f4 =>
      refine ⟨p, vs, O1, h2, f2, f1, f3, f4, h1 _ (by simp), fun a ha => h1 a (by simp [ha]), fun F' H' ws ys O2 x w n k => ?_⟩
      have hp : F' p = none := x.ow p f1 (by rw [f2]; exact fun e => nomatch e)
      have up : ∀ b, b ≠ p → upd H' p (.lst ws) b = H' b := fun b hb => upd_ne hb
      obtain ⟨O'', q1, q2⟩ := h3 F' (upd H' p (.lst ws)) (.ref p) (.ol ys) (p :: O2) (fun b hb hn => by
          obtain ⟨e1, e2⟩ := x.get (st.dom b hb).1 (st.dom b hb).2
          exact ⟨(up b fun z => hn (by simp [z])).trans e1, e2⟩) x.ff
        (.ol hp upd_same n (w.frame (.refl F') fun a ha => ⟨up a fun z => n (z ▸ ha), (w.dom a ha).1⟩)) (fun a ha hO => by
          rcases List.mem_cons.mp ha with rfl | ha
          · simp
          · rcases k a ha with z | z
            · simp [z]
            · exact absurd z (st.dom a hO).2)
      rw [set_self h2] at q1
      refine ⟨O'', q1, x.ff, fun b o q => ?_, fun b o q hn => ?_, fun b h1 h2 _ => x.ow b h1 h2, fun b hb => ?_⟩
      · rw [up b fun z => by rw [z, hp] at q; cases q]; exact x.fh b o q
      · rw [up b fun z => hn (z ▸ h1 p (by simp))]; exact x.hh b o q
      · rcases q2 b hb with z | z
        · exact .inl z
        · rcases List.mem_cons.mp z with rfl | z
          · exact .inl (h1 _ (by simp))
          · exact (k b z).imp (fun z => h1 b (by simp [z])) id
def sApp (i : Nat) (fa : Env → Res D) : Env → Out := fun g => match g[i]? with
  | some (.ol xs) => ((fa g).bind kp).st g fun d => if xs.length < lim then .nx (g.set i (.ol (xs ++ [d]))) else .bad
  | _ => .bad
@[simp] theorem sApp_ (i : Nat) (fa : Env → Res D) (g : Env) : sApp i fa g = match g[i]? with
  | some (.ol xs) => ((fa g).bind kp).st g fun d => if xs.length < lim then .nx (g.set i (.ol (xs ++ [d]))) else .bad
  | _ => .bad := rfl
theorem js_app {i : Nat} {x : Str} {npos apos cpos : Pos} (hN : X.N[i]? = some x) (hv : Vis X.env.scope x) (ha : JE X cls W a fa) (hd : (x == ("__debug__" : Str)) = false := by decide) (hcd : (x == ("__classdict__" : Str)) = false := by decide)
    (hbase : attributeBase (.Name x npos) "append" X.env (eval (.Name x npos) X.env) = eval (.Name x npos) X.env := by rfl)
    (hfew : ((backTo cpos (starEach (a :: []) X.env)).all (fun x => !x.1) && (backToKw cpos (keywordEach [] X.env)).all (fun x => x.1.isSome)
      && decide ((a :: []).length + ([] : List Keyword).length + (if ([] : List Keyword).isEmpty then 0 else 1) < 30)) = true := by rfl)
    (hline : (apos.endLine == cpos.line) = true := by rfl) (hs : starEach (a :: []) X.env = (false, eval a X.env) :: starEach [] X.env := by rfl) (hplain : (backTo cpos (starEach [] X.env)).any (·.1) = false := by rfl)
    (hsw : swapsWith (.Call (.Attribute (.Name x npos) "append" apos) [a] [] cpos) none pos.line X.env = pure false := by rfl) :
    JS X cls W (.Expr (.Call (.Attribute (.Name x npos) "append" apos) [a] [] cpos) pos) (sApp i fa) := by
  obtain ⟨t, p, d⟩ := ha.ex
  refine ⟨_, ps_expr (pe_bm PySem.F.plainAttrs_list PySem.F.slot_list_append PySem.F.type_list_append mt_append (pe_var hN hv hd hcd) (pa_cons p pa_nil hs) hbase hfew hline hs hplain) hsw, ?_⟩
  intro D σ F H g O s st p
  rw [sApp_] at p
  split at p
  · rename_i xs eg
    obtain ⟨q, vs, O1, h1, h2, h2', h3, h4, h5, h6, h7⟩ := st.lst eg
    refine ⟨.ref q, h1, .inl ⟨rfl, vs, SqL.of h2⟩, ?_⟩
    refine d.goS s st p fun dd e p v F1 H1 O2 x fr w => ?_
    split at p
    · rename_i hl
      refine ⟨q, vs, v, rfl, rfl, x.hh _ _ h2, by rw [h4.len]; exact lim_lt hl, ?_⟩
      obtain ⟨O'', z1, z2⟩ := h7 F1 H1 (vs ++ [v]) (xs ++ [dd]) (O1 ++ O2) x ((h4.ext x).snoc w fun a q1 q2 => (h4.dom a q1).2 (fr a q2)) (fun z => by
          rcases List.mem_append.mp z with z | z
          · exact h3 z
          · have := fr q z; rw [h2] at this; cases this) (fun a z => (List.mem_append.mp z).imp id (fr a))
      exact p σ F1 _ O'' z2 z1
    · exact p.elim
  · exact p.elim
theorem Ows.set : ∀ {vs : List V} {ds : List D} {O1 O2 : List Addr} {v : V} {d : D} (j : Nat), Ows K cls F H vs ds O1 → Ow K cls F H v d O2 → (∀ a ∈ O1, a ∉ O2) → ∃ O3, Ows K cls F H (vs.set j v) (ds.set j d) O3 ∧ ∀ a ∈ O3, a ∈ O1 ∨ a ∈ O2
  | _, _, _, O2, _, _, _, .nil, _, _ => ⟨[], .nil, fun _ h => nomatch h⟩
  | _, _, _, O2, _, _, 0, .cons (O1 := P1) (O2 := P2) a b dj e, w, n => by
    subst e
    refine ⟨O2 ++ P2, .cons w b (fun x h1 h2 => n x (List.mem_append_right _ h2) h1) rfl, fun x hx => ?_⟩
    rcases List.mem_append.mp hx with z | z
    · exact .inr z
    · exact .inl (List.mem_append_right _ z)
  | _, _, _, O2, _, _, j + 1, .cons (O1 := P1) (O2 := P2) a b dj e, w, n => by
    subst e
    obtain ⟨O3, h1, h2⟩ := b.set j w fun x hx => n x (List.mem_append_right _ hx)
    refine ⟨P1 ++ O3, .cons a h1 (fun x q1 q2 => ?_) rfl, fun x hx => ?_⟩
    · rcases h2 x q2 with z | z
      · exact dj x q1 z
      · exact n x (List.mem_append_left _ q1) z
    · rcases List.mem_append.mp hx with z | z
      · exact .inl (List.mem_append_left _ z)
      · exact (h2 x z).imp (fun z => List.mem_append_right _ z) id
end
end DL

namespace DL
open PySem L2
section
variable {K : PySem.W.Frag} {cls : Cls} {W : WX} {X : Cx} {F H F' H' F1 H1 : Hp} {O O1 : List Addr} {Q : VK} {σ : St} {a b e tg iter elt : Expr} {es : List Expr} {fa fb fc : Env → Res D} {ga gb : Env → Res Bool} {fs : Env → Res (List D)} {pos : Pos}
structure ExOk (K : PySem.W.Frag) (mg : Str → Option Value) (cls : Cls) (c : Nat) (x : Str) (C : Addr) : Prop where
  e : cls c = some (C, [])
  g : mg x = some (.ref C)
  x : PySem.W.excIn K C [.type "ValueError", .type "Exception", .type "BaseException", .type "object"] "ValueError.__new__" = true
  k : PySem.W.keepIn K (.ref C) = true
  b : PySem.W.subIn K (.ref C) (.type "BaseException") = some true
  t : PySem.W.typeIn K (.ref C) = some (.type "type")
theorem ExOk.v {mg : Str → Option Value} {c : Nat} {x : Str} {C : Addr} (h : ExOk K mg cls c x C) : excV cls c = .ref C := by unfold excV; rw [h.e]
def sRaise (c : Nat) : Env → Out := fun g => .xc c g
@[simp] theorem sRaise_ (c : Nat) (g : Env) : sRaise c g = .xc c g := rfl
theorem js_raise {c k : Nat} {x m : Str} {C : Addr} {j : Nat} {p p2 pos2 : Pos} (n : Cn X W k) (h : ExOk X.K X.mg cls c x C) (hg : Gl X x := by rfl) (hdb : (x == ("__debug__" : Str)) = false := by decide) :
    JS X cls W (.Raise (some (.Call (.Name x p) [.Constant (.str m) j p2] [] pos)) none pos2) (sRaise c) := by
  refine ⟨_, ps_raise n.calm n.tk (pmk_own PySem.F.excBase_ValueError h.x h.g h.k (raises_own h.b h.t) hg hdb), ?_⟩
  intro D σ F H g O s st p
  have q := p σ F H O (.refl s) st
  rw [h.v] at q
  exact q

def runF (f : Env → Out) (n : Nat) (ds : List D) : Res D := match f (ds ++ List.replicate (n - ds.length) .un) with
  | .rt d => .ok d
  | .nx _ => .ok .non
  | .xc c _ => .xc c
  | _ => .bad
theorem sts_start {vs : List V} {ds : List D} (h : Rps K cls F vs ds) (n : Nat) : Sts K cls F H (vs.map some ++ List.replicate n none) (ds ++ List.replicate n .un) [] := by
  induction ds generalizing vs with
  | nil =>
    cases h
    simp only [List.map_nil, List.nil_append]
    induction n with
    | zero => exact .nil
    | succ n ih => rw [List.replicate_succ, List.replicate_succ]; exact .un ih
  | cons d ds ih =>
    cases h with
    | cons a b => exact .cons (.sh a) (ih b) (fun _ q => nomatch q) rfl
theorem fnD_ok {P : Program} {w : World} {mg : Str → Option Value} {base : Heap} {x qual : Str} {st : Stmt} {f : Addr} {fd : FuncData} {N ps : List Str} {k n : Nat} {g : List D → Res D} {fb : Env → Out}
    (Fn : Fun K x qual st f fd) (S : FnScope N ps (defScope st)) (hn : ps.length = n)
    (hbody : ∀ (cdv : Value) (A : Around) (outer : List PySem.Env) (s : Shared) (H : Hp) (E : XK), Cn (cxOf (L2.CX P w) P w K mg base N qual (defScope st) f cdv A outer s H E) (fun c d _ H => E c d H) k →
      JSs (cxOf (L2.CX P w) P w K mg base N qual (defScope st) f cdv A outer s H E) cls (fun c d _ H => E c d H) (defBody st) fb)
    (heq : ∀ ds, ds.length = n → g ds = .bad ∨ runF fb N.length ds = g ds) : FnOk P w K mg base (L2.CX P w) (k + 1) f fd ps (spD K cls n g) := by
  refine Fn.okX S (fun vs H Q E h => ?_) (fun cdv A outer s H vs Q E hr h => ?_)
  · obtain ⟨F, ds, _, r, h1, _⟩ := h
    rw [r.len, h1, hn]
  · obtain ⟨F, ds, sm, r, hl, h⟩ := h
    obtain ⟨t, p, d⟩ := (hbody cdv A outer s H E ⟨takes_of rfl rfl rfl rfl, passes_of rfl, rfl, S.nd, hr⟩).ex
    refine ⟨t, p, d _ _ F H (ds ++ List.replicate (N.length - ds.length) .un) [] sm ?_ ?_⟩
    · unfold L2.start
      rw [r.len]
      exact sts_start r _
    · rcases heq ds hl with e | e
      · rw [e] at h; exact h.elim
      · rw [← e] at h
        unfold runF at h
        cases q : fb (ds ++ List.replicate (N.length - ds.length) .un) with
        | nx g' => rw [q] at h; exact fun σ' F' H' O' x st' => h .non F' H' [] x.ext Fresh.nil (.sh .non)
        | rt d => rw [q] at h; exact fun v F' H' O' x w => h v F' H' O' x.ext (fun a ha => (x.oo a ha).resolve_left (by simp)) w
        | xc c g' => rw [q] at h; exact fun σ' F' H' O' x st' => h F' H' x.ext
        | bk g' => rw [q] at h; exact h.elim
        | ct g' => rw [q] at h; exact h.elim
        | bad => rw [q] at h; exact h.elim

def spI (K : PySem.W.Frag) (cls : Cls) (c n : Nat) (g : List D → Res (List D)) : Sp := fun vs H Q E => ∃ F x C dx ns vs' ds, vs = .ref x :: vs' ∧ cls c = some (C, ns) ∧ Same F H ∧ F x = none ∧ H x = some (.ins C dx []) ∧ Rps K cls F vs' ds ∧ ds.length = n ∧
  match g ds with
  | .ok fs => ∀ F' H' O', SExt F H [x] F' H' O' → Ow K cls F' H' (.ref x) (.oo none c fs) O' → Q .non H'
  | .xc e => ∀ F' H' O', SExt F H [x] F' H' O' → E (excV cls e) none H'
  | .bad => False
def outI (c : Nat) (x : Addr) : Out → Res (List D)
  | .nx g => match (g : List D)[0]? with
    | some (D.oo (some y) c' fs) => if c' = c ∧ y = x then .ok fs else .bad
    | _ => .bad
  | .xc e _ => .xc e
  | _ => .bad
def runI (f : Env → Out) (c n : Nat) (x : Addr) (ds : List D) : Res (List D) := outI c x (f (.oo (some x) c [] :: ds ++ List.replicate (n - (ds.length + 1)) .un))
theorem fnI_ok {P : Program} {w : World} {mg : Str → Option Value} {base : Heap} {x qual : Str} {st : Stmt} {f : Addr} {fd : FuncData} {N ps : List Str} {k n c : Nat} {g : List D → Res (List D)} {fb : Env → Out}
    (Fn : Fun K x qual st f fd) (S : FnScope N ps (defScope st)) (hn : ps.length = n + 1)
    (hbody : ∀ (cdv : Value) (A : Around) (outer : List PySem.Env) (s : Shared) (H : Hp) (E : XK), Cn (cxOf (L2.CX P w) P w K mg base N qual (defScope st) f cdv A outer s H E) (fun c d _ H => E c d H) k →
      JSs (cxOf (L2.CX P w) P w K mg base N qual (defScope st) f cdv A outer s H E) cls (fun c d _ H => E c d H) (defBody st) fb)
    (heq : ∀ ds x, ds.length = n → g ds = .bad ∨ runI fb c N.length x ds = g ds) : FnOk P w K mg base (L2.CX P w) (k + 1) f fd ps (spI K cls c n g) := by
  refine Fn.okX S (fun vs H Q E h => ?_) (fun cdv A outer s H vs Q E hr h => ?_)
  · obtain ⟨F, x, C, dx, ns, vs', ds, rfl, _, _, _, _, r, h1, _⟩ := h
    rw [List.length_cons, r.len, h1, hn]
  · obtain ⟨F, x, C, dx, ns, vs', ds, rfl, hc, sm, fx, hx, r, hl, h⟩ := h
    obtain ⟨t, p, d⟩ := (hbody cdv A outer s H E ⟨takes_of rfl rfl rfl rfl, passes_of rfl, rfl, S.nd, hr⟩).ex
    have s0 : Sts K cls F H (L2.start N (V.ref x :: vs')) (.oo (some x) c [] :: ds ++ List.replicate (N.length - (ds.length + 1)) .un) [x] := by
      unfold L2.start
      rw [List.length_cons, r.len, List.map_cons, List.cons_append, List.cons_append]
      exact .cons (O1 := [x]) (O2 := []) (.oo (fun y e => by cases e; rfl) hc fx (by simpa using hx) (Nat.zero_le _) (by simp) .nil) (sts_start r _) (fun a _ h => nomatch h) rfl
    refine ⟨t, p, d _ _ F H _ [x] sm s0 ?_⟩
    rcases heq ds x hl with e | e
    · rw [e] at h; exact h.elim
    · rw [← e] at h
      unfold runI at h
      cases q : fb (.oo (some x) c [] :: ds ++ List.replicate (N.length - (ds.length + 1)) .un) with
      | nx g' =>
        rw [q] at h
        intro σ' F' H' O' y st'
        unfold outI at h
        simp only [] at h
        split at h
        · rename_i fs eo
          split at eo
          · rename_i y' c' fs' eg
            split at eo
            · rename_i hcc
              cases eo
              obtain ⟨rfl, rfl⟩ := hcc
              obtain ⟨P, h1, h2, _⟩ := st'.at 0 (List.getElem?_eq_some_iff.mp eg).1
              rcases h2 with ⟨h2, _⟩ | ⟨v, d2, h2, h2', ow⟩
              · rw [eg] at h2; cases h2
              · rw [eg] at h2'; cases h2'
                cases ow with
                | sh r => cases r
                | oo ho hc h1' h2o hl h3 r =>
                  have := ho _ rfl
                  subst this
                  exact h F' H' _ ⟨y.ff, y.fh, y.fr, y.ow, fun a ha => y.oo a (h1 a ha)⟩ (.oo (fun _ e => nomatch e) hc h1' h2o hl h3 r)
            · cases eo
          · cases eo
        · rename_i e' eo
          split at eo
          · split at eo <;> cases eo
          · cases eo
        · exact h.elim
      | xc e g' => rw [q] at h; exact fun σ' F' H' O' y st' => h F' H' O' y
      | rt d => rw [q] at h; exact h.elim
      | bk g' => rw [q] at h; exact h.elim
      | ct g' => rw [q] at h; exact h.elim
      | bad => rw [q] at h; exact h.elim

theorem putF_new : ∀ {ns : List Str} {vs : List V} {f : Str} {y : V}, ns.Nodup → vs.length ≤ ns.length → ns[vs.length]? = some f → putF f y (ns.zip vs) = ns.zip (vs ++ [y])
  | [], vs, f, y, _, hl, h => by simp at h
  | n :: ns, [], f, y, _, _, h => by
    simp at h
    subst h
    simp [putF]
  | n :: ns, v :: vs, f, y, nd, hl, h => by
    obtain ⟨a1, a2⟩ := List.nodup_cons.mp nd
    have h' : ns[vs.length]? = some f := by simpa using h
    have ne : ¬ n = f := fun e => a1 (e ▸ List.mem_of_getElem? h')
    rw [List.zip_cons_cons, List.cons_append, List.zip_cons_cons]
    show (if n = f then (n, y) :: ns.zip vs else (n, v) :: putF f y (ns.zip vs)) = _
    rw [if_neg ne, putF_new a2 (by simpa using hl) h']
def sFld (i c j : Nat) (fa : Env → Res D) : Env → Out := fun g => ((fa g).bind kp).st g fun d => match (g : List D)[i]? with
  | some (D.oo o c' ds) => if c' = c ∧ ds.length = j then .nx (g.set i (.oo o c (ds ++ [d]))) else .bad
  | _ => .bad
@[simp] theorem sFld_ (i c j : Nat) (fa : Env → Res D) (g : Env) : sFld i c j fa g = ((fa g).bind kp).st g fun d => match (g : List D)[i]? with
  | some (D.oo o c' ds) => if c' = c ∧ ds.length = j then .nx (g.set i (.oo o c (ds ++ [d]))) else .bad
  | _ => .bad := rfl
theorem js_fld {i c j : Nat} {C : Addr} {ns : List Str} {f x : Str} {npos pos' : Pos} (T : ClsOk X.K cls c C ns) (hj : ns[j]? = some f) (hj9 : j < 1000) (hN : X.N[i]? = some x) (hv : Vis X.env.scope x) (ha : JE X cls W a fa)
    (hd : (x == ("__debug__" : Str)) = false := by decide) (hcd : (x == ("__classdict__" : Str)) = false := by decide)
    (hs : swapsWith a (some (.Attribute (.Name x npos) f pos')) pos.line X.env = pure false := by rfl) : JS X cls W (.Assign [.Attribute (.Name x npos) f pos'] a pos) (sFld i c j fa) := by
  obtain ⟨t, p, d⟩ := ha.ex
  refine ⟨_, ps_fld (pe_var hN hv hd hcd) p hs, ?_⟩
  intro D σ F H g O s st p
  rw [sFld_] at p
  refine d.goS s st p fun dd e p v F1 H1 O2 xx fr w => ?_
  split at p
  · rename_i o c' ds eg
    split at p
    · rename_i hc
      obtain ⟨hc1, hc2⟩ := hc
      subst hc1
      obtain ⟨P, h1, h2, h3, _⟩ := st.at i (List.getElem?_eq_some_iff.mp eg).1
      rcases h2 with ⟨h2, _⟩ | ⟨v0, d0, h2, h2', ow⟩
      · rw [eg] at h2; cases h2
      · rw [eg] at h2'; cases h2'
        cases ow with
        | sh r => cases r
        | @oo _ q C' dx _ ns' vs _ O1 ho hcl f1 f2 hl f3 f4 =>
          have := hcl.symm.trans T.e
          cases this
          have hlen : vs.length = ds.length := f4.len
          have hf : F1 q = none := xx.ow q f1 (by rw [f2]; exact fun e => nomatch e)
          have hq : H1 q = some (.ins C dx (ns.zip vs)) := xx.hh _ _ f2
          refine ⟨.ref q, h2, q, C, dx, ns.zip vs, rfl, hq, T.cl, T.na f (List.mem_of_getElem? hj), ?_, ?_⟩
          · rw [List.length_zip]; omega
          · rw [putF_new T.nd hl (by rw [hlen, hc2]; exact hj)]
            have dj : ∀ a ∈ O1, a ∉ O2 := fun a q1 q2 => (f4.dom a q1).2 (fr a q2)
            have nq : q ∉ O1 ++ O2 := fun z => by
              rcases List.mem_append.mp z with z | z
              · exact f3 z
              · have := fr q z; rw [f2] at this; cases this
            have wv := (f4.ext xx).snoc w dj
            have hle : (vs ++ [v]).length ≤ ns.length := by
              have := (List.getElem?_eq_some_iff.mp hj).1
              rw [List.length_append, List.length_singleton]; omega
            have up : ∀ b, b ≠ q → upd H1 q (.ins C dx (ns.zip (vs ++ [v]))) b = H1 b := fun b hb => upd_ne hb
            obtain ⟨O'', q1, q2⟩ := h3 F1 (upd H1 q (.ins C dx (ns.zip (vs ++ [v])))) (.ref q) (.oo o c' (ds ++ [dd])) (q :: (O1 ++ O2)) (fun b hb hn => by
                obtain ⟨e1, e2⟩ := xx.get (st.dom b hb).1 (st.dom b hb).2
                exact ⟨(up b fun z => hn (by simp [z])).trans e1, e2⟩) xx.ff
              (.oo ho hcl hf upd_same hle nq (wv.frame (.refl F1) fun a ha => ⟨up a fun z => nq (z ▸ ha), (wv.dom a ha).1⟩)) (fun a ha hO => by
                rcases List.mem_cons.mp ha with rfl | ha
                · simp
                · rcases List.mem_append.mp ha with z | z
                  · simp [z]
                  · exact absurd (fr a z) (st.dom a hO).2)
            rw [set_self h2] at q1
            refine p σ F1 _ O'' ⟨xx.ff, fun b o e => ?_, fun b o e hn => ?_, fun b h1 h2 _ => xx.ow b h1 h2, fun b hb => ?_⟩ q1
            · rw [up b fun z => by rw [z, hf] at e; cases e]; exact xx.fh b o e
            · rw [up b fun z => hn (z ▸ h1 q (by simp))]; exact xx.hh b o e
            · rcases q2 b hb with z | z
              · exact .inl z
              · rcases List.mem_cons.mp z with rfl | z
                · exact .inl (h1 _ (by simp))
                · rcases List.mem_append.mp z with z | z
                  · exact .inl (h1 b (by simp [z]))
                  · exact .inr (fr b z)
    · exact p.elim
  · exact p.elim

theorem run_makeS {k : Nat} {f C : Addr} {fd : FuncData} {ps : List Str} {sp : Sp} {E : XK} {pins : List (Addr × Obj)} {s : Shared} {us : List Value} {vs : List V} {CXx : CXT} (M : Mk X.K C f) (G : FnOk X.prog X.w X.K X.mg X.base CXx k f fd ps sp) (hr : Room (k + 1) X.A) (hb : Binds X.K fd ps [])
    (hx : PassesAt CXx X σ E) (hx2 : ∀ H' s' e s'', Inv X pins σ H s → Inv X pins σ H' s' → CXx X.stack H' s' E e s'' → X.xe e s'') (I : Inv X pins σ H s) (r : Vals vs us)
    (h : ∀ x dx, H x = none → H dx = none → dx ≠ x → sp (.ref x :: vs) (upd (upd H dx (.own x)) x (.ins C dx [])) (fun v H2 => v = .non ∧ Q (.ref x) H2) E) :
    wpAny (model X.prog X.w) X.A (call (.ref C) us) (EP X pins σ Q) X.xe s := by
  have hq := h (s.heap.objs.size + 1) s.heap.objs.size (I.hok.fresh (Nat.le_succ _)) (I.hok.fresh (Nat.le_refl _)) (Nat.ne_of_lt (Nat.lt_succ_self _))
  have I2 := Inv.made (C := C) I
  have r2 : Vals (V.ref (s.heap.objs.size + 1) :: vs) (Value.ref (s.heap.objs.size + 1) :: us) := .cons rfl r
  have hl : (Value.ref (s.heap.objs.size + 1) :: us ++ []).length = ps.length := by
    have e := r2.length
    rw [G.len _ _ _ _ hq] at e
    rw [List.append_nil]
    exact e.symm
  refine wpAny_call (make_map (f := f) I.kIn M.makes M.init (beq_iff_eq.mp M.fn) (codeAny_mono (G.run _ X.stack _ _ ⟨Value.ref (s.heap.objs.size + 1) :: us, []⟩ (Value.ref (s.heap.objs.size + 1) :: us) _ _ E (hr.make C us [])
    (I2.env0.make C us []) (by have := hb _ (Value.ref (s.heap.objs.size + 1) :: us) I2.kIn hl; rw [List.append_nil] at this; exact this) r2 hq) fun r s' hq' => ?_))
  cases r with
  | error e => exact hx2 _ _ e s' I I2 hq'
  | ok fl =>
    cases fl with
    | ret u =>
      obtain ⟨v, H', I3, rv, ev, q3⟩ := I2.after hq'
      subst ev
      exact ⟨rv, ⟨V.ref (s.heap.objs.size + 1), H', I3, rfl, q3⟩⟩
    | next => exact False.elim hq'
    | brk => exact False.elim hq'
    | cont => exact False.elim hq'
def tMakeS (C : Addr) (sp : Sp) (E : St → XK) (t : TA) : TE := fun σ H Q => t σ H fun vs H1 => ∀ x dx, H1 x = none → H1 dx = none → dx ≠ x →
  sp (.ref x :: vs) (upd (upd H1 dx (.own x)) x (.ins C dx [])) (fun v H2 => v = .non ∧ Q (.ref x) H2) (E σ)
theorem pe_makeS {k : Nat} {f C : Addr} {fd : FuncData} {ps : List Str} {sp : Sp} {x : Str} {p : Pos} {t : TA} (M : Mk X.K C f) (G : FnOk X.prog X.w X.K X.mg X.base (L2.CX X.prog X.w) k f fd ps sp) (hr : Room (k + 1) X.A) (hg : Gl X x) (hm : X.mg x = some (.ref C)) (hb : Binds X.K fd ps [])
    (tk : Takes X W) (ha : PA X (e :: es) t) (hdb : (x == ("__debug__" : Str)) = false := by decide) (he : starEach (e :: es) X.env = (false, eval e X.env) :: starEach es X.env := by rfl) (hpl : (backTo pos (starEach es X.env)).any (·.1) = false := by rfl) :
    PE X (.Call (.Name x p) (e :: es) [] pos) (tMakeS C sp (fun σ => WE W σ) t) := by
  refine ⟨fun pins s σ H Q I h => ?_⟩
  refine wpAny_Call_Name_kw (ld_glob I hg hm ?_ hdb)
  refine PySem.W.callWith_K (h₀ := X.base) I.ok.mod.kin M.kp (thn (ha.run pos pins s σ H _ I h) fun us s1 ⟨vs, H1, I1, r, q⟩ => ⟨I1.kIn, ?_⟩) he hpl
  exact run_makeS M G hr hb (passAt tk σ) (fun H' s' e s'' _ I2 c => passAt tk σ pins H' s' e s'' I2 c) I1 r q
def eMkF (c : Nat) (g : List D → Res (List D)) (fs : Env → Res (List D)) : Env → Res D := fun e => (fs e).bind fun ds => if shd ds = true then (g ds).bind fun fl => if nods fl = true then .ok (.ob c (frzs fl)) else .bad else .bad
@[simp] theorem eMkF_ (c : Nat) (g : List D → Res (List D)) (fs : Env → Res (List D)) (e : Env) : eMkF c g fs e = (fs e).bind fun ds => if shd ds = true then (g ds).bind fun fl => if nods fl = true then .ok (.ob c (frzs fl)) else .bad else .bad := rfl
theorem je_make {k c n : Nat} {f C : Addr} {fd : FuncData} {ps ns : List Str} {g : List D → Res (List D)} {x : Str} {p : Pos} (cn : Cn X W (k + 1)) (hcl : cls c = some (C, ns)) (M : Mk X.K C f) (G : FnOk X.prog X.w X.K X.mg X.base (L2.CX X.prog X.w) k f fd ps (spI X.K cls c n g))
    (hm : X.mg x = some (.ref C)) (hb : Binds X.K fd ps []) (ha : JA X cls W (e :: es) fs) (hn : ∀ g ds, fs g = .ok ds → ds.length = n) (hg : Gl X x := by rfl)
    (hdb : (x == ("__debug__" : Str)) = false := by decide) (he : starEach (e :: es) X.env = (false, eval e X.env) :: starEach es X.env := by rfl) (hpl : (backTo pos (starEach es X.env)).any (·.1) = false := by rfl) :
    JE X cls W (.Call (.Name x p) (e :: es) [] pos) (eMkF c g fs) := by
  obtain ⟨ta, pa, da⟩ := ha.ex
  refine ⟨_, pe_makeS M G cn.hr hg hm hb cn.tk pa hdb he hpl, ?_⟩
  intro σ F H env O Q s st p
  rw [eMkF_] at p
  refine da.go s st (fun c e => by rw [e] at p; exact p) (fun e => by rw [e] at p; exact p) fun ds e vs F1 H1 x1 b1 => ?_
  rw [e, Res.bind_ok] at p
  split at p
  · rename_i hsh
    intro x dx hx hdx hne
    have r1 := b1.toRps hsh
    have nF : ∀ {a : Addr}, H1 a = none → F1 a = none := fun {a} h => by
      cases q : F1 a with
      | none => rfl
      | some u => rw [x1.fh a u q] at h; cases h
    have sF : Same F1 (upd (upd H1 dx (.own x)) x (.ins C dx [])) := fun b o q => by
      rw [upd_ne (fun z => by rw [z, nF hx] at q; cases q), upd_ne (fun z => by rw [z, nF hdx] at q; cases q)]
      exact x1.fh b o q
    have sH : Same H1 (upd (upd H1 dx (.own x)) x (.ins C dx [])) := fun b o q => by
      rw [upd_ne (ne_of_none q hx), upd_ne (ne_of_none q hdx)]
      exact q
    refine ⟨F1, x, C, dx, ns, vs, ds, rfl, hcl, sF, nF hx, upd_same, r1, hn env ds e, ?_⟩
    have ext : ∀ {F' H' O'}, SExt F1 (upd (upd H1 dx (.own x)) x (.ins C dx [])) [x] F' H' O' → Ext F H F' H' := fun {F' H' O'} y =>
      ⟨x1.ff.trans y.ff, fun b o q => by
        have q1 := x1.hh b o q
        exact y.fr b o (sH b o q1) (by simp; exact ne_of_none q1 hx), y.fh, fun b h1 h2 => by
        have h3 := x1.ow b h1 h2
        have h4 : H1 b ≠ none := x1.some h2
        have h5 : b ≠ x := fun z => h4 (z ▸ hx)
        refine y.ow b h3 ?_ (by simp; exact h5)
        cases q : H1 b with
        | none => exact (h4 q).elim
        | some o => rw [sH b o q]; exact fun e => nomatch e⟩
    cases eg : g ds with
    | bad => rw [eg] at p; exact p.elim
    | xc e => rw [eg] at p; exact fun F' H' O' y => p F' H' (ext y)
    | ok fl =>
      rw [eg, Res.bind_ok] at p
      intro F' H' O' y w
      refine ⟨rfl, ?_⟩
      split at p
      · rename_i n
        have fr : Fresh H O' := fun a ha => by
          rcases y.oo a ha with z | z
          · simp at z; subst z; exact x1.hh.free hx
          · exact x1.hh.free (sH.free z)
        have no : ∀ a ∈ O', F' a = none := fun a ha => (w.dom a ha).1
        have z := w.freeze (addF_same no) addF_at (show nod (.oo none c fl) = true from n)
        exact p _ _ H' [] (addF_ext (ext y) fr no) Fresh.nil (.inl (.sh z))
      · exact p.elim
  · exact p.elim

theorem Sts.unset (s : Same F H) {g : Env} (st : Sts K cls F H σ g O) (i : Nat) : ∃ O', Sts K cls F H (σ.set i none) (g.set i .un) O' ∧ ∀ a ∈ O', a ∈ O := st.wipe s [i]
def eIs (i : Nat) (a : Addr) (b : Bool) : Env → Res D := fun g => match (g : List D)[i]? with
  | some (D.rf a') => if a' = a then .ok (.bl b) else .bad
  | _ => .bad
@[simp] theorem eIs_ (i : Nat) (a : Addr) (b : Bool) (g : Env) : eIs i a b g = match (g : List D)[i]? with
  | some (D.rf a') => if a' = a then .ok (.bl b) else .bad
  | _ => .bad := rfl
end
end DL

namespace DL
open PySem L2
section
variable {K : PySem.W.Frag} {cls : Cls} {W : WX} {X : Cx} {F H F' H' F1 H1 : Hp} {O O1 : List Addr} {Q : VK} {σ : St} {a b e tg iter elt : Expr} {es : List Expr} {fa fb fc : Env → Res D} {ga gb : Env → Res Bool} {fs : Env → Res (List D)} {pos : Pos}
theorem js_setFN {i : Nat} {x : Str} {pos' : Pos} (nd : X.N.Nodup) (hi : X.N[i]? = some x) (hx : Loc X.env.scope x) (ha : JE X cls W a fa) (hs : swapsWith a (some (.Name x pos')) pos.line X.env = pure false := by rfl)
    (hf : X.fn x = true ∨ X.env.scope.names.lookup x = some .local := by first | exact .inl rfl | exact .inr rfl) : JS X cls W (.Assign [.Name x pos'] a pos) (sAsgF i fa) := by
  obtain ⟨t, p, d⟩ := ha.ex
  exact ⟨_, ps_set nd hi hx p hs hf, ds_asgF d⟩
end
theorem law_sp {K : PySem.W.Frag} {cls : Cls} {g : List D → Res D} {H : Hp} {a : Addr} {ns : List Int} (h : g [.sc (ns.map D.int)] = .ok (.bl true)) (hS : SqL K H a (ns.map V.int)) :
    spD K cls 1 g [.ref a] H (fun v _ => v = .bl true) fun _ _ _ => False := by
  refine ⟨H, [.sc (ns.map D.int)], .refl H, .cons (.sc hS rps_ints) .nil, rfl, ?_⟩
  rw [h]
  intro v F' H' O' _ _ w
  cases w with
  | sh r => cases r; rfl
theorem law_cx {P : Program} {w : World} {H : Hp} {s : Shared} {e : Value} {s' : Shared} (h : L2.CX P w [] H s (fun _ _ _ => False) e s') : False := by
  obtain ⟨_, _, _, _, _, _, _, _, _, _, _, _, z⟩ := h
  exact z
end DL

namespace DL
open PySem L2
@[simp] theorem brw_un : brw .un = .un := rfl
@[simp] theorem brw_non : brw .non = .non := rfl
@[simp] theorem brw_bl {b} : brw (.bl b) = .bl b := rfl
@[simp] theorem brw_int {b} : brw (.int b) = .int b := rfl
@[simp] theorem brw_str {b} : brw (.str b) = .str b := rfl
@[simp] theorem brw_sc {b} : brw (.sc b) = .sc b := rfl
@[simp] theorem brw_ls {b} : brw (.ls b) = .ls b := rfl
@[simp] theorem brw_tp {b} : brw (.tp b) = .tp b := rfl
@[simp] theorem brw_ob {c b} : brw (.ob c b) = .ob c b := rfl
@[simp] theorem brw_ol {b} : brw (.ol b) = .bo (brws b) := rfl
@[simp] theorem brw_od {k b} : brw (.od k b) = .bd k (brws b) := rfl
@[simp] theorem brw_oo {o c b} : brw (.oo o c b) = .bb c (brws b) := rfl
@[simp] theorem brw_rf {b} : brw (.rf b) = .rf b := rfl
@[simp] theorem brws_nil : brws [] = [] := rfl
@[simp] theorem brws_cons {d ds} : brws (d :: ds) = brw d :: brws ds := rfl
@[simp] theorem frz_un : frz .un = .un := rfl
@[simp] theorem frz_non : frz .non = .non := rfl
@[simp] theorem frz_bl {b} : frz (.bl b) = .bl b := rfl
@[simp] theorem frz_int {b} : frz (.int b) = .int b := rfl
@[simp] theorem frz_str {b} : frz (.str b) = .str b := rfl
@[simp] theorem frz_sc {b} : frz (.sc b) = .sc b := rfl
@[simp] theorem frz_ls {b} : frz (.ls b) = .ls b := rfl
@[simp] theorem frz_tp {b} : frz (.tp b) = .tp b := rfl
@[simp] theorem frz_ob {c b} : frz (.ob c b) = .ob c b := rfl
@[simp] theorem frz_ol {b} : frz (.ol b) = .ls (frzs b) := rfl
@[simp] theorem frz_oo {o c b} : frz (.oo o c b) = .ob c (frzs b) := rfl
@[simp] theorem frz_od {k b} : frz (.od k b) = .od k b := rfl
@[simp] theorem frzs_nil : frzs [] = [] := rfl
@[simp] theorem frzs_cons {d ds} : frzs (d :: ds) = frz d :: frzs ds := rfl
@[simp] theorem pln_bo {b} : pln (.bo b) = .ls (plns b) := rfl
@[simp] theorem pln_int {b} : pln (.int b) = .int b := rfl
@[simp] theorem pln_ls {b} : pln (.ls b) = .ls b := rfl
@[simp] theorem pln_sc {b} : pln (.sc b) = .sc b := rfl
@[simp] theorem pln_tp {b} : pln (.tp b) = .tp b := rfl
@[simp] theorem pln_bl {b} : pln (.bl b) = .bl b := rfl
@[simp] theorem pln_str {b} : pln (.str b) = .str b := rfl
@[simp] theorem pln_non : pln .non = .non := rfl
@[simp] theorem pln_ob {c b} : pln (.ob c b) = .ob c b := rfl
@[simp] theorem plns_nil : plns [] = [] := rfl
@[simp] theorem plns_cons {d ds} : plns (d :: ds) = pln d :: plns ds := rfl
def dull : D → Prop := fun d => brw d = d ∧ frz d = d ∧ pln d = d ∧ nod d = true ∧ shd1 d = true ∧ plok d = true
theorem dulls {α : Type} {f : α → D} (h : ∀ a, dull (f a)) : ∀ l : List α, brws (l.map f) = l.map f ∧ frzs (l.map f) = l.map f ∧ plns (l.map f) = l.map f ∧ nods (l.map f) = true ∧ shd (l.map f) = true ∧ ploks (l.map f) = true
  | [] => ⟨rfl, rfl, rfl, rfl, rfl, rfl⟩
  | a :: l => by
    obtain ⟨h1, h2, h3, h4, h5, h6⟩ := dulls h l
    obtain ⟨k1, k2, k3, k4, k5, k6⟩ := h a
    refine ⟨?_, ?_, ?_, ?_, ?_, ?_⟩
    · simp [h1, k1]
    · simp [h2, k2]
    · simp [h3, k3]
    · simp [h4, k4]
    · simp [h5, k5]
    · simp [h6, k6]
theorem dull_int (i : Int) : dull (.int i) := ⟨rfl, rfl, rfl, rfl, rfl, rfl⟩
theorem dull_bl (i : Bool) : dull (.bl i) := ⟨rfl, rfl, rfl, rfl, rfl, rfl⟩
theorem dull_str (i : Str) : dull (.str i) := ⟨rfl, rfl, rfl, rfl, rfl, rfl⟩
@[simp] def dP (p : Int × Int) : D := .tp [.int p.1, .int p.2]
theorem dull_P (p : Int × Int) : dull (dP p) := ⟨rfl, rfl, rfl, rfl, rfl, rfl⟩
def dT (l : List Int) : D := .tp (l.map D.int)
theorem dull_T (l : List Int) : dull (dT l) := ⟨rfl, rfl, rfl, rfl, rfl, rfl⟩
section
variable (l : List Int)
@[simp] theorem brws_I : brws (l.map D.int) = l.map D.int := (dulls dull_int l).1
@[simp] theorem frzs_I : frzs (l.map D.int) = l.map D.int := (dulls dull_int l).2.1
@[simp] theorem plns_I : plns (l.map D.int) = l.map D.int := (dulls dull_int l).2.2.1
@[simp] theorem nods_I : nods (l.map D.int) = true := (dulls dull_int l).2.2.2.1
@[simp] theorem shd_I : shd (l.map D.int) = true := (dulls dull_int l).2.2.2.2.1
@[simp] theorem ploks_I : ploks (l.map D.int) = true := (dulls dull_int l).2.2.2.2.2
@[simp] theorem flats_I : flats (l.map D.int) = true := by
  induction l with
  | nil => rfl
  | cons a l ih => simp [ih]
end
section
variable (l : List (Int × Int))
@[simp] theorem brws_P : brws (l.map dP) = l.map dP := (dulls dull_P l).1
@[simp] theorem frzs_P : frzs (l.map dP) = l.map dP := (dulls dull_P l).2.1
@[simp] theorem plns_P : plns (l.map dP) = l.map dP := (dulls dull_P l).2.2.1
@[simp] theorem nods_P : nods (l.map dP) = true := (dulls dull_P l).2.2.2.1
@[simp] theorem shd_P : shd (l.map dP) = true := (dulls dull_P l).2.2.2.2.1
@[simp] theorem ploks_P : ploks (l.map dP) = true := (dulls dull_P l).2.2.2.2.2
end
@[simp] theorem atI_map {α β : Type} (f : α → β) (l : List α) (i : Int) : atI (l.map f) i = (atI l i).map f := by
  unfold atI
  rw [List.length_map]
  cases ixN l.length i with
  | none => rfl
  | some j => simp
theorem atI_of {α : Type} {l : List α} {i : Int} (h0 : 0 ≤ i) (h1 : i < l.length) : ∃ a, atI l i = some a ∧ l[i.toNat]? = some a := by
  have h : i.toNat < l.length := by omega
  refine ⟨l[i.toNat], ?_, by simp [h]⟩
  unfold atI ixN
  rw [if_pos h0, if_pos h1]
  simp [h]
theorem atI_natG {α : Type} {l : List α} {j : Nat} {i : Int} (e : i = (j : Int)) (h : j < l.length) : atI l i = l[j]? := by
  subst e
  unfold atI ixN
  rw [if_pos (by omega), if_pos (by omega)]
  simp
theorem ixN_nat {n : Nat} {i : Int} (h0 : 0 ≤ i) (h1 : i < n) : ixN n i = some i.toNat := by
  unfold ixN
  rw [if_pos h0, if_pos h1]
end DL

namespace DL
open PySem L2
def e60 : Int := 10 ^ 60
@[simp] theorem e60_pos : 0 < e60 := by decide
section
variable {a b i j : Int} {x y : Str} {xs ys : List D} {k l : Bool} {d e : D} {ks : List Key} {c n : Nat}
@[simp] theorem caLen_sc : caLen [.sc xs] = some (.int xs.length) := rfl
@[simp] theorem caLen_ls : caLen [.ls xs] = some (.int xs.length) := rfl
@[simp] theorem caLen_bo : caLen [.bo xs] = some (.int xs.length) := rfl
@[simp] theorem caLen_tp : caLen [.tp xs] = some (.int xs.length) := rfl
@[simp] theorem opIx_sc : opIx (.sc xs) (.int i) = atI xs i := rfl
@[simp] theorem opIx_ls : opIx (.ls xs) (.int i) = atI xs i := rfl
@[simp] theorem opIx_bo : opIx (.bo xs) (.int i) = atI xs i := rfl
@[simp] theorem opIx_tp : opIx (.tp xs) (.int i) = atI xs i := rfl
@[simp] theorem atI_two0 {α : Type} {p q : α} : atI [p, q] 0 = some p := rfl
@[simp] theorem atI_two1 {α : Type} {p q : α} : atI [p, q] 1 = some q := rfl
theorem opPow_eq : opPow (.int i) (.int j) = if CPow i j then some (.int (i ^ j.toNat)) else none := rfl
theorem opMod_eq : opMod (.int i) (.int j) = if j ≠ 0 then some (.int (if 0 < j then i % j else i.fmod j)) else none := rfl
theorem opDiv_eq : opDiv (.int i) (.int j) = if divOk j then some (.int (if 0 < j then i / j else i.fdiv j)) else none := rfl
theorem opMul_eq : opMul (.int i) (.int j) = if mulOk i j then some (.int (i * j)) else none := rfl
theorem opMul_ls : opMul (.ls xs) (.int i) = if i < 2 ^ 63 ∧ -(2 ^ 63) ≤ i ∧ xs.length * i.toNat ≤ lim then some (.ol (List.replicate i.toNat xs).flatten) else none := rfl
theorem caMax2_eq : caMax2 [.int a, .int b] = some (.int (if b > a then b else a)) := rfl
theorem caMin2_eq : caMin2 [.int a, .int b] = some (.int (if b < a then b else a)) := rfl
theorem caAbs_eq : caAbs [.int a] = some (.int (if a < 0 then -a else a)) := rfl
@[simp] theorem opPow_c : opPow (.int 10) (.int 60) = some (.int e60) := by
  rw [opPow_eq, if_pos (by unfold CPow; decide)]
  rfl
@[simp] theorem opMod_pos (h : 0 < b) : opMod (.int a) (.int b) = some (.int (a % b)) := by
  rw [opMod_eq, if_pos (by omega), if_pos h]
theorem divOk_small (h0 : b ≠ 0) (h : b.natAbs < 1073741824) : divOk b := ⟨h0, .inl h⟩
@[simp] theorem opDiv_pos (h : 0 < b) (h' : b < 1073741824) : opDiv (.int a) (.int b) = some (.int (a / b)) := by
  rw [opDiv_eq, if_pos (divOk_small (by omega) (by omega)), if_pos h]
@[simp] theorem opMul_l (h : -18446744073709551616 < a) (h' : a < 18446744073709551616) : opMul (.int a) (.int b) = some (.int (a * b)) := by
  rw [opMul_eq, if_pos (.inl (.inl ⟨by omega, by omega⟩))]
@[simp] theorem opMul_r (h : -18446744073709551616 < b) (h' : b < 18446744073709551616) : opMul (.int a) (.int b) = some (.int (a * b)) := by
  rw [opMul_eq, if_pos (.inl (.inr ⟨by omega, by omega⟩))]
@[simp] theorem opAdd_int : opAdd (.int a) (.int b) = some (.int (a + b)) := rfl
@[simp] theorem opSub_int : opSub (.int a) (.int b) = some (.int (a - b)) := rfl
@[simp] theorem opNeg_int : opNeg (.int a) = some (.int (-a)) := rfl
@[simp] theorem opAdd_tp (h : xs.length + ys.length ≤ lim) : opAdd (.tp xs) (.tp ys) = some (.tp (xs ++ ys)) := if_pos h
@[simp] theorem opAdd_ll (h : xs.length + ys.length ≤ lim) : opAdd (.ls xs) (.ls ys) = some (.ol (xs ++ ys)) := if_pos h
theorem opAdd_lst {d e : D} (h1 : lsv d = some xs) (h2 : lsv e = some ys) (h : xs.length + ys.length ≤ lim) : opAdd d e = some (.ol (xs ++ ys)) := by
  have e1 : opAdd d e = opAddL d e := by cases d <;> first | rfl | cases h1
  rw [e1]
  unfold opAddL
  rw [h1, h2]
  exact if_pos h
@[simp] theorem opAdd_lb (h2 : shd ys = true) (h : xs.length + ys.length ≤ lim) : opAdd (.ls xs) (.bo ys) = some (.ol (xs ++ ys)) := opAdd_lst rfl (by simp [h2]) h
@[simp] theorem opAdd_bl (h2 : shd xs = true) (h : xs.length + ys.length ≤ lim) : opAdd (.bo xs) (.ls ys) = some (.ol (xs ++ ys)) := opAdd_lst (by simp [h2]) rfl h
@[simp] theorem opAdd_bb (h1 : shd xs = true) (h2 : shd ys = true) (h : xs.length + ys.length ≤ lim) : opAdd (.bo xs) (.bo ys) = some (.ol (xs ++ ys)) := opAdd_lst (by simp [h1]) (by simp [h2]) h
@[simp] theorem opAdd_str (h : x.length + y.length ≤ lim) : opAdd (.str x) (.str y) = some (.str (x ++ y)) := if_pos h
@[simp] theorem opMul_rep (h : 0 ≤ a) (h' : a ≤ 100000) (h2 : xs.length ≤ 10) : opMul (.ls xs) (.int a) = some (.ol (List.replicate a.toNat xs).flatten) := by
  have : xs.length * a.toNat ≤ lim := by
    unfold lim
    have h1 : a.toNat ≤ 100000 := by omega
    exact Nat.le_trans (Nat.mul_le_mul h2 h1) (by decide)
  rw [opMul_ls, if_pos ⟨by omega, by omega, this⟩]
@[simp] theorem cLt_int : cLt (.int a) (.int b) = some (decide (a < b)) := rfl
@[simp] theorem cLe_int : cLe (.int a) (.int b) = some (decide (a ≤ b)) := rfl
@[simp] theorem cGt_int : cGt (.int a) (.int b) = some (decide (b < a)) := rfl
@[simp] theorem cGe_int : cGe (.int a) (.int b) = some (decide (b ≤ a)) := rfl
@[simp] theorem cEq_int : cEq (.int a) (.int b) = some (decide (a = b)) := rfl
@[simp] theorem cEq_str : cEq (.str x) (.str y) = some (decide (x = y)) := rfl
@[simp] theorem cEq_bl : cEq (.bl k) (.bl l) = some (decide (k = l)) := rfl
@[simp] theorem cNe_int : cNe (.int a) (.int b) = some (!decide (a = b)) := rfl
@[simp] theorem cNe_str : cNe (.str x) (.str y) = some (!decide (x = y)) := rfl
@[simp] theorem cNe_bl : cNe (.bl k) (.bl l) = some (!decide (k = l)) := rfl
@[simp] theorem cIsN_non : cIsN .non .non = some true := rfl
@[simp] theorem cIsN_int : cIsN (.int a) .non = some false := rfl
@[simp] theorem cIsN_tp : cIsN (.tp xs) .non = some false := rfl
@[simp] theorem cIsN_ls : cIsN (.ls xs) .non = some false := rfl
@[simp] theorem cIsN_bo : cIsN (.bo xs) .non = some false := rfl
@[simp] theorem cIsN_ob : cIsN (.ob c xs) .non = some false := rfl
@[simp] theorem cIsN_str : cIsN (.str x) .non = some false := rfl
@[simp] theorem caMax2_int : caMax2 [.int a, .int b] = some (.int (max a b)) := by
  rw [caMax2_eq, show (if b > a then b else a) = max a b by split <;> omega]
@[simp] theorem caMin2_int : caMin2 [.int a, .int b] = some (.int (min a b)) := by
  rw [caMin2_eq, show (if b < a then b else a) = min a b by split <;> omega]
@[simp] theorem caAbs_int : caAbs [.int a] = some (.int (a.natAbs : Int)) := by
  rw [caAbs_eq, show (if a < 0 then -a else a) = (a.natAbs : Int) by split <;> omega]
@[simp] theorem caList_ls : caList [.ls xs] = some (.ol xs) := rfl
@[simp] theorem caList_sc : caList [.sc xs] = some (.ol xs) := rfl
@[simp] theorem caList_tp : caList [.tp xs] = some (.ol xs) := rfl
@[simp] theorem caList_bo (h : shd xs = true) : caList [.bo xs] = some (.ol xs) := by simp [caList, h]
@[simp] theorem caTuple_ls : caTuple [.ls xs] = some (.tp xs) := rfl
@[simp] theorem caTuple_sc : caTuple [.sc xs] = some (.tp xs) := rfl
@[simp] theorem caTuple_tp : caTuple [.tp xs] = some (.tp xs) := rfl
@[simp] theorem caTuple_bo (h : shd xs = true) : caTuple [.bo xs] = some (.tp xs) := by simp [caTuple, h]
variable {ns : List Int}
@[simp] theorem caSorted_ls : caSorted [.ls (ns.map D.int)] = some (.ol ((srt ns).map D.int)) := by simp [caSorted]
@[simp] theorem caSorted_bo : caSorted [.bo (ns.map D.int)] = some (.ol ((srt ns).map D.int)) := by simp [caSorted]
@[simp] theorem opSl_tp {lo hi : Option Int} : opSl (.tp xs) lo hi = some (.tp (cut xs lo hi)) := rfl
@[simp] theorem opSl_ls {lo hi : Option Int} : opSl (.ls xs) lo hi = some (.ol (cut xs lo hi)) := rfl
@[simp] theorem opSl_sc {lo hi : Option Int} : opSl (.sc xs) lo hi = some (.ol (cut xs lo hi)) := rfl
@[simp] theorem opSl_bo {lo hi : Option Int} (h : shd xs = true) : opSl (.bo xs) lo hi = some (.ol (cut xs lo hi)) := by simp [opSl, h]
@[simp] theorem cut_map {α β : Type} (f : α → β) (l : List α) (lo hi : Option Int) : cut (l.map f) lo hi = (cut l lo hi).map f := by
  unfold cut
  simp
@[simp] theorem tru_bl : tru (.bl k) = some k := rfl
@[simp] theorem tru_int : tru (.int a) = some (a != 0) := rfl
@[simp] theorem tru_non : tru .non = some false := rfl
@[simp] theorem tru_ls : tru (.ls xs) = some (!xs.isEmpty) := rfl
@[simp] theorem tru_bo : tru (.bo xs) = some (!xs.isEmpty) := rfl
@[simp] theorem tru_tp : tru (.tp xs) = some (!xs.isEmpty) := rfl
@[simp] theorem cIn_ls : cIn (.int a) (.ls (ns.map D.int)) = some (decide (a ∈ ns)) := by simp [cIn]
@[simp] theorem cIn_tp : cIn (.int a) (.tp (ns.map D.int)) = some (decide (a ∈ ns)) := by simp [cIn]
@[simp] theorem cIn_bo : cIn (.int a) (.bo (ns.map D.int)) = some (decide (a ∈ ns)) := by simp [cIn]
@[simp] theorem cNIn_ls : cNIn (.int a) (.ls (ns.map D.int)) = some (!decide (a ∈ ns)) := by simp [cNIn]
@[simp] theorem cNIn_tp : cNIn (.int a) (.tp (ns.map D.int)) = some (!decide (a ∈ ns)) := by simp [cNIn]
@[simp] theorem cNIn_bo : cNIn (.int a) (.bo (ns.map D.int)) = some (!decide (a ∈ ns)) := by simp [cNIn]
@[simp] theorem opFld_ob : opFld c n (.ob c xs) = xs[n]? := if_pos rfl
@[simp] theorem opFld_bb : opFld c n (.bb c xs) = xs[n]? := if_pos rfl
@[simp] theorem calD_shd {g : List D → Res D} (h : shd xs = true) : calD g xs = g xs := if_pos h
end
end DL

namespace DL
open PySem L2
theorem lcL_map {α : Type} {tg : D → Env → Option Env} {te : Env → Res D} {g : Env} {f h : α → D} : ∀ (l : List α), (∀ a ∈ l, ∃ g1, tg (f a) g = some g1 ∧ (te g1).bind kp = .ok (h a)) → lcL tg tYesG te g (l.map f) = .ok (l.map h)
  | [], _ => rfl
  | a :: l, k => by
    obtain ⟨g1, e1, e2⟩ := k a (by simp)
    rw [List.map_cons, lcL_cons, e1]
    simp only [tYesG_, Res.bind_ok, if_true]
    rw [e2, lcL_map l fun b hb => k b (by simp [hb])]
    rfl
theorem lcL_mapN {α : Type} {s : Nat} {te : Env → Res D} {g : Env} {f h : α → D} (l : List α) (k : ∀ a ∈ l, (te (g.set s (f a))).bind kp = .ok (h a)) : lcL (gtN s) tYesG te g (l.map f) = .ok (l.map h) :=
  lcL_map l fun a ha => ⟨_, rfl, k a ha⟩
theorem cut_from {α : Type} (l : List α) (i : Int) (h : 0 ≤ i) : cut l (some i) none = l.drop i.toNat := by
  unfold cut
  obtain ⟨n, rfl⟩ := Int.eq_ofNat_of_zero_le h
  rw [HT.sIx_nat, HT.sIx_none]
  simp only [Int.toNat_natCast]
  by_cases hn : n ≤ l.length
  · rw [Nat.min_eq_left hn, List.take_of_length_le (by simp)]
  · rw [Nat.min_eq_right (by omega), List.drop_length, List.drop_eq_nil_of_le (by omega)]; simp
theorem cut_to {α : Type} (l : List α) (i : Int) (h : 0 ≤ i) : cut l none (some i) = l.take i.toNat := by
  unfold cut
  obtain ⟨n, rfl⟩ := Int.eq_ofNat_of_zero_le h
  rw [HT.sIx_nat, HT.sIx_none]
  simp only [Int.toNat_natCast, List.drop_zero, Nat.sub_zero]
  by_cases hn : n ≤ l.length
  · rw [Nat.min_eq_left hn]
  · rw [Nat.min_eq_right (by omega), List.take_of_length_le (Nat.le_refl _), List.take_of_length_le (by omega)]
theorem rng_map (lo : Int) (n : Nat) : rng lo n = ((List.range n).map fun i : Nat => lo + (i : Int)).map D.int := by unfold rng; simp
theorem lim_eq : lim = 1000000 := rfl
@[simp] theorem lim_0 : 0 ≤ lim := by decide
@[simp] theorem lim_1 : 1 ≤ lim := by decide
@[simp] theorem lim_2 : 2 ≤ lim := by decide
@[simp] theorem lim_3 : 3 ≤ lim := by decide
@[simp] theorem lim_4 : 4 ≤ lim := by decide
@[simp] theorem lim_5 : 5 ≤ lim := by decide
@[simp] theorem lim_6 : 6 ≤ lim := by decide
@[simp] theorem lim_7 : 7 ≤ lim := by decide
@[simp] theorem lim_8 : 8 ≤ lim := by decide
@[simp] theorem lim_9 : 9 ≤ lim := by decide
@[simp] theorem lim_10 : 10 ≤ lim := by decide
@[simp] theorem lim_11 : 11 ≤ lim := by decide
@[simp] theorem lim_12 : 12 ≤ lim := by decide
@[simp] theorem lim_13 : 13 ≤ lim := by decide
@[simp] theorem lim_14 : 14 ≤ lim := by decide
@[simp] theorem lim_15 : 15 ≤ lim := by decide
@[simp] theorem lim_16 : 16 ≤ lim := by decide
@[simp] theorem lim_17 : 17 ≤ lim := by decide
@[simp] theorem lim_18 : 18 ≤ lim := by decide
@[simp] theorem lim_19 : 19 ≤ lim := by decide
@[simp] theorem lim_20 : 20 ≤ lim := by decide
end DL

namespace DL
open PySem L2
noncomputable def mirI (f : Env → Out) (c n : Nat) : List D → Res (List D) := fun ds => by
  classical exact if h : ∃ r, ∀ x, runI f c n x ds = r then h.choose else .bad
theorem mirI_eq {f : Env → Out} {c n : Nat} {ds : List D} {r : Res (List D)} (h : ∀ x, runI f c n x ds = r) : mirI f c n ds = r := by
  unfold mirI
  rw [dif_pos ⟨r, h⟩]
  have := (Exists.choose_spec (⟨r, h⟩ : ∃ r, ∀ x, runI f c n x ds = r)) 0
  rw [← this, h 0]
theorem mirI_ok {f : Env → Out} {c n k : Nat} : ∀ ds x, ds.length = k → mirI f c n ds = .bad ∨ runI f c n x ds = mirI f c n ds := by
  intro ds x _
  by_cases h : ∃ r, ∀ x, runI f c n x ds = r
  · right
    obtain ⟨r, h⟩ := h
    rw [mirI_eq h, h x]
  · left
    unfold mirI
    rw [dif_neg h]
end DL

namespace DL
open PySem L2
def Enc {α : Type} [DecidableEq α] (f : α → D) (n : Nat) : Prop := ∃ p : α → PyData, (∀ a, toPy (f a) = some (p a) ∧ (p a).canLay0 = true ∧ (p a).depth ≤ n) ∧ ∀ a b, PyData.eqv (p a) (p b) = decide (a = b)
section
variable {α : Type} [DecidableEq α] {f : α → D} {n : Nat}
theorem toPys_map {f : α → D} {p : α → PyData} (h : ∀ a, toPy (f a) = some (p a)) : ∀ l : List α, toPys (l.map f) = some (l.map p)
  | [] => by simp [toPys]
  | a :: l => by simp [toPys, h a, toPys_map h l]
theorem eqvAll_map {p : α → PyData} (h : ∀ a b, PyData.eqv (p a) (p b) = decide (a = b)) : ∀ l m : List α, PyData.eqvAll (l.map p) (m.map p) = decide (l = m)
  | [], [] => by simp [PyData.eqvAll]
  | [], _ :: _ => by simp [PyData.eqvAll]
  | _ :: _, [] => by simp [PyData.eqvAll]
  | a :: l, b :: m => by
    simp only [List.map_cons, PyData.eqvAll, h a b, eqvAll_map h l m]
    by_cases e : a = b <;> by_cases e' : l = m <;> simp [e, e']
theorem lay_map {p : α → PyData} (h : ∀ a, (p a).canLay0 = true) : ∀ l : List α, PyData.canLayAll0 (l.map p) = true
  | [] => by simp [PyData.canLayAll0]
  | a :: l => by simp [PyData.canLayAll0, h a, lay_map h l]
theorem dep_map {p : α → PyData} (h : ∀ a, (p a).depth ≤ n) : ∀ l : List α, PyData.depthAll (l.map p) ≤ n
  | [] => by simp [PyData.depthAll]
  | a :: l => by
    simp only [List.map_cons, PyData.depthAll]
    exact Nat.max_le.mpr ⟨h a, dep_map h l⟩
theorem enc_int : Enc D.int 0 := ⟨.int, fun a => ⟨by simp [toPy], by simp [PyData.canLay0], by simp [PyData.depth]⟩, fun a b => by simp only [PyData.eqv]; by_cases e : a = b <;> simp [e]⟩
theorem enc_bl : Enc D.bl 0 := ⟨.bool, fun a => ⟨by simp [toPy], by simp [PyData.canLay0], by simp [PyData.depth]⟩, fun a b => by simp only [PyData.eqv]; by_cases e : a = b <;> simp [e]⟩
theorem Enc.ls (h : Enc f n) : Enc (fun l : List α => D.ls (l.map f)) (n + 1) := by
  obtain ⟨p, h1, h2⟩ := h
  refine ⟨fun l => .list (l.map p), fun l => ⟨by simp [toPy, toPys_map fun a => (h1 a).1], ?_, ?_⟩, fun l m => ?_⟩
  · simp [PyData.canLay0, lay_map fun a => (h1 a).2.1]
  · have := dep_map (fun a => (h1 a).2.2) l
    simp only [PyData.depth]; omega
  · simp only [PyData.eqv]; exact eqvAll_map h2 l m
theorem Enc.tp (h : Enc f n) : Enc (fun l : List α => D.tp (l.map f)) (n + 1) := by
  obtain ⟨p, h1, h2⟩ := h
  refine ⟨fun l => .tuple (l.map p), fun l => ⟨by simp [toPy, toPys_map fun a => (h1 a).1], ?_, ?_⟩, fun l m => ?_⟩
  · simp [PyData.canLay0, lay_map fun a => (h1 a).2.1]
  · have := dep_map (fun a => (h1 a).2.2) l
    simp only [PyData.depth]; omega
  · simp only [PyData.eqv]; exact eqvAll_map h2 l m
theorem Enc.pair {β : Type} [DecidableEq β] {g : β → D} (h : Enc f n) (h' : Enc g n) : Enc (fun x : α × β => D.tp [f x.1, g x.2]) (n + 1) := by
  obtain ⟨p, h1, h2⟩ := h
  obtain ⟨q, h3, h4⟩ := h'
  refine ⟨fun x => .tuple [p x.1, q x.2], fun x => ⟨by simp [toPy, toPys, h1 x.1, h3 x.2], ?_, ?_⟩, fun x y => ?_⟩
  · simp [PyData.canLay0, PyData.canLayAll0, h1 x.1, h3 x.2]
  · have a := (h1 x.1).2.2
    have b := (h3 x.2).2.2
    simp only [PyData.depth, PyData.depthAll]; omega
  · simp only [PyData.eqv, PyData.eqvAll, h2, h4]
    obtain ⟨x1, x2⟩ := x
    obtain ⟨y1, y2⟩ := y
    by_cases e : x1 = y1 <;> by_cases e' : x2 = y2 <;> simp [e, e']
theorem Enc.eq (h : Enc f n) (hn : n ≤ 64) (a b : α) : pyEq (f a) (f b) = some (decide (a = b)) := by
  obtain ⟨p, h1, h2⟩ := h
  have s : ∀ a, SeqAt.shaped (p a) = true := fun a => by
    have := (h1 a).2.2
    simp only [SeqAt.shaped, (h1 a).2.1, Bool.true_and, decide_eq_true_eq]; omega
  simp [pyEq, (h1 a).1, (h1 b).1, s, h2]
end
theorem toPy_bo {xs : List D} : toPy (.bo xs) = toPy (.ls xs) := by simp [toPy]
theorem pyEq_bl {xs ys : List D} : pyEq (.bo xs) (.ls ys) = pyEq (.ls xs) (.ls ys) := by simp [pyEq, toPy_bo]
theorem pyEq_lb {xs ys : List D} : pyEq (.ls xs) (.bo ys) = pyEq (.ls xs) (.ls ys) := by simp [pyEq, toPy_bo]
theorem pyEq_bb {xs ys : List D} : pyEq (.bo xs) (.bo ys) = pyEq (.ls xs) (.ls ys) := by simp [pyEq, toPy_bo]
@[simp] theorem cEq_ll {xs ys : List D} : cEq (.ls xs) (.ls ys) = pyEq (.ls xs) (.ls ys) := rfl
@[simp] theorem cEq_lbo {xs ys : List D} : cEq (.ls xs) (.bo ys) = pyEq (.ls xs) (.ls ys) := pyEq_lb
@[simp] theorem cEq_bol {xs ys : List D} : cEq (.bo xs) (.ls ys) = pyEq (.ls xs) (.ls ys) := pyEq_bl
@[simp] theorem cEq_bobo {xs ys : List D} : cEq (.bo xs) (.bo ys) = pyEq (.ls xs) (.ls ys) := pyEq_bb
@[simp] theorem cEq_tt {xs ys : List D} : cEq (.tp xs) (.tp ys) = pyEq (.tp xs) (.tp ys) := rfl
@[simp] theorem cNe_eq {a b : D} : cNe a b = (cEq a b).map (!·) := rfl
@[simp] theorem pyEq_lsI {xs ys : List Int} : pyEq (.ls (xs.map D.int)) (.ls (ys.map D.int)) = some (decide (xs = ys)) := enc_int.ls.eq (by omega) xs ys
@[simp] theorem pyEq_tpI {xs ys : List Int} : pyEq (.tp (xs.map D.int)) (.tp (ys.map D.int)) = some (decide (xs = ys)) := enc_int.tp.eq (by omega) xs ys
theorem enc_P : Enc dP 1 := enc_int.pair enc_int
@[simp] theorem pyEq_lsP {xs ys : List (Int × Int)} : pyEq (.ls (xs.map dP)) (.ls (ys.map dP)) = some (decide (xs = ys)) := enc_P.ls.eq (by omega) xs ys
@[simp] theorem pyEq_tpP {xs ys : List (Int × Int)} : pyEq (.tp (xs.map dP)) (.tp (ys.map dP)) = some (decide (xs = ys)) := enc_P.tp.eq (by omega) xs ys
@[simp] theorem pyEq_lsB {xs ys : List Bool} : pyEq (.ls (xs.map D.bl)) (.ls (ys.map D.bl)) = some (decide (xs = ys)) := enc_bl.ls.eq (by omega) xs ys
@[simp] theorem pyEq_tpB {xs ys : List Bool} : pyEq (.tp (xs.map D.bl)) (.tp (ys.map D.bl)) = some (decide (xs = ys)) := enc_bl.tp.eq (by omega) xs ys
@[simp] theorem pyEq_bbb {a b c d e f : Bool} : pyEq (.ls [.bl a, .bl b, .bl c]) (.ls [.bl d, .bl e, .bl f]) = some (decide ([a, b, c] = [d, e, f])) := pyEq_lsB (xs := [a, b, c]) (ys := [d, e, f])
@[simp] theorem pyEq_bb2 {a b d e : Bool} : pyEq (.ls [.bl a, .bl b]) (.ls [.bl d, .bl e]) = some (decide ([a, b] = [d, e])) := pyEq_lsB (xs := [a, b]) (ys := [d, e])
@[simp] theorem pyEq_nn : pyEq (.ls []) (.ls []) = some true := pyEq_lsI (xs := []) (ys := [])
@[simp] theorem pyEq_bn {a b c : Bool} : pyEq (.ls [.bl a, .bl b, .bl c]) (.ls []) = some false := by rw [show (.ls [.bl a, .bl b, .bl c] : D) = .ls ([a, b, c].map D.bl) from rfl, show (.ls [] : D) = .ls (([] : List Bool).map D.bl) from rfl, pyEq_lsB]; rfl
@[simp] theorem pyEq_nb {a b c : Bool} : pyEq (.ls []) (.ls [.bl a, .bl b, .bl c]) = some false := by rw [show (.ls [.bl a, .bl b, .bl c] : D) = .ls ([a, b, c].map D.bl) from rfl, show (.ls [] : D) = .ls (([] : List Bool).map D.bl) from rfl, pyEq_lsB]; rfl
end DL

namespace DL
open PySem L2
section
variable {xs ys : List D}
@[simp] theorem nods_append : nods (xs ++ ys) = (nods xs && nods ys) := by induction xs <;> simp [*, Bool.and_assoc]
@[simp] theorem frzs_append : frzs (xs ++ ys) = frzs xs ++ frzs ys := by induction xs <;> simp [*]
@[simp] theorem brws_append : brws (xs ++ ys) = brws xs ++ brws ys := by induction xs <;> simp [*]
@[simp] theorem plns_append : plns (xs ++ ys) = plns xs ++ plns ys := by induction xs <;> simp [*]
@[simp] theorem shd_append : shd (xs ++ ys) = (shd xs && shd ys) := by induction xs <;> simp [*, Bool.and_assoc]
@[simp] theorem ploks_append : ploks (xs ++ ys) = (ploks xs && ploks ys) := by induction xs <;> simp [*, Bool.and_assoc]
@[simp] theorem flats_append : flats (xs ++ ys) = (flats xs && flats ys) := by induction xs <;> simp [*, Bool.and_assoc]
end
theorem rng_succ (lo : Int) (n : Nat) : rng lo (n + 1) = .int lo :: rng (lo + 1) n := by
  unfold rng
  rw [List.range_succ_eq_map, List.map_cons, List.map_map]
  congr 1
  · simp
  · refine List.map_congr_left fun a _ => ?_
    simp; omega
end DL

namespace DL
open PySem PySem.Spec PyProof.Rows L2
section
variable {P : Program} {w : World} {A : Around} {E : Value → Shared → Prop} {s : Shared}
set_option maxHeartbeats 3200000 in
theorem call_set_listR {l : Addr} {items : Array Value} (ns : List Int) {Q : Value → Shared → Prop} (hh : A.handled = none) (hl : s.heap.IsList l items) (hit : IntsAre items.toList ns) (hb : ns.length + 1 < scanBound)
    (h : ∀ (h' : Heap) (tk c : Nat), SetR w h' s.heap.objs.size (fun j => decide (j ∈ ns)) c → c ≤ ns.length → (∀ b o, s.heap.get? b = some o → h'.get? b = some o) → Q (.ref s.heap.objs.size) { s with heap := h', toks := tk }) :
    wpAny (model P w) A (call (.type "set") [.ref l]) Q E s := by
  have hisz : items.size = ns.length := by
    have q := IntsAre.length hit
    rwa [Array.length_toList] at q
  obtain ⟨c, tl, hmro⟩ := F.called_set.mro
  have hmade := F.called_set.made
  have hsub := F.called_set.sub
  refine wpAny_call (codeAny_of_tree (wpAny_pure ⟨Code.quiet_builtin _ (by decide +kernel), codeAny_builtin F.entry_type_call ?_⟩))
  rw [Around.under_plain (weight_type_call_type "set" [.ref l] []) rfl]
  have h1 := F.called_set.notType
  have h2 := F.called_set.canCreate
  have hct := F.typeCall_set_1 (.ref l)
  repeat (any_goals (first | assumption | wp_step))
  generalize hO : ({ cls := .type "set", dict := none, data := .set #[] 0 (.fresh 0 0 (!w.params.followText "set-order")) } : Obj) = O
  refine codeAny_mono (code_set_led1 (.ref l) (E := E) (Q₁ := fun obj s₁ => obj = .ref s.heap.objs.size ∧ s₁ = { s with heap := s.heap.push O }) ⟨rfl, by rw [hO]⟩) fun r s₁ hr => ?_
  cases r with
  | error e => exact hr
  | ok fl =>
    cases fl with
    | ret obj =>
      obtain ⟨rfl, rfl⟩ := hr
      have hS : (s.heap.push O).get? s.heap.objs.size = some O := Heap.get?_push_size _ (by rw [← hO]; rfl)
      have hT : Shared.TypeIs { s with heap := s.heap.push O } (.ref s.heap.objs.size) "set" := ⟨_, hS, by rw [← hO]⟩
      have hli := F.called_set.init.lookup
      have hbi := F.called_set.init.bind (.ref s.heap.objs.size)
      repeat (any_goals (first | assumption | wp_step))
      refine codeAny_mono (codeAny_call_builtin (R := wants (fun r s₂ => r = .none ∧ ∃ h' tk c, s₂ = { s with heap := h', toks := tk } ∧ SetR w h' s.heap.objs.size (fun j => decide (j ∈ ns)) c ∧ c ≤ ns.length ∧
          (∀ b o, s.heap.get? b = some o → h'.get? b = some o)) E) F.called_set.init.plain F.entry_set_init (check_set_init_1 hT ?_)) fun r₂ s₂ hr₂ => ?_
      · have hlS : l < s.heap.objs.size := by
          obtain ⟨o, ho, _⟩ := hl
          exact Heap.lt_size ho
        have hl1 : (s.heap.push O).IsList l items := hl.push _
        obtain ⟨ol, hol', hcl, nl, hdl⟩ := hl1
        obtain ⟨ocls, odict, odata, oslots⟩ := ol
        simp only at hcl hdl
        subst hcl; subst hdl
        have hl2 : (s.heap.push O).IsList l items := ⟨_, hol', rfl, nl, rfl⟩
        have hsls := F.sub_list_set
        have hslf := F.sub_list_frozenset
        have hne : (Value.type "list" == Value.type "dict") = false := by decide
        have hneI : l ≠ (s.heap.push O).objs.size := by rw [Heap.size_push]; exact Nat.ne_of_lt (Nat.lt_succ_of_lt hlS)
        have hSf : s.heap.objs.size ∉ [(s.heap.push O).objs.size, l] := by
          rw [Heap.size_push]; simp only [List.mem_cons, List.not_mem_nil, or_false, not_or]
          exact ⟨Nat.ne_of_lt (Nat.lt_succ_self _), Nat.ne_of_gt hlS⟩
        subst hO
        unfold Builtin.«set.__init__» noKeywords Builtin.Frozenset.updateFrom
        generalize hPI : pyIter = PI
        wp_walk
        subst hPI
        refine wpAny_pyIter_list hl2 ?_
        refine wpAny_bind (wpAny_runValue ?_)
        have hval : ∀ (i : Nat) (v : Value), items[i]? = some v → ∃ k t, ns[i]? = some k ∧ v = .int k t := fun i v hv => by
          have hi : i < ns.length := by rw [← hisz]; exact (Array.getElem?_eq_some_iff.mp hv).1
          obtain ⟨t, e⟩ := PyProof.Rows.IntsAre.int_at hit i v (by rw [Array.getElem?_toList]; exact hv)
          exact ⟨ns[i], t, List.getElem?_eq_getElem hi, by rw [e, List.getD_eq_getElem?_getD, List.getElem?_eq_getElem hi] <;> rfl⟩
        refine set_update_ints ((Walks.list (by simp [hh]) _ l hneI items).toS) s.heap.objs.size hSf ns hisz hb hval (items.size - 0) 0 _ (by omega) (Nat.zero_le _)
          ⟨⟨_, Heap.get?_push_size _ rfl, rfl, rfl⟩, (hl2.push _)⟩ ⟨0, Nat.le_refl 0, setR_new_at (Heap.get?_push_of_some _ hS)⟩ fun s' c' hm hc' hS' => ?_
        obtain ⟨h', g2, d', tk', os'⟩ := s'
        have eg : g2 = s.gens := hm.gens
        have ed : d' = s.drawn := hm.drawn
        have eo : os' = s.os := hm.os
        subst eg; subst ed; subst eo
        refine wpAny_pure ?_
        rw [hisz] at hc'
        refine wpAny_pure ⟨rfl, h', tk', c', rfl, hS', hc', fun b o e => ?_⟩
        have hb0 : b < s.heap.objs.size := Heap.lt_size e
        refine hm.heap b o ?_ (Heap.get?_push_of_some _ (Heap.get?_push_of_some _ e))
        simp only [List.mem_cons, List.not_mem_nil, or_false, not_or, Heap.size_push]
        exact ⟨Nat.ne_of_lt hb0, Nat.ne_of_lt (Nat.lt_succ_of_lt hb0)⟩
      · cases r₂ with
        | error e => exact hr₂
        | ok fl₂ =>
          cases fl₂ with
          | ret r =>
            obtain ⟨rfl, h', tk, c', rfl, hS', hc', hk'⟩ := hr₂
            repeat (any_goals (first | assumption | wp_step))
            exact h _ _ _ hS' hc' hk'
          | _ => exact hr₂.elim
    | _ => exact hr.elim
end
end DL

namespace DL
open PySem PySem.Spec PyProof.Rows L2
section
variable {X : Cx} {cls : Cls} {W : WX} {K : PySem.W.Frag} {F H F' H' : Hp}
theorem rgV_ints (a b : Int) : rgV a b = ((List.range (b - a).toNat).map fun i : Nat => a + (i : Int)).map V.int := by unfold rgV; simp
def eLR1 (fa : Env → Res D) : Env → Res D := fun g => (fa g).bind fun d => match opd d with
  | .int n => if rgOk n ∧ n ≤ 1000000 then .ok (.ol (rng 0 n.toNat)) else .bad
  | _ => .bad
theorem je_lr1 {a : Expr} {p p2 pos q : Pos} {fa : Env → Res D} (c : Cn X W k) (hm : X.mg "list" = none) (hm2 : X.mg "range" = none) (ha : JE X cls W a fa)
    (hg : Gl X "list" := by rfl) (hg2 : Gl X "range" := by rfl) (na : starEach [a] X.env = (false, eval a X.env) :: starEach [] X.env := by rfl)
    (na2 : starEach [.Call (.Name "range" p2) [a] [] q] X.env = (false, eval (.Call (.Name "range" p2) [a] [] q) X.env) :: starEach [] X.env := by rfl) :
    JE X cls W (.Call (.Name "list" p) [.Call (.Name "range" p2) [a] [] q] [] pos) (eLR1 fa) := by
  obtain ⟨ta, pa, da⟩ := ha.ex
  refine ⟨_, pe_listRg c.calm hg hm (prg_1 hg2 hm2 pa na) na2, ?_⟩
  intro σ F H g O Q s st p
  unfold eLR1 at p
  refine da.go s st (fun c e => by rw [e] at p; exact p) (fun e => by rw [e] at p; exact p) fun d e v F1 H1 x1 b1 => ?_
  rw [e] at p
  simp only [Res.bind] at p
  cases eo : opd d with
  | int n =>
    rw [eo] at p b1
    simp only at p
    split at p
    · rename_i hn
      obtain rfl := b1.int
      refine ⟨n, rfl, ⟨by omega, by omega, hn.1.lo, hn.1.hi, by omega⟩, fun q hq => ?_⟩
      · refine p (.ref q) _ _ [q] (x1.trans (Ext.own x1.fh hq)) ((fresh_new hq).mono x1.hh) (.inl ?_)
        rw [rgV_ints, rng_map]
        rw [show (n - 0).toNat = n.toNat by omega]
        exact ow_new x1.fh hq rps_ints.toOws
    · exact p.elim
  | _ => rw [eo] at p; exact p.elim
end
end DL

namespace DL
open PySem PySem.Spec PyProof.Rows L2
section
variable {X : Cx} {cls : Cls} {W : WX} {K : PySem.W.Frag} {F H F' H' : Hp}
end
end DL

namespace DL
open PySem PySem.Spec PyProof.Rows L2
def insU (x : Int) : List Int → List Int
  | [] => [x]
  | y :: l => if x < y then x :: y :: l else if x = y then y :: l else y :: insU x l
def sset : List Int → List Int
  | [] => []
  | x :: l => insU x (sset l)
theorem insU_mem (x k : Int) : ∀ l : List Int, k ∈ insU x l ↔ k = x ∨ k ∈ l
  | [] => by simp [insU]
  | y :: l => by
    unfold insU
    split
    · simp
    · split
      · rename_i h; subst h; simp
      · simp only [List.mem_cons, insU_mem x k l]
        constructor
        · rintro (h | h | h) <;> simp [h]
        · rintro (h | h | h) <;> simp [h]
theorem insU_rise (x : Int) : ∀ l : List Int, l.Pairwise (· < ·) → (insU x l).Pairwise (· < ·)
  | [], _ => by simp [insU]
  | y :: l, h => by
    obtain ⟨h1, h2⟩ := List.pairwise_cons.mp h
    unfold insU
    split
    · rename_i hx
      exact List.pairwise_cons.mpr ⟨fun k hk => by rcases List.mem_cons.mp hk with rfl | hk; exact hx; exact Int.lt_trans hx (h1 k hk), h⟩
    · split
      · exact h
      · rename_i n1 n2
        refine List.pairwise_cons.mpr ⟨fun k hk => ?_, insU_rise x l h2⟩
        rcases (insU_mem x k l).mp hk with rfl | hk
        · omega
        · exact h1 k hk
theorem sset_mem (k : Int) : ∀ l : List Int, k ∈ sset l ↔ k ∈ l
  | [] => Iff.rfl
  | x :: l => by simp only [sset, insU_mem, sset_mem k l, List.mem_cons]
theorem sset_rise : ∀ l : List Int, (sset l).Pairwise (· < ·)
  | [] => .nil
  | x :: l => insU_rise x _ (sset_rise l)
theorem rise_uniq : ∀ {l m : List Int}, l.Pairwise (· < ·) → m.Pairwise (· < ·) → (∀ k, k ∈ l ↔ k ∈ m) → l = m
  | [], [], _, _, _ => rfl
  | [], y :: m, _, _, h => absurd ((h y).mpr (List.mem_cons_self ..)) (by simp)
  | x :: l, [], _, _, h => absurd ((h x).mp (List.mem_cons_self ..)) (by simp)
  | x :: l, y :: m, a, b, h => by
    obtain ⟨a1, a2⟩ := List.pairwise_cons.mp a
    obtain ⟨b1, b2⟩ := List.pairwise_cons.mp b
    have e : x = y := by
      rcases List.mem_cons.mp ((h x).mp (List.mem_cons_self ..)) with e | e
      · exact e
      · rcases List.mem_cons.mp ((h y).mpr (List.mem_cons_self ..)) with e' | e'
        · exact e'.symm
        · have := a1 y e'; have := b1 x e; omega
    subst e
    congr 1
    refine rise_uniq a2 b2 fun k => ⟨fun hk => ?_, fun hk => ?_⟩
    · rcases List.mem_cons.mp ((h k).mp (List.mem_cons_of_mem _ hk)) with e | e
      · have := a1 k hk; omega
      · exact e
    · rcases List.mem_cons.mp ((h k).mpr (List.mem_cons_of_mem _ hk)) with e | e
      · have := b1 k hk; omega
      · exact e
theorem rise_nodup {l : List Int} (h : l.Pairwise (· < ·)) : l.Nodup := h.imp fun h e => by omega
section
variable {X : Cx} {cls : Cls} {W : WX} {K : PySem.W.Frag} {F H F' H' : Hp}
theorem setR_len {w : World} {h : Heap} {a : Addr} {ns : List Int} {c : Nat} (R : SetR w h a (fun j => decide (j ∈ ns)) c) : c = (sset ns).length := by
  obtain ⟨o, es, ep, t, ho, hex, hd, g, nd, hm, hb, hf, hn, hr, hl⟩ := R
  have p : (es.toList.map keyOf).Perm (sset ns) := (List.perm_ext_iff_of_nodup nd (rise_nodup (sset_rise ns))).mpr fun k => by
    rw [sset_mem]
    have := hm k
    simpa using this.symm
  rw [← p.length_eq, List.length_map, Array.length_toList]
  exact hn.symm
def rSetIL (K : PySem.W.Frag) (w : World) : List V → Hp → VK → Prop := fun vs H Q => ∃ (l : Addr) (ns : List Int), vs = [.ref l] ∧ SqL K H l (ns.map V.int) ∧ ns.length ≤ 4000 ∧ ∀ p, H p = none → Q (.ref p) (upd H p (SetO w p (fun j => decide (j ∈ ns)) (sset ns).length))
theorem cr_setIL (hc : X.calm = true) : CallR X (.type "set") (rSetIL X.K X.w) := by
  intro pins s σ H vs us Q I r h
  obtain ⟨l, ns, rfl, hq, hz, q⟩ := h
  rw [Vals.ref1 r]
  obtain ⟨its, r, pl, _⟩ := I.list hq
  refine call_set_listR ns (I.ok.hd hc) pl.isList (by simpa using r.ints) (by unfold scanBound; omega) fun h' tk c hS hc' hk => ?_
  have e := setR_len hS
  subst e
  exact ⟨.ref s.heap.objs.size, upd H s.heap.objs.size (SetO X.w s.heap.objs.size (fun j => decide (j ∈ ns)) (sset ns).length), I.laid (t' := tk) hk (Nat.le_refl _) (setO_new hS), rfl, q _ (I.hok.fresh (Nat.le_refl _))⟩
def tLenS (K : PySem.W.Frag) (ta : TE) : TE := fun σ H Q => ta σ H fun x H1 => ∃ (l : Addr) (ns : List Int), x = V.ref l ∧ SqL K H1 l (ns.map V.int) ∧ ns.length ≤ 4000 ∧ Q (.int (sset ns).length) H1
theorem pe_lenS {a : Expr} {ta : TE} {p p2 q pos : Pos} (hc : X.calm = true) (hg : Gl X "len") (hm : X.mg "len" = none) (hg2 : Gl X "set") (hm2 : X.mg "set" = none) (ha : PE X a ta)
    (na : starEach [a] X.env = (false, eval a X.env) :: starEach [] X.env := by rfl) : PE X (.Call (.Name "len" p) [.Call (.Name "set" p2) [a] [] q] [] pos) (tLenS X.K ta) := by
  refine ⟨fun pins s σ H Q I h => ?_⟩
  refine Call_ (ld_blt I hg hm PySem.boot_len ?_)
  refine PyProof.Rows.callWith_builtin1 (PyProof.Rows.args_cons ?_ rfl) rfl rfl
  refine Call_ (ld_blt I hg2 hm2 PyProof.Rows.boot_set ?_)
  refine PyProof.Rows.callWith_type1 (PyProof.Rows.args_cons (thn (ha.run pins s σ H _ I h) fun v s1 ⟨x, H1, I1, r1, q1⟩ => PyProof.Rows.args_nil ?_) na) na rfl
  obtain ⟨l, ns, rfl, hq, h1, q1⟩ := q1
  cases r1
  obtain ⟨its, r, pl, _⟩ := I1.list hq
  refine call_set_listR ns (I1.ok.hd hc) pl.isList (by simpa using r.ints) (by unfold scanBound; omega) fun h' tk c hS hc' hk => ?_
  have e := setR_len hS
  obtain ⟨o, es, ep, t, ho, hex, hd, g, nd, hm, hb, hf, hn, hr, hl⟩ := hS
  refine PyProof.Rows.args_nil ?_
  have I2 : Inv X pins σ H1 { s1 with heap := h', toks := tk } := I1.kept hk
  exact call_len_set ho hex hd hf (by rw [hn] <;> omega) ⟨.int (sset ns).length, H1, I2.tok _, ⟨_, by rw [hn, e]⟩, q1⟩
def lsI (d : D) : Option (List Int) := match sqL (opd d) with
  | some xs => intsOf xs
  | none => none
theorem lsI_ok {v : V} {d : D} {ns : List Int} (s : Same F H) (b : Bo K cls F H v (opd d)) (e : lsI d = some ns) : ∃ a, v = .ref a ∧ SqL K H a (ns.map V.int) := by
  unfold lsI at e
  cases h1 : sqL (opd d) with
  | none => rw [h1] at e; cases e
  | some xs => rw [h1] at e; exact b.sqI s h1 e
@[simp] theorem lsI_ls (ns : List Int) : lsI (.ls (ns.map D.int)) = some ns := by simp [lsI]
@[simp] theorem lsI_bo (ns : List Int) : lsI (.bo (ns.map D.int)) = some ns := by simp [lsI]
@[simp] theorem lsI_ol (ns : List Int) : lsI (.ol (ns.map D.int)) = some ns := by simp [lsI]
def eLenSet (fa : Env → Res D) : Env → Res D := fun g => (fa g).bind fun d => match lsI d with
  | some ns => if ns.length ≤ 4000 then .ok (.int (sset ns).length) else .bad
  | none => .bad
def eSortedSet (fa : Env → Res D) : Env → Res D := fun g => (fa g).bind fun d => match lsI d with
  | some ns => if ns.length < 64 then .ok (.ol ((sset ns).map D.int)) else .bad
  | none => .bad
theorem je_lenset {a : Expr} {p p2 q pos : Pos} {fa : Env → Res D} (c : Cn X W k) (hm : X.mg "len" = none) (hm2 : X.mg "set" = none) (ha : JE X cls W a fa) (hg : Gl X "len" := by rfl) (hg2 : Gl X "set" := by rfl)
    (na : starEach [a] X.env = (false, eval a X.env) :: starEach [] X.env := by rfl) : JE X cls W (.Call (.Name "len" p) [.Call (.Name "set" p2) [a] [] q] [] pos) (eLenSet fa) := by
  obtain ⟨ta, pa, da⟩ := ha.ex
  refine ⟨_, pe_lenS c.calm hg hm hg2 hm2 pa na, ?_⟩
  intro σ F H g O Q s st p
  unfold eLenSet at p
  refine da.go s st (fun c e => by rw [e] at p; exact p) (fun e => by rw [e] at p; exact p) fun d e v F1 H1 x1 b1 => ?_
  rw [e] at p
  simp only [Res.bind] at p
  cases eo : lsI d with
  | none => rw [eo] at p; exact p.elim
  | some ns =>
    rw [eo] at p
    simp only at p
    split at p
    · rename_i hz
      obtain ⟨l, rfl, h⟩ := lsI_ok x1.fh b1 eo
      exact ⟨l, ns, rfl, h, hz, p _ F1 H1 [] x1 Fresh.nil (.inl (.sh (.int _)))⟩
    · exact p.elim
theorem je_sortedset {a : Expr} {p p2 q pos : Pos} {fa : Env → Res D} (c : Cn X W k) (hm : X.mg "sorted" = none) (hm2 : X.mg "set" = none) (ha : JE X cls W a fa) (hg : Gl X "sorted" := by rfl) (hg2 : Gl X "set" := by rfl)
    (na : starEach [a] X.env = (false, eval a X.env) :: starEach [] X.env := by rfl)
    (na2 : starEach [.Call (.Name "set" p2) [a] [] q] X.env = (false, eval (.Call (.Name "set" p2) [a] [] q) X.env) :: starEach [] X.env := by rfl) :
    JE X cls W (.Call (.Name "sorted" p) [.Call (.Name "set" p2) [a] [] q] [] pos) (eSortedSet fa) := by
  obtain ⟨ta, pa, da⟩ := ha.ex
  refine ⟨_, pe_callB (cr_sortedSet c.calm) hg hm (by decide +kernel) (pa_cons (pe_callTy (cr_setIL c.calm) hg2 hm2 (by decide +kernel) (pa_cons pa pa_nil na) (by decide) (by decide) na (by rfl)) pa_nil na2) (by decide) (by decide) na2 (by rfl), ?_⟩
  intro σ F H g O Q s st p
  unfold eSortedSet at p
  refine da.go s st (fun c e => by rw [e] at p; exact p) (fun e => by rw [e] at p; exact p) fun d e v F1 H1 x1 b1 => ?_
  rw [e] at p
  simp only [Res.bind] at p
  cases eo : lsI d with
  | none => rw [eo] at p; exact p.elim
  | some ns =>
    rw [eo] at p
    simp only at p
    split at p
    · rename_i hz
      obtain ⟨l, rfl, h⟩ := lsI_ok x1.fh b1 eo
      have hlen : (sset ns).length ≤ ns.length := by
        have : ∀ l : List Int, (sset l).length ≤ l.length := fun l => by
          induction l with
          | nil => exact Nat.le_refl _
          | cons x l ih =>
            have : ∀ m : List Int, (insU x m).length ≤ m.length + 1 := fun m => by
              induction m with
              | nil => exact Nat.le_refl _
              | cons y m ih => unfold insU; split; simp; split; simp; simp; omega
            have := this (sset l)
            simp only [sset, List.length_cons]; omega
        exact this ns
      refine ⟨l, ns, rfl, h, by omega, fun p1 hp1 => ⟨p1, _, _, rfl, upd_same, by omega, fun ns' q pw hm' _ hq => ?_⟩⟩
      obtain rfl : ns' = sset ns := rise_uniq pw (sset_rise ns) fun k => by rw [hm' k, sset_mem]; simp
      have s1 : Same F1 (upd H1 p1 (SetO X.w p1 (fun j => decide (j ∈ ns)) (sset ns).length)) := x1.fh.trans (upd_same' hp1)
      have E1 := Ext.own (o := SetO X.w p1 (fun j => decide (j ∈ ns)) (sset ns).length) x1.fh hp1
      exact p (.ref q) _ _ [q] ((x1.trans E1).trans (Ext.own s1 hq)) ((fresh_new hq).mono (x1.trans E1).hh) (.inl (ow_new s1 hq rps_ints.toOws))
    · exact p.elim
end
end DL
namespace DL
@[simp] theorem eLR1_ (fa : Env → Res D) (g : Env) : eLR1 fa g = (fa g).bind fun d => match opd d with
  | .int n => if rgOk n ∧ n ≤ 1000000 then .ok (.ol (rng 0 n.toNat)) else .bad
  | _ => .bad := rfl
@[simp] theorem eLenSet_ (fa : Env → Res D) (g : Env) : eLenSet fa g = (fa g).bind fun d => match lsI d with
  | some ns => if ns.length ≤ 4000 then .ok (.int (sset ns).length) else .bad
  | none => .bad := rfl
@[simp] theorem eSortedSet_ (fa : Env → Res D) (g : Env) : eSortedSet fa g = (fa g).bind fun d => match lsI d with
  | some ns => if ns.length < 64 then .ok (.ol ((sset ns).map D.int)) else .bad
  | none => .bad := rfl
def iota (n : Nat) : List Int := (List.range n).map fun i : Nat => (i : Int)
@[simp] theorem iota_len (n : Nat) : (iota n).length = n := by simp [iota]
end DL

namespace DL
open PySem PySem.Spec PyProof.Rows L2
section
variable {P : Program} {w : World} {A : Around} {E : Value → Shared → Prop} {s : Shared}
theorem collect_tup {l : Addr} {vs : List Value} {Q : List Value → Shared → Prop} (hl : s.heap.IsTuple l vs.toArray)
    (h : Q vs { s with heap := (s.heap.push (seqObj "list" #[] 0)).update s.heap.objs.size (Obj.mapSeq (· ++ vs.toArray)) }) (hsz : vs.length ≤ sizeLine) : wpAny (model P w) A (collect (.ref l)) Q E s := by
  obtain ⟨o, ho, hc, n, hd⟩ := id hl
  unfold collect
  refine wpAny_bind (wpAny_runValue (codeAny_builtin entry_proto_collect' ?_))
  show wpAny _ _ (do again (.builtin "list.__iadd__" ⟨[← newList [], .ref l], []⟩)) _ _ s
  refine wpAny_bind (wpAny_newList (wpAny_pure ⟨Code.quiet_builtin _ (by decide +kernel), codeAny_builtin entry_list_iadd' ?_⟩))
  show wpAny _ _ (Builtin.List.listExtendWith (.ref s.heap.objs.size) (.ref l) (.ref s.heap.objs.size)) _ _ { s with heap := s.heap.push (seqObj "list" #[] 0) }
  unfold Builtin.List.listExtendWith
  have ho' : (s.heap.push (seqObj "list" #[] 0)).get? l = some o := Heap.get?_push_of_some _ ho
  have hg : (s.heap.push (seqObj "list" #[] 0)).get? s.heap.objs.size = some (seqObj "list" #[] 0) := Heap.get?_push_size _ rfl
  refine wpAny_bind (wpAny_typeOf (T := "tuple") ⟨o, ho', hc⟩ ?_)
  rw [if_pos (by simp [show (Value.type "tuple" == Value.type "tuple") = true by rfl])]
  refine wpAny_bind (listItems_at ho' hd (wpAny_bind (listItems_at (xs := #[]) (n := 0) hg rfl ?_)))
  rw [if_neg (by simp)]
  refine wpAny_bind (listUpdate_at (xs := #[]) (n := 0) hg rfl (wpAny_pure ?_) (Nat.zero_le _) (by show (#[] ++ vs.toArray).size ≤ sizeLine + 1; simp only [Array.size_append, List.size_toArray, List.length_nil]; omega))
  show wpAny (model P w) A (do
      let o ← load s.heap.objs.size
      match o.data with
      | .seq xs _ => pure xs.toList
      | _ => unsupported "internal:collect") Q E { s with heap := (s.heap.push (seqObj "list" #[] 0)).update s.heap.objs.size (Obj.mapSeq (· ++ vs.toArray)) }
  refine wpAny_bind (wpAny_load (get?_update_seq hg _) ?_)
  show wpAny _ _ (pure ((#[] : Array Value) ++ vs.toArray).toList) Q E _
  rw [show ((#[] : Array Value) ++ vs.toArray).toList = vs by simp]
  exact wpAny_pure h
end
end DL
namespace SrtO
open PySem PyProof.Rows Srt
section
variable {prog : Program} {w : World} {A : Around} {E : Value → Shared → Prop} {s : Shared}
theorem sorted_ord_tup {l : Addr} {vs : List Value} {ltv : Value → Value → Bool} {Q : Value → Shared → Prop} (O : Swo ltv) (hl : s.heap.IsTuple l vs.toArray) (hz : vs.length ≤ sizeLine)
    (hS : 2 ≤ vs.length → ∀ (h₁ : Heap) (a : Addr), h₁.get? a = some (seqObj "list" vs.toArray 0) → SortableO prog w A.in1.in1 { s with heap := h₁ } a vs ltv)
    (h : ∀ out : List Value, Srtd ltv out → Stb ltv out vs → Q (.ref (s.heap.objs.size + 1)) { s with heap := sortedAll s.heap vs out.toArray }) :
    wpAny (model prog w) A (call (.builtin "sorted") [.ref l]) Q E s := by
  refine Calls.call_function_entry kind_sorted plain_sorted entry_sorted (args_sorted1 _) ?_
  unfold Builtin.«sorted»
  refine wpAny_bind (m := checkCount "sorted" 1 1 _) (wpAny_pure ?_)
  refine wpAny_bind (DL.collect_tup hl ?_ hz)
  refine wpAny_bind (wpAny_newList ?_ hz)
  have hsz : ((s.heap.push (seqObj "list" #[] 0)).update s.heap.objs.size (Obj.mapSeq (· ++ vs.toArray))).objs.size = s.heap.objs.size + 1 := by
    rw [Heap.size_update, size_push']
  have hoL : (((s.heap.push (seqObj "list" #[] 0)).update s.heap.objs.size (Obj.mapSeq (· ++ vs.toArray))).push (seqObj "list" vs.toArray 0)).get? (s.heap.objs.size + 1) = some (seqObj "list" vs.toArray 0) := by
    rw [← hsz]; exact Heap.get?_push_size _ rfl
  show wpAny _ _ _ _ _ { s with heap := ((s.heap.push (seqObj "list" #[] 0)).update s.heap.objs.size (Obj.mapSeq (· ++ vs.toArray))).push (seqObj "list" vs.toArray 0) }
  rw [hsz]
  exact wpAny_bind (wpAny_holding (wpAny_call_entry slot_list_sort ⟨_, hoL, rfl⟩ entry_list_sort (list_sort_ord O hoL hz (fun h2 => hS h2 _ _ hoL) fun out hs hb => ⟨_, rfl, wpAny_pure ⟨_, rfl, h out hs hb⟩⟩) (args_list_sort _)))
end
end SrtO
namespace DL
open PySem PySem.Spec PyProof.Rows L2
section
variable {X : Cx} {cls : Cls} {K : PySem.W.Frag}
def rSortedTI (K : PySem.W.Frag) : List V → Hp → VK → Prop := fun vs H Q => ∃ (a : Addr) (ns : List Int), vs = [V.ref a] ∧ SqT K H a (ns.map V.int) ∧
  ∀ (ns' : List Int) (p : Addr), ns'.Perm ns → ns'.Pairwise (· ≤ ·) → H p = none → Q (.ref p) (upd H p (.lst (ns'.map V.int)))
theorem cr_sortedTI : CallR X (.builtin "sorted") (rSortedTI X.K) := by
  intro pins s σ H vs us Q I r h
  obtain ⟨a, ns, rfl, hs, q⟩ := h
  obtain ⟨its, rv, hl, hz⟩ := I.tuple hs
  rw [Vals.ref1 r]
  have hi := rv.ints
  have hl' : s.heap.IsTuple a its.toArray := hl
  refine SrtO.sorted_ord_tup SrtO.swo_int hl' (by rw [← rv.length]; exact hz) (fun h2 h₁ a' _ => SrtO.ints_sortable hi h2) fun out h1 h2 => ?_
  obtain ⟨k1, k2, k3⟩ := SrtO.ints_out hi h1 h2
  obtain ⟨ep, he'⟩ := PyProof.Rows.sortedAll_at s.heap its out.toArray
  have hlen : ((out.map SrtO.iv).map V.int).length ≤ sizeLine := by
    rw [List.length_map, k2.length_eq]
    rw [List.length_map] at hz
    exact hz
  exact ⟨.ref _, upd H (s.heap.objs.size + 1) (.lst ((out.map SrtO.iv).map V.int)), I.laid (t' := s.toks) (fun _ _ => PyProof.Rows.sortedAll_old) (Nat.le_succ _) ⟨hlen, out, ep, vals_of_ints k1, he'⟩, rfl, q _ _ k2 k3 (I.hok.fresh (Nat.le_succ _))⟩
def rSorted2 (K : PySem.W.Frag) : List V → Hp → VK → Prop := fun vs H Q => rSortedI K vs H Q ∨ rSortedTI K vs H Q
theorem cr_sorted2 : CallR X (.builtin "sorted") (rSorted2 X.K) := by
  intro pins s σ H vs us Q I r h
  rcases h with h | h
  · exact cr_sortedI pins s σ H vs us Q I r h
  · exact cr_sortedTI pins s σ H vs us Q I r h
def caSorted2 : List D → Option D
  | [.tp xs] => (intsOf xs).map fun ns => .ol ((srt ns).map D.int)
  | ds => caSorted ds
@[simp] theorem caSorted2_tp (ns : List Int) : caSorted2 [.tp (ns.map D.int)] = some (.ol ((srt ns).map D.int)) := by simp [caSorted2]
@[simp] theorem caSorted2_ls (ns : List Int) : caSorted2 [.ls (ns.map D.int)] = some (.ol ((srt ns).map D.int)) := by simp [caSorted2]
@[simp] theorem caSorted2_bo (ns : List Int) : caSorted2 [.bo (ns.map D.int)] = some (.ol ((srt ns).map D.int)) := by simp [caSorted2]
theorem ok_sorted2 : CaOk K cls (rSorted2 K) caSorted2 := by
  intro F H vs ds d Q s b e q
  unfold caSorted2 at e
  split at e
  · rename_i xs
    cases h2 : intsOf xs with
    | none => rw [h2] at e; cases e
    | some ns =>
      rw [h2] at e
      cases e
      obtain ⟨v, rfl, b1⟩ := b.one
      obtain ⟨a, ws, rfl, h3, _, r⟩ := b1.tpv s (xs := xs) rfl
      obtain rfl := intsOf_eq h2
      obtain rfl := r.ints
      refine .inr ⟨a, ns, rfl, h3, fun ns' p pm pw hp => ?_⟩
      obtain rfl := srt_uniq pm pw
      exact q _ _ _ [p] (Ext.own s hp) (fresh_new hp) (.inl (ow_new s hp rps_ints.toOws))
  · exact .inl (ok_sorted F H vs ds d Q s b e q)
end
end DL

set_option maxHeartbeats 1000000
namespace RT
open PySem PySem.Spec PyProof.Rows
section
variable {prog : Program} {w : World} {A : Around} {E : Value → Shared → Prop} {s : Shared}
end
end RT

namespace DL
open PySem PySem.Spec PyProof.Rows L2
section
variable {X : Cx} {cls : Cls} {W : WX} {K : PySem.W.Frag}
end
end DL

namespace DL
open PySem L2
section
variable {K : PySem.W.Frag} {cls : Cls} {W : WX} {X : Cx} {F H F' H' F1 H1 : Hp} {O O1 : List Addr} {Q : VK} {σ : St} {a b e : Expr} {es : List Expr} {fa fb fc : Env → Res D} {pos : Pos}
def own1 : D → Bool
  | .ol _ => true
  | .od _ _ => true
  | .oo _ _ _ => true
  | _ => false
@[simp] theorem own1_int {i} : own1 (.int i) = false := rfl
@[simp] theorem own1_tp {i} : own1 (.tp i) = false := rfl
@[simp] theorem own1_ls {i} : own1 (.ls i) = false := rfl
@[simp] theorem own1_bl {i} : own1 (.bl i) = false := rfl
@[simp] theorem own1_str {i} : own1 (.str i) = false := rfl
theorem Ow.int {v : V} {i : Int} (b : Ow K cls F H v (.int i) O) : v = .int i ∧ O = [] := by cases b with | sh r => cases r; exact ⟨rfl, rfl⟩
theorem Ows.inner : ∀ {vs : List V} {ds : List D} {O : List Addr} {k : Nat} {ys : List D}, Ows K cls F H vs ds O → ds[k]? = some (.ol ys) → ∃ p us O1, vs[k]? = some (.ref p) ∧ H p = some (.lst us) ∧ F p = none ∧ p ∉ O1 ∧ Ows K cls F H us ys O1 ∧ p ∈ O ∧ (∀ a ∈ O1, a ∈ O) ∧
    ∀ (F' H' : Hp) (ws : List V) (zs : List D) (O2 : List Addr), Ext F H F' H' → Ows K cls F' H' ws zs O2 → p ∉ O2 → (∀ a ∈ O2, a ∈ O1 ∨ H a = none) → ∃ O3, Ows K cls F' (upd H' p (.lst ws)) vs (ds.set k (.ol zs)) O3 ∧ ∀ a ∈ O3, a ∈ O ∨ H a = none
  | _, _, _, _, _, .nil, e => by simp at e
  | _, _, _, 0, ys, .cons (O1 := P1) (O2 := P2) h r dj eo, e => by
    simp at e
    subst e
    subst eo
    cases h with
    | sh r => cases r
    | @ol p us _ O1 f1 f2 f3 f4 =>
      refine ⟨p, us, O1, rfl, f2, f1, f3, f4, by simp, fun a ha => by simp [ha], fun F' H' ws zs O2 x w n k => ?_⟩
      have hp : F' p = none := x.ow p f1 (by rw [f2]; exact fun e => nomatch e)
      have up : ∀ b, b ≠ p → upd H' p (.lst ws) b = H' b := fun b hb => upd_ne hb
      refine ⟨(p :: O2) ++ P2, ?_, fun a ha => ?_⟩
      · refine Ows.cons (O1 := p :: O2) (O2 := P2) (.ol hp upd_same n (w.frame (.refl F') fun a ha => ⟨up a fun z => n (z ▸ ha), (w.dom a ha).1⟩)) ?_ (fun a h1 h2 => ?_) rfl
        · exact (r.ext x).frame (.refl F') fun a ha => ⟨up a fun z => dj a (by simp [z]) ha, ((r.ext x).dom a ha).1⟩
        · rcases List.mem_cons.mp h1 with z | z
          · exact dj a (by simp [z]) h2
          · rcases k a z with z | z
            · exact dj a (by simp [z]) h2
            · exact (r.dom a h2).2 z
      · rcases List.mem_append.mp ha with z | z
        · rcases List.mem_cons.mp z with z | z
          · exact .inl (by simp [z])
          · exact (k a z).imp (fun z => by simp [z]) id
        · exact .inl (by simp [z])
  | _, _, _, kk + 1, ys, .cons (O1 := P1) (O2 := P2) h r dj eo, e => by
    subst eo
    obtain ⟨p, us, O1, g1, g2, g3, g4, g5, g6, g7, g8⟩ := Ows.inner (k := kk) r (by simpa using e)
    refine ⟨p, us, O1, by simpa using g1, g2, g3, g4, g5, List.mem_append_right _ g6, fun a ha => List.mem_append_right _ (g7 a ha), fun F' H' ws zs O2 x w n k => ?_⟩
    obtain ⟨O3, w1, w2⟩ := g8 F' H' ws zs O2 x w n k
    have up : ∀ b, b ≠ p → upd H' p (.lst ws) b = H' b := fun b hb => upd_ne hb
    refine ⟨P1 ++ O3, ?_, fun a ha => ?_⟩
    · refine Ows.cons (O1 := P1) (O2 := O3) ((h.ext x).frame (.refl F') fun a ha => ⟨up a fun z => dj a ha (z ▸ g6), ((h.ext x).dom a ha).1⟩) (by simpa using w1) (fun a h1 h2 => ?_) rfl
      rcases w2 a h2 with z | z
      · exact dj a h1 z
      · exact (h.dom a h1).2 z
    · rcases List.mem_append.mp ha with z | z
      · exact .inl (List.mem_append_left _ z)
      · exact (w2 a z).imp (fun z => List.mem_append_right _ z) id
end
end DL

namespace TL
open PySem PySem.W PySem.Calls PyProof.Rows
theorem lex_anti : ∀ a b : List Int, HT.lexLt a b = false → HT.lexLt b a = false → a = b
  | [], [], _, _ => rfl
  | [], y :: ys, h, _ => by rw [HT.lexLt_nil_cons] at h; cases h
  | x :: xs, [], _, h => by rw [HT.lexLt_nil_cons] at h; cases h
  | x :: xs, y :: ys, h1, h2 => by
    rw [HT.lexLt_cons] at h1 h2
    by_cases e : x = y
    · subst e
      rw [if_pos rfl] at h1 h2
      rw [lex_anti xs ys h1 h2]
    · rw [if_neg e] at h1
      rw [if_neg (Ne.symm e)] at h2
      have a := of_decide_eq_false h1
      have b := of_decide_eq_false h2
      omega
def Rise (l : List (List Int)) : Prop := l.Pairwise fun a b => HT.lexLt b a = false
def insL (x : List Int) : List (List Int) → List (List Int)
  | [] => [x]
  | y :: l => if HT.lexLt y x = true then y :: insL x l else x :: y :: l
def srtL : List (List Int) → List (List Int)
  | [] => []
  | x :: l => insL x (srtL l)
theorem insL_perm (x : List Int) : ∀ l, (insL x l).Perm (x :: l)
  | [] => .refl _
  | y :: l => by
    unfold insL
    split
    · exact ((insL_perm x l).cons y).trans (.swap ..)
    · exact .refl _
theorem srtL_perm : ∀ l, (srtL l).Perm l
  | [] => .refl _
  | x :: l => (insL_perm x (srtL l)).trans ((srtL_perm l).cons x)
theorem insL_rise (x : List Int) : ∀ l, Rise l → Rise (insL x l)
  | [], _ => List.pairwise_singleton _ _
  | y :: l, h => by
    obtain ⟨h1, h2⟩ := List.pairwise_cons.mp h
    unfold insL
    split
    · rename_i c
      refine List.pairwise_cons.mpr ⟨fun z hz => ?_, insL_rise x l h2⟩
      rcases List.mem_cons.mp ((insL_perm x l).mem_iff.mp hz) with rfl | hz
      · exact NtL.lex_asym _ _ c
      · exact h1 z hz
    · rename_i c
      have c : HT.lexLt y x = false := by simpa using c
      refine List.pairwise_cons.mpr ⟨fun z hz => ?_, h⟩
      rcases List.mem_cons.mp hz with rfl | hz
      · exact c
      · exact NtL.lex_tr _ _ _ c (h1 z hz)
theorem srtL_rise : ∀ l, Rise (srtL l)
  | [] => .nil
  | x :: l => insL_rise x _ (srtL_rise l)
theorem rise_one : ∀ {l m : List (List Int)}, l.Perm m → Rise l → Rise m → l = m
  | [], m, p, _, _ => (List.Perm.eq_nil p.symm).symm
  | x :: l, [], p, _, _ => absurd p.length_eq (by simp)
  | x :: l, y :: m, p, hl, hm => by
    obtain ⟨h1, h2⟩ := List.pairwise_cons.mp hl
    obtain ⟨k1, k2⟩ := List.pairwise_cons.mp hm
    have e : x = y := by
      rcases List.mem_cons.mp (p.mem_iff.mp (List.mem_cons_self (a := x) (l := l))) with e | hx
      · exact e
      · rcases List.mem_cons.mp (p.mem_iff.mpr (List.mem_cons_self (a := y) (l := m))) with e | hy
        · exact e.symm
        · exact lex_anti _ _ (k1 x hx) (h1 y hy)
    subst e
    rw [rise_one p.cons_inv h2 k2]
theorem srtL_uniq {l m : List (List Int)} (p : l.Perm m) (h : Rise l) : l = srtL m := rise_one (p.trans (srtL_perm m).symm) h (srtL_rise m)
def kOf (h : Heap) : Value → List Int
  | .ref a => match h.get? a with
    | some o => match o.data with
      | .seq xs _ => xs.toList.map SrtO.iv
      | _ => []
    | none => []
  | _ => []
def IsTI (h : Heap) (v : Value) (ns : List Int) : Prop := ∃ a o xs n, v = .ref a ∧ h.get? a = some o ∧ o.cls = .type "tuple" ∧ o.data = .seq xs n ∧ IntsAre xs.toList ns
theorem IsTI.k {h : Heap} {v : Value} {ns : List Int} (x : IsTI h v ns) : kOf h v = ns := by
  obtain ⟨a, o, xs, n, rfl, ho, hc, hd, hi⟩ := x
  simp only [kOf, ho, hd]
  exact SrtO.iv_ints hi
theorem IsTI.keeps {h h' : Heap} {v : Value} {ns : List Int} (p : IsTI h v ns) (k : ∀ b o, h.get? b = some o → o.cls = .type "tuple" → h'.get? b = some o) : IsTI h' v ns := by
  obtain ⟨a, o, xs, n, e, ho, hc, hd, hi⟩ := p
  exact ⟨a, o, xs, n, e, k _ _ ho hc, hc, hd, hi⟩
section
variable {prog : Program} {w : World} {A : Around} {E : Value → Shared → Prop} {s : Shared}
theorem lexk {b fin : Bool} {Q : Bool → Shared → Prop} {xs ys : List Value} {ns ms : List Int} (i : Nat) (hx : IntsAre xs ns) (hy : IntsAre ys ms) (hf : fin = decide (ns.length < ms.length)) (h : Q (HT.lexLt ns ms) s) : KatLex prog w A b fin Q (xs.zip ys) i s := by
  induction hx generalizing ys ms i with
  | nil =>
    cases hy with
    | nil =>
      rw [HT.lexLt_nil_nil] at h
      subst hf
      exact kat_nil (by simpa using h)
    | cons q u hy =>
      rw [HT.lexLt_nil_cons] at h
      subst hf
      exact kat_nil (by simpa using h)
  | @cons p t xs ns hx ih =>
    cases hy with
    | nil =>
      rw [HT.lexLt_cons_nil] at h
      subst hf
      exact kat_nil (by simpa using h)
    | @cons q u ys ms hy =>
      show KatLex prog w A b fin Q ((Value.int p t, Value.int q u) :: xs.zip ys) i s
      rw [HT.lexLt_cons] at h
      refine kat_cons (wpAny_eqBool_int ?_)
      by_cases e : p = q
      · subst e
        rw [beq_self_eq_true]
        rw [if_pos rfl] at h
        refine kat_yes ?_
        have hf' : fin = decide (ns.length < ms.length) := by rw [hf]; simp
        first
          | exact ih (i + 1) hy hf' h
          | exact ih _ _ (i + 1) hy hf' h
      · rw [show (p == q) = false from beq_eq_false_iff_ne.mpr e]
        rw [if_neg e] at h
        exact kat_no (TS.oneLt_ints _ h)
theorem tup_cmp {vs : List Value} {k : Value → List Int} (hp : ∀ v ∈ vs, IsTI s.heap v (k v)) : SrtO.Cmp prog w A s (tuples' true) (fun p => p.1 ∈ vs) (SrtO.lt2 fun v u => HT.lexLt (k v) (k u)) := by
  intro p q hm hm'
  have h1 := hp _ hm
  have h2 := hp _ hm'
  show wpAny (model prog w) A (keyLt' (tuples' true) p.1 q.1) (fun r s' => s' = s ∧ r = HT.lexLt (k p.1) (k q.1)) (fun _ _ => False) s
  generalize k p.1 = ns at h1 ⊢
  generalize k q.1 = ms at h2 ⊢
  obtain ⟨a, o, xs, n, e, ho, hc, hd, hi⟩ := h1
  obtain ⟨a', o', xs', n', e', ho', hc', hd', hi'⟩ := h2
  rw [e, e']
  refine kat_lt ho hd ho' hd' ?_
  have z1 : xs.size = ns.length := by rw [← hi.length]; simp
  have z2 : xs'.size = ms.length := by rw [← hi'.length]; simp
  exact lexk 0 hi hi' (by rw [z1, z2]) ⟨rfl, rfl⟩
theorem firsts {h : Heap} {k : Value → List Int} : ∀ vs : List Value, (∀ v ∈ vs, IsTI h v (k v) ∧ k v ≠ []) → ∃ fs : List Value, KatTups h vs fs ∧ fs.length = vs.length ∧ ∀ f ∈ fs, ∃ x t, f = Value.int x t
  | [], _ => ⟨[], KatTups.nil, rfl, fun _ hm => by simp at hm⟩
  | v :: vs, hp => by
    obtain ⟨fs, h1, h2, h3⟩ := firsts vs fun v' hm => hp v' (List.mem_cons_of_mem _ hm)
    obtain ⟨⟨a, o, xs, n, e, ho, hc, hd, hi⟩, hne⟩ := hp v (List.mem_cons_self ..)
    subst e
    obtain ⟨y, ys, e⟩ : ∃ y ys, xs.toList = y :: ys := by
      cases q : xs.toList with
      | nil =>
        rw [q] at hi
        have l := hi.length
        exact absurd (List.eq_nil_of_length_eq_zero l.symm) hne
      | cons y ys => exact ⟨y, ys, rfl⟩
    obtain ⟨m, t, hy⟩ := SrtO.ints_mem hi y (by rw [e]; exact List.mem_cons_self ..)
    refine ⟨y :: fs, KatTups.cons ho hc hd ?_ h1, by rw [List.length_cons, List.length_cons, h2], fun f hm => ?_⟩
    · rw [← Array.getElem?_toList, e]; rfl
    · rcases List.mem_cons.mp hm with rfl | hm
      · exact ⟨m, t, hy⟩
      · exact h3 f hm
theorem tups_sortable {a : Addr} {vs : List Value} {k : Value → List Int} (h0 : 0 < vs.length) (hp : ∀ v ∈ vs, IsTI s.heap v (k v) ∧ k v ≠ []) (ha : ∀ o, s.heap.get? a = some o → o.cls ≠ .type "tuple") : SrtO.SortableO prog w A s a vs fun v u => HT.lexLt (k v) (k u) := by
  intro h' keep
  have hp' : ∀ v ∈ vs, IsTI h' v (k v) ∧ k v ≠ [] := fun v hm => ⟨(hp v hm).1.keeps fun b o e c => keep b o (fun z => by subst z; exact ha o e c) e, (hp v hm).2⟩
  obtain ⟨fs, h1, h2, h3⟩ := firsts vs hp'
  refine ⟨tuples' true, fun Q E hq => ?_, tup_cmp fun v hm => (hp' v hm).1⟩
  refine kat_kind (T := .type "int") h1 (by omega) (fun f hm => ?_) (by rfl) ?_
  · obtain ⟨x, t, rfl⟩ := h3 f hm
    exact Looks.now
  · have e : (Value.type "int" != Value.type "tuple") = true := by first | decide +kernel | rfl | decide
    rw [e]
    exact hq
theorem sorted_tups {l : Addr} {vs : List Value} {k : Value → List Int} {Q : Value → Shared → Prop} (hl : s.heap.IsList l vs.toArray) (hz : vs.length ≤ sizeLine) (hp : ∀ v ∈ vs, IsTI s.heap v (k v)) (hne : 2 ≤ vs.length → ∀ v ∈ vs, k v ≠ [])
    (h : ∀ (h' : Heap) (d : Addr) (out : List Value), SrtO.Srtd (fun v u => HT.lexLt (k v) (k u)) out → SrtO.Stb (fun v u => HT.lexLt (k v) (k u)) out vs → (∀ b o, s.heap.get? b = some o → h'.get? b = some o) → s.heap.objs.size ≤ d → (∃ n, h'.get? d = some (seqObj "list" out.toArray n)) → Q (.ref d) { s with heap := h' }) :
    wpAny (model prog w) A (call (.builtin "sorted") [.ref l]) Q E s := by
  refine SrtO.sorted_ord (NtL.swo_lexL k) hl hz (fun h2 h₁ a ha kk => ?_) fun out hs hb => ?_
  · refine tups_sortable (s := { s with heap := h₁ }) (by omega) (fun v hm => ⟨(hp v hm).keeps fun b o e _ => (kk b o e).2, hne h2 v hm⟩) fun o e => ?_
    have e' : some o = some (seqObj "list" vs.toArray 0) := e.symm.trans ha
    cases e'
    intro c
    exact absurd (Value.type.inj c) (by decide)
  · exact h _ _ out hs hb (fun b o e => sortedAll_old e) (Nat.le_succ _) (sortedAll_at s.heap vs out.toArray)
end
end TL
namespace DL
open PySem PySem.Spec PyProof.Rows L2 TL
section
variable {X : Cx} {cls : Cls} {K : PySem.W.Frag}
def rSortedTL (K : PySem.W.Frag) : List V → Hp → VK → Prop := fun vs H Q => ∃ (a : Addr) (xs : List V) (L : List (List Int)), vs = [V.ref a] ∧ SqL K H a xs ∧ xs.length = L.length ∧ (∀ y l, (y, l) ∈ xs.zip L → ∃ t, y = V.ref t ∧ SqT K H t (l.map V.int)) ∧ (2 ≤ L.length → ∀ l ∈ L, l ≠ []) ∧
  ∀ (ys : List V) (p : Addr), ys.length = (srtL L).length → (∀ y l, (y, l) ∈ ys.zip (srtL L) → (y, l) ∈ xs.zip L) → H p = none → Q (.ref p) (upd H p (.lst ys))
theorem cr_sortedTL : CallR X (.builtin "sorted") (rSortedTL X.K) := by
  intro pins s σ H vs us Q I r h
  obtain ⟨a, xs, L, rfl, hs, hlen, hx, hne, q⟩ := h
  obtain ⟨its, rv, hl, hz⟩ := I.list hs
  obtain ⟨u, rfl, ru⟩ := vals1 r
  obtain rfl : u = Value.ref a := ru
  have hzip : ∀ (j : Nat) (y : V) (l : List Int), xs[j]? = some y → L[j]? = some l → (y, l) ∈ xs.zip L := fun j y l h1 h2 => List.mem_of_getElem? (i := j) (by rw [List.getElem?_zip_eq_some]; exact ⟨h1, h2⟩)
  obtain ⟨e1, e2⟩ := refs_back rv fun x m => by
    obtain ⟨j, hj⟩ := List.getElem?_of_mem m
    have hjl : j < L.length := by rw [← hlen]; exact (List.getElem?_eq_some_iff.mp hj).1
    obtain ⟨t, e, _⟩ := hx x L[j] (hzip j x _ hj (List.getElem?_eq_getElem hjl))
    exact ⟨t, e⟩
  have hil : its.length = L.length := by rw [← hlen, e1]; simp
  have key : ∀ (j : Nat) (v : Value) (l : List Int), its[j]? = some v → L[j]? = some l → IsTI s.heap v l := fun j v l h1 h2 => by
    have h3 : xs[j]? = some (backV v) := by rw [e1, List.getElem?_map, h1]; rfl
    obtain ⟨t, e, ht⟩ := hx _ _ (hzip j _ _ h3 h2)
    obtain ⟨t', rfl⟩ := e2 v (List.mem_of_getElem? h1)
    cases e
    obtain ⟨its2, rv2, hl2, hz2⟩ := I.tuple ht
    have hl3 : s.heap.IsTuple t its2.toArray := hl2
    obtain ⟨o, ho, hc, n, hd⟩ := hl3
    exact ⟨t, o, its2.toArray, n, rfl, ho, hc, hd, by simpa using rv2.ints⟩
  have keyM : ∀ v ∈ its, ∃ l, IsTI s.heap v l ∧ l ∈ L := fun v hv => by
    obtain ⟨j, hj⟩ := List.getElem?_of_mem hv
    have hjl : j < L.length := by rw [← hil]; exact (List.getElem?_eq_some_iff.mp hj).1
    exact ⟨_, key j v _ hj (List.getElem?_eq_getElem hjl), List.getElem_mem hjl⟩
  have hk : ∀ v ∈ its, IsTI s.heap v (kOf s.heap v) := fun v hv => by
    obtain ⟨l, h1, _⟩ := keyM v hv
    rw [h1.k]; exact h1
  have eL : its.map (kOf s.heap) = L := by
    refine List.ext_getElem? fun j => ?_
    rw [List.getElem?_map]
    cases h1 : its[j]? with
    | none => rw [List.getElem?_eq_none (by rw [← hil]; exact List.getElem?_eq_none_iff.mp h1)]; rfl
    | some v =>
      have hjl : j < L.length := by rw [← hil]; exact (List.getElem?_eq_some_iff.mp h1).1
      rw [List.getElem?_eq_getElem hjl]
      exact congrArg some (key j v _ h1 (List.getElem?_eq_getElem hjl)).k
  refine sorted_tups (k := kOf s.heap) hl.isList (by rw [← rv.length]; exact hz) hk (fun h2 v hv => ?_) fun h' d out h1 h2 kp hd hn => ?_
  · obtain ⟨l, k1, k2⟩ := keyM v hv
    rw [k1.k]
    exact hne (by omega) l k2
  · have h3 : ∀ u ∈ out, ∃ a, u = Value.ref a := fun u hu => e2 u (h2.perm.mem_iff.mp hu)
    obtain ⟨n, hn⟩ := hn
    have eO : out.map (kOf s.heap) = srtL L := by
      refine srtL_uniq ?_ ?_
      · rw [← eL]; exact h2.perm.map _
      · exact List.pairwise_map.mpr (h1.imp fun {x y} z => z)
    refine ⟨.ref d, upd H d (.lst (out.map backV)), I.laid (t' := s.toks) kp hd ⟨?_, out, n, vals_back h3, hn⟩, rfl, q _ d (by rw [← eO]; simp) (fun y l hyl => ?_) (I.hok.fresh hd)⟩
    · rw [List.length_map, h2.perm.length_eq, ← rv.length]; exact hz
    · rw [← eO, List.zip_map'] at hyl
      obtain ⟨u, hu, e⟩ := List.mem_map.mp hyl
      cases e
      have hu' : u ∈ its := h2.perm.mem_iff.mp hu
      obtain ⟨j, hj⟩ := List.getElem?_of_mem hu'
      refine hzip j _ _ (by rw [e1, List.getElem?_map, hj]; rfl) ?_
      rw [← eL, List.getElem?_map, hj]; rfl
def rSorted3 (K : PySem.W.Frag) : List V → Hp → VK → Prop := fun vs H Q => rSorted2 K vs H Q ∨ rSortedTL K vs H Q
theorem cr_sorted3 : CallR X (.builtin "sorted") (rSorted3 X.K) := by
  intro pins s σ H vs us Q I r h
  rcases h with h | h
  · exact cr_sorted2 pins s σ H vs us Q I r h
  · exact cr_sortedTL pins s σ H vs us Q I r h
def tupOf : D → Option (List Int)
  | .tp xs => intsOf xs
  | _ => none
def tupsOf : List D → Option (List (List Int))
  | [] => some []
  | d :: ds => match tupOf d, tupsOf ds with
    | some l, some L => some (l :: L)
    | _, _ => none
theorem tupOf_eq {d : D} {l : List Int} (h : tupOf d = some l) : d = .tp (l.map D.int) := by
  cases d <;> simp [tupOf] at h
  rw [intsOf_eq h]
theorem tupsOf_eq : ∀ {ds : List D} {L : List (List Int)}, tupsOf ds = some L → ds = L.map dT
  | [], _, h => by cases h; rfl
  | d :: ds, L, h => by
    unfold tupsOf at h
    split at h
    · rename_i l M h1 h2
      cases h
      rw [tupOf_eq h1, tupsOf_eq h2]; rfl
    · cases h
@[simp] theorem tupsOf_map : ∀ L : List (List Int), tupsOf (L.map dT) = some L
  | [] => rfl
  | l :: L => by simp [tupsOf, dT, tupOf, tupsOf_map L]
def caSorted3 (ds : List D) : Option D := match ds with
  | [d] => match sqK d with
    | some (.tp x :: xs) => match tupsOf (.tp x :: xs) with
      | some L => if L.length < 2 ∨ L.all (fun l => !l.isEmpty) = true then some (.ol ((srtL L).map dT)) else none
      | none => none
    | _ => caSorted2 ds
  | ds => caSorted2 ds
theorem Rps.zip {F : Hp} : ∀ {vs : List V} {L : List (List Int)}, Rps K cls F vs (L.map dT) → ∀ y l, (y, l) ∈ vs.zip L → Rp K cls F y (dT l)
  | _, [], .nil, _, _, h => by simp at h
  | _, l0 :: L, .cons a r, y, l, h => by
    rw [List.zip_cons_cons] at h
    rcases List.mem_cons.mp h with e | h
    · cases e; exact a
    · exact Rps.zip r y l h
theorem Rps.unzip {F : Hp} : ∀ {vs : List V} {L : List (List Int)}, vs.length = L.length → (∀ y l, (y, l) ∈ vs.zip L → Rp K cls F y (dT l)) → Rps K cls F vs (L.map dT)
  | [], [], _, _ => .nil
  | [], _ :: _, h, _ => by simp at h
  | _ :: _, [], h, _ => by simp at h
  | v :: vs, l :: L, h, k => .cons (k v l (by simp)) (Rps.unzip (by simpa using h) fun y l' hm => k y l' (by rw [List.zip_cons_cons]; exact List.mem_cons_of_mem _ hm))
theorem rp_T {F : Hp} {y : V} {l : List Int} (h : Rp K cls F y (dT l)) : ∃ t, y = V.ref t ∧ SqT K F t (l.map V.int) := by
  unfold dT at h
  cases h with
  | tp h r =>
    obtain rfl := r.ints
    exact ⟨_, rfl, h⟩
theorem ok_sorted3 : CaOk K cls (rSorted3 K) caSorted3 := by
  intro F H vs ds d Q s b e q
  unfold caSorted3 at e
  split at e
  · rename_i d0
    split at e
    · rename_i x xs0 h1
      split at e
      · rename_i L h2
        split at e
        · rename_i hn
          cases e
          obtain ⟨v, rfl, b1⟩ := b.one
          obtain ⟨a, ws, rfl, h3, r⟩ := b1.sqK s h1
          have eL := tupsOf_eq h2
          rw [eL] at r
          have hlen : ws.length = L.length := by have := r.len; simpa using this
          refine .inr ⟨a, ws, L, rfl, h3, hlen, fun y l hm => ?_, fun h4 l hl => ?_, fun ys p hy hz hp => ?_⟩
          · obtain ⟨t, e1, e2⟩ := rp_T (r.zip y l hm)
            exact ⟨t, e1, sameT s e2⟩
          · rcases hn with hn | hn
            · omega
            · have := List.all_eq_true.mp hn l hl
              intro z; subst z; simp at this
          · exact q _ _ _ [p] (Ext.own s hp) (fresh_new hp) (.inl (ow_new s hp (Rps.unzip hy fun y l hm => r.zip y l (hz y l hm)).toOws))
        · cases e
      · cases e
    · exact .inl (ok_sorted2 F H vs _ d Q s b e q)
  · exact .inl (ok_sorted2 F H vs _ d Q s b e q)
@[simp] theorem caSorted3_tp (ns : List Int) : caSorted3 [.tp (ns.map D.int)] = some (.ol ((srt ns).map D.int)) := by
  unfold caSorted3
  split
  · rename_i h; cases h; simp
  · simp
@[simp] theorem caSorted3_ls (ns : List Int) : caSorted3 [.ls (ns.map D.int)] = some (.ol ((srt ns).map D.int)) := by
  cases ns with
  | nil => simp [caSorted3]; rfl
  | cons a l => simp [caSorted3]; exact caSorted2_ls (a :: l)
@[simp] theorem caSorted3_bo (ns : List Int) : caSorted3 [.bo (ns.map D.int)] = some (.ol ((srt ns).map D.int)) := by
  cases ns with
  | nil => simp [caSorted3]; rfl
  | cons a l => simp [caSorted3]; exact caSorted2_bo (a :: l)
end
end DL

namespace DL
open PySem PySem.Spec PyProof.Rows L2 TL
section
variable {K : PySem.W.Frag} {cls : Cls} {W : WX} {X : Cx} {F H F' H' F1 H1 : Hp} {O O1 : List Addr} {Q : VK} {a b e : Expr} {es : List Expr} {fa fb fc : Env → Res D} {pos : Pos}
end
end DL

set_option maxHeartbeats 1000000
namespace RT
open PySem PySem.Spec PyProof.Rows
section
variable {prog : Program} {w : World} {A : Around} {E : Value → Shared → Prop} {s : Shared}
end
end RT
namespace DL
open PySem PySem.Spec PyProof.Rows L2
section
variable {X : Cx} {cls : Cls} {W : WX} {K : PySem.W.Frag}
end
end DL

set_option maxHeartbeats 1000000
namespace RT
open PySem PySem.Spec PyProof.Rows
section
variable {prog : Program} {w : World} {A : Around} {E : Value → Shared → Prop} {s : Shared}
end
end RT
namespace DL
open PySem PySem.Spec PyProof.Rows L2
section
variable {X : Cx} {cls : Cls} {W : WX} {K : PySem.W.Frag}
end
end DL

namespace DL
open PySem PySem.Spec PyProof.Rows L2
section
variable {X : Cx} {cls : Cls} {W : WX} {K : PySem.W.Frag} {F H F' H' : Hp} {O : List Addr}
def eTR1 (fa : Env → Res D) : Env → Res D := fun g => (fa g).bind fun d => match opd d with
  | .int n => if rgOk n ∧ n ≤ 1000000 then .ok (.tp (rng 0 n.toNat)) else .bad
  | _ => .bad
@[simp] theorem eTR1_ (fa : Env → Res D) (g : Env) : eTR1 fa g = (fa g).bind fun d => match opd d with
  | .int n => if rgOk n ∧ n ≤ 1000000 then .ok (.tp (rng 0 n.toNat)) else .bad
  | _ => .bad := rfl
theorem je_tr1 {a : Expr} {p p2 pos q : Pos} {fa : Env → Res D} (c : Cn X W k) (hm : X.mg "tuple" = none) (hm2 : X.mg "range" = none) (ha : JE X cls W a fa)
    (hg : Gl X "tuple" := by rfl) (hg2 : Gl X "range" := by rfl) (na : starEach [a] X.env = (false, eval a X.env) :: starEach [] X.env := by rfl)
    (na2 : starEach [.Call (.Name "range" p2) [a] [] q] X.env = (false, eval (.Call (.Name "range" p2) [a] [] q) X.env) :: starEach [] X.env := by rfl) :
    JE X cls W (.Call (.Name "tuple" p) [.Call (.Name "range" p2) [a] [] q] [] pos) (eTR1 fa) := by
  obtain ⟨ta, pa, da⟩ := ha.ex
  refine ⟨_, pe_tupRg c.calm hg hm (prg_1 hg2 hm2 pa na) na2, ?_⟩
  intro σ F H g O Q s st p
  unfold eTR1 at p
  refine da.go s st (fun c e => by rw [e] at p; exact p) (fun e => by rw [e] at p; exact p) fun d e v F1 H1 x1 b1 => ?_
  rw [e] at p
  simp only [Res.bind] at p
  cases eo : opd d with
  | int n =>
    rw [eo] at p b1
    simp only at p
    split at p
    · rename_i hn
      obtain rfl := b1.int
      refine ⟨n, rfl, ⟨by omega, by omega, hn.1.lo, hn.1.hi, by omega⟩, fun q hq => ?_⟩
      · refine p (.ref q) _ _ [] (x1.trans (Ext.put x1.fh hq)) Fresh.nil (.inl (.sh (.tp (SqT.of upd_same) ?_)))
        rw [rgV_ints, rng_map]
        rw [show (n - 0).toNat = n.toNat by omega]
        exact rps_ints
    · exact p.elim
  | _ => rw [eo] at p; exact p.elim
end
section
variable {K : PySem.W.Frag} {cls : Cls} {W : WX} {X : Cx} {F H F' H' F1 H1 : Hp} {O O1 : List Addr} {Q : VK} {a b e : Expr} {es : List Expr} {fa fb fc : Env → Res D} {pos : Pos}
end
end DL

namespace DL
open PySem PySem.Spec PyProof.Rows L2 TL PySem.W
section
variable {K : PySem.W.Frag} {cls : Cls} {X : Cx} {F H F' H' F1 H1 : Hp} {O O1 : List Addr} {Q : VK}
end
end DL

namespace DL
open PySem PySem.Spec PyProof.Rows L2 PySem.W
section
variable {K : PySem.W.Frag} {cls : Cls} {W : WX} {X : Cx} {F H F' H' F1 H1 : Hp} {O O1 : List Addr} {Q : VK} {a b e : Expr} {es : List Expr} {fa fb fc : Env → Res D} {fs : Env → Res (List D)} {pos : Pos}
def argB : D → Option (List Int)
  | .bo xs => intsOf xs
  | _ => none
def bAddr : List V → List D → List Addr
  | .ref a :: vs, .bo _ :: ds => a :: bAddr vs ds
  | _ :: vs, _ :: ds => bAddr vs ds
  | _, _ => []
def calD2 (g : List D → Res D) (ds : List D) : Res D :=
  if (ds.all fun d => shd1 d || (argB d).isSome) = true then match g (plns ds) with
    | .ok (.ls xs) => match intsOf xs with
      | some ns => if (ds.all fun d => !decide (argB d = some ns)) = true then .ok (.ls xs) else .bad
      | none => .bad
    | .xc c => .xc c
    | _ => .bad
  else .bad
theorem bAddr_spec : ∀ {vs : List V} {ds : List D}, Bos K cls F H vs ds → (ds.all fun d => shd1 d || (argB d).isSome) = true → ∀ a ∈ bAddr vs ds, ∃ d ∈ ds, ∃ ms : List Int, argB d = some ms ∧ H a = some (.lst (ms.map V.int))
  | _, _, .nil, _, a, h => by simp [bAddr] at h
  | _, _, .cons (vs := vs) (ds := ds) (.sh r) rs, hk, a, h => by
    rw [List.all_cons, Bool.and_eq_true] at hk
    have h' : a ∈ bAddr vs ds := by
      cases r <;> simpa [bAddr] using h
    obtain ⟨d, h1, h2⟩ := bAddr_spec rs hk.2 a h'
    exact ⟨d, List.mem_cons_of_mem _ h1, h2⟩
  | _, _, .cons (vs := vs) (ds := ds) (.bo (a := b) (ds := xs) hb r) rs, hk, a, h => by
    rw [List.all_cons, Bool.and_eq_true] at hk
    simp only [bAddr] at h
    rcases List.mem_cons.mp h with rfl | h
    · have h3 := hk.1
      simp only [shd1_bo, Bool.false_or, argB] at h3
      obtain ⟨ms, hm⟩ := Option.isSome_iff_exists.mp h3
      have e := intsOf_eq hm
      refine ⟨_, List.mem_cons_self .., ms, hm, ?_⟩
      rw [e] at r
      have : ∀ {us : List V} {ms : List Int}, Bos K cls F H us (ms.map D.int) → us = ms.map V.int := fun {us ms} => by
        induction ms generalizing us with
        | nil => intro h; cases h; rfl
        | cons n ns ih =>
          intro h
          cases h with
          | cons a b =>
            obtain rfl := a.int
            rw [ih b]; rfl
      rw [hb, this r]
    · obtain ⟨d, h1, h2⟩ := bAddr_spec rs hk.2 a h
      exact ⟨d, List.mem_cons_of_mem _ h1, h2⟩
  | _, _, .cons (.bd ..) rs, hk, a, h => by
    rw [List.all_cons, Bool.and_eq_true] at hk
    have := hk.1
    simp [argB] at this
  | _, _, .cons (.bb ..) rs, hk, a, h => by
    rw [List.all_cons, Bool.and_eq_true] at hk
    have := hk.1
    simp [argB] at this
theorem pln_rp {v : V} {d : D} (r : Rp K cls F v d) : pln d = d := by cases r <;> rfl
theorem plns_ints : ∀ ms : List Int, plns (ms.map D.int) = ms.map D.int
  | [] => rfl
  | m :: ms => by
    have e : pln (D.int m) = D.int m := by simp [pln]
    rw [List.map_cons, plns, e, plns_ints ms]
theorem bos_rps {F2 : Hp} (s : Same F F2) : ∀ {vs : List V} {ds : List D}, Bos K cls F H vs ds → (ds.all fun d => shd1 d || (argB d).isSome) = true → (∀ a ∈ bAddr vs ds, F2 a = H a) → Rps K cls F2 vs (plns ds)
  | _, _, .nil, _, _ => .nil
  | _, _, .cons (vs := vs) (ds := ds) (.sh r) rs, hk, hb => by
    rw [List.all_cons, Bool.and_eq_true] at hk
    simp only [plns]
    rw [pln_rp r]
    refine .cons (r.mono s) (bos_rps s rs hk.2 fun a ha => hb a ?_)
    cases r <;> simpa [bAddr] using ha
  | _, _, .cons (vs := vs) (ds := ds) (.bo (a := b) (ds := xs) h r) rs, hk, hb => by
    rw [List.all_cons, Bool.and_eq_true] at hk
    have h3 := hk.1
    simp only [shd1_bo, Bool.false_or, argB] at h3
    obtain ⟨ms, hm⟩ := Option.isSome_iff_exists.mp h3
    have e := intsOf_eq hm
    have this : ∀ {us : List V} {ms : List Int}, Bos K cls F H us (ms.map D.int) → us = ms.map V.int := fun {us ms} => by
      induction ms generalizing us with
      | nil => intro h; cases h; rfl
      | cons n ns ih =>
        intro h
        cases h with
        | cons a b =>
          obtain rfl := a.int
          rw [ih b]; rfl
    subst e
    rw [this r] at h
    simp only [plns, pln, plns_ints]
    refine .cons (.ls ((hb b (by simp [bAddr])).trans h) rps_ints) (bos_rps s rs hk.2 fun a ha => hb a ?_)
    simp [bAddr, ha]
  | _, _, .cons (.bd ..) rs, hk, _ => by
    rw [List.all_cons, Bool.and_eq_true] at hk
    have := hk.1
    simp [argB] at this
  | _, _, .cons (.bb ..) rs, hk, _ => by
    rw [List.all_cons, Bool.and_eq_true] at hk
    have := hk.1
    simp [argB] at this
theorem spD_call2 {n : Nat} {g : List D → Res D} {vs : List V} {ds : List D} {E : XK} (s : Same F H) (b : Bos K cls F H vs ds) (hn : ds.length = n)
    (p : match calD2 g ds with
      | .ok d => ∀ v F' H' O', Ext F H F' H' → Fresh H O' → Ow K cls F' H' v d O' → Q v H'
      | .xc c => ∀ F' H', Ext F H F' H' → E (excV cls c) none H'
      | .bad => False) : spD K cls n g vs H Q E := by
  classical
  unfold calD2 at p
  by_cases hk : (ds.all fun d => shd1 d || (argB d).isSome) = true
  · rw [if_pos hk] at p
    let F2 : Hp := fun a => if a ∈ bAddr vs ds then H a else F a
    have s2 : Same F F2 := fun a o h => by
      show (if a ∈ bAddr vs ds then H a else F a) = some o
      split
      · exact s a o h
      · exact h
    have s3 : Same F2 H := fun a o h => by
      have h' : (if a ∈ bAddr vs ds then H a else F a) = some o := h
      split at h'
      · exact h'
      · exact s a o h'
    have sp := bAddr_spec b hk
    refine ⟨F2, plns ds, s3, bos_rps s2 b hk fun a ha => if_pos ha, by rw [plns_len]; exact hn, ?_⟩
    -- back again
    have back : ∀ {F' H' : Hp}, Ext F2 H F' H' → Ext F H (fun a => if a ∈ bAddr vs ds ∧ F a = none then none else F' a) H' := fun {F' H'} x => by
      refine ⟨fun a o h => ?_, x.hh, fun a o h => ?_, fun a h1 h2 => ?_⟩
      · show (if a ∈ bAddr vs ds ∧ F a = none then none else F' a) = some o
        rw [if_neg (fun z => by rw [h] at z; cases z.2)]
        exact x.ff a o (s2 a o h)
      · have h' : (if a ∈ bAddr vs ds ∧ F a = none then none else F' a) = some o := h
        split at h'
        · cases h'
        · exact x.fh a o h'
      · show (if a ∈ bAddr vs ds ∧ F a = none then none else F' a) = none
        split
        · rfl
        · rename_i hz
          refine x.ow a ?_ h2
          show (if a ∈ bAddr vs ds then H a else F a) = none
          rw [if_neg (fun z => hz ⟨z, h1⟩)]
          exact h1
    cases e : g (plns ds) with
    | xc c => rw [e] at p; exact fun F' H' x => p _ H' (back x)
    | bad => rw [e] at p; exact p.elim
    | ok d =>
      rw [e] at p
      cases d with
      | ls xs =>
        simp only at p
        cases e2 : intsOf xs with
        | none => rw [e2] at p; exact p.elim
        | some ns =>
          rw [e2] at p
          dsimp only at p
          by_cases hz : (ds.all fun d => !decide (argB d = some ns)) = true
          · rw [if_pos hz] at p
            intro v F' H' O' x fr ow
            obtain rfl := intsOf_eq e2
            cases ow with
            | sh r =>
              cases r with
              | ls h r =>
                rename_i a ws
                have ew := r.ints
                refine p (.ref a) _ H' [] (back x) Fresh.nil (.sh (.ls (vs := ws) ?_ (by rw [ew]; exact rps_ints)))
                show (if a ∈ bAddr vs ds ∧ F a = none then none else F' a) = _
                rw [if_neg, h]
                rintro ⟨z1, z2⟩
                obtain ⟨d, d1, ms, d2, d3⟩ := sp a z1
                have h2 : F2 a = some (.lst (ms.map V.int)) := (if_pos z1).trans d3
                have h3 := x.ff a _ h2
                rw [h] at h3
                have h4 : ws = ms.map V.int := by injection h3 with h3; injection h3
                have h5 : ns = ms := by
                  have : ns.map V.int = ms.map V.int := by rw [← ew, h4]
                  exact List.map_inj_right (fun x y h => by injection h) |>.mp this
                have := List.all_eq_true.mp hz d d1
                rw [d2, h5] at this
                simp at this
          · rw [if_neg hz] at p; exact p.elim
      | _ => exact p.elim
  · rw [if_neg hk] at p; exact p.elim
def eOwn2 (g : List D → Res D) (fs : Env → Res (List D)) : Env → Res D := fun e => (fs e).bind fun ds => calD2 g ds
@[simp] theorem eOwn2_ (g : List D → Res D) (fs : Env → Res (List D)) (e : Env) : eOwn2 g fs e = (fs e).bind fun ds => calD2 g ds := rfl
theorem je_own2 {x : Str} {f : Addr} {fd : FuncData} {ps : List Str} {k n : Nat} {g : List D → Res D} {p : Pos} (c : Cn X W k) (G : FnOk X.prog X.w X.K X.mg X.base (L2.CX X.prog X.w) k f fd ps (spD X.K cls n g))
    (hm : X.mg x = some (.ref f)) (hk : PySem.W.keepIn X.K (.ref f) = true) (hb : Binds X.K fd ps []) (ha : JA X cls W (e :: es) fs) (hn : ∀ g ds, fs g = .ok ds → ds.length = n) (hg : Gl X x := by rfl)
    (hdb : (x == ("__debug__" : Str)) = false := by decide) (he : starEach (e :: es) X.env = (false, eval e X.env) :: starEach es X.env := by rfl) (hpl : (backTo pos (starEach es X.env)).any (·.1) = false := by rfl) :
    JE X cls W (.Call (.Name x p) (e :: es) [] pos) (eOwn2 g fs) := by
  obtain ⟨ta, pa, da⟩ := ha.ex
  refine ⟨_, pe_callS G c.hr hg hm hk hb (fun σ => passAt c.tk σ) pa hdb he hpl, ?_⟩
  intro σ F H env O Q s st p
  rw [eOwn2_] at p
  refine da.go s st (fun c e => by rw [e] at p; exact p) (fun e => by rw [e] at p; exact p) fun ds e vs F1 H1 x1 b1 => ?_
  rw [e] at p
  simp only [Res.bind] at p
  refine spD_call2 x1.fh b1 (hn env ds e) ?_
  cases eo : calD2 g ds with
  | ok d => rw [eo] at p; exact fun v F' H' O' y fr ow => p v F' H' O' (x1.trans y) (fr.mono x1.hh) (.inl ow)
  | xc c => rw [eo] at p; exact fun F' H' y => p F' H' (x1.trans y)
  | bad => rw [eo] at p; exact p
end
end DL

namespace DL
open PySem PySem.Spec PyProof.Rows L2 TL PySem.W
section
variable {K : PySem.W.Frag} {cls : Cls} {X : Cx} {F H F' H' F1 H1 : Hp} {O O1 : List Addr} {Q : VK}
end
end DL

namespace PySem
open Sem (wp)
open AutoSeq1 (wpAny_loadPart')
theorem own_enumT (l : Addr) (items : Array Value) (n : Nat) (dct : Option Addr) (sl : Array (Option Value)) :
    Meets (Builtin.«enumerate.__new__» ⟨[.type "enumerate", .ref l], []⟩) (fun _ R s => s.heap.get? l = some { cls := .type "tuple", dict := dct, data := .seq items n, slots := sl } ∧
      R (.ok (.ret (.ref (s.heap.push { cls := .type "tuple_iterator", data := .fields #[.ref l, .int 0 0] }).objs.size)))
        { s with heap := (s.heap.push { cls := .type "tuple_iterator", data := .fields #[.ref l, .int 0 0] }).push { cls := .type "enumerate", data := .fields #[.none, .bool false, .ref s.heap.objs.size, rawInt 0, .none, .none] } }) :=
  .of_wp fun prog w A R s h => by
    obtain ⟨hp, g, d, tk, os⟩ := s; obtain ⟨hl, h⟩ := h
    have hsub := sub_enumerate
    have hL : Heap.IsTuple (Shared.heap ⟨hp, g, d, tk, os⟩) l items := ⟨_, hl, rfl, n, rfl⟩
    wp_walk using wpAny_loadPart' hl
    refine wpAny_stack_any fun st => wpAny_pure ?_
    split
    · rename_i c _ _ _ _ _
      cases (c == Value.type "enumerate")
      · wp_walk using wpAny_loadPart' hl, wpAny_pyIter_tuple hL
        exact ⟨_, rfl, h⟩
      · wp_walk using wpAny_loadPart' hl, wpAny_pyIter_tuple hL
        exact ⟨_, rfl, h⟩
    · wp_walk using wpAny_loadPart' hl, wpAny_pyIter_tuple hL
      exact ⟨_, rfl, h⟩
section
variable {prog : Program} {w : World} {A : Around} {E : Value → Shared → Prop} {s : Shared}
theorem own_call_enumT {l : Addr} {items : Array Value} {Q : Value → Shared → Prop} (hL : s.heap.IsTuple l items)
    (h : ∀ h', IsEnum h' (s.heap.objs.size + 1) s.heap.objs.size 0 .none → h'.IsTupleIter s.heap.objs.size l 0 → h'.objs.size = s.heap.objs.size + 2 →
      (∀ b o, s.heap.get? b = some o → h'.get? b = some o) → Q (.ref (s.heap.objs.size + 1)) { s with heap := h' }) :
    wpAny (model prog w) A (call (.type "enumerate") [.ref l]) Q E s := by
  obtain ⟨⟨c, dct, dt, sl⟩, hl, hc, n, hd⟩ := hL
  replace hc : c = .type "tuple" := hc
  replace hd : dt = .seq items n := hd
  subst hc hd
  refine callType_new F.called_enumerate (by decide) (F.typeCall_enumerate_1 _) (F.newCall_enumerate_1 _) (fun obj => F.args_object_init_2 obj _) F.entry_enumerate_new
    (own_enumT l items n dct sl) ⟨hl, ?_⟩
  have hz : (s.heap.push { cls := .type "tuple_iterator", data := .fields #[.ref l, .int 0 0] }).objs.size = s.heap.objs.size + 1 := Heap.size_push ..
  show _ ∧ _
  rw [hz]
  have he : IsEnum ((s.heap.push { cls := .type "tuple_iterator", data := .fields #[.ref l, .int 0 0] }).push
      { cls := .type "enumerate", data := .fields #[.none, .bool false, .ref s.heap.objs.size, rawInt 0, .none, .none] }) (s.heap.objs.size + 1) s.heap.objs.size 0 .none := by
    have := Heap.get?_push_size (s.heap.push { cls := .type "tuple_iterator", data := .fields #[.ref l, .int 0 0] })
      (o := { cls := .type "enumerate", data := .fields #[.none, .bool false, .ref s.heap.objs.size, rawInt 0, .none, .none] }) rfl
    rw [hz] at this; exact this
  refine ⟨⟨_, he, rfl⟩, h _ he ⟨_, Heap.get?_push_of_some _ (Heap.get?_push_size _ rfl), rfl, rfl⟩ (by rw [Heap.size_push, hz]) fun b o x => Heap.get?_push_of_some _ (Heap.get?_push_of_some _ x)⟩
theorem own_enum_endT {e it l : Addr} {i : Nat} {items : Array Value} {old : Value} {Q : Option Value → Shared → Prop} (hh : A.handled = none)
    (he : IsEnum s.heap e it i old) (hit : s.heap.IsTupleIter it l i) (hl : s.heap.IsTuple l items) (hx : items[i]? = none)
    (hQ : ∀ h', Heap.ExtBut it s.heap h' → Q none { s with heap := h' }) : wpAny (model prog w) A (pyNext (.ref e)) Q E s := by
  have hT : s.TypeIs (.ref e) "enumerate" := ⟨_, he, rfl⟩
  unfold pyNext
  refine wpAny_bind (wpAny_attempt (wpAny_callSpecial?_slot (name := Str.ofString "__next__") hT F.slot_enumerate_next
    (wpAny_call_entry F.slot_enumerate_next hT F.entry_enumerate_next ?_ (F.args_enumerate_next_1 _))))
  show wpAny _ _ (field (.ref e) 2 >>= _) _ _ _
  refine wpAny_bind (wpAny_field he rfl (x := .ref it) rfl ?_)
  refine wpAny_bind (wpAny_nextOf_tuple_end hh hit hl hx fun h' x he' hx' => ?_)
  obtain ⟨o, ho, hc⟩ := hx'
  refine wpAny_bind (wpAny_isInstance (T := "StopIteration") (b := true) ⟨o, ho, hc⟩ isSubtype_stop ?_)
  exact wpAny_pure (hQ _ he')
end
end PySem
namespace DL
open PySem PySem.Spec PyProof.Rows L2 TL PySem.W
def ItU (K : PySem.W.Frag) (a : Addr) : It :=
  ⟨fun i H => ∃ (xs : List V) (x : V), SqT K H a xs ∧ xs[i]? = some x, fun i H v H' => ∃ T x, v = .ref T ∧ H T = none ∧ H' = upd H T (.tup [.int (i : Nat), x]) ∧ ∀ xs, SqT K H a xs → xs[i]? = some x, fun i H => ∃ xs : List V, SqT K H a xs ∧ xs.length ≤ i⟩
theorem turn_enumU {P : Program} {w : World} {K : PySem.W.Frag} {elts : List Expr} {kk : Nat} {tpos : Pos} (a e it : Addr) :
    Turn P w K (.Tuple elts kk tpos) (ItU K a) [e, it] e (fun i h => (∃ old, IsEnum h e it ((i : Nat) : Int) old) ∧ h.IsTupleIter it a i ∧ e ≠ it) where
  mem := by simp
  obj := fun i h st b hb => by
    obtain ⟨⟨old, he⟩, ⟨o, ho, hc, hd⟩, _⟩ := st
    have e' : b = e ∨ b = it := by simpa using hb
    rcases e' with z | z
    · rw [z]; exact ⟨_, he, fun v q => nomatch q⟩
    · rw [z]; exact ⟨o, ho, fun v q => by rw [hd] at q; cases q⟩
  keep := fun i h h' st k => let ⟨⟨old, he⟩, hi, hne⟩ := st; ⟨⟨old, k e (by simp) _ he⟩, hi.at fun o q => k it (by simp) o q, hne⟩
  item := by
    intro X hP hw hK hc i pins s σ H E I hf st hg
    subst hP hw hK
    obtain ⟨⟨old, he⟩, hit, hne⟩ := st
    obtain ⟨xs, x, hq, hx⟩ := hg
    obtain ⟨its, rv, p, hz⟩ := I.tuple hq
    have p' : s.heap.IsTuple a its.toArray := p
    obtain ⟨u, hu, ru⟩ := rv.get hx
    have hel : e < s.heap.objs.size := Heap.lt_size he
    have hil : it < s.heap.objs.size := by obtain ⟨_, q, _⟩ := hit; exact Heap.lt_size q
    have hai : a ≠ it := fun z => by
      subst z
      obtain ⟨o1, q1, c1, _⟩ := hit
      obtain ⟨o2, q2, c2, _⟩ := p'
      rw [q1] at q2; cases q2
      rw [c1] at c2
      exact absurd (Value.type.inj c2) (by decide)
    have hea : e ≠ a := fun z => by
      subst z
      obtain ⟨o2, q2, c2, _⟩ := p'
      have q1 := he
      unfold IsEnum at q1
      rw [q1] at q2; cases q2
      exact absurd (Value.type.inj c2) (by decide)
    have hlen := rv.length
    have hil2 : i < its.toArray.size := by
      have := (List.getElem?_eq_some_iff.mp hu).1
      simpa using this
    refine wpAny_pyNext_enum_itemD (Draws.tuple (A := X.A.in1) (I.ok.hd hc) it a hai its.toArray) he ⟨hit, p'⟩ hil2 hne (by simp [hne, hea]) fun y h' tk hy ho hst' hT hsz hk => ?_
    obtain rfl : y = u := by
      have e1 : its[i]? = some y := by simpa using hy
      rw [hu] at e1; cases e1; rfl
    refine ⟨_, rfl, wpAny_letOwnedTupleGo_enum (s := { s with heap := h', toks := tk + 1 }) ho fun h'' he' sb => ?_⟩
    have hT2 : h''.get? s.heap.objs.size = some { cls := .type "tuple", data := .seq #[.int i tk, y] } := (sb.2 _ (Nat.ne_of_gt hel)).trans hT
    have new : ObjOk X.prog X.w (upd H s.heap.objs.size (.tup [.int (i : Nat), x])) h'' s.heap.objs.size (.tup [.int (i : Nat), x]) :=
      ⟨by show 2 ≤ sizeLine; decide, [.int i tk, y], .cons ⟨_, rfl⟩ (.cons ru .nil), ⟨_, hT2, rfl, _, rfl⟩⟩
    have I1 : Inv X pins σ (upd H s.heap.objs.size (.tup [.int (i : Nat), x])) { s with heap := h'', toks := tk + 1 } :=
      I.turnedNew (ch := [e, it]) (fun b ob hb q => (sb.2 b (fun z => hb (by simp [z]))).trans (hk b ob (fun z => hb (by simp [z])) (fun z => hb (by simp [z])) q)) hf (Nat.le_refl _) new
    refine ⟨.ref s.heap.objs.size, _, I1, rfl, ⟨_, x, rfl, I.hok.fresh (Nat.le_refl _), rfl, fun ys hy => by rw [I.tuple_inj hy hq]; exact hx⟩, ⟨⟨y, ?_⟩, hst'.1.at fun o q => (sb.2 it (Ne.symm hne)).trans q, hne⟩, fun b hb => ?_⟩
    · have e1 : ((i + 1 : Nat) : Int) = (i : Int) + 1 := by omega
      rw [e1]; exact he'
    · have hb' : b < s.heap.objs.size := by
        have e' : b = e ∨ b = it := by simpa using hb
        rcases e' with z | z
        · rw [z]; exact hel
        · rw [z]; exact hil
      rw [upd_ne (Nat.ne_of_lt hb')]
      exact (hf b hb).1
  done := by
    intro X hP hw hK hc i pins s σ H E I hf st hg
    subst hP hw hK
    obtain ⟨⟨old, he⟩, hit, hne⟩ := st
    obtain ⟨xs, hq, hx⟩ := hg
    obtain ⟨its, rv, p, hz⟩ := I.tuple hq
    have p' : s.heap.IsTuple a its.toArray := p
    obtain ⟨f0, f1, f2, f3, f4, f5⟩ := hf it (by simp)
    have hl := rv.length
    exact own_enum_endT (I.ok.hd hc) he hit p' (by simp; omega) fun h' eb => ⟨rfl, I.turned (t' := s.toks) (fun b o hb q => eb b o hb q) f0 f1 f3 f4 f5⟩
  self := fun A i s Q E st h => let ⟨⟨_, he⟩, _⟩ := st; wpAny_pyIter_enum he h
def iEnumU (K : PySem.W.Frag) (ta : TA) : TI := fun σ H R => ta σ H fun vs H1 => ∃ a xs, vs = [.ref a] ∧ SqT K H1 a xs ∧ R (ItU K a) H1
theorem pi_enumU {X : Cx} {e : Expr} {ta : TA} {p pos tpos : Pos} {elts : List Expr} {kk : Nat} (hg : Gl X "enumerate") (hm : X.mg "enumerate" = none) (ha : PA X [e] ta) (hs : starEach [e] X.env = [(false, eval e X.env)] := by rfl) :
    PI X (.Tuple elts kk tpos) (.Call (.Name "enumerate" p) [e] [] pos) (iEnumU X.K ta) := by
  refine ⟨fun pins s σ H R I h => ?_⟩
  refine Call_ (ld_blt I hg hm boot_enumerate (PyProof.Rows.callWith_type1 (thn (ha.run pos pins s σ H _ I h) fun us s1 ⟨vs, H1, I1, r1, q1⟩ => ?_) hs rfl))
  obtain ⟨a, xs, ex, hq, q⟩ := q1
  subst ex
  cases r1 with
  | cons r rr =>
    cases rr
    cases r
    obtain ⟨its, rv, p', hz⟩ := I1.tuple hq
    have p2 : s1.heap.IsTuple a its.toArray := p'
    refine own_call_enumT p2 fun h' he hit hsz hk => wpAny_pyIter_enum he ?_
    have I2 : Inv X pins σ H1 { s1 with heap := h' } := I1.kept (t' := s1.toks) hk
    refine ⟨s1.heap.objs.size + 1, [s1.heap.objs.size + 1, s1.heap.objs.size], _, _, H1, rfl, I2, turn_enumU a (s1.heap.objs.size + 1) s1.heap.objs.size, ⟨⟨.none, he⟩, hit, Nat.succ_ne_self _⟩, fun b hb => ?_, q⟩
    have e' : b = s1.heap.objs.size + 1 ∨ b = s1.heap.objs.size := by simpa using hb
    have hle : s1.heap.objs.size ≤ b := by
      rcases e' with z | z
      · rw [z]; exact Nat.le_add_right _ _
      · rw [z]; exact Nat.le_refl _
    exact I1.fpOk hle (I1.hok.fresh hle)
section
variable {K : PySem.W.Frag} {cls : Cls} {W : WX} {X : Cx} {F H F' H' F1 H1 : Hp} {O O1 : List Addr} {a : Expr} {fs : Env → Res (List D)} {pos : Pos}
theorem feeds_enumU {a : Addr} {vs : List V} {ds : List D} (h : SqT K F a vs) (r : Rps K cls F vs ds) : Feeds K cls F (ItU K a) (enm 0 ds) where
  go := fun i d e F' H' s1 s2 => by
    obtain ⟨d', e1, rfl⟩ := enm_get e
    obtain ⟨v, h1, h2⟩ := r.get e1
    have h' : SqT K H' a vs := sameT (s1.trans s2) h
    refine ⟨⟨vs, v, h', h1⟩, fun x H'' y => ?_⟩
    obtain ⟨T, w, e1, e2, e3, y⟩ := y
    subst e1 e3
    have := y vs h'
    rw [h1] at this
    cases this
    have px := Ext.put (o := .tup [.int ((0 + i : Nat) : Int), v]) s2 e2
    rw [Nat.zero_add] at px ⊢
    exact ⟨_, px, .tp (SqT.of upd_same) (.cons (.int _) (.cons (h2.mono (s1.trans px.ff)) .nil))⟩
  stop := fun F' H' s1 s2 => ⟨vs, sameT (s1.trans s2) h, by rw [enm_len, r.len]; exact Nat.le_refl _⟩
def iEnm3 (fs : Env → Res (List D)) : Env → Res (List D) := fun g => (fs g).bind fun ds => match ds with
  | [d] => (Res.of (sqS d)).bind fun xs => .ok (enm 0 xs)
  | _ => .bad
@[simp] theorem iEnm3_ (fs : Env → Res (List D)) (g : Env) : iEnm3 fs g = (fs g).bind fun ds => match ds with
  | [d] => (Res.of (sqS d)).bind fun xs => .ok (enm 0 xs)
  | _ => .bad := rfl
theorem ji_enm3 {p tpos : Pos} {elts : List Expr} {kk : Nat} (hm : X.mg "enumerate" = none) (ha : JA X cls W [a] fs) (hg : Gl X "enumerate" := by rfl) (hs : starEach [a] X.env = [(false, eval a X.env)] := by rfl) :
    JI X cls W (.Tuple elts kk tpos) (.Call (.Name "enumerate" p) [a] [] pos) (iEnm3 fs) := by
  obtain ⟨t, p, d⟩ := ha.ex
  refine ⟨_, pi_or (pi_enum hg hm p hs) (pi_enumU hg hm p hs), ?_⟩
  intro σ F H g O R s st p
  rw [iEnm3_] at p
  cases ea : fs g with
  | xc c =>
    rw [ea] at p
    exact .inl (d.go s st (fun c e => by rw [ea] at e; cases e; exact p) (fun e => by rw [ea] at e; cases e) fun d e => by rw [ea] at e; cases e)
  | bad => rw [ea] at p; exact p.elim
  | ok dd =>
    rw [ea] at p
    simp only [Res.bind] at p
    split at p
    · rename_i d1
      have side : (∃ xs, lsS d1 = some xs ∧ sqS d1 = some xs) ∨ (∃ xs, tpv d1 = some xs ∧ sqS d1 = some xs) ∨ sqS d1 = none := by
        cases d1 <;> simp
      rcases side with ⟨xs, e1, e2⟩ | ⟨xs, e1, e2⟩ | e2
      · rw [e2] at p
        refine .inl (d.go s st (fun c e => by rw [ea] at e; cases e) (fun e => by rw [ea] at e; cases e) fun ds e vs F1 H1 x b => ?_)
        rw [ea] at e; cases e
        obtain ⟨v, rfl, b1⟩ := b.one
        obtain ⟨a, vs, rfl, h, r⟩ := b1.lsS e1
        exact ⟨a, vs, rfl, x.fh.seq h, p _ F1 H1 x (feeds_enum h r)⟩
      · rw [e2] at p
        refine .inr (d.go s st (fun c e => by rw [ea] at e; cases e) (fun e => by rw [ea] at e; cases e) fun ds e vs F1 H1 x b => ?_)
        rw [ea] at e; cases e
        obtain ⟨v, rfl, b1⟩ := b.one
        obtain ⟨a, vs, rfl, h, h', r⟩ := b1.tpv x.fh e1
        exact ⟨a, vs, rfl, h, p _ F1 H1 x (feeds_enumU h' r)⟩
      · rw [e2] at p; exact p.elim
    · exact p.elim
end
end DL

namespace DL
open PySem PySem.Spec PyProof.Rows L2 TL PySem.W
section
variable {K : PySem.W.Frag} {cls : Cls} {W : WX} {X : Cx} {pos : Pos}
end
end DL

namespace DL
open PySem PySem.Spec PyProof.Rows L2 TL PySem.W
section
variable {K : PySem.W.Frag} {cls : Cls} {X : Cx} {F H F' H' F1 H1 : Hp} {O O1 : List Addr} {Q : VK}
end
end DL

namespace DL
open PySem PySem.Spec PyProof.Rows L2 TL PySem.W
section
variable {K : PySem.W.Frag} {cls : Cls} {W : WX} {X : Cx} {F H F' H' F1 H1 : Hp} {O O1 : List Addr} {Q : VK} {a b e : Expr} {es : List Expr} {fa fb fc : Env → Res D} {fs : Env → Res (List D)} {pos : Pos}
end
end DL

set_option maxHeartbeats 1000000
namespace DL
end DL
namespace RR
open PySem PySem.Spec PyProof.Rows
section
variable {prog : Program} {w : World} {A : Around} {E : Value → Shared → Prop} {s : Shared}
end
end RR
namespace DL
open PySem PySem.Spec PyProof.Rows L2
section
variable {X : Cx} {cls : Cls} {W : WX} {K : PySem.W.Frag}
variable {e : Expr} {te : L2.St → Hp → (Int → Int → Hp → Prop) → Prop}
end
end DL

namespace DL
open PySem PySem.Spec PyProof.Rows L2
section
variable {P : Program} {w : World} {A : Around} {E : Value → Shared → Prop} {s : Shared}
end
end DL

namespace DL
open PySem PySem.Spec PyProof.Rows L2
section
variable {X : Cx} {cls : Cls} {W : WX} {K : PySem.W.Frag} {F H F' H' : Hp}
end
end DL

namespace DL
open PySem PySem.Spec PyProof.Rows L2
section
variable {κ β : Type} [DecidableEq κ]
def valG (kvs : List (κ × β)) (k : κ) : Option β := (kvs.find? fun kv => decide (kv.1 = k)).map (·.2)
def putG (kvs : List (κ × β)) (k : κ) (v : β) : List (κ × β) :=
  if (kvs.any fun kv => decide (kv.1 = k)) = true then kvs.map (fun kv => if kv.1 = k then (kv.1, v) else kv) else kvs ++ [(k, v)]
end
inductive PR (R : V → D → Prop) : List (Key × V) → List (Key × D) → Prop
  | nil : PR R [] []
  | cons {k : Key} {v : V} {d : D} {l : List (Key × V)} {m : List (Key × D)} : R v d → PR R l m → PR R ((k, v) :: l) ((k, d) :: m)
section
variable {R : V → D → Prop}
theorem PR.any {l : List (Key × V)} {m : List (Key × D)} (h : PR R l m) (k : Key) : (l.any fun kv => decide (kv.1 = k)) = m.any fun kv => decide (kv.1 = k) := by
  induction h with
  | nil => rfl
  | cons r _ ih => simp only [List.any_cons, ih]
theorem PR.val {l : List (Key × V)} {m : List (Key × D)} (h : PR R l m) {k : Key} {d : D} (e : valG m k = some d) : ∃ v, valV l k = some v ∧ R v d := by
  induction h with
  | nil => cases e
  | @cons j v d' l m r t ih =>
    unfold valG at e
    by_cases q : j = k
    · rw [List.find?_cons_of_pos (by simp [q])] at e
      cases e
      exact ⟨v, by unfold valV; rw [List.find?_cons_of_pos (by simp [q])]; rfl, r⟩
    · rw [List.find?_cons_of_neg (by simp [q])] at e
      obtain ⟨v', h1, h2⟩ := ih e
      exact ⟨v', by unfold valV; rw [List.find?_cons_of_neg (by simp [q])]; exact h1, h2⟩
theorem PR.rep {l : List (Key × V)} {m : List (Key × D)} (h : PR R l m) (k : Key) {v : V} {d : D} (r : R v d) : PR R (l.map fun kv => if kv.1 = k then (kv.1, v) else kv) (m.map fun kv => if kv.1 = k then (kv.1, d) else kv) := by
  induction h with
  | nil => exact .nil
  | @cons j v' d' l m r' t ih =>
    simp only [List.map_cons]
    by_cases q : j = k
    · rw [if_pos q, if_pos q]; exact .cons r ih
    · rw [if_neg q, if_neg q]; exact .cons r' ih
theorem PR.snoc {l : List (Key × V)} {m : List (Key × D)} (h : PR R l m) (k : Key) {v : V} {d : D} (r : R v d) : PR R (l ++ [(k, v)]) (m ++ [(k, d)]) := by
  induction h with
  | nil => exact .cons r .nil
  | cons r' t ih => exact .cons r' ih
theorem PR.put {l : List (Key × V)} {m : List (Key × D)} (h : PR R l m) (k : Key) {v : V} {d : D} (r : R v d) : PR R (putK l k v) (putG m k d) := by
  unfold putK putG
  rw [h.any k]
  split
  · exact h.rep k r
  · exact h.snoc k r
theorem PR.zipE {l : List (Key × V)} {m : List (Key × D)} (h : PR R l m) : l = (m.map (·.1)).zip (l.map (·.2)) ∧ (m.map (·.1)).length = (l.map (·.2)).length ∧ l.length = m.length := by
  induction h with
  | nil => exact ⟨rfl, rfl, rfl⟩
  | cons r t ih =>
    obtain ⟨h1, h2, h3⟩ := ih
    refine ⟨?_, by simp [h3], by simp [h3]⟩
    simp only [List.map_cons, List.zip_cons_cons]
    rw [← h1]
end
section
variable {K : PySem.W.Frag} {cls : Cls} {F H F' H' : Hp} {X : Cx} {W : WX} {O : List Addr}
theorem pr_bos : ∀ {ks : List Key} {vs : List V} {ds : List D}, Bos K cls F H vs ds → ks.length = vs.length → PR (Bo K cls F H) (ks.zip vs) (ks.zip ds)
  | [], _, _, _, _ => .nil
  | k :: ks, _, _, .cons a b, h => .cons a (pr_bos b (by simpa using h))
  | k :: ks, _, _, .nil, h => by simp at h
theorem ows_sh : ∀ {vs : List V} {ds : List D} {O : List Addr}, Ows K cls F H vs ds O → (ds.all fun d => !own1 d) = true → O = [] ∧ Rps K cls F vs ds
  | _, _, _, .nil, _ => ⟨rfl, .nil⟩
  | _, _, _, .cons a b dj e, h => by
    simp only [List.all_cons, Bool.and_eq_true] at h
    obtain ⟨h1, h2⟩ := ows_sh b h.2
    cases a with
    | sh r => exact ⟨by rw [e, h1]; rfl, .cons r h2⟩
    | _ => simp [own1] at h
theorem pr_rps : ∀ {ks : List Key} {vs : List V} {ds : List D}, Rps K cls F vs ds → ks.length = vs.length → PR (Rp K cls F) (ks.zip vs) (ks.zip ds)
  | [], _, _, _, _ => .nil
  | k :: ks, _, _, .cons a b, h => .cons a (pr_rps b (by simpa using h))
  | k :: ks, _, _, .nil, h => by simp at h
theorem PR.rps {l : List (Key × V)} {m : List (Key × D)} (h : PR (Rp K cls F) l m) : Rps K cls F (l.map (·.2)) (m.map (·.2)) := by
  induction h with
  | nil => exact .nil
  | cons r t ih => exact .cons r ih
def eDic : Env → Res D := fun _ => .ok (.od [] [])
@[simp] theorem eDic_ (g : Env) : eDic g = .ok (.od [] []) := rfl
theorem je_dic {pos : Pos} : JE X cls W (.Dict [] [] pos) eDic := by
  refine ⟨_, pe_dnewK, ?_⟩
  intro σ F H g O Q s st p q hq
  refine p (.ref q) F _ [q] (Ext.own s hq) (fresh_new hq) (.inl ?_)
  exact .od (O := []) (s.free hq) (by rw [upd_same]; rfl) rfl (fun h => nomatch h) .nil
def opDG : D → D → Option D
  | .bd ks ds, .int k => valG (ks.zip ds) (.inl k)
  | _, _ => none
def rDG : V → V → Hp → VK → Prop := fun x y H Q => ∃ a v, x = .ref a ∧ DGet H a y (some v) ∧ Q v H
theorem ok_dg : R2Ok K cls rDG opDG := by
  intro F H x y a b d Q s b1 b2 e q
  unfold opDG at e
  split at e
  · rename_i ks ds k
    obtain rfl := b2.int
    cases b1 with
    | sh r => cases r
    | @bd a' _ vs _ h l r =>
      obtain ⟨v, h1, h2⟩ := (pr_bos r l).val e
      refine ⟨a', v, rfl, ?_, q v F H [] (.refl s) Fresh.nil (.inr ⟨h2, rfl⟩)⟩
      rw [← h1]
      exact DGet.k (k := .inl k) h
  · cases e
theorem je_dget {a b : Expr} {fa fb : Env → Res D} {k : Nat} {pos : Pos} (c : Cn X W k) (ha : JE X cls W a fa) (hb : JE X cls W b fb) (hs : NoSl b := by exact fun _ _ => rfl) : JE X cls W (.Subscript a b pos) (eBin opDG fa fb) := by
  obtain ⟨ta, pa, da⟩ := ha.ex
  obtain ⟨tb, pb, db⟩ := hb.ex
  have hu := c.eq
  exact ⟨tOp rDG ta tb, pe_dget (by omega) pa pb hs, de_bin ok_dg da db⟩
def cDI : D → D → Option Bool
  | .int k, .bd ks ds => some ((ks.zip ds).any fun kv => decide (kv.1 = .inl k))
  | _, _ => none
def cDN : D → D → Option Bool := fun a b => (cDI a b).map (!·)
def rDI (n : Bool) : V → V → Hp → VK → Prop := fun y x H Q => ∃ a o, x = .ref a ∧ DGet H a y o ∧ Q (.bl (if n then !o.isSome else o.isSome)) H
theorem op_di (hu : X.A.units + 1 < cLine) : OpR X (compareOp .In) (rDI false) := by
  intro pins s σ H x y v u Q I rx ry h
  obtain ⟨a, o, ex, g, q⟩ := h
  subst ex
  obtain rfl : u = Value.ref a := ry
  exact d_in hu I g rx fun s3 I3 => ⟨.bl o.isSome, H, I3, rfl, q⟩
theorem op_dn (hu : X.A.units + 1 < cLine) : OpR X (compareOp .NotIn) (rDI true) := by
  intro pins s σ H x y v u Q I rx ry h
  obtain ⟨a, o, ex, g, q⟩ := h
  subst ex
  obtain rfl : u = Value.ref a := ry
  exact d_notIn hu I g rx fun s3 I3 => ⟨.bl (!o.isSome), H, I3, rfl, q⟩
theorem valV_anyK (l : List (Key × V)) (k : Key) : (valV l k).isSome = l.any fun kv => decide (kv.1 = k) := (valV_any k l).symm
theorem di_ok {x y : V} {a b : D} {d : Bool} (b1 : Bo K cls F H x a) (b2 : Bo K cls F H y b) (e : cDI a b = some d) : ∃ q o, y = .ref q ∧ DGet H q x o ∧ o.isSome = d := by
  unfold cDI at e
  split at e
  · rename_i k ks ds
    obtain rfl := b1.int
    cases b2 with
    | sh r => cases r
    | @bd a' _ vs _ h l r =>
      refine ⟨a', valV (ks.zip vs) (.inl k), rfl, DGet.k (k := .inl k) h, ?_⟩
      rw [valV_anyK, (pr_bos r l).any]
      exact Option.some.inj e
  · cases e
theorem ok_di : C2Ok K cls (rDI false) cDI := by
  intro F H x y a b d Q s b1 b2 e q
  obtain ⟨p, o, e1, h1, h2⟩ := di_ok b1 b2 e
  exact ⟨p, o, e1, h1, by rw [if_neg (by decide), h2]; exact q⟩
theorem ok_dn : C2Ok K cls (rDI true) cDN := by
  intro F H x y a b d Q s b1 b2 e q
  unfold cDN at e
  cases e0 : cDI a b with
  | none => rw [e0] at e; cases e
  | some k =>
    rw [e0] at e
    cases e
    obtain ⟨p, o, e1, h1, h2⟩ := di_ok b1 b2 e0
    exact ⟨p, o, e1, h1, by rw [if_pos rfl, h2]; exact q⟩
theorem Sts.dct {g : Env} {i : Nat} {ks : List Key} {xs : List D} {σ : L2.St} (st : Sts K cls F H σ g O) (e : g[i]? = some (.od ks xs)) : ∃ p vs O1, σ[i]? = some (some (.ref p)) ∧ H p = some (.dK (ks.zip vs)) ∧ ks.length = vs.length ∧ F p = none ∧ Ows K cls F H vs xs O1 ∧
    ∀ (F' H' : Hp) (ks' : List Key) (ws : List V) (ys : List D), Ext F H F' H' → Rps K cls F' ws ys → ks'.length = ws.length →
      ∃ O'', Sts K cls F' (upd H' p (.dK (ks'.zip ws))) σ (g.set i (.od ks' ys)) O'' ∧ SExt F H O F' (upd H' p (.dK (ks'.zip ws))) O'' := by
  obtain ⟨P, h1, h2, h3, _⟩ := st.at i (List.getElem?_eq_some_iff.mp e).1
  rcases h2 with ⟨h2, _⟩ | ⟨v, d, h2, h2', ow⟩
  · rw [e] at h2; cases h2
  · rw [e] at h2'; cases h2'
    cases ow with
    | sh r => cases r
    | @od p _ vs _ O1 f1 f2 fl f3 f4 =>
      refine ⟨p, vs, O1, h2, f2, fl, f1, f4, fun F' H' ks' ws ys x w hl => ?_⟩
      have hp : F' p = none := x.ow p f1 (by rw [f2]; exact fun e => nomatch e)
      have up : ∀ b, b ≠ p → upd H' p (.dK (ks'.zip ws)) b = H' b := fun b hb => upd_ne hb
      obtain ⟨O'', q1, q2⟩ := h3 F' (upd H' p (.dK (ks'.zip ws))) (.ref p) (.od ks' ys) [p] (fun b hb hn => by
          obtain ⟨e1, e2⟩ := x.get (st.dom b hb).1 (st.dom b hb).2
          exact ⟨(up b fun z => hn (by simp [z])).trans e1, e2⟩) x.ff
        (.od (O := []) hp upd_same hl (fun h => nomatch h) w.toOws) (fun a ha hO => by
          rcases List.mem_cons.mp ha with rfl | ha
          · simp
          · exact nomatch ha)
      rw [set_self h2] at q1
      refine ⟨O'', q1, x.ff, fun b o q => ?_, fun b o q hn => ?_, fun b h1 h2 _ => x.ow b h1 h2, fun b hb => ?_⟩
      · rw [up b fun z => by rw [z, hp] at q; cases q]; exact x.fh b o q
      · rw [up b fun z => hn (z ▸ h1 p (by simp))]; exact x.hh b o q
      · rcases q2 b hb with z | z
        · exact .inl z
        · rcases List.mem_cons.mp z with rfl | z
          · exact .inl (h1 _ (by simp))
          · exact nomatch z
def sDSet (i : Nat) (fk fa : Env → Res D) : Env → Out := fun g => ((fa g).bind kp).st g fun d => match g[i]? with
  | some (.od ks xs) => (fk g).st g fun k => match opd k with
    | .int k => if xs.all (fun d => !own1 d) = true ∧ own1 d = false ∧ ks.length < lim then .nx (g.set i (.od ((putG (ks.zip xs) (.inl k) d).map (·.1)) ((putG (ks.zip xs) (.inl k) d).map (·.2)))) else .bad
    | _ => .bad
  | _ => .bad
@[simp] theorem sDSet_ (i : Nat) (fk fa : Env → Res D) (g : Env) : sDSet i fk fa g = ((fa g).bind kp).st g fun d => match g[i]? with
  | some (.od ks xs) => (fk g).st g fun k => match opd k with
    | .int k => if xs.all (fun d => !own1 d) = true ∧ own1 d = false ∧ ks.length < lim then .nx (g.set i (.od ((putG (ks.zip xs) (.inl k) d).map (·.1)) ((putG (ks.zip xs) (.inl k) d).map (·.2)))) else .bad
    | _ => .bad
  | _ => .bad := rfl
theorem js_dset {a b : Expr} {fa : Env → Res D} {pos : Pos} {i k : Nat} {x : Str} {npos spos : Pos} {fk : Env → Res D} (c : Cn X W k) (hN : X.N[i]? = some x) (hv : Vis X.env.scope x) (ha : JE X cls W a fa) (hk : JE X cls W b fk) (hd : (x == ("__debug__" : Str)) = false := by decide) (hcd : (x == ("__classdict__" : Str)) = false := by decide)
    (hs : swapsWith a (some (.Subscript (.Name x npos) b spos)) pos.line X.env = pure false := by rfl) : JS X cls W (.Assign [.Subscript (.Name x npos) b spos] a pos) (sDSet i fk fa) := by
  obtain ⟨t, p, d⟩ := ha.ex
  obtain ⟨t2, p2, d2⟩ := hk.ex
  have hu := c.eq
  refine ⟨_, ps_dput (by omega) (pe_var hN hv hd hcd) p2 p hs, ?_⟩
  intro D σ F H g O s st p
  rw [sDSet_] at p
  refine d.goS s st p fun dd e p v F1 H1 O2 x fr w => ?_
  split at p
  · rename_i ks xs eg
    obtain ⟨q, vs, O1, h1, h2, hl, h2', h4, h7⟩ := st.dct eg
    refine ⟨.ref q, h1, ?_⟩
    refine d2.go x.fh (st.ext x) (fun c e F' H' y => by rw [e] at p; exact p σ F' H' O ((x.trans y).sext fun a h => .inl h) (st.ext (x.trans y))) (fun e => by rw [e] at p; exact p) fun kd e kv F3 H3 x3 b3 => ?_
    rw [e, Res.st_ok] at p
    split at p
    · rename_i k ek
      split at p
      · rename_i hc
        obtain ⟨c1, c2, c3⟩ := hc
        rw [ek] at b3
        obtain rfl := b3.int
        have x13 := x.trans x3
        obtain ⟨rfl, r1⟩ := ows_sh (h4.ext x13) c1
        have rd : Rp X.K cls F3 v dd := by
          cases w with
          | sh r => exact r.mono x3.ff
          | _ => simp [own1] at c2
        have pr := (pr_rps r1 hl).put (.inl k) rd
        obtain ⟨z1, z2, z3⟩ := pr.zipE
        have lz : (ks.zip vs).length < sizeLine := by
          have : (ks.zip vs).length ≤ ks.length := by rw [List.length_zip]; exact Nat.min_le_left _ _
          have := lim_lt c3
          omega
        refine ⟨q, _, rfl, DPut.k (k := .inl k) (x13.hh _ _ h2) lz, ?_⟩
        obtain ⟨O'', y1, y2⟩ := h7 F3 H3 ((putG (ks.zip xs) (.inl k) dd).map (·.1)) ((putK (ks.zip vs) (.inl k) v).map (·.2)) ((putG (ks.zip xs) (.inl k) dd).map (·.2)) x13 pr.rps z2
        rw [← z1] at y1 y2
        exact p σ F3 _ O'' y2 y1
      · exact p.elim
    · exact p.elim
  · exact p.elim
end
end DL
namespace DL
open L2 in
theorem Cn.eq1 {X : L2.Cx} {W : L2.WX} {k : Nat} (c : Cn X W k) : X.A.units + 1 < PySem.cLine := by have := c.eq; omega
end DL

namespace DL
open PySem PySem.Spec PyProof.Rows L2
section
variable {K : PySem.W.Frag} {cls : Cls} {W : WX} {X : Cx} {F H F' H' : Hp} {O : List Addr} {a b e tg iter elt : Expr} {fs : Env → Res (List D)} {fa fb : Env → Res D} {pos : Pos}
def sAsgI (i : Nat) (fa : Env → Res D) : Env → Out := fun g => ((fa g).bind kp).st g fun d => match d with
  | .ol xs => if nods xs = true then .nx (g.set i (.ol (frzs xs))) else .bad
  | _ => .bad
@[simp] theorem sAsgI_ (i : Nat) (fa : Env → Res D) (g : Env) : sAsgI i fa g = ((fa g).bind kp).st g fun d => match d with
  | .ol xs => if nods xs = true then .nx (g.set i (.ol (frzs xs))) else .bad
  | _ => .bad := rfl
theorem ds_asgI {t : TE} {i : Nat} (d : DE K cls W t fa) : DS K cls W (tAsg t (gName i)) (sAsgI i fa) := by
  intro D σ F H g O s st p
  rw [sAsgI_] at p
  refine d.goS s st p fun dd e p v F1 H1 O1 x fr w => ?_
  cases dd with
  | ol xs =>
    simp only at p
    split at p
    · rename_i n
      cases w with
      | sh r => cases r
      | @ol q vs _ O2 f1 f2 f3 f4 =>
        have no : ∀ a ∈ O2, F1 a = none := fun a ha => (f4.dom a ha).1
        have fr2 : Fresh H O2 := fun a ha => fr a (List.mem_cons_of_mem _ ha)
        have x2 := addF_ext x fr2 no
        have r := f4.freeze (addF_same no) addF_at n
        have ow : Ow K cls (addF F1 H1 O2) H1 (.ref q) (.ol (frzs xs)) [q] := .ol (O := []) (by rw [addF_no f3]; exact f1) f2 (fun h => nomatch h) r.toOws
        obtain ⟨O'', q1, q2⟩ := st.put (i := i) x2 (fun a ha => fr a (by rw [List.mem_singleton.mp ha]; exact List.mem_cons_self ..)) ow
        exact p _ _ _ O'' q2 q1
    · exact p.elim
  | _ => exact p.elim
theorem js_setLcI {i : Nat} {y : Str} {py spos : Pos} {ifs : List Expr} {scope : Scope} {ft : D → Env → Option Env} {gt : Env → Res Bool} {fe : Env → Res D} {ss : List Nat} {k : Nat} (own : List (Str × Nat)) (c : Cn X W k) (hy : X.N[i]? = some y) (hyl : X.env.scope.names.lookup y = some .local)
    (hsw : swapsWith (.ListComp elt [⟨tg, iter, ifs, 0⟩] scope pos) (some (.Name y py)) spos.line X.env = pure true) (hi : JI X cls W tg iter fs) (ok : BlkOk X.N X.env.scope scope own)
    (hg : ∀ (s : Shared) (H : Hp) (C : Addr) (cl : List (Str × Addr)) (fp : List Addr), JG (X.blk s H scope (compEnvC scope cl C X.env) fp) cls tg ft ss)
    (ht : ∀ (s : Shared) (H : Hp) (C : Addr) (cl : List (Str × Addr)) (fp : List Addr), Cn (X.blk s H scope (compEnvC scope cl C X.env) fp) W0 k → JTs (X.blk s H scope (compEnvC scope cl C X.env) fp) cls W0 ifs gt)
    (he : ∀ (s : Shared) (H : Hp) (C : Addr) (cl : List (Str × Addr)) (fp : List Addr), Cn (X.blk s H scope (compEnvC scope cl C X.env) fp) W0 k → JE (X.blk s H scope (compEnvC scope cl C X.env) fp) cls W0 elt fe)
    (hss : ∀ i ∈ ss, i ∈ own.map (·.2)) (hs : ∀ x, foldedSetIterable iter X.env x = pure x := by intro _; rfl) :
    JS X cls W (.Assign [.Name y py] (.ListComp elt [⟨tg, iter, ifs, 0⟩] scope pos) spos) (sAsgI i (eLc fs (own.map (·.2)) ft gt fe)) := by
  obtain ⟨wi, p, d⟩ := hi.ex
  exact ⟨_, ps_setLc (own := own) c.calm c.nd hy hyl hsw p ok (fun s H C cl fp => (hg s H C cl fp).canon) (fun s H C cl fp => (ht s H C cl fp c.blk).canon) (fun s H C cl fp => (he s H C cl fp c.blk).canon) hs, ds_asgI (de_lc d dg_cG dt_cT de_cE hss)⟩

def sSwp (i : Nat) (fk fl fa : Env → Res D) : Env → Out := fun g => ((fa g).bind kp).st g fun d => if nod d = true then match frz d, g[i]? with
  | .tp [d1, d2], some (.ol xs) => match fk g with
    | .ok k => match opd k with
      | .int k => match ixN xs.length k with
        | some j => match fl (g.set i (.ol (xs.set j d1))) with
          | .ok l => match opd l with
            | .int l => match ixN (xs.set j d1).length l with
              | some m => .nx (g.set i (.ol ((xs.set j d1).set m d2)))
              | none => .bad
            | _ => .bad
          | _ => .bad
        | none => .bad
      | _ => .bad
    | _ => .bad
  | _, _ => .bad else .bad
@[simp] theorem sSwp_ (i : Nat) (fk fl fa : Env → Res D) (g : Env) : sSwp i fk fl fa g = ((fa g).bind kp).st g fun d => if nod d = true then match frz d, g[i]? with
  | .tp [d1, d2], some (.ol xs) => match fk g with
    | .ok k => match opd k with
      | .int k => match ixN xs.length k with
        | some j => match fl (g.set i (.ol (xs.set j d1))) with
          | .ok l => match opd l with
            | .int l => match ixN (xs.set j d1).length l with
              | some m => .nx (g.set i (.ol ((xs.set j d1).set m d2)))
              | none => .bad
            | _ => .bad
          | _ => .bad
        | none => .bad
      | _ => .bad
    | _ => .bad
  | _, _ => .bad else .bad := rfl
theorem de_at {i : Nat} {t2 : TE} {fk : Env → Res D} (d2 : DE X.K cls W t2 fk) {σ : L2.St} {g : Env} {O : List Addr} {xs : List D} {k : Int} {j : Nat} {kd : D} {v : V} {dd : D} (s : Same F H) (st : Sts X.K cls F H σ g O) (eg : g[i]? = some (.ol xs)) (ek : fk g = .ok kd) (ek2 : opd kd = .int k) (ej : ixN xs.length k = some j)
    (r : Rp X.K cls F v dd) {Q : L2.St → Hp → Prop} (q : ∀ F' H' O', SExt F H O F' H' O' → Sts X.K cls F' H' σ (g.set i (.ol (xs.set j dd))) O' → Q σ H') : gSub (tVar i) t2 rSetL v σ H Q := by
  obtain ⟨p, vs, O1, h1, h2, h2', h3, h4, h5, h6, h7⟩ := st.lst eg
  refine ⟨.ref p, h1, ?_⟩
  refine d2.go s st (fun c e => by rw [ek] at e; cases e) (fun e => by rw [ek] at e; cases e) fun kd' e kv F3 H3 x3 b3 => ?_
  rw [ek] at e
  cases e
  rw [ek2] at b3
  obtain rfl := b3.int
  refine ⟨p, vs, k, j, rfl, rfl, x3.hh _ _ h2, by rw [h4.len]; exact ej, ?_⟩
  obtain ⟨O3, w3, n3⟩ := (h4.ext x3).set j (.sh (r.mono x3.ff) : Ow X.K cls F3 H3 v dd []) fun a _ q2 => nomatch q2
  obtain ⟨O'', z1, z2⟩ := h7 F3 H3 (vs.set j v) (xs.set j dd) O3 x3 w3 (fun z => by
    rcases n3 _ z with z | z
    · exact h3 z
    · exact nomatch z) (fun a z => (n3 a z).imp id (fun z => nomatch z))
  exact q F3 _ O'' z2 z1
theorem js_swp {i k kt : Nat} {x : Str} {n1 n2 s1 s2 pt : Pos} {b1 b2 : Expr} {fk fl : Env → Res D} (c : Cn X W k) (hN : X.N[i]? = some x) (hv : Vis X.env.scope x) (ha : JE X cls W a fa) (hk : JE X cls W b1 fk) (hl : JE X cls W b2 fl)
    (hd : (x == ("__debug__" : Str)) = false := by decide) (hcd : (x == ("__classdict__" : Str)) = false := by decide)
    (hs : swapsWithSole [.Tuple [.Subscript (.Name x n1) b1 s1, .Subscript (.Name x n2) b2 s2] kt pt] a pos.line X.env = pure false := by rfl)
    (hw : swappedStores [.Tuple [.Subscript (.Name x n1) b1 s1, .Subscript (.Name x n2) b2 s2] kt pt] a X.env = pure none := by rfl)
    (h1 : (assignEach [.Tuple [.Subscript (.Name x n1) b1 s1, .Subscript (.Name x n2) b2 s2] kt pt] X.env).map (·.2) = [assign (.Tuple [.Subscript (.Name x n1) b1 s1, .Subscript (.Name x n2) b2 s2] kt pt) X.env] := by rfl)
    (ha1 : ∀ v, assign (.Subscript (.Name x n1) b1 s1) X.env v = (do
      let ov ← holding [v] (eval (.Name x n1) X.env)
      let iv ← holding [v, ov] (eval b1 X.env)
      standAt s1
      holding [v, ov, iv] (setItem ov iv v)
      release [v, ov, iv] []) := by intro _; rfl)
    (ha2 : ∀ v, assign (.Subscript (.Name x n2) b2 s2) X.env v = (do
      let ov ← holding [v] (eval (.Name x n2) X.env)
      let iv ← holding [v, ov] (eval b2 X.env)
      standAt s2
      holding [v, ov, iv] (setItem ov iv v)
      release [v, ov, iv] []) := by intro _; rfl)
    (he1 : (assignEach [.Subscript (.Name x n1) b1 s1, .Subscript (.Name x n2) b2 s2] X.env).map (·.2) = assign (.Subscript (.Name x n1) b1 s1) X.env :: (assignEach [.Subscript (.Name x n2) b2 s2] X.env).map (·.2) := by rfl)
    (he2 : (assignEach [.Subscript (.Name x n2) b2 s2] X.env).map (·.2) = assign (.Subscript (.Name x n2) b2 s2) X.env :: (assignEach [] X.env).map (·.2) := by rfl)
    (hn : (assignEach [.Subscript (.Name x n1) b1 s1, .Subscript (.Name x n2) b2 s2] X.env).length = 2 := by rfl) (hst : (assignEach [.Subscript (.Name x n1) b1 s1, .Subscript (.Name x n2) b2 s2] X.env).findIdx? (·.1) = none := by rfl) :
    JS X cls W (.Assign [.Tuple [.Subscript (.Name x n1) b1 s1, .Subscript (.Name x n2) b2 s2] kt pt] a pos) (sSwp i fk fl fa) := by
  obtain ⟨t, p, d⟩ := ha.ex
  obtain ⟨t2, p2, d2⟩ := hk.ex
  obtain ⟨t3, p3, d3⟩ := hl.ex
  refine ⟨_, ps_asg p (pg_tup c.calm (pgs_cons (pg_sub (pe_var hN hv hd hcd) p2 set_list ha1) (pgs_cons (pg_sub (pe_var hN hv hd hcd) p3 set_list ha2) pgs_nil he2) he1) hn hst) hs hw h1, ?_⟩
  intro D σ F H g O s st p
  rw [sSwp_] at p
  refine d.goS s st p fun dd e p v F1 H1 O1 x fr w => ?_
  split at p
  · rename_i n
    have no : ∀ a ∈ O1, F1 a = none := fun a ha => (w.dom a ha).1
    have x2 := addF_ext x fr no
    have r := w.freeze (addF_same no) addF_at n
    split at p
    · rename_i d1 d2' xs ed eg
      rw [ed] at r
      cases r with
      | tp hT hr =>
        cases hr with
        | cons r1 hr =>
          cases hr with
          | cons r2 hr =>
            cases hr
            refine ⟨_, _, rfl, sameT x2.fh hT, rfl, ?_⟩
            split at p
            · rename_i kd ek
              split at p
              · rename_i k ek2
                split at p
                · rename_i j ej
                  split at p
                  · rename_i ld el
                    split at p
                    · rename_i l el2
                      split at p
                      · rename_i m em
                        refine ⟨_, _, rfl, ?_⟩
                        refine de_at (F := addF F1 H1 O1) (H := H1) d2 x2.fh (st.ext x2) eg ek ek2 ej r1 fun F3 H3 O3 x3 st3 => ?_
                        refine ⟨_, _, rfl, ?_⟩
                        have eg3 : (g.set i (.ol (xs.set j d1)))[i]? = some (.ol (xs.set j d1)) := by
                          rw [List.getElem?_set_self (List.getElem?_eq_some_iff.mp eg).1]
                        refine de_at (F := F3) (H := H3) d3 x3.fh st3 eg3 el el2 em (r2.mono x3.ff) fun F4 H4 O4 x4 st4 => ?_
                        refine ⟨rfl, ?_⟩
                        rw [List.set_set] at st4
                        exact p _ F4 H4 O4 (((x2.sext fun a h => .inl h).trans x3).trans x4) st4
                      · exact p.elim
                    · exact p.elim
                  · exact p.elim
                · exact p.elim
              · exact p.elim
            · exact p.elim
    · exact p.elim
  · exact p.elim
def rGetL : V → V → Hp → VK → Prop := fun x y H Q => ∃ p xs i v, x = .ref p ∧ y = .int i ∧ H p = some (.lst xs) ∧ 0 ≤ i ∧ i < 1000000000 ∧ xs[i.toNat]? = some v ∧ Q v H
theorem get_list0 : PGet X rGetL := by
  intro pins s σ H o i ov iv Q I ro ri h
  obtain ⟨p, xs, k, v, rfl, rfl, hp, h0, h1, hx, q⟩ := h
  cases ro
  obtain ⟨t, rfl⟩ := ri
  obtain ⟨its, r, pl, hz⟩ := I.list (SqL.of hp)
  obtain ⟨w, ew, rw'⟩ := r.get hx
  exact wpAny_getItem_list pl.isList h0 (by omega) (by simpa using ew) ⟨v, H, I, rw', q⟩
def sAug2 (op : Int → Int → Int) (i j1 j2 : Nat) (fa : Env → Res D) : Env → Out := fun g => match g[i]?, g[j1]?, g[j2]? with
  | some (.ol xs), some (.int k1), some (.int k2) => match ixN xs.length k1 with
    | some z => match xs[z]? with
      | some (.ol ys) => if 0 ≤ k2 ∧ k2 < 1000000000 then match ys[k2.toNat]? with
        | some (.int n) => (fa g).st g fun d => match opd d with
          | .int b => .nx (g.set i (.ol (xs.set z (.ol (ys.set k2.toNat (.int (op n b)))))))
          | _ => .bad
        | _ => .bad else .bad
      | _ => .bad
    | none => .bad
  | _, _, _ => .bad
@[simp] theorem sAug2_ (op : Int → Int → Int) (i j1 j2 : Nat) (fa : Env → Res D) (g : Env) : sAug2 op i j1 j2 fa g = match g[i]?, g[j1]?, g[j2]? with
  | some (.ol xs), some (.int k1), some (.int k2) => match ixN xs.length k1 with
    | some z => match xs[z]? with
      | some (.ol ys) => if 0 ≤ k2 ∧ k2 < 1000000000 then match ys[k2.toNat]? with
        | some (.int n) => (fa g).st g fun d => match opd d with
          | .int b => .nx (g.set i (.ol (xs.set z (.ol (ys.set k2.toNat (.int (op n b)))))))
          | _ => .bad
        | _ => .bad else .bad
      | _ => .bad
    | none => .bad
  | _, _, _ => .bad := rfl
theorem Sts.intAt {σ : L2.St} {g : Env} {j : Nat} {n : Int} (st : Sts K cls F H σ g O) (e : g[j]? = some (.int n)) : σ[j]? = some (some (.int n)) := by
  obtain ⟨P, _, h2, _⟩ := st.at j (List.getElem?_eq_some_iff.mp e).1
  rcases h2 with ⟨h2, _⟩ | ⟨v, d, h2, h2', ow⟩
  · rw [e] at h2; cases h2
  · rw [e] at h2'; cases h2'
    obtain ⟨rfl, _⟩ := ow.int
    exact h2
theorem Ows.intAt : ∀ {vs : List V} {ds : List D} {O : List Addr} {k : Nat} {n : Int}, Ows K cls F H vs ds O → ds[k]? = some (.int n) → vs[k]? = some (.int n)
  | _, _, _, _, _, .nil, e => by simp at e
  | _, _, _, 0, _, .cons h r dj eo, e => by
    simp at e
    subst e
    obtain ⟨rfl, _⟩ := h.int
    rfl
  | _, _, _, k + 1, _, .cons h r dj eo, e => by
    simp at e ⊢
    exact r.intAt e
theorem js_aug2 {i j1 j2 : Nat} {x y1 y2 : Str} {npos p1 p2 ip tpos : Pos} {o : Operator} {op : Int → Int → Int} (ho : PIp X o (ipI op)) (hN : X.N[i]? = some x) (hv : Vis X.env.scope x) (hN1 : X.N[j1]? = some y1) (hv1 : Vis X.env.scope y1) (hN2 : X.N[j2]? = some y2) (hv2 : Vis X.env.scope y2) (ha : JE X cls W a fa)
    (hd : (x == ("__debug__" : Str)) = false := by decide) (hcd : (x == ("__classdict__" : Str)) = false := by decide) (hd1 : (y1 == ("__debug__" : Str)) = false := by decide) (hcd1 : (y1 == ("__classdict__" : Str)) = false := by decide)
    (hd2 : (y2 == ("__debug__" : Str)) = false := by decide) (hcd2 : (y2 == ("__classdict__" : Str)) = false := by decide)
    (hps : PlainIx (.Name y1 p1) := by exact fun _ _ => rfl)
    (hst : ∀ ov iv new, augStore (.Name y2 p2) ov iv new = (do holding [new, ov, iv] (setItem ov iv new); release [new, ov, iv] []; pure .next) := by intros; rfl) :
    JS X cls W (.AugAssign (.Subscript (.Subscript (.Name x npos) (.Name y1 p1) ip) (.Name y2 p2) tpos) o a pos) (sAug2 op i j1 j2 fa) := by
  obtain ⟨t, p, d⟩ := ha.ex
  refine ⟨_, ps_augS (pe_ix ix_list (pe_var hN hv hd hcd) (pe_var hN1 hv1 hd1 hcd1) hps) (pe_var hN2 hv2 hd2 hcd2) get_list0 p ho set_list hst, ?_⟩
  intro D σ F H g O s st p
  rw [sAug2_] at p
  split at p
  · rename_i xs k1 k2 eg e1' e2'
    split at p
    · rename_i z ez
      split at p
      · rename_i ys ey
        split at p
        · rename_i hk
          split at p
          · rename_i n en
            obtain ⟨P, e1, e2, e3, _⟩ := st.at i (List.getElem?_eq_some_iff.mp eg).1
            rcases e2 with ⟨e2, _⟩ | ⟨v, dd, e2, e2'', ow⟩
            · rw [eg] at e2; cases e2
            · rw [eg] at e2''; cases e2''
              cases ow with
              | sh r => cases r
              | @ol q vs _ O1 f1 f2 f3 f4 =>
                obtain ⟨r, us, O2, g1, g2, g3, g4, g5, g6, g7, g8⟩ := f4.inner ey
                have hix : atI vs k1 = some (.ref r) := by
                  unfold atI; rw [f4.len, ez]; exact g1
                refine ⟨.ref q, e2, .int k1, st.intAt e1', ⟨q, vs, k1, .ref r, rfl, rfl, SqL.of f2, hix, ?_⟩⟩
                refine ⟨.int k2, st.intAt e2', ?_⟩
                have hu : us[k2.toNat]? = some (.int n) := g5.intAt en
                have hlt := (List.getElem?_eq_some_iff.mp hu).1
                refine ⟨r, us, k2, .int n, rfl, rfl, g2, hk.1, hk.2, hu, ?_⟩
                refine d.go s st (fun c e => by rw [e] at p; exact xc_st st p) (fun e => by rw [e] at p; exact p) fun dd e v F1 H1 x b => ?_
                rw [e, Res.st_ok] at p
                split at p
                · rename_i b' eb
                  rw [eb] at b
                  obtain rfl := b.int
                  refine ⟨n, b', rfl, rfl, r, us, k2, k2.toNat, rfl, rfl, x.hh _ _ g2, ixN_nat hk.1 (by omega), ?_⟩
                  obtain ⟨O3, w3, n3⟩ := (g5.ext x).set k2.toNat (.sh (.int (op n b')) : Ow X.K cls F1 H1 (.int (op n b')) (.int (op n b')) []) fun a _ q2 => nomatch q2
                  obtain ⟨O4, w1, w2⟩ := g8 F1 H1 (us.set k2.toNat (.int (op n b'))) (ys.set k2.toNat (.int (op n b'))) O3 x w3 (fun z => by
                    rcases n3 _ z with z | z
                    · exact g4 z
                    · exact nomatch z) (fun a z => (n3 a z).imp id (fun z => nomatch z))
                  have hqr : q ≠ r := fun z => f3 (z ▸ g6)
                  have up : ∀ b, b ≠ r → upd H1 r (.lst (us.set k2.toNat (.int (op n b')))) b = H1 b := fun b hb => upd_ne hb
                  have hF1r : F1 r = none := x.ow r g3 (by rw [g2]; exact fun e => nomatch e)
                  have hF1q : F1 q = none := x.ow q f1 (by rw [f2]; exact fun e => nomatch e)
                  have hq4 : q ∉ O4 := fun z => by
                    rcases w2 q z with z | z
                    · exact f3 z
                    · rw [f2] at z; cases z
                  obtain ⟨O'', q1, q2⟩ := e3 F1 (upd H1 r (.lst (us.set k2.toNat (.int (op n b'))))) (.ref q) (.ol (xs.set z (.ol (ys.set k2.toNat (.int (op n b')))))) (q :: O4) (fun b hb hn => by
                      obtain ⟨k1, k2⟩ := x.get (st.dom b hb).1 (st.dom b hb).2
                      exact ⟨(up b fun z => hn (by simp [z, g6])).trans k1, k2⟩) x.ff
                    (.ol hF1q ((up q hqr).trans (x.hh _ _ f2)) hq4 w1) (fun a ha hO => by
                      rcases List.mem_cons.mp ha with rfl | ha
                      · simp
                      · rcases w2 a ha with z | z
                        · simp [z]
                        · exact absurd z (st.dom a hO).2)
                  rw [set_self e2] at q1
                  refine p _ F1 _ O'' ⟨x.ff, fun b o k => ?_, fun b o k hn => ?_, fun b h1 h2 _ => x.ow b h1 h2, fun b hb => ?_⟩ q1
                  · rw [up b fun z => by rw [z, hF1r] at k; cases k]; exact x.fh b o k
                  · rw [up b fun z => hn (z ▸ e1 r (by simp [g6]))]; exact x.hh b o k
                  · rcases q2 b hb with z | z
                    · exact .inl z
                    · rcases List.mem_cons.mp z with rfl | z
                      · exact .inl (e1 _ (by simp))
                      · exact (w2 b z).imp (fun z => e1 b (by simp [z])) id
                · exact p.elim
          · exact p.elim
        · exact p.elim
      · exact p.elim
    · exact p.elim
  · exact p.elim
end
end DL

namespace DL
open PySem PySem.Spec PyProof.Rows L2
section
variable {K : PySem.W.Frag} {cls : Cls} {W : WX} {X : Cx} {F H F' H' : Hp} {O : List Addr} {a b e tg iter elt : Expr} {fs : Env → Res (List D)} {fa fb : Env → Res D} {pos : Pos}
end
end DL

namespace PySem
open Sem (wp)
def oZ1 (h : Heap) (l : Addr) : Heap := h.push { cls := .type "list_iterator", data := .fields #[.ref l, .int 0 0] }
def oZ2 (h : Heap) (l t : Addr) : Heap := (oZ1 h l).push { cls := .type "tuple_iterator", data := .fields #[.ref t, .int 0 0] }
def oZ3 (h : Heap) (l t : Addr) : Heap := (oZ2 h l t).push { cls := .type "tuple", data := .seq #[.ref h.objs.size, .ref (oZ1 h l).objs.size] }
def oZ4 (h : Heap) (l t : Addr) : Heap := (oZ3 h l t).push { cls := .type "tuple", data := .seq #[.none, .none] }
def oZ5 (h : Heap) (l t : Addr) : Heap := (oZ4 h l t).push { cls := .type "zip", data := .fields #[.none, .bool false, .bool false, .ref (oZ2 h l t).objs.size, .ref (oZ3 h l t).objs.size] }
theorem own_zipLT (l t : Addr) (xs ys : Array Value) :
    Meets (Builtin.«zip.__new__» ⟨[.type "zip", .ref l, .ref t], []⟩) (fun _ R s => s.heap.IsList l xs ∧ s.heap.IsTuple t ys ∧
      R (.ok (.ret (.ref (oZ4 s.heap l t).objs.size))) { s with heap := oZ5 s.heap l t }) :=
  .of_wp fun prog w A R s h => by
    obtain ⟨hp, g, d, tk, os⟩ := s
    obtain ⟨q1, q2, h⟩ := h
    have sz := sub_zip
    have u1 : Heap.IsList (Shared.heap ⟨hp, g, d, tk, os⟩) l xs := q1
    have u2 : Heap.IsTuple (Shared.heap ⟨hp.push { cls := .type "list_iterator", data := .fields #[.ref l, .int 0 0] }, g, d, tk, os⟩) t ys := Heap.IsTuple.push q2 _
    wp_walk using wpAny_pyIter_list u1, wpAny_pyIter_tuple u2
    exact ⟨_, rfl, h⟩
section
variable {prog : Program} {w : World} {A : Around} {E : Value → Shared → Prop} {s : Shared}
theorem own_call_zipLT {l t : Addr} {xs ys : Array Value} {Q : Value → Shared → Prop} (q1 : s.heap.IsList l xs) (q2 : s.heap.IsTuple t ys)
    (h : ∀ h', IsZip h' (s.heap.objs.size + 4) (s.heap.objs.size + 2) (s.heap.objs.size + 3) .none → IsPair h' (s.heap.objs.size + 2) (.ref s.heap.objs.size) (.ref (s.heap.objs.size + 1)) →
      IsPair h' (s.heap.objs.size + 3) .none .none → h'.IsListIter s.heap.objs.size l 0 → h'.IsTupleIter (s.heap.objs.size + 1) t 0 →
      (∀ c o, s.heap.get? c = some o → h'.get? c = some o) → Q (.ref (s.heap.objs.size + 4)) { s with heap := h' }) :
    wpAny (model prog w) A (call (.type "zip") [.ref l, .ref t]) Q E s := by
  have n1 : (oZ1 s.heap l).objs.size = s.heap.objs.size + 1 := Heap.size_push ..
  have n2 : (oZ2 s.heap l t).objs.size = s.heap.objs.size + 2 := by unfold oZ2; rw [Heap.size_push, n1]
  have n3 : (oZ3 s.heap l t).objs.size = s.heap.objs.size + 3 := by unfold oZ3; rw [Heap.size_push, n2]
  have n4 : (oZ4 s.heap l t).objs.size = s.heap.objs.size + 4 := by unfold oZ4; rw [Heap.size_push, n3]
  have k5 : ∀ c o, (oZ4 s.heap l t).get? c = some o → (oZ5 s.heap l t).get? c = some o := fun _ _ e => Heap.get?_push_of_some _ e
  have k4 : ∀ c o, (oZ3 s.heap l t).get? c = some o → (oZ5 s.heap l t).get? c = some o := fun c o e => k5 c o (Heap.get?_push_of_some _ e)
  have k3 : ∀ c o, (oZ2 s.heap l t).get? c = some o → (oZ5 s.heap l t).get? c = some o := fun c o e => k4 c o (Heap.get?_push_of_some _ e)
  have k2 : ∀ c o, (oZ1 s.heap l).get? c = some o → (oZ5 s.heap l t).get? c = some o := fun c o e => k3 c o (Heap.get?_push_of_some _ e)
  have k1 : ∀ c o, s.heap.get? c = some o → (oZ5 s.heap l t).get? c = some o := fun c o e => k2 c o (Heap.get?_push_of_some _ e)
  have e5 : (oZ5 s.heap l t).get? (oZ4 s.heap l t).objs.size = some { cls := .type "zip", data := .fields #[.none, .bool false, .bool false, .ref (oZ2 s.heap l t).objs.size, .ref (oZ3 s.heap l t).objs.size] } := Heap.get?_push_size _ rfl
  have e4 : (oZ5 s.heap l t).get? (oZ3 s.heap l t).objs.size = some { cls := .type "tuple", data := .seq #[.none, .none] } := k5 _ _ (Heap.get?_push_size _ rfl)
  have e3 : (oZ5 s.heap l t).get? (oZ2 s.heap l t).objs.size = some { cls := .type "tuple", data := .seq #[.ref s.heap.objs.size, .ref (oZ1 s.heap l).objs.size] } := k4 _ _ (Heap.get?_push_size _ rfl)
  have e2 : (oZ5 s.heap l t).get? (oZ1 s.heap l).objs.size = some { cls := .type "tuple_iterator", data := .fields #[.ref t, .int 0 0] } := k3 _ _ (Heap.get?_push_size _ rfl)
  have e1 : (oZ5 s.heap l t).get? s.heap.objs.size = some { cls := .type "list_iterator", data := .fields #[.ref l, .int 0 0] } := k2 _ _ (Heap.get?_push_size _ rfl)
  rw [n4, n2, n3] at e5
  rw [n3] at e4
  rw [n2, n1] at e3
  rw [n1] at e2
  refine callType_new F.called_zip (by decide) (F.typeCall_zip_2 _ _) (F.newCall_zip_2 _ _) (fun obj => F.args_object_init_3 obj _ _) F.entry_zip_new (own_zipLT l t xs ys) ⟨q1, q2, ?_⟩
  show _ ∧ _
  rw [n4]
  exact ⟨⟨_, e5, rfl⟩, h _ e5 e3 e4 ⟨_, e1, rfl, rfl⟩ ⟨_, e2, rfl, rfl⟩ k1⟩
end
end PySem
namespace DL
open PySem PySem.Spec PyProof.Rows L2 TL PySem.W
def ItzM (K : PySem.W.Frag) (a b : Addr) : It :=
  ⟨fun i H => ∃ (xs ys : List V) (x y : V), (SqL K H a xs ∧ SqT K H b ys) ∧ xs[i]? = some x ∧ ys[i]? = some y,
    fun i H v H' => ∃ T x y, v = .ref T ∧ H T = none ∧ H' = upd H T (.tup [x, y]) ∧ (∀ xs, SqL K H a xs → xs[i]? = some x) ∧ ∀ ys, SqT K H b ys → ys[i]? = some y,
    fun i H => ∃ xs ys : List V, (SqL K H a xs ∧ SqT K H b ys) ∧ (xs.length ≤ i ∨ ys.length ≤ i) ∧ i ≤ xs.length ∧ i ≤ ys.length⟩
theorem sepM {z TI TO i1 i2 a b : Addr} (D : ZipApart z TI TO i1 i2 a b) : ZipSep2 z TI TO i1 i2 [i1, a] [i2, b] where
  TIz := D.TIz
  TOz := D.TOz
  TITO := D.TITO
  TIi1 := D.TIi1
  mem1 := by simp
  zf1 := by simp [D.i1z.symm, D.l1z.symm]
  Tf1 := by simp [D.TOi1, D.l1TO.symm]
  TIi2 := D.TIi2
  mem2 := by simp
  zf2 := by simp [D.i2z.symm, D.l2z.symm]
  Tf2 := by simp [D.TOi2, D.l2TO.symm]
  sep1_2 := by simp [D.i12, D.l2i1.symm]
  sep2_1 := by simp [D.i12.symm, D.l1i2.symm]
theorem turn_zipM {P : Program} {w : World} {K : PySem.W.Frag} {elts : List Expr} {kk : Nat} {tpos : Pos} {a b z TI TO i1 i2 : Addr} (D : ZipApart z TI TO i1 i2 a b) :
    Turn P w K (.Tuple elts kk tpos) (ItzM K a b) [z, TI, TO, i1, i2] z (fun i h => (IsZip h z TI TO .none ∧ IsPair h TI (.ref i1) (.ref i2)) ∧ (∃ x y, IsPair h TO x y) ∧ h.IsListIter i1 a i ∧ h.IsTupleIter i2 b i) where
  mem := by simp
  obj := fun i h st c hc => by
    obtain ⟨⟨g1, g2⟩, ⟨x, y, g3⟩, ⟨o1, e1, _, d1⟩, o2, e2, _, d2⟩ := st
    rcases (by simpa using hc : c = z ∨ c = TI ∨ c = TO ∨ c = i1 ∨ c = i2) with q | q | q | q | q
    · exact q ▸ ⟨_, g1, fun v q => nomatch q⟩
    · exact q ▸ ⟨_, g2, fun v q => nomatch q⟩
    · exact q ▸ ⟨_, g3, fun v q => nomatch q⟩
    · exact q ▸ ⟨o1, e1, fun v q => by rw [d1] at q; cases q⟩
    · exact q ▸ ⟨o2, e2, fun v q => by rw [d2] at q; cases q⟩
  keep := fun i h h' st k => by
    obtain ⟨⟨g1, g2⟩, ⟨x, y, g3⟩, g4, g5⟩ := st
    exact ⟨⟨k z (by simp) _ g1, k TI (by simp) _ g2⟩, ⟨x, y, k TO (by simp) _ g3⟩, g4.at fun o q => k i1 (by simp) o q, g5.at fun o q => k i2 (by simp) o q⟩
  item := by
    intro X hP hw hK hc i pins s σ H E I hf st hg
    subst hP hw hK
    obtain ⟨⟨g1, g2⟩, ⟨x0, y0, g3⟩, g4, g5⟩ := st
    obtain ⟨xs, ys, x, y, ⟨qx, qy⟩, hx, hy⟩ := hg
    obtain ⟨its, rv, p, _⟩ := I.list qx
    obtain ⟨its2, rv2, p2, _⟩ := I.tuple qy
    have p2' : s.heap.IsTuple b its2.toArray := p2
    obtain ⟨u, hu, ru⟩ := rv.get hx
    obtain ⟨u2, hu2, ru2⟩ := rv2.get hy
    have zl : z < s.heap.objs.size := Heap.lt_size g1
    have b1 : i < its.toArray.size := by have := (List.getElem?_eq_some_iff.mp hu).1; simpa using this
    have b2 : i < its2.toArray.size := by have := (List.getElem?_eq_some_iff.mp hu2).1; simpa using this
    refine wpAny_pyNext_zipD2_item (sepM D) (Draws.list (A := X.A.in1) (I.ok.hd hc) i1 a D.l1i1 its.toArray) (Draws.tuple (A := X.A.in1) (I.ok.hd hc) i2 b D.l2i2 its2.toArray) g1 g2 g3 ⟨g4, p.isList⟩ ⟨g5, p2'⟩ b1 b2 fun v1 v2 h' tk c1 c2 g1' g3' st1 st2 gT hsz hk => ?_
    obtain rfl : v1 = u := by
      have e1 : its[i]? = some v1 := by simpa using c1
      rw [hu] at e1; cases e1; rfl
    obtain rfl : v2 = u2 := by
      have e1 : its2[i]? = some v2 := by simpa using c2
      rw [hu2] at e1; cases e1; rfl
    refine ⟨_, rfl, wpAny_letOwnedTupleGo_zip (s := { s with heap := h', toks := tk }) g1' fun h'' g1'' sb => ?_⟩
    have gT2 : h''.get? s.heap.objs.size = some { cls := .type "tuple", data := .seq #[v1, v2] } := (sb.2 _ (Nat.ne_of_gt zl)).trans gT
    have new : ObjOk X.prog X.w (upd H s.heap.objs.size (.tup [x, y])) h'' s.heap.objs.size (.tup [x, y]) :=
      ⟨by show 2 ≤ sizeLine; decide, [v1, v2], .cons ru (.cons ru2 .nil), ⟨_, gT2, rfl, _, rfl⟩⟩
    have kk : ∀ c o, c ∉ [z, TI, TO, i1, i2] → s.heap.get? c = some o → h''.get? c = some o := fun c o hb q => by
      simp only [List.mem_cons, not_or] at hb
      exact (sb.2 c hb.1).trans (hk c o hb.1 hb.2.2.1 hb.2.2.2.1 hb.2.2.2.2.1 q)
    have I1 : Inv X pins σ (upd H s.heap.objs.size (.tup [x, y])) { s with heap := h'', toks := tk } :=
      I.turnedNew (ch := [z, TI, TO, i1, i2]) kk hf (Nat.le_refl _) new
    refine ⟨.ref s.heap.objs.size, _, I1, rfl, ⟨_, x, y, rfl, I.hok.fresh (Nat.le_refl _), rfl, fun ws hl => I.list_inj hl qx ▸ hx, fun ws hl => I.tuple_inj hl qy ▸ hy⟩, ⟨⟨g1'', (sb.2 _ D.TIz).trans (hk _ _ D.TIz D.TITO D.TIi1 D.TIi2 g2)⟩, ⟨v1, v2, (sb.2 _ D.TOz).trans g3'⟩, st1.1.at fun o q => (sb.2 _ D.i1z).trans q, st2.1.at fun o q => (sb.2 _ D.i2z).trans q⟩, fun c hcm => ?_⟩
    have lt : c < s.heap.objs.size := by
      rcases (by simpa using hcm : c = z ∨ c = TI ∨ c = TO ∨ c = i1 ∨ c = i2) with q | q | q | q | q
      · exact q ▸ zl
      · exact q ▸ Heap.lt_size g2
      · exact q ▸ Heap.lt_size g3
      · obtain ⟨_, e1, _⟩ := g4; exact q ▸ Heap.lt_size e1
      · obtain ⟨_, e2, _⟩ := g5; exact q ▸ Heap.lt_size e2
    rw [upd_ne (Nat.ne_of_lt lt)]
    exact (hf c hcm).1
  done := by
    intro X hP hw hK hc i pins s σ H E I hf st hg
    subst hP hw hK
    obtain ⟨⟨g1, g2⟩, ⟨x0, y0, g3⟩, g4, g5⟩ := st
    obtain ⟨xs, ys, ⟨qx, qy⟩, hend, hi1, hi2⟩ := hg
    obtain ⟨its, rv, p, _⟩ := I.list qx
    obtain ⟨its2, rv2, p2, _⟩ := I.tuple qy
    have p2' : s.heap.IsTuple b its2.toArray := p2
    have l1 := rv.length
    have l2 := rv2.length
    refine wpAny_pyNext_zipD2_end (sepM D) (Draws.list (A := X.A.in1) (I.ok.hd hc) i1 a D.l1i1 its.toArray) (Draws.tuple (A := X.A.in1) (I.ok.hd hc) i2 b D.l2i2 its2.toArray) g1 g2 g3 ⟨g4, p.isList⟩ ⟨g5, p2'⟩ (by simp; omega) (by simp; omega) (by simp; omega) fun h' tk hk => ⟨rfl, ?_⟩
    refine I.turnedL (t' := tk) (ch := [z, TI, TO, i1, i2]) (fun c o hb q => ?_) hf
    simp only [List.mem_cons, not_or] at hb
    exact hk c o hb.1 hb.2.2.1 hb.2.2.2.1 hb.2.2.2.2.1 q
  self := fun A i s Q E st h => wpAny_pyIter_zip st.1.1 h
def iZipM (K : PySem.W.Frag) (ta : TA) : TI := fun σ H R => ta σ H fun vs H1 => ∃ a b xs ys, vs = [.ref a, .ref b] ∧ SqL K H1 a xs ∧ SqT K H1 b ys ∧ R (ItzM K a b) H1
theorem pi_zipM {X : Cx} {e e2 : Expr} {ta : TA} {p pos tpos : Pos} {elts : List Expr} {kk : Nat} (hg : Gl X "zip") (hm : X.mg "zip" = none) (ha : PA X [e, e2] ta)
    (hs : starEach [e, e2] X.env = (false, eval e X.env) :: starEach [e2] X.env := by rfl) (hpl : (backTo pos (starEach [e2] X.env)).any (·.1) = false := by rfl) :
    PI X (.Tuple elts kk tpos) (.Call (.Name "zip" p) [e, e2] [] pos) (iZipM X.K ta) := by
  refine ⟨fun pins s σ H R I h => ?_⟩
  refine Call_ (ld_blt I hg hm PyProof.Rows.boot_zip (PyProof.Rows.callWith_type1 (thn (ha.run pos pins s σ H _ I h) fun us s1 ⟨vs, H1, I1, r1, q1⟩ => ?_) hs hpl))
  obtain ⟨a, b, xs, ys, ex, qx, qy, q⟩ := q1
  subst ex
  cases r1 with
  | cons r rr =>
  cases rr with
  | cons r' rr =>
  cases rr
  cases r
  cases r'
  obtain ⟨its, rv, p1, _⟩ := I1.list qx
  obtain ⟨its2, rv2, p2, _⟩ := I1.tuple qy
  have p2' : s1.heap.IsTuple b its2.toArray := p2
  have lb : b < s1.heap.objs.size := by obtain ⟨o, e, _⟩ := id p2'; exact Heap.lt_size e
  refine own_call_zipLT p1.isList p2' fun h' g1 g2 g3 g4 g5 hk => wpAny_pyIter_zip g1 ?_
  have I2 : Inv X pins σ H1 { s1 with heap := h' } := I1.kept (t' := s1.toks) hk
  refine ⟨s1.heap.objs.size + 4, [s1.heap.objs.size + 4, s1.heap.objs.size + 2, s1.heap.objs.size + 3, s1.heap.objs.size, s1.heap.objs.size + 1], _, _, H1, rfl, I2, turn_zipM (PySem.W.ktu_apart s1.heap.objs.size a b p1.lt lb), ⟨⟨g1, g2⟩, ⟨_, _, g3⟩, g4, g5⟩, fun c hc => ?_, q⟩
  have le : s1.heap.objs.size ≤ c := by
    rcases (by simpa using hc : c = s1.heap.objs.size + 4 ∨ c = s1.heap.objs.size + 2 ∨ c = s1.heap.objs.size + 3 ∨ c = s1.heap.objs.size ∨ c = s1.heap.objs.size + 1) with z | z | z | z | z <;> (rw [z]; first | exact Nat.le_add_right _ _ | exact Nat.le_refl _)
  exact I1.fpOk le (I1.hok.fresh le)
section
variable {K : PySem.W.Frag} {cls : Cls} {W : WX} {X : Cx} {F H F' H' F1 H1 : Hp} {O O1 : List Addr} {a b : Expr} {fs : Env → Res (List D)} {pos : Pos}
theorem feeds_zipM {a b : Addr} {vs ws : List V} {ds es : List D} (h : SqL K F a vs) (r : Rps K cls F vs ds) (h2 : SqT K F b ws) (r2 : Rps K cls F ws es) : Feeds K cls F (ItzM K a b) (zipD ds es) where
  go := fun i d e F' H' s1 s2 => by
    obtain ⟨x, y, e1, e2, rfl⟩ := zipD_get e
    obtain ⟨v, q1, q2⟩ := r.get e1
    obtain ⟨w, q3, q4⟩ := r2.get e2
    have h' : SqL K H' a vs := (s1.trans s2).seq h
    have h2' : SqT K H' b ws := sameT (s1.trans s2) h2
    refine ⟨⟨vs, ws, v, w, ⟨h', h2'⟩, q1, q3⟩, fun x H'' z => ?_⟩
    obtain ⟨T, v', w', e1, e2, e3, z1, z2⟩ := z
    subst e1 e3
    have := z1 vs h'
    rw [q1] at this
    cases this
    have := z2 ws h2'
    rw [q3] at this
    cases this
    have px := Ext.put (o := .tup [v, w]) s2 e2
    exact ⟨_, px, .tp (SqT.of upd_same) (.cons (q2.mono (s1.trans px.ff)) (.cons (q4.mono (s1.trans px.ff)) .nil))⟩
  stop := fun F' H' s1 s2 => ⟨vs, ws, ⟨(s1.trans s2).seq h, sameT (s1.trans s2) h2⟩, by rw [zipD_len, r.len, r2.len]; omega⟩
def iZp2 (fs : Env → Res (List D)) : Env → Res (List D) := fun g => (fs g).bind fun ds => match ds with
  | [d, e] => (Res.of (lsS d)).bind fun xs => (Res.of (sqS e)).bind fun ys => .ok (zipD xs ys)
  | _ => .bad
@[simp] theorem iZp2_ (fs : Env → Res (List D)) (g : Env) : iZp2 fs g = (fs g).bind fun ds => match ds with
  | [d, e] => (Res.of (lsS d)).bind fun xs => (Res.of (sqS e)).bind fun ys => .ok (zipD xs ys)
  | _ => .bad := rfl
theorem ji_zip2 {p tpos : Pos} {elts : List Expr} {kk : Nat} (hm : X.mg "zip" = none) (ha : JA X cls W [a, b] fs) (hg : Gl X "zip" := by rfl)
    (hs : starEach [a, b] X.env = (false, eval a X.env) :: starEach [b] X.env := by rfl) (hpl : (backTo pos (starEach [b] X.env)).any (·.1) = false := by rfl) :
    JI X cls W (.Tuple elts kk tpos) (.Call (.Name "zip" p) [a, b] [] pos) (iZp2 fs) := by
  obtain ⟨t, p, d⟩ := ha.ex
  refine ⟨_, pi_or (pi_zip hg hm p hs hpl) (pi_zipM hg hm p hs hpl), ?_⟩
  intro σ F H g O R s st p
  rw [iZp2_] at p
  cases ea : fs g with
  | xc c =>
    rw [ea] at p
    exact .inl (d.go s st (fun c e => by rw [ea] at e; cases e; exact p) (fun e => by rw [ea] at e; cases e) fun d e => by rw [ea] at e; cases e)
  | bad => rw [ea] at p; exact p.elim
  | ok dd =>
    rw [ea] at p
    simp only [Res.bind] at p
    split at p
    · rename_i d1 d2
      cases e1 : lsS d1 with
      | none => rw [e1] at p; exact p.elim
      | some xs =>
        rw [e1] at p
        have side : (∃ ys, lsS d2 = some ys ∧ sqS d2 = some ys) ∨ (∃ ys, tpv d2 = some ys ∧ sqS d2 = some ys) ∨ sqS d2 = none := by
          cases d2 <;> simp
        rcases side with ⟨ys, e2, e3⟩ | ⟨ys, e2, e3⟩ | e3
        · rw [e3] at p
          simp only [Res.of] at p
          refine .inl (d.go s st (fun c e => by rw [ea] at e; cases e) (fun e => by rw [ea] at e; cases e) fun ds e vs F1 H1 x b => ?_)
          rw [ea] at e; cases e
          obtain ⟨v, v', rfl, b1, b2⟩ := b.two
          obtain ⟨a, vs, rfl, h, r⟩ := b1.lsS e1
          obtain ⟨a2, vs2, rfl, h2, r2⟩ := b2.lsS e2
          exact ⟨a, a2, vs, vs2, rfl, x.fh.seq h, x.fh.seq h2, p _ F1 H1 x (feeds_zip h r h2 r2)⟩
        · rw [e3] at p
          simp only [Res.of] at p
          refine .inr (d.go s st (fun c e => by rw [ea] at e; cases e) (fun e => by rw [ea] at e; cases e) fun ds e vs F1 H1 x b => ?_)
          rw [ea] at e; cases e
          obtain ⟨v, v', rfl, b1, b2⟩ := b.two
          obtain ⟨a, vs, rfl, h, r⟩ := b1.lsS e1
          obtain ⟨a2, vs2, rfl, h2, h2', r2⟩ := b2.tpv x.fh e2
          exact ⟨a, a2, vs, vs2, rfl, x.fh.seq h, h2, p _ F1 H1 x (feeds_zipM h r h2' r2)⟩
        · rw [e3] at p; exact p.elim
    · exact p.elim
end
end DL

namespace DL
open PySem PySem.Spec PyProof.Rows L2 TL PySem.W
section
variable {K : PySem.W.Frag} {cls : Cls} {W : WX} {X : Cx} {F H F' H' F1 H1 : Hp} {O O1 : List Addr} {a b : Expr} {fs : Env → Res (List D)} {pos : Pos}
theorem feeds_zipT {a b : Addr} {vs ws : List V} {ds es : List D} (h : SqT K F a vs) (r : Rps K cls F vs ds) (h2 : SqT K F b ws) (r2 : Rps K cls F ws es) : Feeds K cls F (RZ.ItzT K a b) (zipD ds es) where
  go := fun i d e F' H' s1 s2 => by
    obtain ⟨x, y, e1, e2, rfl⟩ := zipD_get e
    obtain ⟨v, q1, q2⟩ := r.get e1
    obtain ⟨w, q3, q4⟩ := r2.get e2
    have h' : SqT K H' a vs := sameT (s1.trans s2) h
    have h2' : SqT K H' b ws := sameT (s1.trans s2) h2
    refine ⟨⟨vs, ws, v, w, h', h2', q1, q3⟩, fun x H'' z => ?_⟩
    obtain ⟨T, v', w', e1, e2, e3, z1, z2⟩ := z
    subst e1 e3
    have := z1 vs h'
    rw [q1] at this
    cases this
    have := z2 ws h2'
    rw [q3] at this
    cases this
    have px := Ext.put (o := .tup [v, w]) s2 e2
    exact ⟨_, px, .tp (SqT.of upd_same) (.cons (q2.mono (s1.trans px.ff)) (.cons (q4.mono (s1.trans px.ff)) .nil))⟩
  stop := fun F' H' s1 s2 => ⟨vs, ws, sameT (s1.trans s2) h, sameT (s1.trans s2) h2, by rw [zipD_len, r.len, r2.len]; omega⟩
def zpA : D → D → Option (List D)
  | .tp xs, .tp ys => some (zipD xs ys)
  | d, e => match lsS d, sqS e with
    | some xs, some ys => some (zipD xs ys)
    | _, _ => none
@[simp] theorem zpA_tt {xs ys : List D} : zpA (.tp xs) (.tp ys) = some (zipD xs ys) := rfl
@[simp] theorem zpA_lt {xs ys : List D} : zpA (.ls xs) (.tp ys) = some (zipD xs ys) := rfl
@[simp] theorem zpA_ll {xs ys : List D} : zpA (.ls xs) (.ls ys) = some (zipD xs ys) := rfl
def iZp3 (fs : Env → Res (List D)) : Env → Res (List D) := fun g => (fs g).bind fun ds => match ds with
  | [d, e] => Res.of (zpA d e)
  | _ => .bad
@[simp] theorem iZp3_ (fs : Env → Res (List D)) (g : Env) : iZp3 fs g = (fs g).bind fun ds => match ds with
  | [d, e] => Res.of (zpA d e)
  | _ => .bad := rfl
theorem zpA_side {d e : D} {zs : List D} (h : zpA d e = some zs) : (∃ xs ys, tpv d = some xs ∧ tpv e = some ys ∧ zs = zipD xs ys) ∨ (∃ xs ys, lsS d = some xs ∧ lsS e = some ys ∧ zs = zipD xs ys) ∨ ∃ xs ys, lsS d = some xs ∧ tpv e = some ys ∧ zs = zipD xs ys := by
  unfold zpA at h
  split at h
  · cases h; exact .inl ⟨_, _, rfl, rfl, rfl⟩
  · cases e1 : lsS d with
    | none => rw [e1] at h; cases h
    | some xs =>
      rw [e1] at h
      cases e <;> simp at h
      · exact .inr (.inl ⟨_, _, rfl, rfl, h.symm⟩)
      · exact .inr (.inl ⟨_, _, rfl, rfl, h.symm⟩)
      · exact .inr (.inr ⟨_, _, rfl, rfl, h.symm⟩)
theorem ji_zip3 {p tpos : Pos} {elts : List Expr} {kk : Nat} (hm : X.mg "zip" = none) (ha : JA X cls W [a, b] fs) (hg : Gl X "zip" := by rfl)
    (hs : starEach [a, b] X.env = (false, eval a X.env) :: starEach [b] X.env := by rfl) (hpl : (backTo pos (starEach [b] X.env)).any (·.1) = false := by rfl) :
    JI X cls W (.Tuple elts kk tpos) (.Call (.Name "zip" p) [a, b] [] pos) (iZp3 fs) := by
  obtain ⟨t, p, d⟩ := ha.ex
  refine ⟨_, pi_or (RZ.pi_zipA hg hm p hs hpl) (pi_zipM hg hm p hs hpl), ?_⟩
  intro σ F H g O R s st p
  rw [iZp3_] at p
  cases ea : fs g with
  | xc c =>
    rw [ea] at p
    exact .inl (d.go s st (fun c e => by rw [ea] at e; cases e; exact p) (fun e => by rw [ea] at e; cases e) fun d e => by rw [ea] at e; cases e)
  | bad => rw [ea] at p; exact p.elim
  | ok dd =>
    rw [ea] at p
    simp only [Res.bind] at p
    split at p
    · rename_i d1 d2
      cases e1 : zpA d1 d2 with
      | none => rw [e1] at p; exact p.elim
      | some zs =>
        rw [e1] at p
        simp only [Res.of] at p
        rcases zpA_side e1 with ⟨xs, ys, e2, e3, rfl⟩ | ⟨xs, ys, e2, e3, rfl⟩ | ⟨xs, ys, e2, e3, rfl⟩
        · refine .inl (d.go s st (fun c e => by rw [ea] at e; cases e) (fun e => by rw [ea] at e; cases e) fun ds e vs F1 H1 x b => ?_)
          rw [ea] at e; cases e
          obtain ⟨v, v', rfl, b1, b2⟩ := b.two
          obtain ⟨a, vs, rfl, h, h', r⟩ := b1.tpv x.fh e2
          obtain ⟨a2, vs2, rfl, h2, h2', r2⟩ := b2.tpv x.fh e3
          exact ⟨a, a2, vs, vs2, rfl, .inr ⟨h, h2, p _ F1 H1 x (feeds_zipT h' r h2' r2)⟩⟩
        · refine .inl (d.go s st (fun c e => by rw [ea] at e; cases e) (fun e => by rw [ea] at e; cases e) fun ds e vs F1 H1 x b => ?_)
          rw [ea] at e; cases e
          obtain ⟨v, v', rfl, b1, b2⟩ := b.two
          obtain ⟨a, vs, rfl, h, r⟩ := b1.lsS e2
          obtain ⟨a2, vs2, rfl, h2, r2⟩ := b2.lsS e3
          exact ⟨a, a2, vs, vs2, rfl, .inl ⟨x.fh.seq h, x.fh.seq h2, p _ F1 H1 x (feeds_zip h r h2 r2)⟩⟩
        · refine .inr (d.go s st (fun c e => by rw [ea] at e; cases e) (fun e => by rw [ea] at e; cases e) fun ds e vs F1 H1 x b => ?_)
          rw [ea] at e; cases e
          obtain ⟨v, v', rfl, b1, b2⟩ := b.two
          obtain ⟨a, vs, rfl, h, r⟩ := b1.lsS e2
          obtain ⟨a2, vs2, rfl, h2, h2', r2⟩ := b2.tpv x.fh e3
          exact ⟨a, a2, vs, vs2, rfl, x.fh.seq h, h2, p _ F1 H1 x (feeds_zipM h r h2' r2)⟩
    · exact p.elim
end
end DL

namespace DL
open PySem L2
section
variable {K : PySem.W.Frag} {cls : Cls} {W : WX} {X : Cx} {a : Expr} {fa : Env → Res D}
def eFrz (fa : Env → Res D) : Env → Res D := fun g => ((fa g).bind kp).bind fun d => if nod d = true then .ok (frz d) else .bad
@[simp] theorem eFrz_ (fa : Env → Res D) (g : Env) : eFrz fa g = ((fa g).bind kp).bind fun d => if nod d = true then .ok (frz d) else .bad := rfl
theorem de_frzE {t : TE} (ha : DE K cls W t fa) : DE K cls W t (eFrz fa) := by
  intro σ F H g O Q s st p
  rw [eFrz_] at p
  refine ha.goO s st (fun c e => ?_) (fun e => by rw [e] at p; exact p) fun d e v F1 H1 O1 x fr w => ?_
  · have e' : (fa g).bind kp = .xc c := by rw [e]; rfl
    rw [e'] at p
    exact p
  · rw [e] at p
    simp only [Res.bind] at p
    split at p
    · rename_i n
      have no : ∀ a ∈ O1, F1 a = none := fun a ha => (w.dom a ha).1
      exact p v _ H1 [] (addF_ext x fr no) Fresh.nil (.inl (.sh (w.freeze (addF_same no) addF_at n)))
    · exact p.elim
theorem je_frzE (ha : JE X cls W a fa) : JE X cls W a (eFrz fa) := by
  obtain ⟨t, p, d⟩ := ha.ex
  exact ⟨t, p, de_frzE d⟩
end
end DL

namespace DL
open PySem PySem.Spec PyProof.Rows L2 TL PySem.W
section
variable {K : PySem.W.Frag} {cls : Cls} {W : WX} {X : Cx} {F H F' H' F1 H1 : Hp} {O O1 : List Addr} {Q : VK} {a b e : Expr} {es : List Expr} {fa fb fc : Env → Res D} {fs : Env → Res (List D)} {pos : Pos}
end
end DL

namespace DL
open PySem PySem.Spec PyProof.Rows L2 TL PySem.W
section
variable {K : PySem.W.Frag} {cls : Cls} {W : WX} {X : Cx} {F H F' H' F1 H1 : Hp} {O O1 : List Addr} {Q : VK} {a b e tg : Expr} {es : List Expr} {fa fb fc : Env → Res D} {fs : Env → Res (List D)} {pos : Pos}
theorem or_one (n : Nat) : n ||| 1 = 2 * (n / 2) + 1 := by
  have h1 : (n ||| 1) / 2 = n / 2 := by rw [Nat.or_div_two]; simp
  have h2 : (n ||| 1) % 2 = 1 := Nat.or_mod_two_eq_one.mpr (.inr rfl)
  omega
theorem xor_one (i : Int) (h : 0 ≤ i) : Builtin.bitXor i 1 = if i % 2 = 0 then i + 1 else i - 1 := by
  have e1 : Builtin.bitAnd i 1 = ((i.toNat &&& 1 : Nat) : Int) := by
    unfold Builtin.bitAnd
    rw [decide_eq_true h]
    rfl
  have e2 : Builtin.bitOr i 1 = ((i.toNat ||| 1 : Nat) : Int) := by
    unfold Builtin.bitOr
    have n1 : Builtin.bitNot i = -i - 1 := rfl
    have n2 : Builtin.bitNot 1 = -2 := rfl
    unfold Builtin.bitAnd
    rw [n1, n2, decide_eq_false (by omega), decide_eq_false (by omega)]
    show Builtin.bitNot (Builtin.bitNot (((Builtin.bitNot (-i - 1)).toNat ||| (Builtin.bitNot (-2)).toNat : Nat) : Int)) = _
    have n3 : Builtin.bitNot (-i - 1) = i := by unfold Builtin.bitNot; omega
    have n4 : Builtin.bitNot (-2) = 1 := rfl
    rw [n3, n4]
    unfold Builtin.bitNot
    show -(-((i.toNat ||| 1 : Nat) : Int) - 1) - 1 = _
    omega
  unfold Builtin.bitXor
  rw [e1, e2, or_one, Nat.and_one_is_mod]
  split <;> omega
def opXor : D → D → Option D
  | .int i, .int j => if j = 1 ∧ 0 ≤ i then some (.int (if i % 2 = 0 then i + 1 else i - 1)) else none
  | _, _ => none
@[simp] theorem opXor_int {i : Int} (h : 0 ≤ i) : opXor (.int i) (.int 1) = some (.int (if i % 2 = 0 then i + 1 else i - 1)) := if_pos ⟨rfl, h⟩
theorem ok_xor : R2Ok K cls (rI0 fun i j => .int (Builtin.bitXor i j)) opXor := by
  intro F H x y a b d Q s b1 b2 e q
  unfold opXor at e
  split at e
  · rename_i i j
    split at e
    · rename_i h
      obtain ⟨rfl, h⟩ := h
      cases e
      obtain rfl := b1.int
      obtain rfl := b2.int
      refine ⟨i, 1, rfl, rfl, ?_⟩
      show Q (.int (Builtin.bitXor i 1)) H
      rw [xor_one i h]
      exact pi1 s (.int _) q
    · cases e
  · cases e
end
end DL

namespace DL
open PySem PySem.Spec PyProof.Rows L2 TL PySem.W
section
variable {K : PySem.W.Frag} {cls : Cls} {W : WX} {X : Cx} {F H F' H' F1 H1 : Hp} {O O1 : List Addr} {Q : VK} {a b e tg : Expr} {es : List Expr} {fa fb fc : Env → Res D} {fs : Env → Res (List D)} {pos : Pos}
end
end DL

namespace DL
open PySem PySem.Spec PyProof.Rows L2 TL PySem.W
section
variable {K : PySem.W.Frag} {cls : Cls} {X : Cx} {F H F' H' F1 H1 : Hp} {O O1 : List Addr} {Q : VK}
end
end DL

namespace DL
open PySem PySem.Spec PyProof.Rows L2 TL PySem.W
section
variable {K : PySem.W.Frag} {cls : Cls} {X : Cx} {F H F' H' F1 H1 : Hp} {O O1 : List Addr} {Q : VK}
end
end DL

namespace DL
open PySem PySem.Spec PyProof.Rows L2 TL PySem.W
section
variable {K : PySem.W.Frag} {cls : Cls} {W : WX} {X : Cx} {F H F' H' F1 H1 : Hp} {O O1 : List Addr} {Q : VK} {pos : Pos}
end
end DL

namespace DL
open PySem PySem.Spec PyProof.Rows L2 TL PySem.W
section
variable {K : PySem.W.Frag} {cls : Cls} {X : Cx} {F H F' H' F1 H1 : Hp} {O O1 : List Addr} {Q : VK}
end
end DL

namespace DL
open PySem PySem.Spec PyProof.Rows L2 TL PySem.W
section
variable {K : PySem.W.Frag} {cls : Cls} {W : WX} {X : Cx} {F H F' H' F1 H1 : Hp} {O O1 : List Addr} {Q : VK} {e : Expr} {es : List Expr} {fs : Env → Res (List D)} {pos : Pos} {i j : Nat}
end
end DL

namespace DL
open PySem PySem.Spec PyProof.Rows L2 TL PySem.W
end DL

namespace DL
open PySem PySem.Spec PyProof.Rows L2 TL PySem.W
section
variable {K : PySem.W.Frag} {cls : Cls} {W : WX} {X : Cx} {F H F' H' F1 H1 : Hp} {O O1 : List Addr} {Q : VK} {a b c d e : Expr} {fa fb fc fd fe : Env → Res D} {pos : Pos}
end
end DL

namespace DL
open PySem PySem.Spec PyProof.Rows L2 TL PySem.W
section
variable {K : PySem.W.Frag} {cls : Cls} {W : WX} {X : Cx} {F H F' H' F1 H1 : Hp} {O O1 : List Addr} {Q : VK} {a b : Expr} {fa fb : Env → Res D} {pos : Pos}
def caStr : List D → Option D
  | [.int i] => if i.natAbs.log2 < 1920 then some (.str (toString i)) else none
  | _ => none
theorem ok_str : CaOk K cls (fun xs H Q => ∃ i : Int, xs = [.int i] ∧ i.natAbs.log2 < 1920 ∧ Q (.str (toString i)) H) caStr := by
  intro F H vs ds d Q s b e q
  unfold caStr at e
  split at e
  · split at e
    · rename_i i h
      cases e
      obtain ⟨v, rfl, b1⟩ := b.one
      obtain rfl := b1.int
      exact ⟨_, rfl, h, pi1 s (.str _) q⟩
    · cases e
  · cases e
theorem caStr_i {i : Int} (h : i.natAbs.log2 < 1920) : caStr [.int i] = some (.str (toString i)) := if_pos h
end
end DL

namespace DL
open PySem PySem.Spec PyProof.Rows L2 TL PySem.W
section
variable {K : PySem.W.Frag} {cls : Cls} {W : WX} {X : Cx} {F H F' H' F1 H1 : Hp} {O O1 : List Addr} {Q : VK} {a b tg iter : Expr} {fa fb : Env → Res D} {pos : Pos}
def caIntS : List D → Option D
  | [.str x] => match PySem.intText? x with
    | some n => if x.length ≤ 640 then some (.int n) else none
    | none => none
  | _ => none
theorem ok_intS : CaOk K cls (fun xs H Q => ∃ a n, xs = [.str a] ∧ PySem.intText? a = some n ∧ a.length ≤ 640 ∧ Q (.int n) H) caIntS := by
  intro F H vs ds d Q s b e q
  unfold caIntS at e
  split at e
  · split at e
    · rename_i n hn
      split at e
      · rename_i hl
        cases e
        obtain ⟨v, rfl, b1⟩ := b.one
        obtain rfl := b1.str
        exact ⟨_, _, rfl, hn, hl, pi1 s (.int _) q⟩
      · cases e
    · cases e
  · cases e
def cInC : D → D → Option Bool
  | .str x, .str z => match x.cps.toList with
    | [c] => some (decide (c ∈ z.cps.toList))
    | _ => none
  | _, _ => none
theorem ok_inC : C2Ok K cls (fun x y H Q => ∃ (c : Nat) (z : Str), x = .str ⟨#[c]⟩ ∧ y = .str z ∧ Q (.bl (decide (c ∈ z.cps.toList))) H) cInC := by
  intro F H x y a b d Q s b1 b2 e q
  cases a with
  | str u =>
    cases b with
    | str z =>
      obtain rfl := b1.str
      obtain rfl := b2.str
      simp only [cInC] at e
      cases hc : u.cps.toList with
      | nil => rw [hc] at e; cases e
      | cons c l =>
        rw [hc] at e
        cases l with
        | cons c2 l => cases e
        | nil =>
          cases e
          refine ⟨c, z, ?_, rfl, q⟩
          have : u = ⟨#[c]⟩ := by
            cases u with
            | mk arr =>
              simp only at hc
              congr 1
              exact Array.toList_inj.mp (by simpa using hc)
          rw [this]
    | _ => simp [cInC] at e
  | _ => simp [cInC] at e
def eSlS (fa : Env → Res D) (lo hi : Env → Res (Option Int)) : Env → Res D := fun g => (fa g).bind fun a => (lo g).bind fun l => (hi g).bind fun h => match opd a with
  | .str z => if z.length ≤ lim then .ok (.str (cutS z l h)) else .bad
  | _ => .bad
@[simp] theorem eSlS_ (fa : Env → Res D) (lo hi : Env → Res (Option Int)) (g : Env) : eSlS fa lo hi g = (fa g).bind fun a => (lo g).bind fun l => (hi g).bind fun h => match opd a with
  | .str z => if z.length ≤ lim then .ok (.str (cutS z l h)) else .bad
  | _ => .bad := rfl
theorem je_slS {lo hi : Option Expr} {fl fh : Env → Res (Option Int)} {p2 : Pos} (ha : JE X cls W a fa) (hl : JP X cls W lo fl) (hh : JP X cls W hi fh) : JE X cls W (.Subscript a (.Slice lo hi none p2) pos) (eSlS fa fl fh) := by
  obtain ⟨ta, pa, da⟩ := ha.ex
  obtain ⟨tl, pl, dl⟩ := hl.ex
  obtain ⟨th, ph, dh⟩ := hh.ex
  refine ⟨_, pe_slice sl_str pa pl ph, ?_⟩
  intro σ F H g O Q s st p
  rw [eSlS_] at p
  refine da.go s st (fun c e => by rw [e] at p; exact p) (fun e => by rw [e] at p; exact p) fun d e v F1 H1 x1 b1 => ?_
  rw [e] at p
  simp only [Res.bind] at p
  refine dl σ F1 H1 g O _ x1.fh (st.ext x1) ?_
  cases el : fl g with
  | bad => rw [el] at p; exact p.elim
  | xc c => rw [el] at p; exact fun F' H' x => p F' H' (x1.trans x)
  | ok l =>
    rw [el] at p
    simp only [] at p ⊢
    intro F2 H2 x2
    refine dh σ F2 H2 g O _ x2.fh ((st.ext x1).ext x2) ?_
    cases eh : fh g with
    | bad => rw [eh] at p; exact p.elim
    | xc c => rw [eh] at p; exact fun F' H' x => p F' H' ((x1.trans x2).trans x)
    | ok h =>
      rw [eh] at p
      simp only [] at p ⊢
      intro F3 H3 x3
      split at p
      · rename_i z ez
        rw [ez] at b1
        obtain rfl := b1.str
        split at p
        · rename_i hz
          exact ⟨z, rfl, lim_ok hz, p _ F3 H3 [] (x1.trans (x2.trans x3)) Fresh.nil (.inl (.sh (.str _)))⟩
        · exact p.elim
      · exact p.elim
def sgs (x : Str) : List D := x.cps.toList.map fun c => D.str ⟨#[c]⟩
theorem sgs_len (x : Str) : (sgs x).length = x.cps.size := by unfold sgs; simp
theorem feeds_str (x : Str) : Feeds K cls F (Its x) (sgs x) where
  go := fun i d e F' H' s1 s2 => by
    unfold sgs at e
    rw [List.getElem?_map, Array.getElem?_toList] at e
    cases ec : x.cps[i]? with
    | none => rw [ec] at e; cases e
    | some c =>
      rw [ec] at e
      cases e
      have hi : i < x.cps.size := (Array.getElem?_eq_some_iff.mp ec).1
      refine ⟨hi, fun y H'' z => ?_⟩
      obtain ⟨e1, c', e2, e3⟩ := z
      subst e1 e3
      rw [ec] at e2
      cases e2
      exact ⟨F', .refl s2, .str _⟩
  stop := fun F' H' s1 s2 => by rw [sgs_len]; exact Nat.le_refl _
def iStrD (fa : Env → Res D) : Env → Res (List D) := fun g => (fa g).bind fun a => match opd a with
  | .str x => .ok (sgs x)
  | _ => .bad
@[simp] theorem iStrD_ (fa : Env → Res D) (g : Env) : iStrD fa g = (fa g).bind fun a => match opd a with
  | .str x => .ok (sgs x)
  | _ => .bad := rfl
theorem ji_str (ha : JE X cls W iter fa) : JI X cls W tg iter (iStrD fa) := by
  obtain ⟨t, p, d⟩ := ha.ex
  refine ⟨_, pi_str p, ?_⟩
  intro σ F H g O R s st p
  rw [iStrD_] at p
  refine d.go s st (fun c e => by rw [e] at p; exact p) (fun e => by rw [e] at p; exact p) fun dd e v F1 H1 x1 b1 => ?_
  rw [e] at p
  simp only [Res.bind] at p
  split at p
  · rename_i x ex
    rw [ex] at b1
    obtain rfl := b1.str
    exact ⟨x, rfl, p _ F1 H1 x1 (feeds_str x)⟩
  · exact p.elim
def eSplit (fa fb : Env → Res D) : Env → Res D := fun g => (fa g).bind fun d => match opd d with
  | .str x => (fb g).bind fun e => match opd e with
    | .str y => if (y.length == 0) = false ∧ x.length + 2 ≤ lim then .ok (.ol ((Txt.split x y).map D.str)) else .bad
    | _ => .bad
  | _ => .bad
@[simp] theorem eSplit_ (fa fb : Env → Res D) (g : Env) : eSplit fa fb g = (fa g).bind fun d => match opd d with
  | .str x => (fb g).bind fun e => match opd e with
    | .str y => if (y.length == 0) = false ∧ x.length + 2 ≤ lim then .ok (.ol ((Txt.split x y).map D.str)) else .bad
    | _ => .bad
  | _ => .bad := rfl
theorem je_split {o : Expr} {apos : Pos} (ho : JE X cls W o fa) (ha : JE X cls W a fb) (hs : starEach [a] X.env = [(false, eval a X.env)] := by rfl) (hbase : attributeBase o "split" X.env (eval o X.env) = eval o X.env := by rfl) (hline : (apos.endLine == pos.line) = true := by rfl) :
    JE X cls W (.Call (.Attribute o "split" apos) [a] [] pos) (eSplit fa fb) := by
  obtain ⟨to, po, eo⟩ := ho.ex
  obtain ⟨ta, pa, ea⟩ := ha.ex
  refine ⟨_, pe_split po pa hs hbase hline, ?_⟩
  intro σ F H g O Q s st p
  rw [eSplit_] at p
  refine eo.go s st (fun c e => by rw [e] at p; exact p) (fun e => by rw [e] at p; exact p) fun d e v F1 H1 x1 b1 => ?_
  rw [e] at p
  simp only [Res.bind] at p
  split at p
  · rename_i x ex
    rw [ex] at b1
    obtain rfl := b1.str
    refine ⟨⟨x, rfl⟩, ?_⟩
    refine ea.go x1.fh (st.ext x1) (fun c e => by rw [e] at p; exact fun F' H' y => p F' H' (x1.trans y)) (fun e => by rw [e] at p; exact p) fun d2 e2 v2 F2 H2 x2 b2 => ?_
    rw [e2] at p
    simp only [Res.bind] at p
    split at p
    · rename_i y ey
      rw [ey] at b2
      obtain rfl := b2.str
      split at p
      · rename_i hz
        refine ⟨x, y, rfl, rfl, hz.1, lim_ok hz.2, fun q hq => ?_⟩
        have r : Ows X.K cls F2 H2 ((Txt.split x y).map V.str) ((Txt.split x y).map D.str) [] := (rps_strs (ns := Txt.split x y)).toOws
        exact p _ F2 _ [q] ((x1.trans x2).trans (Ext.own x2.fh hq)) (fresh_new ((x1.trans x2).hh.free hq)) (.inl (ow_new x2.fh hq r))
      · exact p.elim
    · exact p.elim
  · exact p.elim
end
end DL

namespace DL
open PySem PySem.Spec PyProof.Rows L2 PySem.W
section
variable {X : Cx} {cls : Cls} {K : PySem.W.Frag} {pins : List (Addr × Obj)} {s : Shared} {σ : L2.St} {H F H' F' : Hp} {Q : VK} {W : WX}
variable {e : Expr} {te : TE} {p apos cpos pos : Pos}
end
section
variable {K : PySem.W.Frag} {cls : Cls} {W : WX} {X : Cx} {F H F' H' F1 H1 : Hp} {O O1 : List Addr} {Q : VK} {a o e : Expr} {es : List Expr} {fa fo : Env → Res D} {fs : Env → Res (List D)} {pos apos cpos p : Pos} {k n : Nat}
variable {m : Str} {C f : Addr} {fd : FuncData} {ps : List Str} {sp : Sp} {t : TA} {ta : TE} {E : L2.St → XK} {CX : CXT}
def tMethS (C : Addr) (m : Str) (sp : Sp) (E : L2.St → XK) (ta : TE) (t : TA) : TE := fun σ H Q => ta σ H fun x H1 => ∃ a dx fs, x = .ref a ∧ H1 a = some (.ins C dx fs) ∧ fs.lookup m = none ∧ t σ H1 fun vs H2 => sp (x :: vs) H2 Q (E σ)
theorem pe_methD0 {pl : Sem Bool} (he : PE X o ta) (c : L2.Cls X.K C) (hm : Meth X.K C m f) (F : FnOk X.prog X.w X.K X.mg X.base CX k f fd ps sp) (hr : Room k X.A) (hb : Binds X.K fd ps []) (hx : ∀ σ, PassesAt CX X σ (E σ))
    (ht : eval (.Call (.Attribute o m apos) [] [] pos) X.env = (do
      let ov ← eval o X.env
      standAt apos.atName
      let (f, first) ← holding [ov] (getMethod ov m pl)
      callWith pos f first (backTo pos (starEach [] X.env)) (backToKw pos (keywordEach [] X.env))) := by rfl) :
    PE X (.Call (.Attribute o m apos) [] [] pos) (tMethS C m sp E ta tNil) := by
  refine ⟨fun pins s σ H Q I h => ?_⟩
  refine PySem.W.methodCall_KW (pl := pl) (thn (he.run pins s σ H _ I h) fun u s1 ⟨x, H1, I1, rx, a, dx, fs, ex, ea, l, q⟩ => ?_) ht
  subst ex
  obtain rfl : u = Value.ref a := rx
  refine getmeth_ok I1 ea c hm l ?_
  exact PySem.W.callWith_K0 (first := [.ref a]) I1.kIn hm.kp (run_fnS (us := [.ref a]) (vs := [.ref a]) F hr hb (hx σ) I1 (.cons rfl .nil) q)
def eMeth (c : Nat) (g : List D → Res D) (fo : Env → Res D) (fs : Env → Res (List D)) : Env → Res D := fun e => (fo e).bind fun d => match opd d with
  | .ob c' fl => if c' = c then (fs e).bind fun ds => calD g (.ob c' fl :: ds) else .bad
  | _ => .bad
@[simp] theorem eMeth_ (c : Nat) (g : List D → Res D) (fo : Env → Res D) (fs : Env → Res (List D)) (e : Env) : eMeth c g fo fs e = (fo e).bind fun d => match opd d with
  | .ob c' fl => if c' = c then (fs e).bind fun ds => calD g (.ob c' fl :: ds) else .bad
  | _ => .bad := rfl
theorem lookup_none : ∀ {ns : List Str} {vs : List V}, ns.contains m = false → (ns.zip vs).lookup m = none
  | [], _, _ => by simp [List.lookup]
  | n :: ns, [], _ => by simp [List.lookup]
  | n :: ns, v :: vs, h => by
    rw [List.contains_cons, Bool.or_eq_false_iff] at h
    rw [List.zip_cons_cons, List.lookup, h.1]
    exact lookup_none h.2
theorem meth_post {c n : Nat} {g : List D → Res D} {fl ds : List D} {a : Addr} {vs : List V} {σ : L2.St} (x1 : Ext F H F1 H1) (x2 : Ext F1 H1 F' H') (ro : Rp K cls F1 (.ref a) (.ob c fl)) (b : Bos K cls F' H' vs ds) (hn : ds.length = n)
    (p : PostE K cls W σ F H Q (calD g (.ob c fl :: ds))) : spD K cls (n + 1) g (.ref a :: vs) H' Q (fun v o H => W v o σ H) := by
  refine spD_call x2.fh (.cons (.sh (ro.mono x2.ff)) b) (by rw [List.length_cons, hn]) ?_
  cases eo : calD g (.ob c fl :: ds) with
  | ok d => rw [eo] at p; exact fun v F2 H2 O' y fr ow => p v F2 H2 O' ((x1.trans x2).trans y) (fr.mono (x1.trans x2).hh) (.inl ow)
  | xc c => rw [eo] at p; exact fun F2 H2 y => p F2 H2 ((x1.trans x2).trans y)
  | bad => rw [eo] at p; exact p
theorem ob_ins {c : Nat} {C : Addr} {ns : List Str} {fl : List D} {v : V} (T : ClsOk K cls c C ns) (b : Bo K cls F H v (.ob c fl)) (s : Same F H) : ∃ a dx vs, v = .ref a ∧ H a = some (.ins C dx (ns.zip vs)) ∧ Rp K cls F (.ref a) (.ob c fl) := by
  cases b with
  | sh rr =>
    cases rr with
    | ob he hF hl hr =>
      have := he.symm.trans T.e
      cases this
      exact ⟨_, _, _, rfl, s _ _ hF, .ob he hF hl hr⟩
theorem je_meth0 {c k : Nat} {C : Addr} {ns : List Str} {g : List D → Res D} {pl : Sem Bool} (cn : Cn X W k) (T : ClsOk X.K cls c C ns) (ho : JE X cls W o fo) (hm : Meth X.K C m f) (G : FnOk X.prog X.w X.K X.mg X.base (L2.CX X.prog X.w) k f fd ps (spD X.K cls 1 g)) (hb : Binds X.K fd ps [])
    (hns : ns.contains m = false := by decide)
    (ht : eval (.Call (.Attribute o m apos) [] [] pos) X.env = (do
      let ov ← eval o X.env
      standAt apos.atName
      let (f, first) ← holding [ov] (getMethod ov m pl)
      callWith pos f first (backTo pos (starEach [] X.env)) (backToKw pos (keywordEach [] X.env))) := by rfl) :
    JE X cls W (.Call (.Attribute o m apos) [] [] pos) (eMeth c g fo aNil) := by
  obtain ⟨to, po, eo⟩ := ho.ex
  refine ⟨_, pe_methD0 po T.cl hm G cn.hr hb (fun σ => passAt cn.tk σ) ht, ?_⟩
  intro σ F H env O Q s st p
  rw [eMeth_] at p
  refine eo.go s st (fun c e => by rw [e] at p; exact p) (fun e => by rw [e] at p; exact p) fun d ed v F1 H1 x1 b1 => ?_
  rw [ed] at p
  simp only [Res.bind] at p
  split at p
  · rename_i c' fl ek
    split at p
    · rename_i hc
      subst hc
      rw [ek] at b1
      obtain ⟨a, dx, vs0, rfl, h1, ro⟩ := ob_ins T b1 x1.fh
      refine ⟨a, dx, _, rfl, h1, lookup_none hns, ?_⟩
      exact meth_post x1 (Ext.refl x1.fh) ro .nil rfl p
    · exact p.elim
  · exact p.elim
end
end DL

namespace DL
open PySem PySem.Spec PyProof.Rows L2 TL PySem.W
section
variable {K : PySem.W.Frag} {cls : Cls} {X : Cx}
end
end DL

namespace DL
open PySem PySem.Spec PyProof.Rows L2 TL PySem.W
section
variable {K : PySem.W.Frag} {cls : Cls} {X : Cx} {F H F' H' F1 H1 : Hp} {O O1 : List Addr} {Q : VK}
end
end DL

namespace DL
open PySem PySem.Spec PyProof.Rows L2 TL PySem.W
section
variable {K : PySem.W.Frag} {cls : Cls} {W : WX} {X : Cx} {F H F' H' F1 H1 : Hp} {O O1 : List Addr} {Q : VK} {o e f : Expr} {fo fk fx : Env → Res D} {apos cpos : Pos}
end
end DL

namespace DL
open PySem PySem.Spec PyProof.Rows L2 TL PySem.W
section
variable {K : PySem.W.Frag} {cls : Cls} {W : WX} {X : Cx} {F H F' H' F1 H1 : Hp} {O O1 : List Addr} {Q : VK} {a b e o : Expr} {fa fb fo : Env → Res D} {pos apos cpos : Pos}
end
end DL

namespace DL
open PySem PySem.Spec PyProof.Rows L2 TL PySem.W
section
variable {K : PySem.W.Frag} {cls : Cls} {W : WX} {X : Cx} {F H F' H' F1 H1 : Hp} {O O1 : List Addr} {Q : VK} {a b e c : Expr} {es : List Expr} {fa fe : Env → Res D} {ft : Env → Res Bool} {fs : Env → Res (List D)} {pos : Pos}
end
end DL

namespace DL
open PySem PySem.Spec PyProof.Rows L2 TL PySem.W
section
variable {K : PySem.W.Frag} {cls : Cls} {W : WX} {X : Cx} {a : Expr} {fa : Env → Res D} {i : Nat}
end
end DL

namespace DL
open PySem PySem.Spec PyProof.Rows L2 TL PySem.W
section
variable {K : PySem.W.Frag} {cls : Cls} {X : Cx} {F H F' H' F1 H1 : Hp} {O O1 : List Addr} {Q : VK}
end
end DL

namespace DL
open PySem PySem.Spec PyProof.Rows L2 TL PySem.W
section
variable {K : PySem.W.Frag} {cls : Cls} {W : WX} {X : Cx} {F H F' H' F1 H1 : Hp} {O O1 : List Addr} {Q : VK} {σ : L2.St} {a b e c : Expr} {ft : Env → Res Bool} {pos : Pos}
theorem Sts.any : ∀ {σ : L2.St} {g : Env} {O : List Addr} {j : Nat} {o : Option V}, Sts K cls F H σ g O → g[j]? = some .un → Sts K cls F H (σ.set j o) g O
  | _, _, _, j, o, .nil, h => by simp at h
  | _, _, _, 0, o, .un r, _ => .un r
  | _, _, _, j + 1, o, .un r, h => .un (r.any (by simpa using h))
  | _, _, _, 0, o, .cons (d := d) w r dj e, h => by
    have h : d = .un := by simpa using h
    subst h
    cases w with
    | sh r => cases r
  | _, _, _, j + 1, o, .cons w r dj e, h => .cons w (r.any (by simpa using h)) dj e
end
end DL

namespace DL
open PySem PySem.Spec PyProof.Rows L2 TL PySem.W
section
variable {K : PySem.W.Frag} {cls : Cls} {W : WX} {X : Cx} {F H F' H' F1 H1 : Hp} {O O1 : List Addr} {Q : VK} {σ : L2.St} {a b e c o : Expr} {fo : Env → Res D} {pos apos cpos : Pos}
end
end DL

noncomputable section
namespace DL
open PySem L2
section
variable {K : PySem.W.Frag} {cls : Cls} {X : Cx}
def repS (x : Str) (n : Nat) : Str := ⟨(List.replicate n x.cps).foldl (· ++ ·) #[]⟩
def MsOk (x : Str) (k : Int) : Prop := (2 ≤ k ∧ k ≤ 1000 ∧ x.length = 1) ∧ (repS x k.toNat).length ≤ 1000
instance (x : Str) (k : Int) : Decidable (MsOk x k) := by unfold MsOk; infer_instance
end
end DL
end

noncomputable section
namespace DL
open PySem PySem.Spec PyProof.Rows L2 TL PySem.W
section
variable {K : PySem.W.Frag} {cls : Cls} {W : WX} {X : Cx} {F H F' H' F1 H1 : Hp} {O O1 : List Addr} {Q : VK} {a o e : Expr} {fa fb : Env → Res D} {pos apos cpos : Pos}
def caLenD : List D → Option D
  | [.bd ks _] => some (.int ks.length)
  | _ => none
@[simp] theorem caLenD_ (ks : List L2.Key) (xs : List D) : caLenD [.bd ks xs] = some (.int ks.length) := rfl
theorem ok_lenD : CaOk K cls (fun xs H Q => ∃ a kvs, xs = [V.ref a] ∧ H a = some (.dK kvs) ∧ Q (.int kvs.length) H) caLenD := by
  intro F H vs ds d Q s b e q
  unfold caLenD at e
  split at e
  · rename_i ks ds'
    cases e
    obtain ⟨v, rfl, b1⟩ := b.one
    cases b1 with
    | sh r => cases r
    | bd h hl r =>
      have q' : Q (.int (ks.length : Int)) H := pi1 s (.int _) q
      refine ⟨_, _, rfl, h, ?_⟩
      rw [List.length_zip, ← hl, Nat.min_self]
      exact q'
  · cases e
end
end DL
end

noncomputable section
namespace DL
open PySem PySem.Spec PyProof.Rows L2 TL PySem.W
section
variable {K : PySem.W.Frag} {cls : Cls} {W : WX} {X : Cx} {F H F' H' F1 H1 : Hp} {O O1 : List Addr} {Q : VK} {pos apos cpos npos : Pos}
def sAppMv (i j : Nat) : Env → Out := fun g => match g[i]?, g[j]? with
  | some (.ol xs), some (.ol ys) => if xs.length < lim ∧ i ≠ j then .nx ((g.set j .un).set i (.ol (xs ++ [.ol ys]))) else .bad
  | _, _ => .bad
@[simp] theorem sAppMv_ (i j : Nat) (g : Env) : sAppMv i j g = match g[i]?, g[j]? with
  | some (.ol xs), some (.ol ys) => if xs.length < lim ∧ i ≠ j then .nx ((g.set j .un).set i (.ol (xs ++ [.ol ys]))) else .bad
  | _, _ => .bad := rfl
theorem st_set_self {σ : L2.St} {j : Nat} {o : Option V} (h : σ[j]? = some o) : σ.set j o = σ := by
  refine List.ext_getElem? fun n => ?_
  rw [List.getElem?_set]
  split
  · rename_i e
    subst e
    split
    · exact h.symm
    · rename_i hn
      exact (List.getElem?_eq_none (by omega)).symm
  · rfl
theorem js_appMv {i j : Nat} {x y : Str} {ypos : Pos} (hN : X.N[i]? = some x) (hv : Vis X.env.scope x) (hM : X.N[j]? = some y) (hvy : Vis X.env.scope y) (hd : (x == ("__debug__" : Str)) = false := by decide) (hcd : (x == ("__classdict__" : Str)) = false := by decide) (hd2 : (y == ("__debug__" : Str)) = false := by decide) (hcd2 : (y == ("__classdict__" : Str)) = false := by decide)
    (hbase : attributeBase (.Name x npos) "append" X.env (eval (.Name x npos) X.env) = eval (.Name x npos) X.env := by rfl)
    (hfew : ((backTo cpos (starEach (.Name y ypos :: []) X.env)).all (fun x => !x.1) && (backToKw cpos (keywordEach [] X.env)).all (fun x => x.1.isSome)
      && decide ((.Name y ypos :: ([] : List Expr)).length + ([] : List Keyword).length + (if ([] : List Keyword).isEmpty then 0 else 1) < 30)) = true := by rfl)
    (hline : (apos.endLine == cpos.line) = true := by rfl) (hs : starEach (.Name y ypos :: []) X.env = (false, eval (.Name y ypos) X.env) :: starEach [] X.env := by rfl) (hplain : (backTo cpos (starEach [] X.env)).any (·.1) = false := by rfl)
    (hsw : swapsWith (.Call (.Attribute (.Name x npos) "append" apos) [.Name y ypos] [] cpos) none pos.line X.env = pure false := by rfl) :
    JS X cls W (.Expr (.Call (.Attribute (.Name x npos) "append" apos) [.Name y ypos] [] cpos) pos) (sAppMv i j) := by
  refine ⟨_, ps_expr (pe_bm PySem.F.plainAttrs_list PySem.F.slot_list_append PySem.F.type_list_append mt_append (pe_var hN hv hd hcd) (pa_cons (pe_var hM hvy hd2 hcd2) pa_nil hs) hbase hfew hline hs hplain) hsw, ?_⟩
  intro D σ F H g O s st p
  rw [sAppMv_] at p
  split at p
  · rename_i xs ys egi egj
    split at p
    · rename_i hh
      obtain ⟨hl, hij⟩ := hh
      -- the row goes out of its slot
      obtain ⟨Oj, j1, j2, _, j4⟩ := st.at j (List.getElem?_eq_some_iff.mp egj).1
      rcases j2 with ⟨j2, _⟩ | ⟨vj, dj, j2, j2', owj⟩
      · rw [egj] at j2; cases j2
      · rw [egj] at j2'; cases j2'
        obtain ⟨O2, k1, k2, k3⟩ := j4 F H (some vj) (fun b hb _ => ⟨rfl, (st.dom b hb).1⟩) (.refl F)
        rw [st_set_self j2] at k1
        have egi2 : (g.set j .un)[i]? = some (.ol xs) := by rw [List.getElem?_set_ne (Ne.symm hij)]; exact egi
        obtain ⟨Oi, i1, i2, i3, _⟩ := k1.at i (List.getElem?_eq_some_iff.mp egi2).1
        rcases i2 with ⟨i2, _⟩ | ⟨vi, di, i2, i2', owi⟩
        · rw [egi2] at i2; cases i2
        · rw [egi2] at i2'; cases i2'
          have owj0 := owj
          cases owi with
          | sh r => cases r
          | @ol q vs _ O1 f1 f2 f3 f4 =>
            refine ⟨.ref q, i2, .inl ⟨rfl, vs, SqL.of f2⟩, ?_⟩
            refine ⟨vj, j2, ?_⟩
            refine ⟨q, vs, vj, rfl, rfl, f2, by rw [f4.len]; exact lim_lt hl, ?_⟩
            have up : ∀ b, b ≠ q → upd H q (.lst (vs ++ [vj])) b = H b := fun b hb => upd_ne hb
            have qO2 : q ∈ O2 := i1 q (by simp)
            have qOj : q ∉ Oj := fun z => k3 q qO2 z
            have djO : ∀ a ∈ O1, a ∉ Oj := fun a ha z => k3 a (i1 a (by simp [ha])) z
            have w := f4.snoc owj0 djO
            have nq : q ∉ O1 ++ Oj := fun z => by
              rcases List.mem_append.mp z with z | z
              · exact f3 z
              · exact qOj z
            obtain ⟨O3, z1, z2⟩ := i3 F (upd H q (.lst (vs ++ [vj]))) (.ref q) (.ol (xs ++ [.ol ys])) (q :: (O1 ++ Oj)) (fun b hb hn => ⟨up b fun z => hn (by simp [z]), (k1.dom b hb).1⟩) (.refl F)
              (.ol f1 upd_same nq (w.frame (.refl F) fun a ha => ⟨up a fun z => nq (z ▸ ha), (w.dom a ha).1⟩)) (fun a ha hO => by
                rcases List.mem_cons.mp ha with rfl | ha
                · simp
                · rcases List.mem_append.mp ha with z | z
                  · simp [z]
                  · exact absurd z (k3 a hO))
            rw [st_set_self i2] at z1
            refine p _ F _ O3 ⟨.refl F, fun b o k => ?_, fun b o k hn => ?_, fun b h1 h2 _ => h1, fun b hb => ?_⟩ z1
            · rw [up b fun z => by rw [z, f1] at k; cases k]; exact s b o k
            · rw [up b fun z => hn (z ▸ k2 q qO2)]; exact k
            · rcases z2 b hb with z | z
              · exact .inl (k2 b z)
              · rcases List.mem_cons.mp z with rfl | z
                · exact .inl (k2 _ qO2)
                · rcases List.mem_append.mp z with z | z
                  · exact .inl (k2 b (i1 b (by simp [z])))
                  · exact .inl (j1 b z)
    · exact p.elim
  · exact p.elim
end
end DL
end

namespace TL
open PySem PySem.W PySem.Calls PyProof.Rows
section
variable {prog : Program} {w : World} {A : Around} {E : Value → Shared → Prop} {s : Shared}
end
end TL
namespace DL
open PySem PySem.Spec PyProof.Rows L2 TL PySem.W
section
variable {K : PySem.W.Frag} {cls : Cls} {W : WX} {X : Cx} {F H F' H' F1 H1 : Hp} {O O1 : List Addr} {Q : VK}
end
end DL

noncomputable section
namespace DL
open PySem PySem.Spec PyProof.Rows L2 PySem.W
section
variable {K : PySem.W.Frag} {cls : Cls} {W : WX} {X : Cx} {F H F' H' F1 H1 : Hp} {O O1 : List Addr} {Q : VK} {σ : L2.St} {a b e : Expr} {es : List Expr} {fa fb fc : Env → Res D} {fs : Env → Res (List D)} {pos p1 p2 : Pos}
end
end DL
end

noncomputable section
namespace DL
open PySem PySem.Spec PyProof.Rows L2 PySem.W
section
variable {K : PySem.W.Frag} {cls : Cls} {W : WX} {X : Cx} {F H F' H' F1 H1 : Hp} {O O1 : List Addr} {Q : VK} {a : Expr} {fa : Env → Res D} {pos : Pos}
end
end DL
end

noncomputable section
namespace DL
open PySem PySem.Spec PyProof.Rows L2 PySem.W TL
section
variable {K : PySem.W.Frag} {cls : Cls} {W : WX} {X : Cx} {F H F' H' F1 H1 : Hp} {O O1 : List Addr} {Q : VK} {a : Expr} {fa : Env → Res D} {pos : Pos} {k : Nat}
end
end DL
end

noncomputable section
namespace DL
open PySem PySem.Spec PyProof.Rows L2 TL PySem.W
section
variable {K : PySem.W.Frag} {cls : Cls} {W : WX} {X : Cx} {F H F' H' F1 H1 : Hp} {O O1 : List Addr} {Q : VK} {σ : L2.St} {pos : Pos}
end
end DL
end

noncomputable section
namespace DL
open PySem PySem.Spec PyProof.Rows L2 TL PySem.W
section
variable {K : PySem.W.Frag} {cls : Cls} {W : WX} {X : Cx} {F H F' H' F1 H1 : Hp} {O O1 : List Addr} {Q : VK} {σ : L2.St}
end
end DL
end

noncomputable section
namespace DL
open PySem PySem.Spec PyProof.Rows L2 TL PySem.W
section
variable {K : PySem.W.Frag} {cls : Cls} {W : WX} {X : Cx}
end
end DL
end

noncomputable section
namespace DL
open PySem PySem.Spec PyProof.Rows L2 TL PySem.W
section
variable {K : PySem.W.Frag} {cls : Cls} {W : WX} {X : Cx} {F H F' H' F1 H1 : Hp} {O O1 : List Addr} {Q : VK} {σ : L2.St} {pos : Pos}
end
end DL
end

noncomputable section
namespace DL
open PySem PySem.Spec PyProof.Rows L2 TL PySem.W
section
variable {K : PySem.W.Frag} {cls : Cls} {W : WX} {X : Cx} {F H F' H' F1 H1 : Hp} {O O1 : List Addr} {Q : VK} {σ : L2.St} {a b e : Expr} {es : List Expr} {fa fb fc : Env → Res D} {fs : Env → Res (List D)} {ga : Env → Res Bool} {pos : Pos}
end
end DL
end

namespace DL
open PySem PySem.Spec PyProof.Rows L2 TL PySem.W
theorem frameOf_of {a b : PySem.Env} (h : a.frame = b.frame) : PySem.frameOf a = PySem.frameOf b := by
  unfold PySem.frameOf
  rw [h]
theorem noteFrame_of {a b : PySem.Env} (h : a.frame = b.frame) (e : Value) : noteFrame e a = noteFrame e b := by
  unfold noteFrame
  rw [h, frameOf_of h]
def cPost (M : Model) (A : Around) (E : Value → Shared → Prop) (use : Option (Value → Sem Unit)) (Q : Value → Shared → Prop) (acc : Value) (C : Addr) (fr : Option Addr) : Result → Shared → Prop
  | .ok f, s' => compPost M A E use Q acc C (.ok f) s'
  | .error x, s' => ∃ m, s'.heap.Ns C m ∧ ∀ h', Heap.SameBut C s'.heap h' → ∀ ce : PySem.Env, ce.frame = fr → wpAny M A (passOn "comprehension.variables-let-go" x ce : Sem Value) (fun _ _ => False) E { s' with heap := h' }
section
variable {M : Model} {A : Around} {E : Value → Shared → Prop} {s : Shared} {env : PySem.Env}
theorem comp_frames {e : Expr} {scope : Scope} {pos : Pos} {newAcc first : Sem Value} {g : Comprehension} {gs : List Comprehension} {cl : List (Str × Addr)} {use : Option (Value → Sem Unit)} {Q : Value → Shared → Prop}
    (c1 : clausesOf e = g :: gs) (c2 : ∀ x, foldedSetIterable g.iter env x = pure x) (c3 : closureFor scope env = pure cl) (c4 : scope.kind = .function)
    (c5 : ∀ y ∈ scope.names, y.2 = .local → scope.names.lookup y.1 = some .local)
    (hw : wpAny M A first (fun x sa => wpAny M A (pyIter x) (fun it sb => wpAny M A newAcc (fun acc sc =>
      wpAny M A (newFunctionEnv scope env.globals cl [] env.qual none .none (some env)) (fun ce sd =>
        codeAny M A (.compStart e 0 it acc { ce with scope := relabel scope env }) (cPost M A E use Q acc ce.locals ce.frame) sd) E sc) E sb) E sa) E s) :
    wpAny M A (comprehension e scope env pos newAcc false first use) Q E s := by
  unfold comprehension
  rw [c3, c1]
  refine wpAny_bind (wpAny_mono hw (fun x sa ha => ?_) fun _ _ z => z)
  refine wpAny_bind (wpAny_standAt (wpAny_bind (wpAny_of_eq (c2 x) (wpAny_bind (wpAny_holding (wpAny_mono ha (fun it sb hb => ?_) fun _ _ z => z))))))
  refine wpAny_standIf (wpAny_bind (wpAny_mono hb (fun acc sc hc => wpAny_bind (wpAny_pure (wpAny_bind (wpAny_mono hc (fun ce sd hd => ?_) fun _ _ z => z)))) fun _ _ z => z))
  dsimp only
  have kL : ∀ y ∈ (scope.names.filter fun y => (y.2 == .local || y.2 == .cell) && y.1 != (".0" : Str)).reverse, y.2 = .local → Env.kindOf { ce with scope := relabel scope env } y.1 = some .local := fun y hy hl =>
    lookup_relabel_local (c5 y (List.mem_filter.mp (List.mem_reverse.mp hy)).1 hl)
  have kR : ∀ y ∈ (scope.names.filter fun y => (y.2 == .local || y.2 == .cell) && y.1 != (".0" : Str)).reverse.drop 1 ++ (scope.names.filter fun y => (y.2 == .local || y.2 == .cell) && y.1 != (".0" : Str)).reverse.take 1,
      y.2 = .local → Env.kindOf { ce with scope := relabel scope env } y.1 = some .local := fun y hy hl =>
    (List.mem_append.mp hy).elim (fun q => kL y (List.mem_of_mem_drop q) hl) fun q => kL y (List.mem_of_mem_take q) hl
  refine wpAny_holding (wpAny_bind (wpAny_attempt (wpAny_holding (wpAny_run (codeAny_mono hd fun r s' hr => ?_)))))
  cases r with
  | ok f =>
    cases use with
    | none =>
      obtain ⟨m, hn, hr⟩ := hr
      refine wpAny_bind (wpAny_holding ?_)
      exact wpAny_comp_letGo (cenv := { ce with scope := relabel scope env }) c4 _ s' m kL hn fun h' m' _ sb => wpAny_pure (hr h' sb)
    | some u =>
      refine wpAny_bind (wpAny_rule (wpAny_bind (wpAny_holding (wpAny_mono hr (fun _ s2 hr2 => ?_) fun _ _ z => z))))
      obtain ⟨m, hn, hr2⟩ := hr2
      exact wpAny_bind (wpAny_comp_letGo (cenv := { ce with scope := relabel scope env }) c4 _ s2 m kR hn fun h' m' _ sb => wpAny_pure (hr2 h' sb))
  | error x =>
    obtain ⟨m, hn, hr⟩ := hr
    refine wpAny_bind (wpAny_holding ?_)
    exact wpAny_comp_letGo (cenv := { ce with scope := relabel scope env }) c4 _ s' m kL hn fun h' m' _ sb => wpAny_mono (hr h' sb _ rfl) (fun _ _ z => z.elim) fun _ _ z => z
end
theorem rawInt_ne {i j : Int} (h : i ≠ j) : (rawInt i == rawInt j) = false := by
  simp [rawInt, h]
section
open PySem.HandSPX
variable {M : Model} {A : Around} {E : Value → Shared → Prop} {s : Shared} {Z : Obj → Prop} {base : Heap} {env : PySem.Env} {outer l : List PySem.Env} {L C e : Addr}
theorem looks_heldZ {Q : Unit → Shared → Prop} (hZ : Steady Z) (hfr : A.frames = some (env :: outer)) (hf : env.frame = some L) (hh : HeldZ base (env :: outer) e Z C s.heap) (hCL : C ≠ L)
    (hQ : ∀ h', HeldZ base (env :: outer) e Z L h' → s.heap.UpToSlots h' → Q () { s with heap := h' }) : wpAny M A (noteFrame (.ref e) env) Q E s := by
  obtain ⟨g1, g2, g3, oe, vs, T, oT, ts, he, hz, hd, hT1, hnT, hTe, hT, hdT, h3⟩ := hh
  unfold noteFrame
  simp only [hf]
  refine wpAny_bind (wpAny_field he hd hT1 ?_)
  rw [if_pos (show (Value.ref T != Value.none) = true from by simp)]
  refine wpAny_bind (wpAny_field hT hdT h3 ?_)
  have nq : (rawInt C == rawInt L) = false := rawInt_ne fun z => hCL (by exact_mod_cast z)
  rw [if_neg (by rw [nq]; decide)]
  refine wpAny_bind (wpAny_setField hT hdT (Array.getElem?_eq_some_iff.mp h3).1 ?_)
  have oth : ∀ b, b ≠ T → (s.heap.update T (Obj.mapFields (·.setIfInBounds 3 Value.none))).get? b = s.heap.get? b := fun b hb => Heap.get?_update_other _ _ fun z => hb z.symm
  have nrec : ∀ b o, s.heap.get? b = some o → (∀ us, o.data ≠ .fields us) → b ≠ T := fun b o hb hnf q => by
    subst q
    rw [hT] at hb
    cases hb
    exact hnf ts hdT
  refine wpAny_entryZ hZ hfr (g3.of_keeps fun b o hb hnf => ⟨o, (oth b (nrec b o hb hnf)).trans hb, rfl⟩) hf ((oth e fun z => hTe z.symm).trans he) (fun b o hb => ?_) g2 hd (Array.getElem?_eq_some_iff.mp hT1).1 hz fun h' hN => ?_
  · refine (oth b fun q => ?_).trans (g1 b o hb)
    subst q
    rw [hnT] at hb
    cases hb
  · obtain ⟨x1, x2, x3, x4⟩ := hN
    exact hQ h' ⟨x1, g2, x2, x3⟩ fun b o hb hnf => x4 b o ((oth b (nrec b o hb hnf)).trans hb) hnf
theorem frames_but {h h' base base' : Heap} (k : ∀ b, b ≠ C → h'.get? b = h.get? b) (kb : ∀ b, base.get? b = none → base'.get? b = none) : ∀ {l : List PySem.Env}, h.FunFrames base l → (∀ b ∈ frs l, b ≠ C) → h'.FunFrames base' l
  | [], _, _ => trivial
  | env :: l, hl, hn => by
    obtain ⟨a1, ⟨F, o, a2, a3, a4, a5⟩, a6⟩ := hl
    have hF : F ∈ frs (env :: l) := List.mem_filterMap.mpr ⟨env, List.mem_cons_self, a2⟩
    refine ⟨a1, ⟨F, o, a2, kb F a3, (k F (hn F hF)).trans a4, a5⟩, frames_but k kb a6 fun b hb => hn b ?_⟩
    obtain ⟨x, hx, q⟩ := List.mem_filterMap.mp hb
    exact List.mem_filterMap.mpr ⟨x, List.mem_cons_of_mem _ hx, q⟩
end
section
open PySem.HandSPX
variable {X : Cx} {W : WX} {pins : List (Addr × Obj)} {σ : L2.St} {H3 : Hp} {s3 : Shared}
theorem lands_block {scope : Scope} {ce : PySem.Env} {fp : List Addr} {use : Option (Value → Sem Unit)} {Qf : Value → Shared → Prop} {acc : Value} (hs : X.stack = X.env :: X.outer) (hf : X.env.frame = some X.env.locals) (tk : Takes X W)
    (I3 : Inv X pins σ H3 s3) (hC : ce.locals = s3.heap.objs.size) (hfr : ce.frame = X.env.frame) (f3 : ∀ b ∈ fp, FpOk X pins H3 b ∧ b < s3.heap.objs.size) {u : Value} {s' : Shared}
    (x : XE (X.blk s3 H3 scope ce fp) (fun cls d _ H => W cls d σ H) u s') :
    notedBy (model X.prog X.w) X.A ce (fun e s2 => cPost (model X.prog X.w) X.A X.xe use Qf acc s3.heap.objs.size X.env.frame (.error e) s2) u s' := by
  obtain ⟨a, B, sI, pins', σ', H', cls, d, rfl, I', nb, up, sky, na, os, ag, w⟩ := x
  have nb : ∀ b o, sI.heap.get? b = some o → b ∉ frs X.stack → B.get? b = some o := nb
  have sky : Sky B X.stack a (Zc cls d) ce.locals s'.heap := sky
  have IX : Inv X pins σ H' sI := I3.call' (ch := fp) I'.os I'.base I'.hok I'.bare fun b hb => ⟨(f3 b hb).1.2.2.2.1, (f3 b hb).1.2.1, (f3 b hb).1.2.2.2.2.1, (f3 b hb).1.2.2.2.2.2⟩
  have nC : H' ce.locals = none := I'.free
  obtain ⟨m, hn, _⟩ := I'.loc
  have hn : sI.heap.Ns ce.locals m := hn
  rw [hC] at nC hn
  have fC := I3.fpOk (Nat.le_refl _) nC
  have hfrA : X.A.frames = some (X.env :: X.outer) := by rw [I3.ok.frames, hs]
  have nst : ∀ b ∈ frs X.stack, b ≠ s3.heap.objs.size := fun b hb z => by
    obtain ⟨_, o, ho, _⟩ := I3.stack.mem hb
    have := Heap.lt_size ho
    rw [z] at this
    exact Nat.lt_irrefl _ this
  generalize s3.heap.objs.size = C at hC nC hn fC nst ⊢
  unfold notedBy
  rw [noteFrame_of hfr]
  have note : ∀ h1, HeldZ B (X.env :: X.outer) a (Zc cls d) X.env.locals h1 → s'.heap.UpToSlots h1 → cPost (model X.prog X.w) X.A X.xe use Qf acc C X.env.frame (.error (.ref a)) { s' with heap := h1 } := fun h1 held up1 => by
    obtain ⟨g1, g2, g3, oe, vs, T, oT, ts, he, hz, hd, hT1, hnT, hTe, hT, hdT, hT3⟩ := held
    have hn1 : h1.Ns C m := hn.at' fun o e => g1 C o (nb C o e fun z => nst C z rfl)
    obtain ⟨oC, es, ep, hoC, hdC, _⟩ := id hn1
    have neA : a ≠ C := fun z => by rw [z, hoC] at he; cases he; rw [hdC] at hd; cases hd
    have neT : T ≠ C := fun z => by rw [z, hoC] at hT; cases hT; rw [hdC] at hdT; cases hdT
    refine ⟨m, hn1, fun h' sb ce' hce => ?_⟩
    obtain ⟨B', b1, b2⟩ := restrict B fun b => decide (b ≠ C)
    have bB : ∀ b o, B'.get? b = some o → b ≠ C ∧ B.get? b = some o := fun b o e => by
      by_cases hb : b = C
      · rw [b2 b (by simp [hb])] at e; cases e
      · rw [b1 b (by simp [hb])] at e; exact ⟨hb, e⟩
    have bN : ∀ b, B.get? b = none → B'.get? b = none := fun b e => by
      cases q : B'.get? b with
      | none => rfl
      | some o => rw [(bB b o q).2] at e; cases e
    obtain ⟨G, c1, c2⟩ := restrict sI.heap fun b => decide (b ≠ C)
    have cG : ∀ b o, G.get? b = some o → b ≠ C ∧ sI.heap.get? b = some o := fun b o e => by
      by_cases hb : b = C
      · rw [c2 b (by simp [hb])] at e; cases e
      · rw [c1 b (by simp [hb])] at e; exact ⟨hb, e⟩
    have gC : ∀ b o, b ≠ C → sI.heap.get? b = some o → G.get? b = some o := fun b o hb e => by rw [c1 b (by simp [hb])]; exact e
    have held' : HeldZ B' (X.env :: X.outer) a (Zc cls d) X.env.locals h' := by
      refine ⟨fun b o e => ?_, bN a g2, frames_but (C := C) (fun b hb => sb.2 b hb) bN g3 fun b hb => nst b (by rw [hs]; exact hb), oe, vs, T, oT, ts, (sb.2 a neA).trans he, hz, hd, hT1, bN T hnT, hTe, (sb.2 T neT).trans hT, hdT, hT3⟩
      obtain ⟨hb, e2⟩ := bB b o e
      exact (sb.2 b hb).trans (g1 b o e2)
    unfold PySem.passOn
    refine wpAny_bind (wpAny_field (s := { s' with heap := h' }) ((sb.2 a neA).trans he) hd hT1 ?_)
    rw [if_neg (show ¬ ((Value.ref T == Value.none) = true) from by simp)]
    have fin : wpAny (model X.prog X.w) X.A (setFlight (.ref a) ce'.frame) (fun _ s4 => wpAny (model X.prog X.w) X.A (throw (.ref a) : Sem Value) (fun _ _ => False) X.xe s4) X.xe { s' with heap := h' } := by
      rw [hce, hf]
      refine setFlight_onZ held' fun h4 held4 up4 => wpAny_throw (tk _ _ ?_)
      refine ⟨a, B', { sI with heap := G }, pins, σ, H', cls, d, rfl, ?_, fun b o e hb => ?_, fun b o e nf => ?_, .inr (.inr (by rw [hs]; exact held4)), na, os, ag, w⟩
      · refine IX.step (g' := sI.gens) (d' := sI.drawn) (t' := sI.toks) (ch := [C]) (fun b hb => ?_) (fun b o _ _ hc e _ => gC b o (by simpa using hc) e) (fun b o _ _ hc e _ => ⟨o.slots, gC b o (by simpa using hc) e⟩) (fun _ _ _ _ n => n) (fun b o hc e => ⟨o, gC b o (by simpa using hc) e⟩)
          (fun _ _ e => e) (fun _ _ _ e => e) (fun b ps e => ⟨#[], by rw [e]; simp⟩) (fun m' hm => ?_) (fun b ob e => ?_) IX.bare
        · have e : b = C := by simpa using hb
          subst e
          exact ⟨fC.2.2.2.1, fC.2.1, fC.2.2.2.2.1, fC.2.2.2.2.2⟩
        · exact hm.at' fun o e => gC _ o (fun z => fC.2.1 z.symm) e
        · refine (IX.hok b ob e).stay (fun c v hc q => gC c v (fun z => ?_) q) (fun _ q => q) fun _ _ q => q
          subst z
          rcases hc with hc | hc
          · rw [← hc, nC] at e; cases e
          · rw [nC] at hc; cases hc
      · obtain ⟨hb2, e2⟩ := cG b o e
        rw [b1 b (by simp [hb2])]
        exact nb b o e2 hb
      · obtain ⟨hb2, e2⟩ := cG b o e
        obtain ⟨sl, e3⟩ := (up.trans up1) b o e2 nf
        have e4 : h'.get? b = some { o with slots := sl } := (sb.2 b hb2).trans e3
        obtain ⟨sl4, e5⟩ := up4 b _ e4 nf
        exact ⟨sl4, e5⟩
    first
      | exact wpAny_bind (wpAny_pure (wpAny_bind fin))
      | exact wpAny_bind fin
  rw [hs, hC] at sky
  rcases sky with ⟨hB, hn0, hl, oe, vs, he, hz, hd, h1⟩ | fl | hh
  · exact look_newZ Zc.steady hfrA hl hf he hB hn0 hd h1 hz note
  · exact looks_onZ Zc.steady hfrA hf fl note
  · exact looks_heldZ Zc.steady hfrA hf hh (fun z => fC.2.1 z) note
end
end DL
namespace DL
open PySem PySem.Spec PyProof.Rows L2 TL PySem.W
section
variable {X : Cx} {W : WX}
def tLcX (wi : TI) (g : TG) (te : L2.St → TE) (vs : List Nat) : TE := fun σ H Q => wi σ H fun J H1 => ∀ A, H1 A = none → ∃ Wt : Nat → Nat → Hp → Prop, (∃ m, Wt 0 m (upd H1 A (.lst []))) ∧ ∀ i m H, Wt i m H →
  (J.stop i H ∧ Q (.ref A) H) ∨ (J.go i H ∧ ∃ Nx : Hp → Prop, (∀ H', Nx H' → ∃ m', m' < m ∧ Wt (i + 1) m' H') ∧ ∀ x H', J.yld i H x H' → g x (L2.wipe σ vs) H' fun σ2 H2 => L2.wipe σ2 vs = L2.wipe σ vs ∧
    te σ σ2 H2 fun y H4 => ∃ acc, H4 A = some (.lst acc) ∧ acc.length < sizeLine ∧ Nx (upd H4 A (.lst (acc ++ [y]))))
abbrev wBlk (W : WX) (σ : L2.St) : WX := fun cls d _ H => W cls d σ H
theorem lcX_core {pins : List (Addr × Obj)} {s : Shared} {σ : L2.St} {H : Hp} {Q : VK} {elt tg iter : Expr} {scope : Scope} {own : List (Str × Nat)} {pos pos' : Pos} {wi : TI} {g : TG} {te : L2.St → TE} {use : Option (Value → Sem Unit)} {Qf : Value → Shared → Prop}
    (hs : X.stack = X.env :: X.outer) (hf : X.env.frame = some X.env.locals) (tk : Takes X W) (hc : X.calm = true) (hN : X.N.Nodup) (I : Inv X pins σ H s) (hi : PI X tg iter wi) (ok : BlkOk X.N X.env.scope scope own)
    (hg : ∀ (s : Shared) (H : Hp) (C : Addr) (cl : List (Str × Addr)) (fp : List Addr), PG (X.blk s H scope (compEnvC scope cl C X.env) fp) tg g)
    (he : ∀ (σ : L2.St) (s : Shared) (H : Hp) (C : Addr) (cl : List (Str × Addr)) (fp : List Addr) (xe : Value → Shared → Prop), Takes ((X.blk s H scope (compEnvC scope cl C X.env) fp).wish xe) (wBlk W σ) → PassesOwn (model X.prog X.w) X.A (compEnvC scope cl C X.env) xe →
      PE ((X.blk s H scope (compEnvC scope cl C X.env) fp).wish xe) elt (te σ))
    (hfold : ∀ x, foldedSetIterable iter X.env x = pure x) (h : tLcX wi g te (own.map (·.2)) σ H Q)
    (hRR : ∀ A C s' m H', Inv X pins σ H' s' → Q (.ref A) H' → s'.heap.Ns C m → FpOk X pins H' C → compPost (model X.prog X.w) X.A X.xe use Qf (.ref A) C (.ok .next) s') :
    wpAny (model X.prog X.w) X.A (comprehension (.ListComp elt [⟨tg, iter, [], 0⟩] scope pos) scope X.env pos' (newList []) false (eval iter X.env) use) Qf X.xe s := by
  have free : ∀ y ∈ scope.names, y.2 = .free → ∃ c, X.env.cells.lookup y.1 = some c := fun y hy e => I.ok.has _ (ok.free y hy e)
  refine comp_frames (use := use) rfl hfold (closure_ok free) ok.kind (fun y hy e => (ok.uniq y hy).trans (by rw [e])) (thn (hi.run pins s σ H _ I h) fun xv s1 hx => thn hx fun itv s2 h2 => ?_)
  obtain ⟨it, fp, tn, J, H2, rfl, I2, T, st2, f2, q⟩ := h2
  refine wpAny_newObj_type (newEnv_comp ?_) (by show 0 ≤ sizeLine; decide)
  generalize hA : s2.heap.objs.size = A
  have hAn : H2 A = none := I2.hok.fresh (Nat.le_of_eq hA)
  obtain ⟨Wt, ⟨m0, w0⟩, turn⟩ := q A hAn
  generalize hs3 : ({ s2 with heap := s2.heap.push { cls := .type "list", data := .seq ([] : List Value).toArray } } : Shared) = s3
  have h3 : s3.heap = s2.heap.push { cls := .type "list", data := .seq ([] : List Value).toArray } := by rw [← hs3]
  have I3 : Inv X pins σ (upd H2 A (.lst [])) s3 := by
    subst hs3
    exact I2.laid (t' := s2.toks) (fun b o e => Heap.get?_push_of_some _ e) (Nat.le_of_eq hA) ⟨Nat.zero_le _, [], 0, .nil, by rw [← hA]; exact Heap.get?_push_size _ rfl⟩
  have f3 : ∀ b ∈ fp, FpOk X pins (upd H2 A (.lst [])) b ∧ b < s3.heap.objs.size := fun b hb => by
    obtain ⟨o, e, _⟩ := T.obj _ _ st2 b hb
    have hlt := Heap.lt_size e
    refine ⟨⟨(upd_ne (by rw [← hA]; exact Nat.ne_of_lt hlt)).trans (f2 b hb).1, (f2 b hb).2⟩, ?_⟩
    rw [h3, Heap.size_push]
    exact Nat.lt_succ_of_lt hlt
  have st3 : tn 0 s3.heap := T.keep _ _ _ st2 fun b _ o e => by rw [h3]; exact Heap.get?_push_of_some _ e
  have I4 := block_start I3 ok hN f3
  have pg := hg s3 (upd H2 A (.lst [])) s3.heap.objs.size (cellsFrom (s3.heap.objs.size + 1) scope.names (cloFrom X.env.cells scope.names [])) fp
  have pe := he σ s3 (upd H2 A (.lst [])) s3.heap.objs.size (cellsFrom (s3.heap.objs.size + 1) scope.names (cloFrom X.env.cells scope.names [])) fp
  show codeAny _ _ (.compStart (.ListComp elt [⟨tg, iter, [], 0⟩] scope pos) 0 (.ref it) (.ref A) (compEnvC scope (cellsFrom (s3.heap.objs.size + 1) scope.names (cloFrom X.env.cells scope.names [])) s3.heap.objs.size X.env)) (cPost (model X.prog X.w) X.A X.xe use Qf (.ref A) s3.heap.objs.size X.env.frame) { s3 with heap := pushCells (s3.heap.push { cls := .type "dict", data := .dict #[] }) scope.names }
  have nfp : ∀ b ∈ fp, (upd H2 A (.lst [])) b = none := fun b hb => (f3 b hb).1.1
  generalize hce : compEnvC scope (cellsFrom (s3.heap.objs.size + 1) scope.names (cloFrom X.env.cells scope.names [])) s3.heap.objs.size X.env = ce at I4 pg pe ⊢
  have cL : ce.locals = s3.heap.objs.size := by rw [← hce]; rfl
  have cF : ce.frame = X.env.frame := by rw [← hce]; rfl
  generalize hH3 : upd H2 A (.lst []) = H3 at I3 I4 pg pe w0 nfp f3
  have pe := pe (notedBy (model X.prog X.w) X.A ce fun e s' => cPost (model X.prog X.w) X.A X.xe use Qf (.ref A) s3.heap.objs.size X.env.frame (.error e) s') (fun u s' x => lands_block (scope := scope) hs hf tk I3 cL cF f3 (by
    obtain ⟨a, B, sI, pins', σ', H', cls, d, e, I', r⟩ := x
    exact ⟨a, B, sI, pins', σ', H', cls, d, e, I'.unwish, r⟩)) PassesOwn.looking
  generalize hs4 : ({ s3 with heap := pushCells (s3.heap.push { cls := .type "dict", data := .dict #[] }) scope.names } : Shared) = s4 at I4 ⊢
  have st4 : tn 0 s4.heap := T.keep _ _ _ st3 fun b _ o e => by rw [← hs4]; exact pushCells_keeps _ _ _ _ (Heap.get?_push_of_some _ e)
  have stat : ∀ {σ' : L2.St} {H' : Hp} {s' : Shared}, Inv (X.blk s3 H3 scope ce fp) [] σ' H' s' → (∀ b ∈ fp, H' b = none) → ∀ b ∈ fp, FpOk (X.blk s3 H3 scope ce fp) [] H' b := fun {σ' H' s'} I' hn b hb =>
    ⟨hn b hb, (I'.ok.exf b hb).1, I'.ok.exfs b hb, .inl hb, fun x c e => (I'.ok.exf b hb).2 x c e, fun p hp => nomatch (show p ∈ ([] : List (Addr × Obj)) from by simpa using (show p ∈ ([] : List (Addr × Obj)) ++ [] from hp))⟩
  have loop : codeAny (model X.prog X.w) X.A (.compLoop (.ListComp elt [⟨tg, iter, [], 0⟩] scope pos) 0 (.ref it) (.ref A) ce) (cPost (model X.prog X.w) X.A X.xe use Qf (.ref A) s3.heap.objs.size X.env.frame) s4 := by
    refine compLoop_any (fun n s' => ∃ i H', Inv (X.blk s3 H3 scope ce fp) [] (L2.wipe σ (own.map (·.2))) H' s' ∧ tn i s'.heap ∧ (∀ b ∈ fp, H' b = none) ∧ Wt i n H') ?_ m0 ⟨0, H3, I4, st4, nfp, w0⟩
    rintro n s5 ⟨i, H5, I5, st5, n5, w5⟩
    rcases turn i n H5 w5 with ⟨stop, qq⟩ | ⟨go, Nx, hNx, step⟩
    · refine thnF (T.done (X.blk s3 H3 scope ce fp) rfl rfl rfl hc i [] s5 _ H5 (fun _ _ => False) I5 (stat I5 n5) st5 stop) fun r s6 ⟨hr, I6⟩ => ?_
      subst hr
      have I7 : Inv X pins σ H5 s6 := I3.call' (ch := fp) I6.os I6.base I6.hok I6.bare fun b hb => let z := (f3 b hb).1; ⟨z.2.2.2.1, z.2.1, z.2.2.2.2.1, z.2.2.2.2.2⟩
      have nC : H5 ce.locals = none := I6.free
      obtain ⟨m, hn, _⟩ := I6.loc
      have hn : s6.heap.Ns ce.locals m := hn
      rw [cL] at nC hn
      exact hRR A s3.heap.objs.size s6 m H5 I7 qq hn (I3.fpOk (Nat.le_refl _) nC)
    · refine thnF (T.item (X.blk s3 H3 scope ce fp) rfl rfl rfl hc i [] s5 _ H5 (fun _ _ => False) I5 (stat I5 n5) st5 go) fun r s6 ⟨u, hr, h6⟩ => ?_
      subst hr
      refine thnF h6 fun _ s7 ⟨x, H7, I7, r7, y7, st7, n7⟩ => ?_
      have I7' := I7.pinned (stat I7 n7) (T.obj _ _ st7)
      refine thnF (pg.run _ s7 _ H7 x u _ I7' r7 (step x H7 y7)) fun _ s8 ⟨σ8, H8, I8, hw8, q8⟩ => ?_
      refine wpAny_tests_nil ?_
      rw [if_pos rfl]
      refine wpAny_mono (pe.run _ s8 σ8 H8 _ (I8.wish _) q8) (fun z s10 hz => ?_) fun _ _ z => z
      obtain ⟨yv, H10, I10, r10, acc, hD10, hz10, nx⟩ := hz
      refine app_ok (X := X.blk s3 H3 scope ce fp) I10.unwish hD10 hz10 r10 fun s11 I11 => ?_
      obtain ⟨m', hm, w'⟩ := hNx _ nx
      have pin' : ∀ b ∈ fp, ∀ o, s7.heap.get? b = some o → s11.heap.get? b = some o ∧ upd H10 A (.lst (acc ++ [yv])) b = none := fun b hb o e => by
        have z := I11.pin (b, o) (List.mem_append_right _ (List.mem_append_right _ (mem_pinsAt hb e)))
        exact ⟨z.1, z.2.1⟩
      refine ⟨m', hm, i + 1, _, (I11.unpinned (pins := [])).weak (by rw [← hw8, wipe_length]) (fun j v e => ?_), T.keep _ _ _ st7 fun b hb o e => (pin' b hb o e).1, fun b hb => ?_, w'⟩
      · rw [← hw8] at e
        exact (wipe_some e).1
      · obtain ⟨o, e, _⟩ := T.obj _ _ st7 b hb
        exact (pin' b hb o e).2
  exact codeAny_compStart_list loop (T.self X.A 0 _ _ _ st4 loop)
theorem pe_lcX {elt tg iter : Expr} {scope : Scope} {own : List (Str × Nat)} {pos : Pos} {wi : TI} {g : TG} {te : L2.St → TE}
    (hs : X.stack = X.env :: X.outer) (hf : X.env.frame = some X.env.locals) (tk : Takes X W) (hc : X.calm = true) (hN : X.N.Nodup) (hi : PI X tg iter wi) (ok : BlkOk X.N X.env.scope scope own)
    (hg : ∀ (s : Shared) (H : Hp) (C : Addr) (cl : List (Str × Addr)) (fp : List Addr), PG (X.blk s H scope (compEnvC scope cl C X.env) fp) tg g)
    (he : ∀ (σ : L2.St) (s : Shared) (H : Hp) (C : Addr) (cl : List (Str × Addr)) (fp : List Addr) (xe : Value → Shared → Prop), Takes ((X.blk s H scope (compEnvC scope cl C X.env) fp).wish xe) (wBlk W σ) → PassesOwn (model X.prog X.w) X.A (compEnvC scope cl C X.env) xe →
      PE ((X.blk s H scope (compEnvC scope cl C X.env) fp).wish xe) elt (te σ)) (hfold : ∀ x, foldedSetIterable iter X.env x = pure x := by intro _; rfl) :
    PE X (.ListComp elt [⟨tg, iter, [], 0⟩] scope pos) (tLcX wi g te (own.map (·.2))) := by
  refine ⟨fun pins s σ H Q I h => ?_⟩
  rw [eval_ListComp]
  refine lcX_core hs hf tk hc hN I hi ok hg he hfold h fun A C s' m H' I' q hn f => ⟨m, hn, fun h2 sb => ?_⟩
  exact ⟨.ref A, H', I'.turned (t' := s'.toks) (fun b o hb e => (sb.2 b hb).trans e) f.1 f.2.1 f.2.2.2.1 f.2.2.2.2.1 f.2.2.2.2.2, rfl, q⟩
theorem ps_setLcX {i : Nat} {y : Str} {py : Pos} {elt tg iter : Expr} {scope : Scope} {own : List (Str × Nat)} {pos spos : Pos} {wi : TI} {g : TG} {te : L2.St → TE}
    (hs : X.stack = X.env :: X.outer) (hf : X.env.frame = some X.env.locals) (tk : Takes X W) (hc : X.calm = true) (hN : X.N.Nodup) (hy : X.N[i]? = some y) (hyl : X.env.scope.names.lookup y = some .local)
    (hsw : swapsWith (.ListComp elt [⟨tg, iter, [], 0⟩] scope pos) (some (.Name y py)) spos.line X.env = pure true) (hi : PI X tg iter wi) (ok : BlkOk X.N X.env.scope scope own)
    (hg : ∀ (s : Shared) (H : Hp) (C : Addr) (cl : List (Str × Addr)) (fp : List Addr), PG (X.blk s H scope (compEnvC scope cl C X.env) fp) tg g)
    (he : ∀ (σ : L2.St) (s : Shared) (H : Hp) (C : Addr) (cl : List (Str × Addr)) (fp : List Addr) (xe : Value → Shared → Prop), Takes ((X.blk s H scope (compEnvC scope cl C X.env) fp).wish xe) (wBlk W σ) → PassesOwn (model X.prog X.w) X.A (compEnvC scope cl C X.env) xe →
      PE ((X.blk s H scope (compEnvC scope cl C X.env) fp).wish xe) elt (te σ)) (hfold : ∀ x, foldedSetIterable iter X.env x = pure x := by intro _; rfl) :
    PS X (.Assign [.Name y py] (.ListComp elt [⟨tg, iter, [], 0⟩] scope pos) spos) (tAsg (tLcX wi g te (own.map (·.2))) (gName i)) := by
  refine ⟨fun pins s σ H En I h => ?_⟩
  rw [exec_Assign_Name_used _ _ _ _ hsw]
  refine wpAny_bind (wpAny_standAt (wpAny_bind ?_))
  show wpAny _ X.A (do let _ ← comprehension (.ListComp elt [⟨tg, iter, [], 0⟩] scope pos) scope X.env (firstIterPos [⟨tg, iter, [], 0⟩] pos) (newList []) false (eval iter X.env) (some (assign (.Name y py) X.env))) _ _ s
  have h : tLcX wi g te (own.map (·.2)) σ H (fun x H1 => gName i x σ H1 En.nx) := h
  refine wpAny_bind (thn (lcX_core (Qf := fun _ s' => SP X pins En .next s') hs hf tk hc hN I hi ok hg he hfold h fun A C s' m H' I' q hn f => ?_) fun _ s' hq => wpAny_pure (wpAny_pure hq))
  show wpAny _ _ (assign (.Name y py) X.env (.ref A)) _ _ _
  refine wpAny_assign_Name (store_ok2 (v := V.ref A) I' hN hy (.inl hyl) rfl (fun s2 I2 ⟨a, sb, ha⟩ => ?_) (.inr hyl))
  have neC : C ≠ a := ha.elim (fun z => by rw [z]; exact f.2.1) fun z e => f.2.2.2.2.1 y a z e.symm
  refine ⟨m, hn.sameBut sb neC, fun h3 sb3 => ?_⟩
  exact ⟨_, H', I2.turned (t' := s2.toks) (fun b o hb e => (sb3.2 b hb).trans e) f.1 f.2.1 f.2.2.2.1 f.2.2.2.2.1 f.2.2.2.2.2, q⟩
end
end DL

namespace DL
open PySem PySem.Spec PyProof.Rows L2 TL PySem.W
def eLcX (fi : Env → Res (List D)) (own : List Nat) (tg : D → Env → Option Env) (te : Env → Res D) : Env → Res D := fun g => (fi g).bind fun ds => if ds.length ≤ lim then
  (lcL tg tYesG te (wipeG g own) ds).bind fun r => .ok (.ol r)
  else .bad
@[simp] theorem eLcX_ (fi : Env → Res (List D)) (own : List Nat) (tg : D → Env → Option Env) (te : Env → Res D) (g : Env) : eLcX fi own tg te g = (fi g).bind fun ds => if ds.length ≤ lim then
  (lcL tg tYesG te (wipeG g own) ds).bind fun r => .ok (.ol r)
  else .bad := rfl
theorem Res.bind_assoc {α β γ : Type} (r : Res α) (f : α → Res β) (g : β → Res γ) : (r.bind f).bind g = r.bind fun a => (f a).bind g := by cases r <;> rfl
section
variable {K : PySem.W.Frag} {cls : Cls} {W : WX} {X : Cx} {tg iter elt : Expr} {fs : Env → Res (List D)} {pos : Pos}
theorem de_lcX {wi : TI} {t : TG} {te : L2.St → TE} {ft : D → Env → Option Env} {fe : Env → Res D} {ss own : List Nat} (hi : DI K cls W wi fs) (hg : DG K cls t ft ss) (he : ∀ σ, DE K cls (wBlk W σ) (te σ) fe) (hss : ∀ i ∈ ss, i ∈ own) :
    DE K cls W (tLcX wi t te own) (eLcX fs own ft fe) := by
  intro σ F H g O Q s st p
  rw [eLcX_] at p
  refine hi σ F H g O _ s st ?_
  cases e : fs g with
  | bad => rw [e] at p; exact p
  | xc c => rw [e] at p; exact p
  | ok ds =>
    rw [e, Res.bind_ok] at p
    intro J F1 H1 x1 fd A hA
    by_cases hlen : ds.length ≤ lim
    · rw [if_pos hlen] at p
      obtain ⟨Ow1, stw, hw⟩ := (st.ext x1).wipe x1.fh own
      have fA : F1 A = none := by
        cases q : F1 A with
        | none => rfl
        | some u => rw [x1.fh A u q] at hA; cases hA
      generalize hR : lcL ft tYesG fe (wipeG g own) ds = RR at p
      let Iv := fun (i : Nat) (H2 : Hp) => ∃ F2 acc es' O2, Ext F1 H1 F2 H2 ∧ H2 A = some (.lst acc) ∧ F2 A = none ∧ A ∉ O2 ∧ Fresh H1 O2 ∧ Ows K cls F2 H2 acc es' O2 ∧ es'.length ≤ i ∧
        RR = (lcL ft tYesG fe (wipeG g own) (ds.drop i)).bind fun r => .ok (es' ++ r)
      refine ⟨fun i m H2 => m = ds.length - i ∧ i ≤ ds.length ∧ Iv i H2, ⟨ds.length, rfl, Nat.zero_le _, F1, [], [], [], Ext.own x1.fh hA, upd_same, fA, by simp, Fresh.nil, .nil, Nat.zero_le _, ?_⟩, ?_⟩
      · rw [List.drop_zero, hR]
        cases RR <;> rfl
      rintro i m H2 ⟨rfl, hi, F2, acc, es', O2, x2, h2, f2, n2, fr2, w2, hl2, e1⟩
      by_cases hlt : i < ds.length
      · have ed : ds.drop i = ds[i] :: ds.drop (i + 1) := List.drop_eq_getElem_cons hlt
        rw [ed, lcL_cons] at e1
        obtain ⟨g0, y0⟩ := fd.go i ds[i] (by simp [hlt]) F2 H2 x2.ff x2.fh
        refine .inr ⟨g0, fun H3 => Iv (i + 1) H3, fun H3 q => ⟨ds.length - (i + 1), by omega, rfl, hlt, q⟩, fun v H3 yv => ?_⟩
        obtain ⟨F3, x3, rv⟩ := y0 v H3 yv
        cases et : ft ds[i] (wipeG g own) with
        | none => rw [et] at e1; subst e1; exact p.elim
        | some g3 =>
          rw [et] at e1
          simp only [tYesG_, Res.bind_ok, if_true] at e1
          have stw3 := (stw.ext x2).ext x3
          refine hg v ds[i] _ F3 H3 (wipeG g own) Ow1 g3 _ x3.fh stw3 rv et fun σ4 O4 x4 st4 w4 => ⟨(w4 own hss).trans (wipe_wipe fun _ h => h), ?_⟩
          have h3 : H3 A = some (.lst acc) := x3.hh _ _ h2
          have f3 : F3 A = none := x3.ow A f2 (by rw [h2]; exact fun e => nomatch e)
          have x23 := x2.trans x3
          refine (he σ).goO x3.fh st4 (fun c e => ?_) (fun e => ?_) fun d e v F6 H6 O6 x6 fr6 w6 => ?_
          · rw [e] at e1
            subst e1
            exact fun F' H' y => p F' H' (x1.trans (x23.trans y))
          · rw [e] at e1
            subst e1
            exact p
          · rw [e] at e1
            simp only [Res.bind_ok] at e1
            rw [Res.bind_assoc] at e1
            simp only [Res.bind_ok] at e1
            have h6 : H6 A = some (.lst acc) := x6.hh _ _ h3
            have f6 : F6 A = none := x6.ow A f3 (by rw [h3]; exact fun e => nomatch e)
            have x26 := x23.trans x6
            have n6 : A ∉ O6 := fun q => by have := fr6 A q; rw [h3] at this; cases this
            refine ⟨acc, h6, ?_, F6, acc ++ [v], es' ++ [d], O2 ++ O6, ⟨x26.ff, fun b o q => by rw [upd_ne (ne_of_none q hA)]; exact x26.hh b o q, fun b o q => by
                rw [upd_ne (fun z => by rw [z, f6] at q; cases q)]; exact x26.fh b o q, x26.ow⟩, upd_same, f6, fun q => ?_, fun a ha => ?_, ?_, by simp; omega, ?_⟩
            · rw [w2.len]; exact lim_lt (by omega)
            · exact (List.mem_append.mp q).elim n2 n6
            · rcases List.mem_append.mp ha with q | q
              · exact fr2 a q
              · exact (x23.hh).free (fr6 a q)
            · have w2' := (w2.ext x3).ext x6
              have dj : ∀ a ∈ O2, a ∉ O6 := fun a h1 h2 => (((w2.ext x3).dom a h1).2) (fr6 a h2)
              refine (w2'.snoc w6 dj).frame (.refl F6) fun a ha => ⟨upd_ne fun z => ?_, ((w2'.snoc w6 dj).dom a ha).1⟩
              rcases List.mem_append.mp ha with q | q
              · exact n2 (z ▸ q)
              · exact n6 (z ▸ q)
            · rw [e1]
              congr 1
              funext r
              simp
      · have ei : i = ds.length := by omega
        subst ei
        rw [List.drop_length] at e1
        simp only [lcL_nil, Res.bind_ok, List.append_nil] at e1
        subst e1
        refine .inl ⟨fd.stop F2 H2 x2.ff x2.fh, p _ F2 H2 (A :: O2) (x1.trans x2) (fun a ha => ?_) (.inl (.ol f2 h2 n2 w2))⟩
        rcases List.mem_cons.mp ha with rfl | ha
        · exact x1.hh.free hA
        · exact x1.hh.free (fr2 a ha)
    · rw [if_neg hlen] at p; exact p.elim
theorem Cn.blkX {k : Nat} (c : Cn X W k) {s : Shared} {H : Hp} {scope : Scope} {cenv : PySem.Env} {fp : List Addr} {xe : Value → Shared → Prop} {W2 : WX} (tk : Takes ((X.blk s H scope cenv fp).wish xe) W2) (hp : PassesOwn (model X.prog X.w) X.A cenv xe) :
    Cn ((X.blk s H scope cenv fp).wish xe) W2 k := ⟨tk, hp, c.calm, c.nd, c.hr⟩
theorem je_lcX {scope : Scope} {ft : D → Env → Option Env} {fe : Env → Res D} {ss : List Nat} {k : Nat} (own : List (Str × Nat)) (c : Cn X W k) (hs : X.stack = X.env :: X.outer) (hf : X.env.frame = some X.env.locals) (hi : JI X cls W tg iter fs) (ok : BlkOk X.N X.env.scope scope own)
    (hg : ∀ (s : Shared) (H : Hp) (C : Addr) (cl : List (Str × Addr)) (fp : List Addr), JG (X.blk s H scope (compEnvC scope cl C X.env) fp) cls tg ft ss)
    (he : ∀ (W2 : WX) (s : Shared) (H : Hp) (C : Addr) (cl : List (Str × Addr)) (fp : List Addr) (xe : Value → Shared → Prop), Cn ((X.blk s H scope (compEnvC scope cl C X.env) fp).wish xe) W2 k → JE ((X.blk s H scope (compEnvC scope cl C X.env) fp).wish xe) cls W2 elt fe)
    (hss : ∀ i ∈ ss, i ∈ own.map (·.2)) (hfold : ∀ x, foldedSetIterable iter X.env x = pure x := by intro _; rfl) :
    JE X cls W (.ListComp elt [⟨tg, iter, [], 0⟩] scope pos) (eLcX fs (own.map (·.2)) ft fe) := by
  obtain ⟨wi, p, d⟩ := hi.ex
  exact ⟨_, pe_lcX (own := own) (te := fun σ => cE X.K cls (wBlk W σ) fe) hs hf c.tk c.calm c.nd p ok (fun s H C cl fp => (hg s H C cl fp).canon) (fun σ s H C cl fp xe tk hp => (he _ s H C cl fp xe (c.blkX tk hp)).canon) hfold, de_lcX d dg_cG (fun σ => de_cE) hss⟩
theorem js_setLcXF {i : Nat} {y : Str} {py spos : Pos} {scope : Scope} {ft : D → Env → Option Env} {fe : Env → Res D} {ss : List Nat} {k : Nat} (own : List (Str × Nat)) (c : Cn X W k) (hs : X.stack = X.env :: X.outer) (hf : X.env.frame = some X.env.locals) (hy : X.N[i]? = some y) (hyl : X.env.scope.names.lookup y = some .local)
    (hsw : swapsWith (.ListComp elt [⟨tg, iter, [], 0⟩] scope pos) (some (.Name y py)) spos.line X.env = pure true) (hi : JI X cls W tg iter fs) (ok : BlkOk X.N X.env.scope scope own)
    (hg : ∀ (s : Shared) (H : Hp) (C : Addr) (cl : List (Str × Addr)) (fp : List Addr), JG (X.blk s H scope (compEnvC scope cl C X.env) fp) cls tg ft ss)
    (he : ∀ (W2 : WX) (s : Shared) (H : Hp) (C : Addr) (cl : List (Str × Addr)) (fp : List Addr) (xe : Value → Shared → Prop), Cn ((X.blk s H scope (compEnvC scope cl C X.env) fp).wish xe) W2 k → JE ((X.blk s H scope (compEnvC scope cl C X.env) fp).wish xe) cls W2 elt fe)
    (hss : ∀ i ∈ ss, i ∈ own.map (·.2)) (hfold : ∀ x, foldedSetIterable iter X.env x = pure x := by intro _; rfl) :
    JS X cls W (.Assign [.Name y py] (.ListComp elt [⟨tg, iter, [], 0⟩] scope pos) spos) (sAsgF i (eLcX fs (own.map (·.2)) ft fe)) := by
  obtain ⟨wi, p, d⟩ := hi.ex
  exact ⟨_, ps_setLcX (own := own) (te := fun σ => cE X.K cls (wBlk W σ) fe) hs hf c.tk c.calm c.nd hy hyl hsw p ok (fun s H C cl fp => (hg s H C cl fp).canon) (fun σ s H C cl fp xe tk hp => (he _ s H C cl fp xe (c.blkX tk hp)).canon) hfold, ds_asgF (de_lcX d dg_cG (fun σ => de_cE) hss)⟩
end
end DL

namespace DL
open PySem PySem.Spec PyProof.Rows L2 TL PySem.W
section
variable {cls : Cls} {W : WX} {X : Cx} {pos : Pos}
end
end DL

namespace DL
open PySem PySem.Spec PyProof.Rows L2 TL PySem.W
section
variable {cls : Cls} {W : WX} {X : Cx} {fa : Env → Res D} {o : Expr} {apos pos : Pos}
end
end DL

namespace DL
open PySem PySem.Spec PyProof.Rows L2 TL PySem.W
section
variable {K : PySem.W.Frag} {cls : Cls} {W : WX} {X : Cx} {F H F' H' F1 H1 : Hp} {O O1 : List Addr} {Q : VK} {e e1 e2 : Expr} {es : List Expr} {fs : Env → Res (List D)} {pos : Pos} {i j : Nat}
end
end DL

namespace DL
open PySem PySem.Spec PyProof.Rows L2 TL PySem.W
mutual
/-- no shared list or object within -/
def noL : D → Bool
  | .non => true
  | .bl _ => true
  | .int _ => true
  | .str _ => true
  | .rf _ => true
  | .tp xs => noLs xs
  | .ol xs => noLs xs
  | .od _ xs => noLs xs
  | .oo _ _ xs => noLs xs
  | _ => false
def noLs : List D → Bool
  | [] => true
  | d :: ds => noL d && noLs ds
end
section
variable {K : PySem.W.Frag} {cls : Cls} {W : WX} {X : Cx} {F H F' H' F1 H1 : Hp} {O O1 : List Addr} {Q : VK} {e : Expr} {es : List Expr} {fs : Env → Res (List D)} {pos : Pos} {i j : Nat}
def lendF (F H : Hp) : Hp := fun a => match H a with
  | some (.lst xs) => some (.lst xs)
  | some (.ins C dx fs) => some (.ins C dx fs)
  | _ => F a
theorem lendF_or (s : Same F H) (a : Addr) : lendF F H a = H a ∨ lendF F H a = F a := by
  unfold lendF
  split
  · rename_i h; exact .inl h.symm
  · rename_i h; exact .inl h.symm
  · exact .inr rfl
theorem lendF_fh (s : Same F H) : Same (lendF F H) H := fun a o e => by
  rcases lendF_or s a with q | q
  · rw [q] at e; exact e
  · rw [q] at e; exact s a o e
def backF (F H F' : Hp) : Hp := fun a => if (H a).isSome = true then F a else F' a
theorem backF_old {a : Addr} (h : H a ≠ none) : backF F H F' a = F a := by
  unfold backF
  cases q : H a with
  | none => exact (h q).elim
  | some o => rfl
theorem backF_new {a : Addr} (h : H a = none) : backF F H F' a = F' a := by
  unfold backF
  rw [h]
  rfl
theorem backF_tup (s : Same F H) (x : Ext (lendF F H) H F' H') {a : Addr} {o : HO} (h : F' a = some o) (n1 : ∀ xs, o ≠ .lst xs) (n2 : ∀ C dx fs, o ≠ .ins C dx fs) : backF F H F' a = some o := by
  cases q : H a with
  | none => rw [backF_new q]; exact h
  | some h0 =>
    have e1 : o = h0 := by
      have z1 := x.fh a o h
      have z2 := x.hh a h0 q
      rw [z1] at z2
      exact Option.some.inj z2
    rw [backF_old (by rw [q]; exact fun z => nomatch z)]
    cases q1 : lendF F H a with
    | none =>
      have := x.ow a q1 (by rw [q]; exact fun z => nomatch z)
      rw [this] at h
      cases h
    | some o1 =>
      subst e1
      have e2 := lendF_fh s a o1 q1
      rw [q] at e2
      cases e2
      unfold lendF at q1
      split at q1
      · rename_i xs e
        cases q1
        exact (n1 _ rfl).elim
      · cases q1
        exact (n2 _ _ _ rfl).elim
      · exact q1
mutual
theorem Rp.back (s : Same F H) (x : Ext (lendF F H) H F' H') : ∀ {v : V} {d : D}, Rp K cls F' v d → noL d = true → Rp K cls (backF F H F') v d
  | _, _, .non, _ => .non
  | _, _, .bl b, _ => .bl b
  | _, _, .int i, _ => .int i
  | _, _, .str y, _ => .str y
  | _, _, .rf a, _ => .rf a
  | _, _, .sc h r, e => by simp [noL] at e
  | _, _, .ls h r, e => by simp [noL] at e
  | _, _, .tp h r, e => by
    simp only [noL] at e
    refine .tp ?_ (Rps.back s x r e)
    rcases h with (h | ⟨o, h⟩) | h
    · exact .inl (.inl (backF_tup s x h (fun _ z => nomatch z) (fun _ _ _ z => nomatch z)))
    · exact .inl (.inr ⟨o, backF_tup s x h (fun _ z => nomatch z) (fun _ _ _ z => nomatch z)⟩)
    · exact .inr h
  | _, _, .ob c h l r, e => by simp [noL] at e
theorem Rps.back (s : Same F H) (x : Ext (lendF F H) H F' H') : ∀ {v : List V} {d : List D}, Rps K cls F' v d → noLs d = true → Rps K cls (backF F H F') v d
  | _, _, .nil, _ => .nil
  | _, _, .cons a b, e => by
    simp only [noLs, Bool.and_eq_true] at e
    exact .cons (Rp.back s x a e.1) (Rps.back s x b e.2)
end
mutual
theorem Ow.back (s : Same F H) (x : Ext (lendF F H) H F' H') : ∀ {v : V} {d : D} {O : List Addr}, Ow K cls F' H' v d O → noL d = true → (∀ a ∈ O, H a = none) → Ow K cls (backF F H F') H' v d O
  | _, _, _, .sh r, e, _ => .sh (r.back s x e)
  | _, _, _, .ol h1 h2 h3 r, e, k => .ol ((backF_new (k _ (by simp))).trans h1) h2 h3 (Ows.back s x r (by simpa [noL] using e) fun a ha => k a (by simp [ha]))
  | _, _, _, .od h1 h2 hl h3 r, e, k => .od ((backF_new (k _ (by simp))).trans h1) h2 hl h3 (Ows.back s x r (by simpa [noL] using e) fun a ha => k a (by simp [ha]))
  | _, _, _, .oo ho hc h1 h2 hl h3 r, e, k => .oo ho hc ((backF_new (k _ (by simp))).trans h1) h2 hl h3 (Ows.back s x r (by simpa [noL] using e) fun a ha => k a (by simp [ha]))
theorem Ows.back (s : Same F H) (x : Ext (lendF F H) H F' H') : ∀ {v : List V} {d : List D} {O : List Addr}, Ows K cls F' H' v d O → noLs d = true → (∀ a ∈ O, H a = none) → Ows K cls (backF F H F') H' v d O
  | _, _, _, .nil, _, _ => .nil
  | _, _, _, .cons a b dj q, e, k => by
    simp only [noLs, Bool.and_eq_true] at e
    exact .cons (Ow.back s x a e.1 fun z hz => k z (by simp [q, hz])) (Ows.back s x b e.2 fun z hz => k z (by simp [q, hz])) dj q
end
end
end DL

noncomputable section
namespace DL
open PySem PySem.Spec PyProof.Rows L2 TL PySem.W
section
variable {K : PySem.W.Frag} {cls : Cls} {W : WX} {X : Cx} {F H F' H' F1 H1 : Hp} {O O1 : List Addr} {Q : VK} {σ : L2.St} {a b e : Expr} {es : List Expr} {fa fb fc : Env → Res D} {fs : Env → Res (List D)} {ga : Env → Res Bool} {pos : Pos}
end
end DL
end

noncomputable section
namespace DL
open PySem PySem.Spec PyProof.Rows L2 TL PySem.W
def wAsK (K : PySem.W.Frag) (c : Value) (i : Nat) (ts tr : Addr → Value → Option Addr → TS) (D : Ends) : WX := fun cls d σ H =>
  PySem.W.exmOne K cls c = some true ∧ ∀ a, H a = none → ts a cls d { nx := fun σ' H' => tr a cls d D (σ'.set i none) H', rt := fun _ _ => False, bk := fun _ _ => False, ct := fun _ _ => False } (σ.set i (some (.ref a))) H
section
variable {X : Cx} {x n : Str} {c : Value} {i : Nat} {body suite rest : List Stmt} {b₀ : Stmt} {np pos pos' : Pos} {tb : WX → TS} {ts tr : Addr → Value → Option Addr → TS}
theorem pss_tryK (hs : X.stack = X.env :: X.outer) (hf : X.env.frame = some X.env.locals) (hN : X.N.Nodup) (hi : X.N[i]? = some n) (hln : X.env.kindOf n = some .local) (hc : Names X x c)
    (hb : ∀ (W : WX) (pn : List (Addr × Obj)) (xe : Value → Shared → Prop), Takes (X.tr pn xe) W → PassesOwn (model X.prog X.w) X.A X.env xe → PSs (X.tr pn xe) body (tb W))
    (hsu : ∀ (a : Addr) (oe : Obj) (cls : Value) (d : Option Addr) (pn : List (Addr × Obj)), Zc cls d oe → (∃ vs, oe.data = .fields vs) → PSs (X.suite a ((a, oe) :: pn)) (b₀ :: suite) (ts a cls d))
    (hr : ∀ (a : Addr) (oe : Obj) (cls : Value) (d : Option Addr) (pn : List (Addr × Obj)), (∀ p ∈ X.pn, p ∈ pn) → (a, oe) ∈ pn → Zc cls d oe → (∃ vs, oe.data = .fields vs) → PSs (X.tr pn X.xe) rest (tr a cls d)) :
    PSs X (.Try body [.ExceptHandler (some (.Name x np)) (some n) (b₀ :: suite) pos'] [] [] pos :: rest) (fun D σ H => tb (wAsK X.K c i ts tr D) { nx := fun _ _ => False, rt := D.rt, bk := D.bk, ct := D.ct } σ H) := by
  refine ⟨fun pins s σ H D I h => ?_⟩
  have ok := I.ok
  have hfr : X.A.frames = some (X.env :: X.outer) := by rw [ok.frames, hs]
  have hloc : Loc X.env.scope n := .inl hln
  refine wpAny_execs_cons ?_
  generalize hQ : (fun (f : Flow) (s' : Shared) => match f with
    | .next => wpAny (model X.prog X.w) X.A (execs rest X.env) (SP X pins D) X.xe s'
    | f => SP X pins D f s') = Q
  refine wpAny_Try_except ?_
  refine wpAny_mono ((hb (wAsK X.K c i ts tr D) (X.pn ++ pins) (fun e s₁ => wpAny (model X.prog X.w) X.A (noteFrame e X.env) (fun _ s₂ => wpAny (model X.prog X.w) X.A (setFlight e none) (fun _ s₃ =>
    wpAny (model X.prog X.w) X.A (handleBy e X.env [.ExceptHandler (some (.Name x np)) (some n) (b₀ :: suite) pos']) Q X.xe s₃) X.xe s₂) X.xe s₁) (fun u s' xx => ?_) PassesOwn.looking).run [] s σ H _ (I.toTry _) h) (fun f s1 hsp => ?_) (fun e s1 he => he)
  · -- the catch
    obtain ⟨a, B, sI, pins', σ', H', cls, d, rfl, J', nb, up, sky, na, os, ag, hb1, hyes⟩ := xx
    have J : Inv X pins σ' H' sI := J'.ofTry ok
    have sky' : Sky B (X.env :: X.outer) a (Zc cls d) X.env.locals s'.heap := by rw [← hs]; exact sky
    show wpAny _ X.A (noteFrame (.ref a) X.env) _ _ _
    refine Sky.land Zc.steady hfr hf sky' fun h3 fl3 up3 => ?_
    have J3 : Inv X pins σ' H' { s' with heap := h3 } := J.landed nb fl3.1 (up.trans up3) os ag
    obtain ⟨oe3, vs3, he3, hz3, hd3⟩ := fl3.there
    have notFr : ∀ {h : Heap} {o : Obj} {vs : Array Value}, h.FunFrames B (X.env :: X.outer) → h.get? a = some o → o.data = .fields vs → a ∉ frs (X.env :: X.outer) := fun {h o vs} ff e dd hm => by
      obtain ⟨_, o', e', hnf⟩ := ff.mem hm
      rw [e] at e'; cases e'
      exact hnf _ dd
    have nfr := notFr fl3.2.2.1 he3 hd3
    have nL : a ≠ X.env.locals := fun z => nfr (List.mem_filterMap.mpr ⟨X.env, List.mem_cons_self, by rw [hf, z]⟩)
    have nF : a ∉ X.fs := fun hm => by
      obtain ⟨e, he, q⟩ := List.mem_filterMap.mp hm
      exact nfr (List.mem_filterMap.mpr ⟨e, List.mem_cons_of_mem _ he, q⟩)
    have S3 := J3.suite he3 hd3 na nL nF
    refine wpAny_handleBy_cons (codeAny_handlers_test ?_) (by intro q; cases q)
    have LT : PySem.W.Looks (model X.prog X.w) h3 (typeOf (.ref a)) cls := fun A Q E s k q => wpAny_typeOf_ref (k _ _ he3) (by rw [hz3.1]; exact q)
    have LM := PySem.W.exm_one (M := model X.prog X.w) (J3.kIn) LT hb1
    have test : ∀ {Q : Value → Shared → Prop} {E : Value → Shared → Prop}, Q c { s' with heap := h3 } → wpAny (model X.prog X.w) (X.A.mark (some (.ref a))) (eval (.Name x np) X.env) Q E { s' with heap := h3 } := fun {Q E} q => by
      obtain ⟨hg, hdbg, hm | ⟨hm, hv, hnn⟩⟩ := hc
      · exact ld_glob (X := X.suite a ((a, oe3) :: (X.pn ++ pins))) S3 hg hm q hdbg
      · exact ld_blt (X := X.suite a ((a, oe3) :: (X.pn ++ pins))) S3 hg hm hv q hnn hdbg
    refine test (LM.here ?_)
    refine codeAny_handlers_suite_as ?_
    refine HandSPX.lands_againZ fl3 fun h4 fl4 up4 => ?_
    have J4 : Inv X pins σ' H' { s' with heap := h4 } := J.landed nb fl4.1 ((up.trans up3).trans up4) os ag
    obtain ⟨oe4, vs4, he4, hz4, hd4⟩ := fl4.there
    have S4 := J4.suite he4 hd4 na nL nF
    refine store_ok (X := X.suite a ((a, oe4) :: (X.pn ++ pins))) (v := .ref a) S4 hN hi hloc rfl (fun s5 S5 => ?_) (.inr hln)
    refine wpAny_mono ((hsu a oe4 cls d (X.pn ++ pins) hz4 ⟨_, hd4⟩).run [] s5 _ H' _ S5 (hyes a na)) (fun f s6 hsp => ?_) (fun _ _ z => False.elim z)
    cases f with
    | next =>
      obtain ⟨σ6, H6, S6, q6⟩ := hsp
      have S7 : Inv X ((a, oe4) :: pins) σ6 H6 s6 := ⟨ok, S6.os, S6.bare, S6.base, S6.loc, S6.cell, S6.free, S6.freeC, fun p hp => S6.pin p (by
        rcases List.mem_append.mp hp with z | z
        · exact List.mem_append_left _ (List.mem_cons_of_mem _ (List.mem_append_left _ z))
        · rcases List.mem_cons.mp z with z | z
          · exact List.mem_append_left _ (z ▸ List.mem_cons_self)
          · exact List.mem_append_left _ (List.mem_cons_of_mem _ (List.mem_append_right _ z))), S6.hok, S6.len⟩
      refine gone_ok (pos := pos') S7 hN hi hln fun s7 J7 => ?_
      show Q .next s7
      rw [← hQ]
      dsimp only
      have J8 : Inv (X.tr (X.pn ++ (a, oe4) :: pins) X.xe) [] (σ6.set i none) H6 s7 := J7.toTry X.xe
      refine wpAny_mono ((hr a oe4 cls d (X.pn ++ (a, oe4) :: pins) (fun p hp => List.mem_append_left _ hp) (List.mem_append_right _ List.mem_cons_self) hz4 ⟨_, hd4⟩).run [] s7 _ H6 D J8 q6) (fun f s8 hsp => ?_) (fun _ _ z => z)
      have back : ∀ {σ8 : L2.St} {H8 : Hp}, Inv (X.tr (X.pn ++ (a, oe4) :: pins) X.xe) [] σ8 H8 s8 → Inv X pins σ8 H8 s8 := fun {σ8 H8} J9 =>
        ⟨ok, J9.os, J9.bare, J9.base, J9.loc, J9.cell, J9.free, J9.freeC, fun p hp => J9.pin p (by
          rcases List.mem_append.mp hp with z | z
          · exact List.mem_append_left _ (List.mem_append_left _ z)
          · exact List.mem_append_left _ (List.mem_append_right _ (List.mem_cons_of_mem _ z))), J9.hok, J9.len⟩
      cases f with
      | next =>
        obtain ⟨σ', H', J', q⟩ := hsp
        exact ⟨σ', H', back J', q⟩
      | brk =>
        obtain ⟨σ', H', J', q⟩ := hsp
        exact ⟨σ', H', back J', q⟩
      | cont =>
        obtain ⟨σ', H', J', q⟩ := hsp
        exact ⟨σ', H', back J', q⟩
      | ret u =>
        obtain ⟨v, σ', H', J', r, q⟩ := hsp
        exact ⟨v, σ', H', back J', r, q⟩
    | brk =>
      obtain ⟨σ6, H6, S6, q6⟩ := hsp
      exact q6.elim
    | cont =>
      obtain ⟨σ6, H6, S6, q6⟩ := hsp
      exact q6.elim
    | ret u =>
      obtain ⟨v6, σ6, H6, S6, r6, q6⟩ := hsp
      exact q6.elim
  · subst hQ
    cases f with
    | next =>
      obtain ⟨σ', H', J', q⟩ := hsp
      exact q.elim
    | brk =>
      obtain ⟨σ', H', J', q⟩ := hsp
      exact ⟨σ', H', J'.ofTry ok, q⟩
    | cont =>
      obtain ⟨σ', H', J', q⟩ := hsp
      exact ⟨σ', H', J'.ofTry ok, q⟩
    | ret u =>
      obtain ⟨v, σ', H', J', r, q⟩ := hsp
      exact ⟨v, σ', H', J'.ofTry ok, r, q⟩
end
theorem call_isK {X : Cx} {a D : Addr} {oe : Obj} (hp : (a, oe) ∈ X.pn) (C : ExcC X.K D) (hz : Zc (.ref D) none oe) (hf : ∃ vs, oe.data = .fields vs) : CallR X (.builtin "isinstance") (rIsE X.K D a) := by
  intro pins s σ H xs us Q I r h
  obtain ⟨c, cv, b, rfl, hcv, e, q⟩ := h
  cases r with
  | cons rx rr =>
    cases rr with
    | cons rt rr =>
      cases rr
      cases rx
      have ec := hcv _ rt
      subst ec
      obtain ⟨hget, _⟩ := I.pin (a, oe) (List.mem_append.mpr (.inl hp))
      obtain ⟨vs, hv⟩ := hf
      have J : PySem.W.InstAt s.heap a oe D none := by
        obtain ⟨oc, od, oda, osl⟩ := oe
        obtain ⟨h1, h2⟩ := hz
        dsimp only at h1 h2 hv
        subst h1 h2 hv
        exact ⟨hget, rfl, rfl, trivial⟩
      exact PySem.W.kia_one (PySem.W.handS_kitx_exc C.hg C.hk C.hs C.hd C.ha C.hn C.ht C.hm) I.kIn J e (fun z => nomatch z) fun tk => ⟨.bl b, H, I.kept (t' := tk) fun _ _ z => z, rfl, q⟩
section
variable {cls : Cls} {W : WX} {X : Cx} {F H F' H' F1 H1 : Hp} {O O1 : List Addr} {Q : VK} {σ : L2.St} {a b e : Expr} {es : List Expr} {fa fb fc : Env → Res D} {pos : Pos}
theorem je_isK {ad D1 : Addr} {oe : Obj} {i : Nat} {n : Str} {bb : Bool} {p p1 : Pos} {ec : Expr} {cv : V} {cu : Value} (hp : (ad, oe) ∈ X.pn) (C : ExcC X.K D1) (hz : Zc (.ref D1) none oe) (hf : ∃ vs, oe.data = .fields vs) (hm : X.mg "isinstance" = none)
    (hN : X.N[i]? = some n) (hv : Vis X.env.scope n) (hd : (n == ("__debug__" : Str)) = false := by decide) (hcd : (n == ("__classdict__" : Str)) = false := by decide)
    (hc : PE X ec (tC cv)) (hcv : ∀ u, RelV cv u → u = cu) (hk : PySem.W.kitOne X.K (.ref D1) cu = some bb) (hg : Gl X "isinstance" := by rfl)
    (he : starEach [.Name n p1, ec] X.env = (false, eval (.Name n p1) X.env) :: starEach [ec] X.env := by rfl) (he2 : starEach [ec] X.env = (false, eval ec X.env) :: starEach [] X.env := by rfl) (hpl : (backTo pos (starEach [ec] X.env)).any (·.1) = false := by rfl) :
    JE X cls W (.Call (.Name "isinstance" p) [.Name n p1, ec] [] pos) (eIs i ad bb) := by
  refine ⟨_, pe_callB (call_isK hp C hz hf) hg hm (by decide +kernel) (pa_cons (pe_var hN hv hd hcd) (pa_cons hc pa_nil he2) he) (by decide) (by decide) he hpl, ?_⟩
  intro σ F H g O Q s st p
  rw [eIs_] at p
  split at p
  · rename_i a' eg
    split at p
    · rename_i ea
      subst ea
      obtain ⟨P, _, h2, _⟩ := st.at i (List.getElem?_eq_some_iff.mp eg).1
      rcases h2 with ⟨h2, _⟩ | ⟨v, d, h2, h2', ow⟩
      · rw [eg] at h2; cases h2
      · rw [eg] at h2'; cases h2'
        cases ow with
        | sh r =>
          cases r
          exact ⟨_, h2, cv, cu, bb, rfl, hcv, hk, p _ F H [] (.refl s) Fresh.nil (.inl (.sh (.bl bb)))⟩
    · exact p.elim
  · exact p.elim
theorem Cn.pinned {k : Nat} {W : WX} (c : Cn X W k) {pn : List (Addr × Obj)} (h : ∀ p ∈ X.pn, p ∈ pn) (ok : X.Ok → True := fun _ => trivial) : Cn (X.tr pn X.xe) W k :=
  ⟨fun u s' ⟨a, B, sI, pins, σ, H, cls, d, e, I, nb, up, sky, na, os, ag, w⟩ => c.tk u s' ⟨a, B, sI, pins, σ, H, cls, d, e, ⟨I.ok.ofTry, I.os, I.bare, I.base, I.loc, I.cell, I.free, I.freeC, fun p hp => I.pin p (by
    rcases List.mem_append.mp hp with z | z
    · exact List.mem_append_left _ (h p z)
    · exact List.mem_append_right _ z), I.hok, I.len⟩, nb, up, sky, na, os, ag, w⟩, c.hp, c.calm, c.nd, c.hr⟩
def sTryK (fb : Env → Out) (fh : Nat → Env → Out) : Env → Out := fun g => match fb g with
  | .xc c g' => fh c g'
  | _ => .bad
@[simp] theorem sTryK_ (fb : Env → Out) (fh : Nat → Env → Out) (g : Env) : sTryK fb fh g = match fb g with
  | .xc c g' => fh c g'
  | _ => .bad := rfl
def thnO (i : Nat) (f : Env → Out) : Out → Out
  | .nx g => f (g.set i .un)
  | _ => .bad
theorem jss_tryK {i k : Nat} {n x : Str} {C : Addr} {body suite rest : List Stmt} {b0 : Stmt} {np pos' : Pos} {fbo : Env → Out} {fs fr : Nat → Addr → Env → Out} {fh : Nat → Env → Out} (cn : Cn X W k) (hs : X.stack = X.env :: X.outer) (hf : X.env.frame = some X.env.locals) (hi : X.N[i]? = some n) (hln : X.env.kindOf n = some .local)
    (hx : X.mg x = some (.ref C)) (hcatch : ∀ c g, fh c g ≠ .bad → PySem.W.exmOne X.K (excV cls c) (.ref C) = some true)
    (hb : ∀ (W : WX) (pn : List (Addr × Obj)) (xe : Value → Shared → Prop), Cn (X.tr pn xe) W k → JSs (X.tr pn xe) cls W body fbo)
    (hsu : ∀ (c : Nat) (a : Addr) (oe : Obj) (pn : List (Addr × Obj)), Zc (excV cls c) none oe → (∃ vs, oe.data = .fields vs) → JSs (X.suite a ((a, oe) :: pn)) cls W0 (b0 :: suite) (fs c a))
    (hr : ∀ (c : Nat) (a : Addr) (oe : Obj) (pn : List (Addr × Obj)), (a, oe) ∈ pn → Zc (excV cls c) none oe → (∃ vs, oe.data = .fields vs) → Cn (X.tr pn X.xe) W k → JSs (X.tr pn X.xe) cls W rest (fr c a))
    (heq : ∀ c a g, fh c g = .bad ∨ thnO i (fr c a) (fs c a (g.set i (.rf a))) = fh c g) (hg : Gl X x := by rfl) (hdb : (x == ("__debug__" : Str)) = false := by decide) :
    JSs X cls W (.Try body [.ExceptHandler (some (.Name x np)) (some n) (b0 :: suite) pos'] [] [] pos :: rest) (sTryK fbo fh) := by
  refine ⟨_, pss_tryK (i := i) (tb := fun W => cS X.K cls fbo W) (ts := fun a c d D σ H => ∃ ci, c = excV cls ci ∧ d = none ∧ cS X.K cls (fs ci a) W0 D σ H) (tr := fun a c d D σ H => ∃ ci, c = excV cls ci ∧ d = none ∧ cS X.K cls (fr ci a) W D σ H) hs hf cn.nd hi hln ⟨hg, hdb, .inl hx⟩
    (fun W' pn xe tk hp => (hb W' pn xe ⟨tk, hp, cn.calm, cn.nd, cn.hr⟩).canon) (fun a oe c d pn hz hd => ?_) (fun a oe c d pn hsub hm hz hd => ?_), ?_⟩
  · refine ⟨fun pins s σ H D I q => ?_⟩
    obtain ⟨ci, rfl, rfl, q⟩ := q
    exact (hsu ci a oe pn hz hd).canon.run pins s σ H D I q
  · refine ⟨fun pins s σ H D I q => ?_⟩
    obtain ⟨ci, rfl, rfl, q⟩ := q
    exact (hr ci a oe pn hm hz hd (cn.pinned hsub)).canon.run pins s σ H D I q
  · intro D σ F H g O s st p
    rw [sTryK_] at p
    refine ⟨F, g, O, s, st, ?_⟩
    cases eb : fbo g with
    | nx g' => rw [eb] at p; exact p.elim
    | rt d => rw [eb] at p; exact p.elim
    | bk g' => rw [eb] at p; exact p.elim
    | ct g' => rw [eb] at p; exact p.elim
    | bad => rw [eb] at p; exact p.elim
    | xc c g' =>
      rw [eb] at p
      have p : PostS X.K cls W D F H O (fh c g') := p
      have nb : fh c g' ≠ .bad := fun z => by rw [z] at p; exact p
      intro σ' F' H' O' y st'
      refine ⟨hcatch c g' nb, fun a ha => ⟨c, rfl, rfl, ?_⟩⟩
      have e : thnO i (fr c a) (fs c a (g'.set i (.rf a))) = fh c g' := (heq c a g').resolve_left nb
      obtain ⟨O2, z1, z2⟩ := st'.putS (i := i) y.fh (.rf a)
      refine ⟨F', g'.set i (.rf a), O2, y.fh, z1, ?_⟩
      rw [← e] at p
      have y2 := y.trans z2
      cases es : fs c a (g'.set i (.rf a)) with
      | nx g2 =>
        rw [es] at p
        intro σ3 F3 H3 O3 y3 st3
        obtain ⟨O4, w1, w2⟩ := st3.unset y3.fh i
        refine ⟨c, rfl, rfl, F3, g2.set i .un, O4, y3.fh, w1, ?_⟩
        exact PostS.mono ((y2.trans y3).trans ⟨.refl F3, y3.fh, fun _ _ h _ => h, fun _ h _ _ => h, fun a ha => .inl (w2 a ha)⟩) p
      | bk g2 => rw [es] at p; exact p.elim
      | ct g2 => rw [es] at p; exact p.elim
      | rt d => rw [es] at p; exact p.elim
      | xc c2 g2 => rw [es] at p; exact p.elim
      | bad => rw [es] at p; exact p.elim
end
end DL
end

noncomputable section
namespace Lw
open DL
def f_law_cell : Env → Out := sSeq (sIf (tC2 cLt (eVar 1) (eCall caLen (aCons (eVar 0) (aNil)))) (sRet (eBin opMod (eBin opIx (eVar 0) (eVar 1)) (eBin opPow (eC (.int 10)) (eC (.int 60))))) (sNil)) (sRet (eC (.int 0)))
def g_law_cell : List D → Res D := runF f_law_cell 2
end Lw
end

namespace Lw
open DL
theorem cell_ok (s : List Int) (k : Int) (hk : 0 ≤ k) : ∃ c : Int, 0 ≤ c ∧ c < e60 ∧ g_law_cell [.sc (s.map D.int), .int k] = .ok (.int c) := by
  by_cases h : k < s.length
  · obtain ⟨a, e, _⟩ := DL.atI_of hk h
    refine ⟨a % e60, Int.emod_nonneg _ (by have := e60_pos; omega), Int.emod_lt_of_pos _ e60_pos, ?_⟩
    simp [g_law_cell, runF, f_law_cell, h, e]
  · refine ⟨0, by omega, e60_pos, ?_⟩
    simp [g_law_cell, runF, f_law_cell, h]
end Lw

namespace Lw
open DL
end Lw

namespace Lw
open DL
def EndsOk (n : Int) (l : List (Int × Int)) : Prop := ∀ p ∈ l, (0 ≤ p.1 ∧ p.1 < n) ∧ 0 ≤ p.2 ∧ p.2 < n
theorem EndsOk.one {n : Int} {a b : Int} (h : (0 ≤ a ∧ a < n) ∧ 0 ≤ b ∧ b < n) : EndsOk n [(a, b)] := fun p hp => by simp at hp; subst hp; exact h
theorem cut_mem {α : Type} {l : List α} {lo hi : Option Int} {a : α} (h : a ∈ cut l lo hi) : a ∈ l := by
  unfold cut at h
  exact List.mem_of_mem_drop (List.mem_of_mem_take h)
theorem EndsOk.cut {n : Int} {l : List (Int × Int)} (h : EndsOk n l) (lo hi : Option Int) : EndsOk n (cut l lo hi) := fun p hp => h p (cut_mem hp)
end Lw

namespace Lw
open DL
end Lw

noncomputable section
namespace Lw
open DL
end Lw
end

namespace Lw
open DL L2
end Lw

namespace Lw
open DL L2
end Lw

noncomputable section
namespace Lw
open DL
def f_Web_init_l1 : Env → Out := sIf (tOr_ (tNo (tCh cLe cLt (eC (.int 0)) (eVar 3) (eVar 1))) (tNo (tCh cLe cLt (eC (.int 0)) (eVar 4) (eVar 1)))) (sRaise 1) (sNil)
def f_Web_init : Env → Out := sSeq (sIf (tOr_ (tNo (tCh cLe cLe (eC (.int 1)) (eVar 1) (eC (.int 14)))) (tC2 cGt (eCall caLen (aCons (eVar 2) (aNil))) (eC (.int 30)))) (sRaise 1) (sNil)) (sSeq (sFor (iSeq (eVar 2)) (gtT 2 (gtCons (gtN 3) (gtCons (gtN 4) (gtNil)))) f_Web_init_l1) (sSeq (sFld 0 14 0 (eVar 1)) (sFld 0 14 1 (eCall caList (aCons (eVar 2) (aNil))))))
def g_Web_init : List D → Res (List D) := mirI f_Web_init 14 5
def f_made_set_l1 : Env → Out := sSeq (sIf (tOr_ (tC2 cLe (eVar 3) (eVar 2)) (tC2 cGe (eVar 3) (eCall caLen (aCons (eUn (opFld 14 1) (eVar 0)) (aNil))))) (sRaise 2) (sNil)) (sAsgF 2 (eVar 3))
def f_made_set : Env → Out := sSeq (sAsgF 2 (eUn opNeg (eC (.int 1)))) (sSeq (sFor (iSeq (eVar 1)) (gtN 3) f_made_set_l1) (sRet (eCall caTuple (aCons (eVar 1) (aNil)))))
def g_made_set : List D → Res D := runF f_made_set 4
end Lw
end

namespace Lw
open DL
theorem web_init_l1 (p : Int) (x0 x2 : D) : ∀ (l : List (Int × Int)) (y3 y4 : D), EndsOk p l →
    ∃ z3 z4, forL (gtT 2 (gtCons (gtN 3) (gtCons (gtN 4) (gtNil)))) f_Web_init_l1 (l.map dP) [x0, .int p, x2, y3, y4] = .nx [x0, .int p, x2, z3, z4]
  | [], y3, y4, _ => ⟨y3, y4, by simp [forL]⟩
  | (a, b) :: l, y3, y4, h => by
    obtain ⟨⟨h1, h2⟩, h3, h4⟩ := h (a, b) (List.mem_cons_self ..)
    obtain ⟨z3, z4, e⟩ := web_init_l1 p x0 x2 l (.int a) (.int b) fun q hq => h q (List.mem_cons_of_mem _ hq)
    refine ⟨z3, z4, ?_⟩
    rw [← e]
    simp at h1 h2 h3 h4
    simp [forL, f_Web_init_l1, h1, h2, h3, h4]
theorem web_init_ok (p : Int) (l : List (Int × Int)) (h1 : 1 ≤ p) (h2 : p ≤ 14) (h3 : l.length ≤ 30) (h4 : EndsOk p l) : g_Web_init [.int p, .ls (l.map dP)] = .ok [.int p, .ol (l.map dP)] := by
  refine mirI_eq fun x => ?_
  obtain ⟨z3, z4, e⟩ := web_init_l1 p (.oo (some x) 14 []) (.ls (l.map dP)) l .un .un h4
  have h5 : ¬ (30 < (l.length : Int)) := by omega
  simp [DL.runI, f_Web_init, h1, h2, h5, e, outI]
def goodAux (count : Int) : Int → List Int → Bool
  | _, [] => true
  | a, x :: l => !(decide (x ≤ a)) && !(decide (x ≥ count)) && goodAux count x l
def goodB (count : Int) (l : List Int) : Bool := goodAux count (-1) l
theorem made_set_l1 (p : Int) (ts : List (Int × Int)) (x1 : D) : ∀ (l : List Int) (a : Int) (y3 : D),
    (goodAux ts.length a l = true ∧ ∃ z2 z3, forL (gtN 3) f_made_set_l1 (l.map D.int) [.ob 14 [.int p, .ls (ts.map dP)], x1, .int a, y3] = .nx [.ob 14 [.int p, .ls (ts.map dP)], x1, z2, z3]) ∨
    (goodAux ts.length a l = false ∧ ∃ g, forL (gtN 3) f_made_set_l1 (l.map D.int) [.ob 14 [.int p, .ls (ts.map dP)], x1, .int a, y3] = .xc 2 g)
  | [], a, y3 => .inl ⟨rfl, .int a, y3, by simp [forL]⟩
  | x :: l, a, y3 => by
    by_cases c1 : x ≤ a
    · exact .inr ⟨by simp [goodAux, c1], by simp [forL, f_made_set_l1, c1]⟩
    · by_cases c2 : (ts.length : Int) ≤ x
      · exact .inr ⟨by simp [goodAux, c2], by simp [forL, f_made_set_l1, c1, c2]⟩
      · have e : goodAux ts.length a (x :: l) = goodAux ts.length x l := by simp [goodAux, c1, c2]
        have e2 : forL (gtN 3) f_made_set_l1 ((x :: l).map D.int) [.ob 14 [.int p, .ls (ts.map dP)], x1, .int a, y3] = forL (gtN 3) f_made_set_l1 (l.map D.int) [.ob 14 [.int p, .ls (ts.map dP)], x1, .int x, .int x] := by
          simp [forL, f_made_set_l1, c1, c2]
        rw [e, e2]
        exact made_set_l1 p ts x1 l x (.int x)
theorem made_set_ls (p : Int) (ts : List (Int × Int)) (l : List Int) : g_made_set [.ob 14 [.int p, .ls (ts.map dP)], .ls (l.map D.int)] = if goodB ts.length l = true then .ok (.tp (l.map D.int)) else .xc 2 := by
  rcases made_set_l1 p ts (.ls (l.map D.int)) l (-1) .un with ⟨h, z2, z3, e⟩ | ⟨h, g, e⟩
  · simp [g_made_set, runF, f_made_set, e, goodB, h]
  · simp [g_made_set, runF, f_made_set, e, goodB, h]
end Lw

noncomputable section
namespace Lw
open DL
def f_marks_over_c1 : Env → Res D := eIf (tC2 cEq (eVar 8) (eVar 7)) (eVar 6) (eVar 8)
def f_marks_over_l1 : Env → Out := sSeq (sAsgT (gtT 2 (gtCons (gtN 4) (gtCons (gtN 5) (gtNil)))) (eBin opIx (eUn (opFld 14 1) (eVar 0)) (eVar 3))) (sSeq (sAsgF 6 (eCall caMin2 (aCons (eBin opIx (eVar 2) (eVar 4)) (aCons (eBin opIx (eVar 2) (eVar 5)) (aNil))))) (sSeq (sAsgF 7 (eCall caMax2 (aCons (eBin opIx (eVar 2) (eVar 4)) (aCons (eBin opIx (eVar 2) (eVar 5)) (aNil))))) (sAsgF 2 (eLc (iSeq (eVar 2)) [8] (gtN 8) (tYesG) f_marks_over_c1))))
def f_marks_over : Env → Out := sSeq (sAsgF 2 (eLR1 (eUn (opFld 14 0) (eVar 0)))) (sSeq (sFor (iSeq (eVar 1)) (gtN 3) f_marks_over_l1) (sRetV 2))
def g_marks_over : List D → Res D := runF f_marks_over 9
def f_is_joined : Env → Out := sRet (eB (tC2 cEq (eLenSet (eOwn g_marks_over (aCons (eVar 0) (aCons (eOwn g_made_set (aCons (eVar 0) (aCons (eVar 1) (aNil)))) (aNil))))) (eC (.int 1))))
def g_is_joined : List D → Res D := runF f_is_joined 2
end Lw
end

namespace Lw
open DL L2
def nth (m : List Int) (i : Int) : Int := m.getD i.toNat 0
def tieAt (ts : List (Int × Int)) (i : Int) : Int × Int := ts.getD i.toNat (0, 0)
def stepM (m : List Int) (t : Int × Int) : List Int := m.map fun x => if x = max (nth m t.1) (nth m t.2) then min (nth m t.1) (nth m t.2) else x
def marksM (p : Nat) (ts : List (Int × Int)) (l : List Int) : List Int := l.foldl (fun m t => stepM m (tieAt ts t)) (iota p)
end Lw

noncomputable section
namespace Lw
open DL
end Lw
end

namespace Lw
open DL L2
def stepL (m : List Int) (t : Int × Int) : List Int := if nth m t.1 = nth m t.2 then m else m.map fun x => if x = nth m t.2 then nth m t.1 else x
end Lw

namespace Lw
open DL L2
end Lw

namespace Lw
open DL L2
inductive Conn (es : List (Int × Int)) : Int → Int → Prop
  | refl (a : Int) : Conn es a a
  | tie {a b : Int} : (a, b) ∈ es → Conn es a b
  | symm {a b : Int} : Conn es a b → Conn es b a
  | trans {a b c : Int} : Conn es a b → Conn es b c → Conn es a c
theorem Conn.mono {es fs : List (Int × Int)} (h : ∀ e ∈ es, e ∈ fs) {a b : Int} (c : Conn es a b) : Conn fs a b := by
  induction c with
  | refl a => exact .refl a
  | tie h' => exact .tie (h _ h')
  | symm _ ih => exact ih.symm
  | trans _ _ ih1 ih2 => exact ih1.trans ih2
def mk (p : Nat) (es : List (Int × Int)) : List Int := es.foldl stepL (iota p)
end Lw

namespace Lw
open DL L2
def cnt (p : Nat) (es : List (Int × Int)) : Nat := (sset (mk p es)).length
def tiesAt (ts : List (Int × Int)) (l : List Int) : List (Int × Int) := l.map (tieAt ts)
def treeB (p : Int) (ts : List (Int × Int)) (l : List Int) : Bool := decide ((l.length : Int) = p - 1) && goodB ts.length l && decide (cnt p.toNat (tiesAt ts l) = 1)
end Lw

noncomputable section
namespace Lw
open DL
def f_is_tree_l1 : Env → Out := sSeq (sIf (tOr_ (tC2 cLe (eVar 3) (eVar 2)) (tC2 cGe (eVar 3) (eCall caLen (aCons (eUn (opFld 14 1) (eVar 0)) (aNil))))) (sRet (eC (.bl false))) (sNil)) (sAsgF 2 (eVar 3))
def f_is_tree : Env → Out := sSeq (sIf (tC2 cNe (eCall caLen (aCons (eVar 1) (aNil))) (eBin opSub (eUn (opFld 14 0) (eVar 0)) (eC (.int 1)))) (sRet (eC (.bl false))) (sNil)) (sSeq (sAsgF 2 (eUn opNeg (eC (.int 1)))) (sSeq (sFor (iSeq (eVar 1)) (gtN 3) f_is_tree_l1) (sRet (eB (tC2 cEq (eLenSet (eOwn g_marks_over (aCons (eVar 0) (aCons (eVar 1) (aNil))))) (eC (.int 1)))))))
def g_is_tree : List D → Res D := runF f_is_tree 4
end Lw
end

namespace Lw
open DL L2
end Lw

noncomputable section
namespace Lw
open DL
end Lw
end

namespace Lw
open DL L2
end Lw

noncomputable section
namespace Lw
open DL
def f_look_at_tree : Env → Out := sIf (tNo (tTr (eOwn g_is_tree (aCons (eVar 0) (aCons (eVar 1) (aNil)))))) (sRaise 4) (sNil)
def g_look_at_tree : List D → Res D := runF f_look_at_tree 2
def f_without_tie_c1 : Env → Res D := eVar 2
def f_without_tie_c1t : Env → Res Bool := tC2 cNe (eVar 2) (eVar 1)
def f_without_tie : Env → Out := sRet (eCall caTuple (aCons (eLc (iSeq (eVar 0)) [2] (gtN 2) (f_without_tie_c1t) f_without_tie_c1) (aNil)))
def g_without_tie : List D → Res D := runF f_without_tie 3
def f_ring_of_l1 : Env → Out := sSeq (sAsgF 7 (eOwn g_marks_over (aCons (eVar 0) (aCons (eOwn g_without_tie (aCons (eVar 1) (aCons (eVar 6) (aNil)))) (aNil))))) (sIf (tC2 cNe (eBin opIx (eVar 7) (eVar 3)) (eBin opIx (eVar 7) (eVar 4))) (sApp 5 (eVar 6)) (sNil))
def f_ring_of : Env → Out := sSeq (sExp (eOwn g_look_at_tree (aCons (eVar 0) (aCons (eVar 1) (aNil))))) (sSeq (sIf (tOr_ (tNo (tCh cLe cLt (eC (.int 0)) (eVar 2) (eCall caLen (aCons (eUn (opFld 14 1) (eVar 0)) (aNil))))) (tC2 cIn (eVar 2) (eVar 1))) (sRaise 5) (sNil)) (sSeq (sAsgT (gtT 2 (gtCons (gtN 3) (gtCons (gtN 4) (gtNil)))) (eBin opIx (eUn (opFld 14 1) (eVar 0)) (eVar 2))) (sSeq (sAsg 5 (eLst (aConsO (eVar 2) (aNil)))) (sSeq (sFor (iSeq (eVar 1)) (gtN 6) f_ring_of_l1) (sRet (eCall caTuple (aCons (eCall caSorted3 (aCons (eVar 5) (aNil))) (aNil))))))))
def g_ring_of : List D → Res D := runF f_ring_of 8
end Lw
end

noncomputable section
namespace Lw
open DL
end Lw
end

namespace Lw
open DL L2
end Lw

noncomputable section
namespace Lw
open DL
end Lw
end

namespace Lw
open DL L2
end Lw

noncomputable section
namespace Lw
open DL
end Lw
end

namespace Lw
open DL L2 TL
section
variable (L : List (List Int))
@[simp] theorem brws_T : brws (L.map dT) = L.map dT := (dulls dull_T L).1
@[simp] theorem frzs_T : frzs (L.map dT) = L.map dT := (dulls dull_T L).2.1
@[simp] theorem plns_T : plns (L.map dT) = L.map dT := (dulls dull_T L).2.2.1
@[simp] theorem nods_T : nods (L.map dT) = true := (dulls dull_T L).2.2.2.1
@[simp] theorem shd_T : shd (L.map dT) = true := (dulls dull_T L).2.2.2.2.1
@[simp] theorem ploks_T : ploks (L.map dT) = true := (dulls dull_T L).2.2.2.2.2
end
end Lw

noncomputable section
namespace Lw
open DL
end Lw
end

namespace Lw
open DL L2
end Lw

namespace Lw
open DL L2 TL
end Lw

noncomputable section
namespace Lw
open DL
end Lw
end

namespace Lw
open DL L2 TL
end Lw

namespace Lw
open DL L2 TL
def gr (p : Nat) (ts : List (Int × Int)) : List Int → List Int → List Int
  | [], J => J
  | t :: s, J => if nth (marksM p ts (srt J)) (tieAt ts t).1 = nth (marksM p ts (srt J)) (tieAt ts t).2 then gr p ts s J else gr p ts s (J ++ [t])
end Lw

namespace Lw
open DL L2 TL
section
variable {p : Nat} (hp : 1 ≤ p) {ts : List (Int × Int)} (hE : EndsOk p ts) {T : List Int} (hT : treeB p ts T = true)
include hp hE hT
end
end Lw

namespace Lw
open DL L2 TL
end Lw

noncomputable section
namespace Lw
open DL
def f_grown_l1 : Env → Out := sSeq (sAsgT (gtT 2 (gtCons (gtN 6) (gtCons (gtN 7) (gtNil)))) (eBin opIx (eUn (opFld 14 1) (eVar 0)) (eVar 5))) (sIf (tC2 cNe (eBin opIx (eVar 4) (eVar 6)) (eBin opIx (eVar 4) (eVar 7))) (sSeq (sApp 3 (eVar 5)) (sAsgF 4 (eOwn2 g_marks_over (aCons (eVar 0) (aCons (eVar 3) (aNil)))))) (sNil))
def f_grown : Env → Out := sSeq (sAsg 3 (eCall caList (aCons (eVar 1) (aNil)))) (sSeq (sAsgF 4 (eOwn2 g_marks_over (aCons (eVar 0) (aCons (eVar 3) (aNil))))) (sSeq (sFor (iSeq (eVar 2)) (gtN 5) f_grown_l1) (sRet (eCall caTuple (aCons (eCall caSorted3 (aCons (eVar 3) (aNil))) (aNil))))))
def g_grown : List D → Res D := runF f_grown 8
def f_least_tree : Env → Out := sSeq (sAsgF 1 (eOwn g_grown (aCons (eVar 0) (aCons (eTup (aNil)) (aCons (eLR1 (eCall caLen (aCons (eUn (opFld 14 1) (eVar 0)) (aNil)))) (aNil)))))) (sSeq (sIf (tC2 cLt (eCall caLen (aCons (eVar 1) (aNil))) (eBin opSub (eUn (opFld 14 0) (eVar 0)) (eC (.int 1)))) (sRaise 3) (sNil)) (sRetV 1))
def g_least_tree : List D → Res D := runF f_least_tree 2
end Lw
end

namespace Lw
open DL L2 TL
theorem blsOf_map : ∀ bs : List Bool, blsOf (bs.map D.bl) = some bs
  | [] => rfl
  | b :: bs => by simp [blsOf, blsOf_map bs]
end Lw

namespace Lw
open DL L2 TL
def KLt (L : List Int) (t u : Int) : Prop := nth L t < nth L u ∨ (nth L t = nth L u ∧ t < u)
instance (L : List Int) (t u : Int) : Decidable (KLt L t u) := by unfold KLt; infer_instance
section
variable {L : List Int} {p : Nat} {ts : List (Int × Int)} {O : List Int}
end
end Lw

noncomputable section
namespace Lw
open DL
end Lw
end

namespace Lw
open DL L2 TL
end Lw

namespace Lw
open DL L2 TL
section
variable {p : Nat} {ts : List (Int × Int)}
end
end Lw

noncomputable section
namespace Lw
open DL
end Lw
end

namespace Lw
open DL L2 TL
end Lw

namespace Dt
def sm : Nat → (Nat → Int) → Int
  | 0, _ => 0
  | n + 1, f => sm n f + f n
def sg (i : Nat) : Int := if i % 2 = 0 then 1 else -1
abbrev Mx := Nat → Nat → Int
def del (i : Nat) (A : Mx) : Mx := fun r => A (if r < i then r else r + 1)
def det : Nat → Nat → Mx → Int
  | 0, _, _ => 1
  | n + 1, c, A => sm (n + 1) fun i => sg i * A i c * det n (c + 1) (del i A)
end Dt

namespace Dt
def nx (E : Mx) (k : Nat) (ahead : Int) : Mx := fun r c => (E r c * E k k - E r k * E k c) / ahead
end Dt

namespace Dt
def tr (A : Mx) : Mx := fun r j => A j r
end Dt

noncomputable section
namespace Lw
open DL
def f_look_at_table_l1 : Env → Out := sIf (tC2 cNe (eCall caLen (aCons (eVar 1) (aNil))) (eCall caLen (aCons (eVar 0) (aNil)))) (sRaise 7) (sNil)
def f_look_at_table : Env → Out := sFor (iSeq (eVar 0)) (gtN 1) f_look_at_table_l1
def g_look_at_table : List D → Res D := runF f_look_at_table 2
def f_first_row_with_l1 : Env → Out := sIf (tC2 cNe (eBin opIx (eBin opIx (eVar 0) (eVar 2)) (eVar 1)) (eC (.int 0))) (sRetV 2) (sNil)
def f_first_row_with : Env → Out := sSeq (sFor (iRg2 (aCons (eVar 1) (aCons (eCall caLen (aCons (eVar 0) (aNil))) (aNil)))) (gtN 2) f_first_row_with_l1) (sRet (eC .non))
def g_first_row_with : List D → Res D := runF f_first_row_with 3
def f_cleared_l1 : Env → Out := sApp 6 (eBin opDiv (eBin opSub (eBin opMul (eBin opIx (eVar 5) (eVar 7)) (eBin opIx (eVar 4) (eVar 1))) (eBin opMul (eBin opIx (eVar 5) (eVar 1)) (eBin opIx (eVar 4) (eVar 7)))) (eVar 2))
def f_cleared_l2 : Env → Out := sSeq (sAsg 6 (eBin opMul (eLst (aConsO (eC (.int 0)) (aNil))) (eBin opAdd (eVar 1) (eC (.int 1))))) (sSeq (sFor (iRg2 (aCons (eBin opAdd (eVar 1) (eC (.int 1))) (aCons (eCall caLen (aCons (eVar 5) (aNil))) (aNil)))) (gtN 7) f_cleared_l1) (sFrz 6 (sApp 3 (eVar 6))))
def f_cleared : Env → Out := sSeq (sAsg 3 (eLst (aNil))) (sSeq (sAsgF 4 (eBin opIx (eVar 0) (eVar 1))) (sSeq (sFor (iSeq (eSl (eVar 0) (ePart (some (eBin opAdd (eVar 1) (eC (.int 1))))) (ePart none))) (gtN 5) f_cleared_l2) (sRetV 3)))
def g_cleared : List D → Res D := runF f_cleared 8
def f_determinant_c1 : Env → Res D := eCall caList (aCons (eVar 6) (aNil))
def f_determinant_l1 : Env → Out := sSeq (sAsgF 5 (eOwn g_first_row_with (aCons (eVar 1) (aCons (eVar 4) (aNil))))) (sSeq (sIf (tC2 cIsN (eVar 5) (eC .non)) (sRet (eC (.int 0))) (sNil)) (sSeq (sIf (tC2 cNe (eVar 5) (eVar 4)) (sSeq (sSwp 1 (eVar 4) (eVar 5) (eTup (aConsO (eBin opIx (eVar 1) (eVar 5)) (aConsO (eBin opIx (eVar 1) (eVar 4)) (aNil))))) (sAsgF 2 (eUn opNeg (eVar 2)))) (sNil)) (sSeq (sFrz 1 (sAsg 1 (eBin opAdd (eSl (eVar 1) (ePart none) (ePart (some (eBin opAdd (eVar 4) (eC (.int 1)))))) (eOwn g_cleared (aCons (eVar 1) (aCons (eVar 4) (aCons (eVar 3) (aNil)))))))) (sAsgF 3 (eBin opIx (eBin opIx (eVar 1) (eVar 4)) (eVar 4))))))
def f_determinant : Env → Out := sSeq (sExp (eOwn g_look_at_table (aCons (eVar 0) (aNil)))) (sSeq (sAsgI 1 (eLc (iSeq (eVar 0)) [6] (gtN 6) (tYesG) f_determinant_c1)) (sSeq (sAsgF 2 (eC (.int 1))) (sSeq (sAsgF 3 (eC (.int 1))) (sSeq (sFor (iRg1 (aCons (eCall caLen (aCons (eVar 1) (aNil))) (aNil))) (gtN 4) f_determinant_l1) (sRet (eBin opMul (eVar 2) (eVar 3)))))))
def g_determinant : List D → Res D := runF f_determinant 7
def f_pulls_c1 : Env → Res D := eBin opMul (eLst (aConsO (eC (.int 0)) (aNil))) (eVar 0)
def f_pulls_l1 : Env → Out := sIf (tC2 cNe (eVar 3) (eVar 4)) (sSeq (sAug2 (fun a b => a + b) 2 3 3 (eC (.int 1))) (sSeq (sAug2 (fun a b => a + b) 2 4 4 (eC (.int 1))) (sSeq (sAug2 (fun a b => a - b) 2 3 4 (eC (.int 1))) (sAug2 (fun a b => a - b) 2 4 3 (eC (.int 1)))))) (sNil)
def f_pulls : Env → Out := sSeq (sAsg 2 (eLc (iRg1 (aCons (eVar 0) (aNil))) [5] (gtN 5) (tYesG) f_pulls_c1)) (sSeq (sFor (iSeq (eVar 1)) (gtT 2 (gtCons (gtN 3) (gtCons (gtN 4) (gtNil)))) f_pulls_l1) (sRetV 2))
def g_pulls : List D → Res D := runF f_pulls 6
def f_without_last_c1 : Env → Res D := eSl (eVar 1) (ePart none) (ePart (some (eUn opNeg (eC (.int 1)))))
def f_without_last : Env → Out := sRet (eLc (iSeq (eSl (eVar 0) (ePart none) (ePart (some (eUn opNeg (eC (.int 1))))))) [1] (gtN 1) (tYesG) f_without_last_c1)
def g_without_last : List D → Res D := runF f_without_last 2
def f_pull_table : Env → Out := sRet (eOwn g_pulls (aCons (eUn (opFld 14 0) (eVar 0)) (aCons (eUn (opFld 14 1) (eVar 0)) (aNil))))
def g_pull_table : List D → Res D := runF f_pull_table 1
def f_tree_count : Env → Out := sRet (eOwn g_determinant (aCons (eOwn g_without_last (aCons (eOwn g_pull_table (aCons (eVar 0) (aNil))) (aNil))) (aNil)))
def g_tree_count : List D → Res D := runF f_tree_count 1
end Lw
end

namespace Lw
open DL L2 TL
def dR (l : List Int) : D := .ls (l.map D.int)
theorem dull_R (l : List Int) : dull (dR l) := by
  refine ⟨?_, ?_, ?_, ?_, ?_, ?_⟩ <;> simp [dR]
theorem bR (L : List (List Int)) : brws (L.map dR) = L.map dR ∧ frzs (L.map dR) = L.map dR ∧ plns (L.map dR) = L.map dR ∧ nods (L.map dR) = true ∧ shd (L.map dR) = true ∧ ploks (L.map dR) = true := dulls dull_R L
end Lw

namespace Lw
open DL L2 TL
end Lw

namespace Dt
abbrev Ed := Nat × Nat
def iv (b : Prop) [Decidable b] : Int := if b then 1 else 0
def xv (e : Ed) (j : Nat) : Int := iv (j = e.1) - iv (j = e.2)
def Xm (m : Nat → Nat) (e : Ed) (i : Nat) : Int := iv (m e.1 = i) - iv (m e.2 = i)
def Rw (m : Nat → Nat) : List Ed → Mx
  | [], _, _ => 0
  | e :: es, i, j => Xm m e i * xv e j + Rw m es i j
def Mat (m : Nat → Nat) (es : List Ed) : Mx := fun i j => if m i = i then Rw m es i j else iv (j = i) - iv (j = m i)
def D (n : Nat) (m : Nat → Nat) (es : List Ed) : Int := det n 0 (Mat m es)
end Dt

noncomputable section
namespace Lw
open DL
end Lw
end

namespace Lw
open DL L2 TL
end Lw

namespace Lw
open DL L2 TL Classical
end Lw

namespace Lw
open DL L2 TL
section
variable {p : Nat} (hp : 1 ≤ p) {ts : List (Int × Int)} (hE : EndsOk p ts) {T : List Int} (hT : treeB p ts T = true) (L : List Int)
include hp hE hT
end
end Lw

namespace Lw
open DL L2 TL
section
variable {p : Nat} {ts : List (Int × Int)}
end
end Lw

namespace Lw
open DL L2 TL
def tn (t : Int × Int) : Dt.Ed := (t.1.toNat, t.2.toNat)
section
variable {p : Nat} {ts : List (Int × Int)}
end
end Lw

namespace Lw
open DL L2 TL
def dO' (l : List Int) : D := .ol (l.map D.int)
end Lw

namespace Lw
open DL L2 TL
theorem fO (T : List (List Int)) : frzs (T.map dO') = T.map dR ∧ nods (T.map dO') = true := by
  induction T with
  | nil => exact ⟨rfl, rfl⟩
  | cons a T ih => simp only [List.map_cons, frzs_cons, nods, nod, ih.1, ih.2]; exact ⟨by simp [dO', dR], by simp [dO']⟩
end Lw

noncomputable section
namespace Lw
open DL
end Lw
end

namespace Lw
open DL L2 TL
end Lw

namespace Lw
open DL L2 TL
theorem forL_step {tg : D → Env → Option Env} {b : Env → Out} {d : D} {ds : List D} {g g1 g' : Env} (h : tg d g = some g1) (hb : b g1 = .nx g') : forL tg b (d :: ds) g = forL tg b ds g' := by
  rw [forL_cons, h]
  simp only [hb]
end Lw

noncomputable section
namespace Lw
open DL
def f_pieces_of_c1 : Env → Res D := eVar 4
def f_pieces_of_c1t : Env → Res Bool := tC2 cEq (eBin opIx (eVar 2) (eVar 4)) (eVar 3)
def f_pieces_of_c3 : Env → Res D := eLc (iRg1 (aCons (eUn (opFld 14 0) (eVar 0)) (aNil))) [4] (gtN 4) (f_pieces_of_c1t) f_pieces_of_c1
def f_pieces_of : Env → Out := sSeq (sAsgF 2 (eOwn g_marks_over (aCons (eVar 0) (aCons (eOwn g_made_set (aCons (eVar 0) (aCons (eVar 1) (aNil)))) (aNil))))) (sRet (eLc (iSeq (eSortedSet (eVar 2))) [3] (gtN 3) (tYesG) f_pieces_of_c3))
def g_pieces_of : List D → Res D := runF f_pieces_of 5
end Lw
end

namespace Lw
open DL L2
def piece (p : Nat) (m : List Int) (k : Int) : List Int := (iota p).filter fun i => decide (nth m i = k)
def pieces (p : Nat) (m : List Int) : List (List Int) := (sset m).map (piece p m)
section
variable (L : List (List Int))
@[simp] theorem brws_OO : brws (L.map fun l => D.ol (l.map D.int)) = L.map fun l => .bo (l.map D.int) := by induction L <;> simp [*]
@[simp] theorem frzs_OO : frzs (L.map fun l => D.ol (l.map D.int)) = L.map fun l => .ls (l.map D.int) := by induction L <;> simp [*]
@[simp] theorem nods_OO : nods (L.map fun l => D.ol (l.map D.int)) = true := by induction L <;> simp [*]
@[simp] theorem shd_LL : shd (L.map fun l => D.ls (l.map D.int)) = true := by induction L <;> simp [*]
@[simp] theorem brws_LL : brws (L.map fun l => D.ls (l.map D.int)) = L.map fun l => .ls (l.map D.int) := by induction L <;> simp [*]
@[simp] theorem frzs_LL : frzs (L.map fun l => D.ls (l.map D.int)) = L.map fun l => .ls (l.map D.int) := by induction L <;> simp [*]
@[simp] theorem nods_LL : nods (L.map fun l => D.ls (l.map D.int)) = true := by induction L <;> simp [*]
theorem toPys_BB : toPys (L.map fun l => D.bo (l.map D.int)) = toPys (L.map fun l => D.ls (l.map D.int)) := by
  induction L with
  | nil => rfl
  | cons a L ih => simp [toPys, toPy_bo, ih]
end
@[simp] theorem pyEq_LL (L M : List (List Int)) : pyEq (.ls (L.map fun l => .ls (l.map D.int))) (.ls (M.map fun l => .ls (l.map D.int))) = some (decide (L = M)) := enc_int.ls.ls.eq (by omega) L M
@[simp] theorem pyEq_BL (L M : List (List Int)) : pyEq (.ls (L.map fun l => .bo (l.map D.int))) (.ls (M.map fun l => .ls (l.map D.int))) = some (decide (L = M)) := by
  rw [← pyEq_LL]
  simp [pyEq, toPy, toPys_BB]
end Lw

noncomputable section
namespace Lw
open DL
def f_count_with_c1 : Env → Res D := eB (tC2 cIn (eVar 11) (eVar 4))
def f_count_with_l1 : Env → Out := sDSet 6 (eVar 9) (eVar 7)
def f_count_with_l2 : Env → Out := sFor (iSeq (eVar 8)) (gtN 9) f_count_with_l1
def f_count_with_c4 : Env → Res D := eTup (aConsO (eBin opDG (eVar 6) (eBin opIx (eVar 12) (eC (.int 0)))) (aConsO (eBin opDG (eVar 6) (eBin opIx (eVar 12) (eC (.int 1)))) (aNil)))
def f_count_with_c4t : Env → Res Bool := tC2 cNIn (eVar 11) (eVar 4)
def f_count_with : Env → Out := sSeq (sAsgF 3 (eOwn g_made_set (aCons (eVar 0) (aCons (eVar 1) (aNil))))) (sSeq (sAsgF 4 (eOwn g_made_set (aCons (eVar 0) (aCons (eVar 2) (aNil))))) (sSeq (sAsgF 5 (eOwn g_pieces_of (aCons (eVar 0) (aCons (eVar 3) (aNil))))) (sSeq (sIf (tOr_ (tC2 cNe (eCall caLen (aCons (eVar 3) (aNil))) (eBin opSub (eUn (opFld 14 0) (eVar 0)) (eCall caLen (aCons (eVar 5) (aNil))))) (tTr (eCall caAny (aCons (eLc (iSeq (eVar 3)) [11] (gtN 11) (tYesG) f_count_with_c1) (aNil))))) (sRet (eC (.int 0))) (sNil)) (sSeq (sAsg 6 (eDic)) (sSeq (sFor (iEnm (aCons (eVar 5) (aNil))) (gtT 2 (gtCons (gtN 7) (gtCons (gtN 8) (gtNil)))) f_count_with_l2) (sSeq (sAsgF 10 (eLc (iEnm (aCons (eUn (opFld 14 1) (eVar 0)) (aNil))) [11, 12] (gtT 2 (gtCons (gtN 11) (gtCons (gtN 12) (gtNil)))) (f_count_with_c4t) f_count_with_c4)) (sRet (eOwn g_determinant (aCons (eOwn g_without_last (aCons (eOwn g_pulls (aCons (eCall caLen (aCons (eVar 5) (aNil))) (aCons (eVar 10) (aNil)))) (aNil))) (aNil))))))))))
def g_count_with : List D → Res D := runF f_count_with 13
end Lw
end

namespace Lw
open DL L2 TL
end Lw

namespace Lw
open DL L2 TL
end Lw

noncomputable section
namespace Lw
open DL
end Lw
end

namespace Lw
open DL L2 TL
end Lw

namespace Dt
end Dt
namespace Lw
open DL L2 TL
def rwN (n : Nat) (x : Nat → Int) : List Int := (List.range n).map x
def rows (n : Nat) (A : Dt.Mx) : List (List Int) := (List.range n).map fun r => rwN n (A r)
end Lw

noncomputable section
namespace Lw
open DL
end Lw
end

namespace Lw
open DL L2 TL
end Lw

noncomputable section
namespace Lw
open DL
end Lw
end

namespace Lw
open DL L2 TL
def gI (a b : Int) : Int := (Int.gcd a b : Int)
section
variable {p : Nat} {ts : List (Int × Int)}
end
end Lw

noncomputable section
namespace Lw
open DL
def f_common_part_l1 : Env → Out := sPar 0 1 (aConsO (eVar 1) (aConsO (eBin opMod (eVar 0) (eVar 1)) (aNil)))
def f_common_part_l1t : Env → Res Bool := tC2 cGt (eVar 1) (eC (.int 0))
def f_common_part : Env → Out := sSeq (sAsgF 0 (eCall caAbs (aCons (eVar 0) (aNil)))) (sSeq (sAsgF 1 (eCall caAbs (aCons (eVar 1) (aNil)))) (sSeq (sWhile f_common_part_l1t f_common_part_l1) (sRetV 0)))
def g_common_part : List D → Res D := runF f_common_part 2
def f_as_fraction : Env → Out := sSeq (sAsgF 2 (eOwn g_common_part (aCons (eVar 0) (aCons (eVar 1) (aNil))))) (sSeq (sIf (tC2 cLt (eVar 1) (eC (.int 0))) (sAsgF 2 (eUn opNeg (eVar 2))) (sNil)) (sRet (eTup (aConsO (eBin opDiv (eVar 0) (eVar 2)) (aConsO (eBin opDiv (eVar 1) (eVar 2)) (aNil))))))
def g_as_fraction : List D → Res D := runF f_as_fraction 3
def f_solved_c1 : Env → Res D := eBin opAdd (eBin opAdd (eCall caList (aCons (eSl (eVar 6) (ePart none) (ePart (some (eVar 4)))) (aNil))) (eLst (aConsO (eVar 7) (aNil)))) (eCall caList (aCons (eSl (eVar 6) (ePart (some (eBin opAdd (eVar 4) (eC (.int 1))))) (ePart none)) (aNil)))
def f_solved_l1 : Env → Out := sSeq (sAsgF 5 (eLc (iZp3 (aCons (eVar 0) (aCons (eVar 1) (aNil)))) [6, 7] (gtT 2 (gtCons (gtN 6) (gtCons (gtN 7) (gtNil)))) (tYesG) f_solved_c1)) (sApp 3 (eOwn g_as_fraction (aCons (eOwn g_determinant (aCons (eVar 5) (aNil))) (aCons (eVar 2) (aNil)))))
def f_solved : Env → Out := sSeq (sExp (eOwn g_look_at_table (aCons (eVar 0) (aNil)))) (sSeq (sIf (tC2 cNe (eCall caLen (aCons (eVar 1) (aNil))) (eCall caLen (aCons (eVar 0) (aNil)))) (sRaise 7) (sNil)) (sSeq (sAsgF 2 (eOwn g_determinant (aCons (eVar 0) (aNil)))) (sSeq (sIf (tC2 cEq (eVar 2) (eC (.int 0))) (sRaise 8) (sNil)) (sSeq (sAsg 3 (eLst (aNil))) (sSeq (sFor (iRg1 (aCons (eCall caLen (aCons (eVar 0) (aNil))) (aNil))) (gtN 4) f_solved_l1) (sRet (eCall caTuple (aCons (eVar 3) (aNil)))))))))
def g_solved : List D → Res D := runF f_solved 8
end Lw
end

namespace Lw
open DL L2 TL
def TT (o : D) (L : List (List Int)) : Prop := o = .ls (L.map dR) ∨ o = .tp (L.map dT)
def frI (t b : Int) : Int × Int := if b < 0 then (-(t / gI t b), -(b / gI t b)) else (t / gI t b, b / gI t b)
end Lw

namespace Dt
end Dt

noncomputable section
namespace Lw
open DL
end Lw
end

namespace Lw
open DL L2 TL
section
variable {p : Nat} {ts : List (Int × Int)}
end
end Lw

namespace Lw
open DL L2 TL
end Lw

noncomputable section
namespace Lw
open DL
end Lw
end

namespace Lw
open DL L2 TL
end Lw

noncomputable section
namespace Lw
open DL
def f_look_at_weights : Env → Out := sIf (tC2 cNe (eCall caLen (aCons (eVar 1) (aNil))) (eCall caLen (aCons (eUn (opFld 14 1) (eVar 0)) (aNil)))) (sRaise 9) (sNil)
def g_look_at_weights : List D → Res D := runF f_look_at_weights 2
end Lw
end

noncomputable section
namespace Lw
open DL
def f_weighed_table_c1 : Env → Res D := eBin opMul (eLst (aConsO (eC (.int 0)) (aNil))) (eUn (opFld 14 0) (eVar 0))
def f_weighed_table_l1 : Env → Out := sSeq (sAsgT (gtT 2 (gtCons (gtN 5) (gtCons (gtN 6) (gtNil)))) (eVar 3)) (sIf (tC2 cNe (eVar 5) (eVar 6)) (sSeq (sAug2 (fun a b => a + b) 2 5 5 (eVar 4)) (sSeq (sAug2 (fun a b => a + b) 2 6 6 (eVar 4)) (sSeq (sAug2 (fun a b => a - b) 2 5 6 (eVar 4)) (sAug2 (fun a b => a - b) 2 6 5 (eVar 4))))) (sNil))
def f_weighed_table : Env → Out := sSeq (sAsg 2 (eLc (iRg1 (aCons (eUn (opFld 14 0) (eVar 0)) (aNil))) [7] (gtN 7) (tYesG) f_weighed_table_c1)) (sSeq (sFor (iZp2 (aCons (eUn (opFld 14 1) (eVar 0)) (aCons (eVar 1) (aNil)))) (gtT 2 (gtCons (gtN 3) (gtCons (gtN 4) (gtNil)))) f_weighed_table_l1) (sRetV 2))
def g_weighed_table : List D → Res D := runF f_weighed_table 8
def f_tree_sum_c1 : Env → Res D := eSl (eVar 2) (ePart none) (ePart (some (eUn opNeg (eC (.int 1)))))
def f_tree_sum : Env → Out := sSeq (sExp (eOwn g_look_at_weights (aCons (eVar 0) (aCons (eVar 1) (aNil))))) (sRet (eOwn g_determinant (aCons (eLc (iSeq (eSl (eOwn g_weighed_table (aCons (eVar 0) (aCons (eVar 1) (aNil)))) (ePart none) (ePart (some (eUn opNeg (eC (.int 1))))))) [2] (gtN 2) (tYesG) f_tree_sum_c1) (aNil))))
def g_tree_sum : List D → Res D := runF f_tree_sum 3
end Lw
end

noncomputable section
namespace Lw
open DL
end Lw
end

namespace Dt
def pw (x : Nat → Int) : Mx := fun r k => x k ^ r
end Dt
noncomputable section
namespace Lw
open DL L2
end Lw
end

namespace Dw
open Dt
abbrev WE := Ed × Int
def Rw (m : Nat → Nat) : List WE → Mx
  | [], _, _ => 0
  | e :: es, i, j => e.2 * (Xm m e.1 i * xv e.1 j) + Rw m es i j
def Mat (m : Nat → Nat) (es : List WE) : Mx := fun i j => if m i = i then Rw m es i j else iv (j = i) - iv (j = m i)
def D (n : Nat) (m : Nat → Nat) (es : List WE) : Int := det n 0 (Mat m es)
end Dw

namespace Lw
open DL L2 TL
def pl : List Int → Int
  | [] => 1
  | a :: l => a * pl l
section
variable {p : Nat} {ts : List (Int × Int)}
end
end Lw

namespace Lw
open DL L2 TL
section
variable {p : Nat} {ts : List (Int × Int)}
end
end Lw

noncomputable section
namespace Lw
open DL L2
section
variable {p : Nat} {ts : List (Int × Int)}
end
end Lw
end

namespace Dt
def uv (m : Nat) : Nat → Int := fun r => iv (r = m)
def tc (m : Nat) (B : Mx) : Mx := fun r j => if j < m then uv j r else B r j
end Dt
noncomputable section
namespace Lw
open DL L2
section
variable {p : Nat} {ts : List (Int × Int)}
end
end Lw
end

namespace Dt
def one (k n : Nat) : Nat → Nat := fun v => if v = k then n else v
end Dt

noncomputable section
namespace Lw
open DL
end Lw
end

namespace Lw
open DL L2 TL
section
variable {N s t : Int}
end
def fl (p : Nat) (N : Int) (g : Nat → Int) : List (Int × Int) := (List.range p).map fun v => frI (g v) N
section
variable {pp x y : Int} {T : List D}
end
end Lw

noncomputable section
namespace Lw
open DL
end Lw
end

namespace Dt
end Dt
namespace Lw
open DL L2 TL
section
variable {p : Nat} {ts : List (Int × Int)}
end
end Lw

noncomputable section
namespace Lw
open DL
end Lw
end

namespace Lw
open DL L2
def dTo (x low high : Int) : Int := if x = high then low else if high < x then x - 1 else x
end Lw

namespace Lw
open DL L2 TL
def upn (t x : Int) : Int := x + (if t ≤ x then 1 else 0)
section
variable {p : Nat} {ts : List (Int × Int)}
def bk (t : Int) (b : Bool) (l : List Int) : List Int := srt (l.map (upn t) ++ if b = true then [t] else [])
def d2 (lo hi : Int) (e : Int × Int) : Int × Int := (dTo e.1 lo hi, dTo e.2 lo hi)
end
end Lw

namespace Lw
open DL L2 TL
section
variable {p : Nat} {ts : List (Int × Int)}
end
end Lw

noncomputable section
namespace Lw
open DL
end Lw
end

noncomputable section
namespace Lw
open DL L2
end Lw
end

noncomputable section
namespace Lw
open DL L2
theorem seq_to {f u : Env → Out} {g g1 : Env} {o : Out} (h : f g = .nx g1) (h2 : u g1 = o) : sSeq f u g = o := by
  rw [sSeq_, h]
  exact h2
end Lw
end

noncomputable section
namespace Lw
open DL L2
section
variable {pp : D} {T : List D} {S : List Int}
end
section
variable {p : Nat} {ts : List (Int × Int)}
end
end Lw
end

noncomputable section
namespace Lw
open DL
end Lw
end

noncomputable section
namespace Lw
open DL L2
section
variable {x0 : D}
end
section
variable {x0 pp : D} {T : List D} {A B : List Int}
end
end Lw
end

noncomputable section
namespace Lw
open DL
end Lw
end

noncomputable section
namespace Lw
open DL L2 TL
section
variable {p : Nat} {ts : List (Int × Int)}
end
section
variable {p : Nat} {ts : List (Int × Int)}
end
end Lw
end

noncomputable section
namespace Lw
open DL
end Lw
end

noncomputable section
namespace Lw
open DL L2 TL
open PySem (Str)
def tI (i : Int) : Str := Str.ofString (toString i)
theorem tI_len {i : Int} (h : i.natAbs < 2 ^ 1000) : (tI i).length ≤ 1001 := by
  unfold tI
  rw [PySem.ofString_length]
  exact PySem.int_text_length_le (by omega) (by
    by_cases c : i.natAbs = 0
    · rw [c]; decide
    · exact (Nat.log2_lt c).mpr h)
theorem caStr_t {i : Int} (h : i.natAbs < 2 ^ 1000) : caStr [.int i] = some (.str (tI i)) := caStr_i (by
  by_cases c : i.natAbs = 0
  · rw [c]; decide
  · exact Nat.lt_trans ((Nat.log2_lt c).mpr h) (by omega))
theorem addS {x y : Str} (hx : x.length ≤ 100000) (hy : y.length ≤ 100000) : opAdd (.str x) (.str y) = some (.str (x ++ y)) := opAdd_str (by rw [lim_eq]; omega)
end Lw
end

noncomputable section
namespace Lw
open DL
def f_number_written_c1 : Env → Res D := eB (tC2 cInC (eVar 2) (eC (.str "0123456789")))
def f_number_written : Env → Out := sSeq (sAsgF 1 (eVar 0)) (sSeq (sIf (tC2 cEq (eSlS (eVar 0) (ePart none) (ePart (some (eC (.int 1))))) (eC (.str "-"))) (sAsgF 1 (eSlS (eVar 0) (ePart (some (eC (.int 1)))) (ePart none))) (sNil)) (sSeq (sIf (tOr_ (tNo (tCh cLe cLe (eC (.int 1)) (eCall caLen (aCons (eVar 1) (aNil))) (eC (.int 60)))) (tNo (tTr (eCall caAll (aCons (eLc (iStrD (eVar 1)) [2] (gtN 2) (tYesG) f_number_written_c1) (aNil)))))) (sRaise 12) (sNil)) (sSeq (sIf (tAn (tC2 cEq (eBin opIx (eVar 1) (eC (.int 0))) (eC (.str "0"))) (tC2 cNe (eVar 0) (eC (.str "0")))) (sRaise 12) (sNil)) (sRet (eCall caIntS (aCons (eVar 0) (aNil)))))))
def g_number_written : List D → Res D := runF f_number_written 3
def f_numbers_behind_c1 : Env → Res D := eOwn g_number_written (aCons (eVar 4) (aNil))
def f_numbers_behind : Env → Out := sSeq (sAsgF 3 (eSplit (eVar 0) (eC (.str " ")))) (sSeq (sIf (tOr_ (tC2 cNe (eBin opIx (eVar 3) (eC (.int 0))) (eVar 1)) (tC2 cNe (eCall caLen (aCons (eVar 3) (aNil))) (eBin opAdd (eVar 2) (eC (.int 1))))) (sRaise 12) (sNil)) (sRet (eLcX (iSeq (eSl (eVar 3) (ePart (some (eC (.int 1)))) (ePart none))) [4] (gtN 4) f_numbers_behind_c1)))
def g_numbers_behind : List D → Res D := runF f_numbers_behind 5
def f_read_web_c1 : Env → Res D := eOwn g_numbers_behind (aCons (eVar 4) (aCons (eC (.str "tie")) (aCons (eC (.int 3)) (aNil))))
def f_read_web_c2 : Env → Res D := eBin opIx (eVar 5) (eC (.int 2))
def f_read_web_c3 : Env → Res D := eTup (aConsO (eBin opIx (eVar 5) (eC (.int 0))) (aConsO (eBin opIx (eVar 5) (eC (.int 1))) (aNil)))
def f_read_web : Env → Out := sSeq (sAsgF 1 (eSplit (eVar 0) (eC (.str "\n")))) (sSeq (sAsgF 2 (eBin opIx (eOwn g_numbers_behind (aCons (eBin opIx (eVar 1) (eC (.int 0))) (aCons (eC (.str "places")) (aCons (eC (.int 1)) (aNil))))) (eC (.int 0)))) (sSeq (sAsgF 3 (eLcX (iSeq (eSl (eVar 1) (ePart (some (eC (.int 1)))) (ePart none))) [4] (gtN 4) f_read_web_c1)) (sRet (eTup (aConsO (eMkF 14 g_Web_init (aCons (eVar 2) (aCons (eLc (iSeq (eVar 3)) [5] (gtN 5) (tYesG) f_read_web_c3) (aNil)))) (aConsO (eFrz (eLc (iSeq (eVar 3)) [5] (gtN 5) (tYesG) f_read_web_c2)) (aNil)))))))
def g_read_web : List D → Res D := runF f_read_web 6
end Lw
end

noncomputable section
namespace Lw
open DL L2
open PySem (Str)
abbrev S8 (l : List Nat) : Str := SX.S l
def cd (i : Int) : List Nat := if i < 0 then 45 :: TL.numL i.natAbs else TL.numL i.natAbs
theorem tI_S (i : Int) : tI i = S8 (cd i) := by
  unfold tI cd
  by_cases c : i < 0
  · rw [if_pos c]
    obtain ⟨m, rfl⟩ : ∃ m : Nat, i = Int.negSucc m := ⟨i.natAbs - 1, by omega⟩
    have e : toString (Int.negSucc m) = "-" ++ toString ((m + 1 : Nat) : Int) := rfl
    rw [e, PySem.Str.ofString_eq_toList, String.toList_append, List.map_append]
    have h := SX.num_S (m + 1)
    rw [PySem.Str.ofString_eq_toList] at h
    have h2 : (toString ((m + 1 : Nat) : Int)).toList.map Char.toNat = TL.numL (m + 1) := congrArg (fun x : Str => x.cps.toList) h
    rw [h2]
    have e2 : (Int.negSucc m).natAbs = m + 1 := rfl
    rw [e2]
    rfl
  · rw [if_neg c]
    obtain ⟨m, rfl⟩ : ∃ m : Nat, i = (m : Int) := ⟨i.natAbs, by omega⟩
    exact SX.num_S m
theorem cd_free {i : Int} {s : Nat} (h : s < 45 ∨ 57 < s) : s ∉ cd i := fun hm => by
  unfold cd at hm
  split at hm
  · rcases List.mem_cons.mp hm with q | q
    · omega
    · exact TL.numL_free (by omega) q
  · exact TL.numL_free (by omega) hm
theorem cut_s0 (l : List Nat) : cutS (S8 l) none (some 1) = S8 (l.take 1) := by
  unfold cutS
  have e : (S8 l).length = l.length := SX.S_len l
  rw [e]
  have h1 : HT.sIx l.length 0 none = 0 := rfl
  have h2 : HT.sIx l.length l.length (some 1) = min 1 l.length := HT.sIx_nat l.length _ 1
  rw [h1, h2]
  show (⟨(((l.toArray).toList.drop 0).take (min 1 l.length - 0)).toArray⟩ : Str) = _
  congr 2
  rw [List.drop_zero]
  cases l <;> simp
theorem cut_s1 (l : List Nat) : cutS (S8 l) (some 1) none = S8 (l.drop 1) := by
  unfold cutS
  have e : (S8 l).length = l.length := SX.S_len l
  rw [e]
  have h1 : HT.sIx l.length l.length none = l.length := rfl
  have h2 : HT.sIx l.length 0 (some 1) = min 1 l.length := HT.sIx_nat l.length _ 1
  rw [h1, h2]
  congr 1
  cases l <;> simp

theorem figs : ("0123456789" : Str).cps.toList = [48, 49, 50, 51, 52, 53, 54, 55, 56, 57] := by decide +kernel
theorem dash_S : ("-" : Str) = S8 [45] := by decide +kernel
theorem zero_S : ("0" : Str) = S8 [48] := by decide +kernel
theorem S8_eq {a b : List Nat} : (S8 a = S8 b) ↔ a = b := ⟨SX.S_inj, fun h => by rw [h]⟩
theorem str_dec (a b : List Nat) : decide ((S8 a : Str) = S8 b) = decide (a = b) := by
  rw [Bool.eq_iff_iff, decide_eq_true_eq, decide_eq_true_eq]; exact S8_eq
theorem sg_lc {x0 x1 : D} (ds : List Nat) (h : ∀ c ∈ ds, 48 ≤ c ∧ c ≤ 57) : lcL (gtN 2) tYesG f_number_written_c1 [x0, x1, .un] (sgs (S8 ds)) = .ok ((ds.map fun _ => true).map D.bl) := by
  unfold sgs
  rw [List.map_map]
  show lcL _ _ _ _ (ds.map fun c => D.str ⟨#[c]⟩) = _
  refine lcL_mapN ds fun c hc => ?_
  have hm : c ∈ ("0123456789" : Str).cps.toList := by
    rw [figs]
    have := h c hc
    simp
    omega
  have e : cInC (.str ⟨#[c]⟩) (.str "0123456789") = some true := by
    show some (decide (c ∈ ("0123456789" : Str).cps.toList)) = some true
    rw [decide_eq_true hm]
  simp [f_number_written_c1, e]
theorem all_true (ds : List Nat) : caAll [.ls ((ds.map fun _ => true).map D.bl)] = some (.bl true) := by
  have : ∀ l : List Nat, (l.map fun _ => true).all id = true := fun l => by
    induction l with
    | nil => rfl
    | cons a l ih => rw [List.map_cons, List.all_cons, ih]; rfl
  simp only [caAll, sqL]
  rw [blsOf_map, Option.map_some, this]
theorem nw_raw {x : List Nat} {ds : List Nat} {n : Int} {c0 : Nat} {r : List Nat} (hx : (x = 45 :: ds ∧ True) ∨ (x = ds ∧ ds.take 1 ≠ [45])) (hd : ds = c0 :: r) (h1 : ds.length ≤ 60) (hD : ∀ c ∈ ds, 48 ≤ c ∧ c ≤ 57) (h0 : c0 ≠ 48 ∨ x = [48]) (hi : PySem.intText? (S8 x) = some n) (hl : x.length ≤ 640) : g_number_written [.str (S8 x)] = .ok (.int n) := by
  have c1 := cut_s0 x
  have c2 := cut_s1 x
  have lx : (S8 x : Str).length = x.length := SX.S_len x
  have ld : (S8 ds : Str).length = ds.length := SX.S_len ds
  have bx : x.length ≤ lim := by rw [lim_eq]; omega
  have bd : ds.length ≤ lim := by rw [lim_eq]; omega
  have lc := fun x0 x1 => sg_lc (x0 := x0) (x1 := x1) ds hD
  have at1 := all_true ds
  have dp : 1 ≤ ds.length := by rw [hd]; simp
  have ii : caIntS [.str (S8 x)] = some (.int n) := by
    simp only [caIntS]
    rw [hi, lx]
    exact if_pos hl
  have sl : (sgs (S8 ds)).length ≤ lim := by rw [sgs_len]; show ds.length ≤ lim; exact bd
  have ix : opIx (.str (S8 ds)) (.int 0) = some (.str (S8 [c0])) := by
    have : opIx (.str (S8 ds)) (.int 0) = if (S8 ds : Str).length ≤ lim then (atI (S8 ds : Str).cps.toList 0).map fun c => .str ⟨#[c]⟩ else none := rfl
    rw [this, ld, if_pos bd]
    show (atI ds 0).map _ = _
    rw [hd]
    have e : atI (c0 :: r) 0 = some c0 := (DL.atI_natG (i := 0) (j := 0) rfl (by simp)).trans rfl
    rw [e]
    rfl
  have fin : f_number_written [.str (S8 x), .un, .un] = .rt (.int n) := by
    unfold f_number_written
    refine seq_to (g1 := [.str (S8 x), .str (S8 x), .un]) (by simp) ?_
    refine seq_to (g1 := [.str (S8 x), .str (S8 ds), .un]) ?_ ?_
    · have hc : tC2 cEq (eSlS (eVar 0) (ePart none) (ePart (some (eC (.int 1))))) (eC (.str "-")) [.str (S8 x), .str (S8 x), .un] = .ok (decide (x.take 1 = [45])) := by
        have := str_dec (x.take 1) [45]
        rw [← dash_S] at this
        rw [← this]
        simp [lx, bx, c1]
      rw [sIf_, hc]
      rcases hx with ⟨hx, _⟩ | ⟨hx, hn⟩
      · have : x.take 1 = [45] := by rw [hx]; rfl
        rw [decide_eq_true this]
        have e2 : x.drop 1 = ds := by rw [hx]; rfl
        rw [e2] at c2
        simp [lx, bx, c2]
      · rw [hx, decide_eq_false hn]
        rfl
    · have b60 : ds.length ≤ 60 := h1
      have t1 : tCh cLe cLe (eC (.int 1)) (eCall caLen (aCons (eVar 1) (aNil))) (eC (.int 60)) [.str (S8 x), .str (S8 ds), .un] = .ok true := by
        have e : caLen [.str (S8 ds)] = some (.int ds.length) := by
          show (if (S8 ds : Str).length ≤ lim then some (D.int ((S8 ds : Str).length : Nat)) else none) = _
          rw [ld, if_pos bd]
        have q1 : (1 : Int) ≤ ds.length := by omega
        have q2 : (ds.length : Int) ≤ 60 := by omega
        simp [e, q1, q2]
      have t2 : tTr (eCall caAll (aCons (eLc (iStrD (eVar 1)) [2] (gtN 2) (tYesG) f_number_written_c1) (aNil))) [.str (S8 x), .str (S8 ds), .un] = .ok true := by
        obtain ⟨d1, d2, _, d4, _, _⟩ := dulls dull_bl (ds.map fun _ => true)
        generalize (ds.map fun _ => true).map D.bl = BB at *
        simp [lc, sl, d1, d2, d4, at1]
      refine seq_to (g1 := [.str (S8 x), .str (S8 ds), .un]) ?_ ?_
      · rw [sIf_, tOr__, tNo_, tNo_, t1, t2]
        rfl
      · refine seq_to (g1 := [.str (S8 x), .str (S8 ds), .un]) ?_ (by simp [ii])
        have k1 : tC2 cEq (eBin opIx (eVar 1) (eC (.int 0))) (eC (.str "0")) [.str (S8 x), .str (S8 ds), .un] = .ok (decide ([c0] = [48])) := by
          rw [← str_dec, ← zero_S]
          simp [ix]
        have k2 : tC2 cNe (eVar 0) (eC (.str "0")) [.str (S8 x), .str (S8 ds), .un] = .ok (!decide (x = [48])) := by
          rw [← str_dec, ← zero_S]
          simp
        rw [sIf_, tAn_, k1]
        by_cases q : [c0] = [48]
        · rw [decide_eq_true q]
          have : x = [48] := by
            rcases h0 with h0 | h0
            · simp at q; exact absurd q h0
            · exact h0
          simp only [Res.bind, if_true, k2]
          rw [decide_eq_true this]
          rfl
        · rw [decide_eq_false q]
          rfl
  show (match f_number_written [.str (S8 x), .un, .un] with
    | .rt d => Res.ok d
    | .nx _ => .ok .non
    | .xc c _ => .xc c
    | _ => .bad) = _
  rw [fin]
end Lw
end

noncomputable section
namespace Lw
open DL L2 TL
open PySem (Str)
section
variable {p : Nat} {ts : List (Int × Int)}
end

end Lw
end

noncomputable section
namespace Lw
open DL L2
open PySem (Str)
theorem numL_lead : ∀ n : Nat, n ≠ 0 → ∃ c r, TL.numL n = c :: r ∧ c ≠ 48 := fun n => by
  induction n using Nat.strongRecOn with
  | _ n ih =>
    intro h0
    by_cases h : n < 10
    · exact ⟨48 + n, [], TL.numL_lt h, by omega⟩
    · obtain ⟨c, r, e, hc⟩ := ih (n / 10) (by omega) (by omega)
      exact ⟨c, r ++ [48 + n % 10], by rw [TL.numL_step (by omega), e]; rfl, hc⟩
theorem num_ok {n : Int} (h : n.natAbs < 10 ^ 60) : g_number_written [.str (tI n)] = .ok (.int n) := by
  rw [tI_S]
  have hl := TL.numL_len (n := n.natAbs) (k := 60) (by omega) h
  have hD := TL.numL_digits n.natAbs
  have hv := TL.numL_val n.natAbs
  have hne := TL.numL_ne n.natAbs
  obtain ⟨c0, r, hd⟩ : ∃ c0 r, TL.numL n.natAbs = c0 :: r := by
    cases hx : TL.numL n.natAbs with
    | nil => exact absurd hx hne
    | cons a l => exact ⟨a, l, rfl⟩
  have h0 : c0 ≠ 48 ∨ cd n = [48] := by
    by_cases z : n.natAbs = 0
    · right
      have : n = 0 := by omega
      subst this
      show TL.numL 0 = [48]
      exact TL.numL_lt (by omega)
    · left
      obtain ⟨c, r', e, hc⟩ := numL_lead _ z
      rw [hd] at e
      cases e
      exact hc
  have hi : PySem.intText? (S8 (cd n)) = some n := by
    unfold cd
    by_cases c : n < 0
    · rw [if_pos c]
      have := PySem.intText_neg (x := S8 (45 :: TL.numL n.natAbs)) (cs := TL.numL n.natAbs) rfl hD hne (by rw [SX.S_len, List.length_cons]; omega)
      rw [this, hv]
      congr 1
      omega
    · rw [if_neg c]
      have := PySem.intText_digits (x := S8 (TL.numL n.natAbs)) hD hne (by rw [SX.S_len]; omega)
      rw [this]
      show some ((PySem.NumText.digitsVal (TL.numL n.natAbs) : Nat) : Int) = _
      rw [hv]
      congr 1
      omega
  refine nw_raw (ds := TL.numL n.natAbs) (c0 := c0) (r := r) ?_ hd hl hD h0 hi ?_
  · unfold cd
    by_cases c : n < 0
    · rw [if_pos c]; exact .inl ⟨rfl, trivial⟩
    · rw [if_neg c]
      refine .inr ⟨rfl, fun z => ?_⟩
      rw [hd] at z
      have := hD c0 (by rw [hd]; exact List.mem_cons_self ..)
      simp at z
      omega
  · unfold cd
    split
    · rw [List.length_cons]; omega
    · omega
def lnC (w : List Nat) (ns : List Int) : List Nat := TL.joinL [32] (w :: ns.map cd)
theorem mem_joinL {s : List Nat} {c : Nat} : ∀ {ps : List (List Nat)}, c ∈ TL.joinL s ps → c ∈ s ∨ ∃ p ∈ ps, c ∈ p
  | [], h => nomatch h
  | [p], h => .inr ⟨p, List.mem_singleton.mpr rfl, h⟩
  | p :: q :: r, h => by
    have h : c ∈ p ++ (s ++ TL.joinL s (q :: r)) := h
    rcases List.mem_append.mp h with h | h
    · exact .inr ⟨p, List.mem_cons_self .., h⟩
    · rcases List.mem_append.mp h with h | h
      · exact .inl h
      · rcases mem_joinL h with h | ⟨x, hx, h⟩
        · exact .inl h
        · exact .inr ⟨x, List.mem_cons_of_mem _ hx, h⟩
theorem joinL_len (s : List Nat) (B : Nat) : ∀ ps : List (List Nat), (∀ p ∈ ps, p.length ≤ B) → (TL.joinL s ps).length ≤ ps.length * (B + s.length)
  | [], _ => Nat.zero_le _
  | [p], h => by
    have := h p (List.mem_singleton.mpr rfl)
    show p.length ≤ 1 * (B + s.length)
    omega
  | p :: q :: r, h => by
    have ih := joinL_len s B (q :: r) fun x hx => h x (List.mem_cons_of_mem _ hx)
    have := h p (List.mem_cons_self ..)
    show (p ++ (s ++ TL.joinL s (q :: r))).length ≤ _
    rw [List.length_append, List.length_append, List.length_cons, Nat.succ_mul]
    omega
theorem cd_len {n : Int} (h : n.natAbs < 10 ^ 60) : (cd n).length ≤ 61 := by
  have hl := TL.numL_len (n := n.natAbs) (k := 60) (by omega) h
  unfold cd
  split
  · rw [List.length_cons]; omega
  · omega
theorem sp_S : (" " : Str) = S8 [32] := by decide +kernel
theorem nl_S : ("\n" : Str) = S8 [10] := by decide +kernel
theorem split_ln {w : List Nat} {ns : List Int} (hw : 32 ∉ w) : PySem.Txt.split (S8 (lnC w ns)) " " = (w :: ns.map cd).map S8 := by
  rw [sp_S]
  refine (SX.split_S (b := [32]) (by decide) (by decide)).trans ?_
  rw [show TL.spl [32] 0 [] (lnC w ns) = w :: ns.map cd from SX.spl_join (by simp) fun p hp => by
    rcases List.mem_cons.mp hp with rfl | hp
    · exact hw
    · obtain ⟨i, _, rfl⟩ := List.mem_map.mp hp
      exact cd_free (by omega)]
theorem nb_c1 {x0 x1 x2 x3 : D} {ns : List Int} (hb : ∀ n ∈ ns, n.natAbs < 10 ^ 60) : lcL (gtN 4) tYesG f_numbers_behind_c1 [x0, x1, x2, x3, .un] ((ns.map tI).map D.str) = .ok (ns.map D.int) := by
  rw [List.map_map]
  refine lcL_mapN ns fun n hn => ?_
  have := num_ok (hb n hn)
  simp [f_numbers_behind_c1, this]
theorem nb_raw {l w : Str} {ns : List Int} {k : Int} (hs : PySem.Txt.split l " " = w :: ns.map tI) (hl : l.length + 2 ≤ lim) (hk : (ns.length : Int) = k) (hb : ∀ n ∈ ns, n.natAbs < 10 ^ 60) (bn : ns.length + 1 ≤ lim) : g_numbers_behind [.str l, .str w, .int k] = .ok (.ol (ns.map D.int)) := by
  subst hk
  have e1 : (" " : Str).length = 1 := by decide
  have e2 : ¬ (((" " : Str).length == 0) = true) := by decide
  obtain ⟨d1, d2, _, d4, _, _⟩ := dulls dull_str (w :: ns.map tI)
  have ix : opIx (.ls ((w :: ns.map tI).map D.str)) (.int 0) = some (.str w) := by
    show atI ((w :: ns.map tI).map D.str) 0 = _
    rw [List.map_cons]
    exact (DL.atI_natG (i := 0) (j := 0) rfl (by simp)).trans rfl
  have ln : (((w :: ns.map tI).map D.str).length : Int) = (ns.length : Int) + 1 := by simp
  have ct : opSl (.ls ((w :: ns.map tI).map D.str)) (some 1) none = some (.ol ((ns.map tI).map D.str)) := by
    have : cut ((w :: ns.map tI).map D.str) (some 1) none = (ns.map tI).map D.str := by rw [cut_from _ 1 (by omega)]; rfl
    show some (D.ol (cut _ _ _)) = _
    rw [this]
  have lc := fun x0 x1 x2 x3 => nb_c1 (x0 := x0) (x1 := x1) (x2 := x2) (x3 := x3) hb
  obtain ⟨t1, t2, _, t4, _, _⟩ := dulls dull_str (ns.map tI)
  have lt : ((ns.map tI).map D.str).length ≤ lim := by simp; omega
  generalize (ns.map tI).map D.str = NT at *
  have hsp : eSplit (eVar 0) (eC (.str " ")) [.str l, .str w, .int (ns.length : Int), .un, .un] = .ok (.ol ((w :: ns.map tI).map D.str)) := by
    simp [e1, hl]
    rw [hs]
    simp
  generalize (w :: ns.map tI).map D.str = WW at *
  have fin : f_numbers_behind [.str l, .str w, .int (ns.length : Int), .un, .un] = .rt (.ol (ns.map D.int)) := by
    unfold f_numbers_behind
    refine seq_to (g1 := [.str l, .str w, .int (ns.length : Int), .ls WW, .un]) ?_ ?_
    · show ((eSplit (eVar 0) (eC (.str " ")) [.str l, .str w, .int (ns.length : Int), .un, .un]).bind kp).st _ _ = _
      rw [hsp]
      simp [d2, d4]
    · refine seq_to (g1 := [.str l, .str w, .int (ns.length : Int), .ls WW, .un]) (by simp [ix, ln, d1, d2, d4]) ?_
      simp [ct, d1, d2, d4, t1, t2, t4, lc, lt]
  show (match f_numbers_behind [.str l, .str w, .int (ns.length : Int), .un, .un] with
    | .rt d => Res.ok d
    | .nx _ => .ok .non
    | .xc c _ => .xc c
    | _ => .bad) = _
  rw [fin]

def plC : List Nat := [112, 108, 97, 99, 101, 115]
def tiC : List Nat := [116, 105, 101]
theorem pl_S : ("places" : Str) = S8 plC := by decide +kernel
theorem ti_S : ("tie" : Str) = S8 tiC := by decide +kernel
theorem pls_S : ("places " : Str) = S8 (plC ++ [32]) := by decide +kernel
def tlC (e : Int × Int) (l : Int) : List Nat := lnC tiC [e.1, e.2, l]
theorem place_line (p : Int) : ("places " : Str) ++ tI p = S8 (lnC plC [p]) := by
  rw [pls_S, tI_S]
  refine (SX.S_cat _ _).trans ?_
  unfold lnC
  show S8 (plC ++ [32] ++ cd p) = S8 (plC ++ ([32] ++ cd p))
  rw [List.append_assoc]
def txC (p : Int) (R : List ((Int × Int) × Int)) : List Nat := TL.joinL [10] (lnC plC [p] :: R.map fun r => tlC r.1 r.2)
theorem lnC_free {w : List Nat} {ns : List Int} (hw : 10 ∉ w) : 10 ∉ lnC w ns := fun h => by
  rcases mem_joinL h with h2 | ⟨x, hx, h2⟩
  · simp at h2
  · rcases List.mem_cons.mp hx with q | hx
    · rw [q] at h2; exact hw h2
    · obtain ⟨i, _, rfl⟩ := List.mem_map.mp hx
      exact cd_free (by omega) h2
theorem split_tx (p : Int) (R : List ((Int × Int) × Int)) : PySem.Txt.split (S8 (txC p R)) "\n" = (lnC plC [p] :: R.map fun r => tlC r.1 r.2).map S8 := by
  rw [nl_S]
  refine (SX.split_S (b := [10]) (by decide) (by decide)).trans ?_
  rw [show TL.spl [10] 0 [] (txC p R) = lnC plC [p] :: R.map (fun r => tlC r.1 r.2) from SX.spl_join (by simp) fun q hq => by
    rcases List.mem_cons.mp hq with rfl | hq
    · exact lnC_free (by decide)
    · obtain ⟨i, _, rfl⟩ := List.mem_map.mp hq
      exact lnC_free (by decide)]
theorem lnC_len {w : List Nat} {ns : List Int} (hw : w.length ≤ 61) (hb : ∀ n ∈ ns, n.natAbs < 10 ^ 60) : (lnC w ns).length ≤ (ns.length + 1) * 62 := by
  have := joinL_len [32] 61 (w :: ns.map cd) fun q hq => by
    rcases List.mem_cons.mp hq with rfl | hq
    · exact hw
    · obtain ⟨i, hi, rfl⟩ := List.mem_map.mp hq
      exact cd_len (hb i hi)
  rw [List.length_cons, List.length_map] at this
  exact this
theorem txC_len {p : Int} {R : List ((Int × Int) × Int)} (hp : p.natAbs < 10 ^ 60) (hR : ∀ r ∈ R, r.1.1.natAbs < 10 ^ 60 ∧ r.1.2.natAbs < 10 ^ 60 ∧ r.2.natAbs < 10 ^ 60) : (txC p R).length ≤ (R.length + 1) * 249 := by
  have := joinL_len [10] 248 (lnC plC [p] :: R.map fun r => tlC r.1 r.2) fun q hq => by
    rcases List.mem_cons.mp hq with rfl | hq
    · exact Nat.le_trans (lnC_len (by decide) fun n hn => by rw [List.mem_singleton.mp hn]; exact hp) (by simp)
    · obtain ⟨r, hr, rfl⟩ := List.mem_map.mp hq
      obtain ⟨h1, h2, h3⟩ := hR r hr
      refine lnC_len (by decide) fun n hn => ?_
      rcases List.mem_cons.mp hn with rfl | hn
      · exact h1
      · rcases List.mem_cons.mp hn with rfl | hn
        · exact h2
        · rw [List.mem_singleton.mp hn]; exact h3
  rw [List.length_cons, List.length_map] at this
  exact this
section
variable {p : Nat} {ts : List (Int × Int)} {L : List Int}
end

def rowC (r : (Int × Int) × Int) : List Int := [r.1.1, r.1.2, r.2]
theorem tl_split (e : Int × Int) (l : Int) : PySem.Txt.split (S8 (tlC e l)) " " = ("tie" : Str) :: [e.1, e.2, l].map tI := by
  rw [show tlC e l = lnC tiC [e.1, e.2, l] from rfl, split_ln (by decide), List.map_cons, ti_S, List.map_map]
  congr 1
  exact List.map_congr_left fun i _ => (tI_S i).symm
theorem pl_split (p : Int) : PySem.Txt.split (S8 (lnC plC [p])) " " = ("places" : Str) :: [p].map tI := by
  rw [split_ln (by decide), List.map_cons, pl_S, List.map_map]
  congr 1
  exact List.map_congr_left fun i _ => (tI_S i).symm
theorem rd_row {r : (Int × Int) × Int} (h1 : r.1.1.natAbs < 10 ^ 60) (h2 : r.1.2.natAbs < 10 ^ 60) (h3 : r.2.natAbs < 10 ^ 60) : g_numbers_behind [.str (S8 (tlC r.1 r.2)), .str "tie", .int 3] = .ok (.ol ((rowC r).map D.int)) := by
  have hb : ∀ n ∈ rowC r, n.natAbs < 10 ^ 60 := fun n hn => by
    rcases List.mem_cons.mp hn with rfl | hn
    · exact h1
    · rcases List.mem_cons.mp hn with rfl | hn
      · exact h2
      · rw [List.mem_singleton.mp hn]; exact h3
  refine nb_raw (tl_split r.1 r.2) ?_ rfl hb (by show 3 + 1 ≤ lim; rw [lim_eq]; omega)
  rw [SX.S_len]
  have := lnC_len (w := tiC) (ns := rowC r) (by decide) hb
  have e : (rowC r).length = 3 := rfl
  rw [e] at this
  show (lnC tiC (rowC r)).length + 2 ≤ lim
  rw [lim_eq]
  omega
theorem rd_pl {p : Int} (hp : p.natAbs < 10 ^ 60) : g_numbers_behind [.str (S8 (lnC plC [p])), .str "places", .int 1] = .ok (.ol ([p].map D.int)) := by
  have hb : ∀ n ∈ [p], n.natAbs < 10 ^ 60 := fun n hn => by rw [List.mem_singleton.mp hn]; exact hp
  refine nb_raw (pl_split p) ?_ rfl hb (by show 1 + 1 ≤ lim; rw [lim_eq]; omega)
  rw [SX.S_len]
  have := lnC_len (w := plC) (ns := [p]) (by decide) hb
  have e : [p].length = 1 := rfl
  rw [e] at this
  rw [lim_eq]
  omega
theorem rw_c1 {x0 x1 x2 x3 x5 : D} {R : List ((Int × Int) × Int)} (hR : ∀ r ∈ R, r.1.1.natAbs < 10 ^ 60 ∧ r.1.2.natAbs < 10 ^ 60 ∧ r.2.natAbs < 10 ^ 60) : lcL (gtN 4) tYesG f_read_web_c1 [x0, x1, x2, x3, .un, x5] (R.map fun r => D.str (S8 (tlC r.1 r.2))) = .ok ((R.map rowC).map dO') := by
  rw [List.map_map]
  refine lcL_mapN R fun r hr => ?_
  obtain ⟨h1, h2, h3⟩ := hR r hr
  have := rd_row h1 h2 h3
  simp only [List.set]
  simp [f_read_web_c1, this, dO']
theorem row_ix (r : (Int × Int) × Int) : atI ((rowC r).map D.int) 0 = some (.int r.1.1) ∧ atI ((rowC r).map D.int) 1 = some (.int r.1.2) ∧ atI ((rowC r).map D.int) 2 = some (.int r.2) := ⟨rfl, rfl, rfl⟩
theorem rw_c2 {x0 x1 x2 x3 x4 : D} (R : List ((Int × Int) × Int)) : lcL (gtN 5) tYesG f_read_web_c2 [x0, x1, x2, x3, x4, .un] ((R.map rowC).map dR) = .ok ((R.map fun r => r.2).map D.int) := by
  rw [List.map_map, List.map_map]
  refine lcL_mapN R fun r hr => ?_
  obtain ⟨h1, h2, h3⟩ := row_ix r
  simp only [Function.comp, dR]
  generalize (rowC r).map D.int = Q at *
  simp [f_read_web_c2, h3]
theorem rw_c3 {x0 x1 x2 x3 x4 : D} (R : List ((Int × Int) × Int)) : lcL (gtN 5) tYesG f_read_web_c3 [x0, x1, x2, x3, x4, .un] ((R.map rowC).map dR) = .ok ((R.map fun r => r.1).map dP) := by
  rw [List.map_map, List.map_map]
  refine lcL_mapN R fun r hr => ?_
  obtain ⟨h1, h2, h3⟩ := row_ix r
  have l2 : 2 ≤ lim := by rw [lim_eq]; omega
  simp only [Function.comp, dR]
  generalize (rowC r).map D.int = Q at *
  simp [f_read_web_c3, h1, h2, l2, dP]
theorem read_raw {p : Int} {R : List ((Int × Int) × Int)} {x : Str} (hx : x.length + 2 ≤ lim) (sp : PySem.Txt.split x "\n" = (lnC plC [p] :: R.map fun r => tlC r.1 r.2).map S8) (hp : p.natAbs < 10 ^ 60) (hR : ∀ r ∈ R, r.1.1.natAbs < 10 ^ 60 ∧ r.1.2.natAbs < 10 ^ 60 ∧ r.2.natAbs < 10 ^ 60) (bRl : R.length + 1 ≤ lim) (ei : g_Web_init [.int p, .ls ((R.map fun r => r.1).map dP)] = .ok [.int p, .ol ((R.map fun r => r.1).map dP)]) : g_read_web [.str x] = .ok (.tp [.ob 14 [.int p, .ls ((R.map fun r => r.1).map dP)], .ls ((R.map fun r => r.2).map D.int)]) := by
  have e1 : ("\n" : Str).length = 1 := by decide
  have hsp : eSplit (eVar 0) (eC (.str "\n")) [.str x, .un, .un, .un, .un, .un] = .ok (.ol (.str (S8 (lnC plC [p])) :: R.map fun r => D.str (S8 (tlC r.1 r.2)))) := by
    simp [e1, hx]
    rw [sp, List.map_cons, List.map_map, List.map_cons, List.map_map]
    rfl
  have dS : ∀ Q : List ((Int × Int) × Int), nods (Q.map fun r => D.str (S8 (tlC r.1 r.2))) = true ∧ frzs (Q.map fun r => D.str (S8 (tlC r.1 r.2))) = Q.map (fun r => D.str (S8 (tlC r.1 r.2))) ∧ brws (Q.map fun r => D.str (S8 (tlC r.1 r.2))) = Q.map (fun r => D.str (S8 (tlC r.1 r.2))) := fun Q => by
    induction Q with
    | nil => exact ⟨rfl, rfl, rfl⟩
    | cons a Q ih => rw [List.map_cons]; simp only [nods, frzs, brws, ih.1, ih.2.1, ih.2.2]; exact ⟨rfl, rfl, rfl⟩
  obtain ⟨n1, n2, n3⟩ := dS R
  have pl := rd_pl hp
  have lc1 := fun x0 x1 x2 x3 x5 => rw_c1 (x0 := x0) (x1 := x1) (x2 := x2) (x3 := x3) (x5 := x5) hR
  have lc2 := fun x0 x1 x2 x3 x4 => rw_c2 (x0 := x0) (x1 := x1) (x2 := x2) (x3 := x3) (x4 := x4) R
  have lc3 := fun x0 x1 x2 x3 x4 => rw_c3 (x0 := x0) (x1 := x1) (x2 := x2) (x3 := x3) (x4 := x4) R
  obtain ⟨f1, f2⟩ := fO (R.map rowC)
  have rr := Lw.bR (R.map rowC)
  have lN : (R.map fun r => D.str (S8 (tlC r.1 r.2))).length = R.length := List.length_map ..
  have lR : (R.map rowC).length = R.length := List.length_map ..
  generalize (R.map fun r => D.str (S8 (tlC r.1 r.2))) = NN at *
  generalize R.map rowC = RR at *
  have bP := brws_P (R.map fun r => r.1)
  generalize (R.map fun r => r.1) = TT at *
  generalize (R.map fun r => r.2) = LL at *
  have ix : atI (D.str (S8 (lnC plC [p])) :: NN) 0 = some (.str (S8 (lnC plC [p]))) := (DL.atI_natG (i := 0) (j := 0) rfl (by simp)).trans rfl
  have ct : cut (D.str (S8 (lnC plC [p])) :: NN) (some 1) none = NN := by rw [cut_from _ 1 (by omega)]; rfl
  have b0 : R.length ≤ lim := by omega
  have l2 : 2 ≤ lim := by rw [lim_eq]; omega
  generalize S8 (lnC plC [p]) = l0 at *
  simp only [List.map_cons, List.map_nil] at pl
  have i0 : atI [D.int p] 0 = some (.int p) := rfl
  have fin : f_read_web [.str x, .un, .un, .un, .un, .un] = .rt (.tp [.ob 14 [.int p, .ls (TT.map dP)], .ls (LL.map D.int)]) := by
    unfold f_read_web
    refine seq_to (g1 := [.str x, .ls (.str l0 :: NN), .un, .un, .un, .un]) ?_ ?_
    · show ((eSplit _ _ _).bind kp).st _ _ = _
      rw [hsp]
      simp [n1, n2]
    · refine seq_to (g1 := [.str x, .ls (.str l0 :: NN), .int p, .un, .un, .un]) (by simp [ix, pl, i0, n1, n2, n3]) ?_
      refine seq_to (g1 := [.str x, .ls (.str l0 :: NN), .int p, .ls (RR.map dR), .un, .un]) (by simp [ct, n1, n2, n3, lc1, lN, b0, f1, f2]) ?_
      simp [rr.1, rr.2.1, rr.2.2.2.1, lc3, lc2, lR, b0, ei, l2]
  show (match f_read_web [.str x, .un, .un, .un, .un, .un] with
    | .rt d => Res.ok d
    | .nx _ => .ok .non
    | .xc c _ => .xc c
    | _ => .bad) = _
  rw [fin]
end Lw
end

noncomputable section
namespace Lw
open DL
def f_tree_at_l1 : Env → Out := sSeq (sAsgF 5 (eOwn g_count_with (aCons (eVar 0) (aCons (eBin opAdd (eVar 2) (eTup (aConsO (eVar 4) (aNil)))) (aCons (eVar 3) (aNil)))))) (sIf (tC2 cLt (eVar 1) (eVar 5)) (sAsgF 2 (eBin opAdd (eVar 2) (eTup (aConsO (eVar 4) (aNil))))) (sSeq (sAsgF 1 (eBin opSub (eVar 1) (eVar 5))) (sAsgF 3 (eBin opAdd (eVar 3) (eTup (aConsO (eVar 4) (aNil)))))))
def f_tree_at : Env → Out := sSeq (sIf (tOr_ (tC2 cLt (eVar 1) (eC (.int 0))) (tC2 cGe (eVar 1) (eOwn g_tree_count (aCons (eVar 0) (aNil))))) (sRaise 6) (sNil)) (sSeq (sAsgF 2 (eTup (aNil))) (sSeq (sAsgF 3 (eTup (aNil))) (sSeq (sFor (iRg1 (aCons (eCall caLen (aCons (eUn (opFld 14 1) (eVar 0)) (aNil))) (aNil))) (gtN 4) f_tree_at_l1) (sRetV 2))))
def g_tree_at : List D → Res D := runF f_tree_at 6
end Lw
end

noncomputable section
namespace Lw
open DL
end Lw
end

noncomputable section
namespace Lw
open DL
end Lw
end

noncomputable section
namespace Lw
open DL
end Lw
end

noncomputable section
namespace Lw
open DL
def f_Desk_init : Env → Out := sFld 0 16 0 (eLst (aConsO (eOwn g_read_web (aCons (eVar 1) (aNil))) (aNil)))
def g_Desk_init : List D → Res (List D) := mirI f_Desk_init 16 2
end Lw
end

namespace Lw
open DL L2 TL
section
variable {p : Nat} {ts : List (Int × Int)}
end
end Lw

namespace Lw
open DL L2 TL
section
variable (p : Nat) (ts : List (Int × Int))
end
section
variable {p : Nat} {ts : List (Int × Int)}
variable {kept shut base : List Int} {lead : Int}
end
end Lw

namespace Lw
open DL L2 TL
section
variable {p : Nat} {ts : List (Int × Int)} {kept shut base : List Int} {lead : Int}
end
end Lw

noncomputable section
namespace Lw
open DL L2 TL
def wD (p : Nat) (ts : List (Int × Int)) : D := .ob 14 [.int p, .ls (ts.map dP)]
section
variable {p : Nat} {ts : List (Int × Int)}
end
end Lw
end

noncomputable section
namespace Lw
open DL L2 TL
section
variable {p : Nat} {ts : List (Int × Int)} {kept shut base : List Int} {lead size : Int}
end
end Lw
end

noncomputable section
namespace Lw
open DL L2 TL
section
variable {p : Nat} {ts : List (Int × Int)} {kept shut base : List Int} {lead size : Int}
end
end Lw
end

noncomputable section
namespace Lw
open DL L2 TL
section
variable {p : Nat} {ts : List (Int × Int)} {kept shut base : List Int} {lead size : Int} {gr : List D → Res D}
end
end Lw
end

noncomputable section
namespace Lw
open DL L2 TL
section
variable {p : Nat} {ts : List (Int × Int)} {kept shut base : List Int} {lead size : Int} {gr : List D → Res D}
end
section
variable {p : Nat} {ts : List (Int × Int)}
end
end Lw
end

noncomputable section
namespace Lw
open DL L2 TL
section
variable {p : Nat} {ts : List (Int × Int)}
variable (hp : 1 ≤ p) (hp2 : p ≤ 14) (hE : EndsOk p ts) (ht : ts.length ≤ 30)
end
end Lw
end

noncomputable section
namespace Lw
open DL L2 TL
section
variable {p : Nat} {ts : List (Int × Int)}
end
end Lw
end

noncomputable section
namespace Lw
open DL L2 TL
section
variable {L : List Int} {p : Nat} {ts : List (Int × Int)} {O I S : List Int}
end
end Lw
end

noncomputable section
namespace Lw
open DL L2 TL
section
variable {L : List Int} {p : Nat} {ts : List (Int × Int)} {O : List Int}
end
end Lw
end

noncomputable section
namespace Lw
open DL L2 TL
open PySem (PyData)
section
variable {L : List Int} {p : Nat} {ts : List (Int × Int)} {O : List Int} {w : D}
end
end Lw
end

noncomputable section
namespace Lw
open DL L2 TL
open PySem (PyData)
section
variable {L : List Int} {p : Nat} {ts : List (Int × Int)} {O : List Int} {w : D}
end
end Lw
end

noncomputable section
namespace Lw
open DL L2 TL
open PySem (PyData)
section
variable {L : List Int} {p : Nat} {ts : List (Int × Int)} {O : List Int} {w : D}
end
end Lw
end

noncomputable section
namespace Lw
open DL L2 TL
open PySem (Str)
theorem run_rt {f : Env → Out} {n : Nat} {ds : List D} {g : Env} {d : D} (h : f g = .rt d) (hg : ds ++ List.replicate (n - ds.length) .un = g) : runF f n ds = .ok d := by
  unfold runF
  rw [hg, h]
end Lw
end

noncomputable section
namespace Lw
open DL
end Lw
end

noncomputable section
namespace Lw
open DL
end Lw
end

namespace Lw
open DL L2 TL
section
variable {p : Nat} {ts : List (Int × Int)}
end
end Lw

noncomputable section
namespace Lw
open DL L2 TL
open PySem (Str PyData)
def outR (o : Out) : Res D := match o with
  | .rt d => .ok d
  | .nx _ => .ok .non
  | .xc c _ => .xc c
  | _ => .bad
@[simp] theorem outR_rt (d : D) : outR (.rt d) = .ok d := rfl
@[simp] theorem outR_xc (c : Nat) (g : Env) : outR (.xc c g) = .xc c := rfl
@[simp] theorem outR_bad : outR .bad = .bad := rfl
def dk (p : Nat) (ts : List (Int × Int)) (L : List Int) : D := .ob 16 [.ls [.tp [wD p ts, .ls (L.map D.int)]]]
section
variable {p : Nat} {ts : List (Int × Int)} {L : List Int}
theorem desk_init {x : Str} (rd : g_read_web [.str x] = .ok (.tp [.ob 14 [.int p, .ls (ts.map dP)], .ls (L.map D.int)])) : g_Desk_init [.str x] = .ok [.ol [.tp [wD p ts, .ls (L.map D.int)]]] := by
  refine mirI_eq fun y => ?_
  simp [DL.runI, f_Desk_init, rd, wD, outI]
theorem desk_make {x : Str} {g : Env} {e : Env → Res D} (he : e g = .ok (.str x)) (rd : g_read_web [.str x] = .ok (.tp [.ob 14 [.int p, .ls (ts.map dP)], .ls (L.map D.int)])) : eMkF 16 g_Desk_init (aCons e aNil) g = .ok (dk p ts L) := by
  have h := desk_init rd
  simp [he, h, dk, wD]
end
end Lw
end

noncomputable section
namespace Lw
open DL L2 TL
open PySem (Str PyData)
section
variable {p : Nat} {ts : List (Int × Int)} {L : List Int}
end
end Lw
end

noncomputable section
namespace Lw
open DL L2 TL
open PySem (Str PyData)
@[simp] theorem wne_cheapest_count : ¬ (("cheapest" : Str) = "count") := by decide +kernel
@[simp] theorem wne_row_tree : ¬ (("row" : Str) = "tree") := by decide +kernel
@[simp] theorem wne_rank_tree : ¬ (("rank" : Str) = "tree") := by decide +kernel
@[simp] theorem wne_rank_row : ¬ (("rank" : Str) = "row") := by decide +kernel
@[simp] theorem wne_place_number : ¬ (("place" : Str) = "number") := by decide +kernel
@[simp] theorem wne_next_number : ¬ (("next" : Str) = "number") := by decide +kernel
@[simp] theorem wne_next_place : ¬ (("next" : Str) = "place") := by decide +kernel
@[simp] theorem wne_share_number : ¬ (("share" : Str) = "number") := by decide +kernel
@[simp] theorem wne_share_place : ¬ (("share" : Str) = "place") := by decide +kernel
@[simp] theorem wne_share_next : ¬ (("share" : Str) = "next") := by decide +kernel
section
variable {p : Nat} {ts : List (Int × Int)} {L : List Int}
end
end Lw
end

noncomputable section
namespace Lw
open DL
end Lw
end

namespace Lw
open DL L2 TL
end Lw

noncomputable section
namespace Lw
open DL
end Lw
end

namespace Lw
open DL L2 TL
end Lw

noncomputable section
namespace Lw
open DL
end Lw
end

namespace Lw
open DL L2 TL
end Lw

noncomputable section
namespace Lw
open DL
end Lw
end

noncomputable section
namespace Lw
open DL
end Lw
end

namespace Lw
open DL L2 TL
end Lw

noncomputable section
namespace Lw
open DL
end Lw
end

noncomputable section
namespace Lw
open DL L2 TL
open PySem (Str)
section
variable {L : List Int} {p : Nat} {ts : List (Int × Int)}
end
end Lw
end

noncomputable section
namespace Lw
open DL L2 TL
open PySem (Str PyData)
section
variable {p : Nat} {ts : List (Int × Int)} {L : List Int}
end
end Lw
end

noncomputable section
namespace Lw
open DL L2 TL
open PySem (Str)
section
variable {L : List Int} {p : Nat} {ts : List (Int × Int)}
end
end Lw
end

noncomputable section
namespace Lw
open DL
end Lw
end

noncomputable section
namespace Lw
open DL L2 TL
open PySem (Str PyData)
section
variable {p : Nat} {ts : List (Int × Int)} {L : List Int}
end
end Lw
end

noncomputable section
namespace Lw
open DL L2 TL
open PySem (Str PyData)
theorem web_bad_l1 (p : Int) (x0 x2 : D) : ∀ (l : List (Int × Int)) (y3 y4 : D), ¬ EndsOk p l →
    ∃ g, forL (gtT 2 (gtCons (gtN 3) (gtCons (gtN 4) (gtNil)))) f_Web_init_l1 (l.map dP) [x0, .int p, x2, y3, y4] = .xc 1 g
  | [], y3, y4, h => (h fun _ q => nomatch q).elim
  | (a, b) :: l, y3, y4, h => by
    by_cases c : (0 ≤ a ∧ a < p) ∧ 0 ≤ b ∧ b < p
    · have h' : ¬ EndsOk p l := fun q => h fun e he => by
        rcases List.mem_cons.mp he with rfl | he
        · exact c
        · exact q e he
      obtain ⟨g, e⟩ := web_bad_l1 p x0 x2 l (.int a) (.int b) h'
      refine ⟨g, ?_⟩
      rw [← e]
      obtain ⟨⟨h1, h2⟩, h3, h4⟩ := c
      simp [forL, f_Web_init_l1, h1, h2, h3, h4]
    · by_cases c1 : 0 ≤ a
      · by_cases c2 : a < p
        · by_cases c3 : 0 ≤ b
          · have c4 : ¬ b < p := fun q => c ⟨⟨c1, c2⟩, c3, q⟩
            exact ⟨[x0, .int p, x2, .int a, .int b], by simp [forL, f_Web_init_l1, c1, c2, c3, c4]⟩
          · exact ⟨[x0, .int p, x2, .int a, .int b], by simp [forL, f_Web_init_l1, c1, c2, c3]⟩
        · exact ⟨[x0, .int p, x2, .int a, .int b], by simp [forL, f_Web_init_l1, c1, c2]⟩
      · exact ⟨[x0, .int p, x2, .int a, .int b], by simp [forL, f_Web_init_l1, c1]⟩
theorem web_init_no (p : Int) (l : List (Int × Int)) (h : ¬ (1 ≤ p ∧ p ≤ 14 ∧ l.length ≤ 30 ∧ EndsOk p l)) : g_Web_init [.int p, .ls (l.map dP)] = .xc 1 := by
  refine mirI_eq fun x => ?_
  by_cases h1 : 1 ≤ p
  · by_cases h2 : p ≤ 14
    · by_cases h3 : l.length ≤ 30
      · have h4 : ¬ EndsOk p l := fun q => h ⟨h1, h2, h3, q⟩
        obtain ⟨g, e⟩ := web_bad_l1 p (.oo (some x) 14 []) (.ls (l.map dP)) l .un .un h4
        have h5 : ¬ (30 < (l.length : Int)) := by omega
        simp [DL.runI, f_Web_init, h1, h2, h5, e, outI]
      · have h5 : 30 < (l.length : Int) := by omega
        simp [DL.runI, f_Web_init, h1, h2, h5, outI]
    · simp [DL.runI, f_Web_init, h1, h2, outI]
  · simp [DL.runI, f_Web_init, h1, outI]
theorem nb_bad1 {l w w0 : Str} {R : List Str} {k : Int} (hs : PySem.Txt.split l " " = w0 :: R) (hl : l.length + 2 ≤ lim) (h : w0 ≠ w ∨ (R.length : Int) ≠ k) : g_numbers_behind [.str l, .str w, .int k] = .xc 12 := by
  have e1 : (" " : Str).length = 1 := by decide
  obtain ⟨d1, d2, _, d4, _, _⟩ := dulls dull_str (w0 :: R)
  have ix : opIx (.ls ((w0 :: R).map D.str)) (.int 0) = some (.str w0) := by
    show atI ((w0 :: R).map D.str) 0 = _
    rw [List.map_cons]
    exact (DL.atI_natG (i := 0) (j := 0) rfl (by simp)).trans rfl
  have ln : (((w0 :: R).map D.str).length : Int) = (R.length : Int) + 1 := by simp
  have hsp : eSplit (eVar 0) (eC (.str " ")) [.str l, .str w, .int k, .un, .un] = .ok (.ol ((w0 :: R).map D.str)) := by
    simp [e1, hl]
    rw [hs]
    simp
  generalize (w0 :: R).map D.str = WW at *
  have fin : ∃ g, f_numbers_behind [.str l, .str w, .int k, .un, .un] = .xc 12 g := by
    unfold f_numbers_behind
    refine ⟨[.str l, .str w, .int k, .ls WW, .un], seq_to (g1 := [.str l, .str w, .int k, .ls WW, .un]) ?_ ?_⟩
    · show ((eSplit (eVar 0) (eC (.str " ")) [.str l, .str w, .int k, .un, .un]).bind kp).st _ _ = _
      rw [hsp]
      simp [d2, d4]
    · by_cases c : w0 = w
      · subst c
        have h2 : ¬ ((R.length : Int) + 1 = k + 1) := by
          rcases h with h | h
          · exact (h rfl).elim
          · omega
        simp [ix, ln, h2, d1, d2, d4, cEq, cNe]
      · simp [ix, c, d1, d2, d4, cEq, cNe]
  obtain ⟨g, fin⟩ := fin
  show outR (f_numbers_behind [.str l, .str w, .int k, .un, .un]) = _
  rw [fin]
  rfl
end Lw
end

noncomputable section
namespace Lw
open DL
def f_place_from : Env → Out := sRet (eBin opIx (eBin opIx (eUn (opFld 14 1) (eVar 0)) (eBin opDiv (eVar 1) (eC (.int 2)))) (eBin opMod (eVar 1) (eC (.int 2))))
def g_place_from : List D → Res D := runF f_place_from 2
def f_look_at_turns_l1 : Env → Out := sSeq (sIf (tOr_ (tC2 cLt (eVar 5) (eC (.int 0))) (tOr_ (tC2 cGe (eVar 5) (eBin opMul (eC (.int 2)) (eCall caLen (aCons (eUn (opFld 14 1) (eVar 0)) (aNil))))) (tOr_ (tC2 cDI (eVar 5) (eVar 2)) (tC2 cNe (eOwn g_place_from (aCons (eVar 0) (aCons (eVar 5) (aNil)))) (eVar 3))))) (sRaise 10) (sNil)) (sDSet 2 (eVar 5) (eVar 3))
def f_look_at_turns_l2 : Env → Out := sFor (iSeq (eVar 4)) (gtN 5) f_look_at_turns_l1
def f_look_at_turns : Env → Out := sSeq (sIf (tC2 cNe (eCall caLen (aCons (eVar 1) (aNil))) (eUn (opFld 14 0) (eVar 0))) (sRaise 10) (sNil)) (sSeq (sAsg 2 (eDic)) (sSeq (sFor (iEnm3 (aCons (eVar 1) (aNil))) (gtT 2 (gtCons (gtN 3) (gtCons (gtN 4) (gtNil)))) f_look_at_turns_l2) (sIf (tC2 cNe (eCall caLenD (aCons (eVar 2) (aNil))) (eBin opMul (eC (.int 2)) (eCall caLen (aCons (eUn (opFld 14 1) (eVar 0)) (aNil))))) (sRaise 10) (sNil))))
def g_look_at_turns : List D → Res D := runF f_look_at_turns 6
def f_darts_behind_l1 : Env → Out := sDSet 1 (eBin opXor (eVar 4) (eC (.int 1))) (eBin opIx (eVar 2) (eBin opMod (eBin opAdd (eVar 3) (eC (.int 1))) (eCall caLen (aCons (eVar 2) (aNil)))))
def f_darts_behind_l2 : Env → Out := sFor (iEnm3 (aCons (eVar 2) (aNil))) (gtT 2 (gtCons (gtN 3) (gtCons (gtN 4) (gtNil)))) f_darts_behind_l1
def f_darts_behind : Env → Out := sSeq (sAsg 1 (eDic)) (sSeq (sFor (iSeq (eVar 0)) (gtN 2) f_darts_behind_l2) (sRetV 1))
def g_darts_behind : List D → Res D := runF f_darts_behind 5
def f_rounds_of_l1 : Env → Out := sSeq (sDSet 3 (eVar 7) (eC (.bl true))) (sSeq (sApp 6 (eVar 7)) (sAsgF 7 (eBin opDG (eVar 2) (eVar 7))))
def f_rounds_of_l1t : Env → Res Bool := tC2 cDN (eVar 7) (eVar 3)
def f_rounds_of_l3 : Env → Out := sIf (tC2 cDN (eVar 5) (eVar 3)) (sSeq (sAsg 6 (eLst (aNil))) (sSeq (sAsgF 7 (eVar 5)) (sSeq (sWhile f_rounds_of_l1t f_rounds_of_l1) (sAppMv 4 6)))) (sNil)
def f_rounds_of : Env → Out := sSeq (sExp (eOwn g_look_at_turns (aCons (eVar 0) (aCons (eVar 1) (aNil))))) (sSeq (sAsg 2 (eOwn g_darts_behind (aCons (eVar 1) (aNil)))) (sSeq (sAsg 3 (eDic)) (sSeq (sAsg 4 (eLst (aNil))) (sSeq (sFor (iRg1 (aCons (eBin opMul (eC (.int 2)) (eCall caLen (aCons (eUn (opFld 14 1) (eVar 0)) (aNil)))) (aNil))) (gtN 5) f_rounds_of_l3) (sSeq (sIf (tC2 cEq (eCall caLen (aCons (eVar 4) (aNil))) (eC (.int 0))) (sRet (eLst (aConsO (eLst (aNil)) (aNil)))) (sNil)) (sRetV 4))))))
def g_rounds_of : List D → Res D := runF f_rounds_of 8
def f_lies_flat : Env → Out := sSeq (sAsgF 2 (eOwn g_rounds_of (aCons (eVar 0) (aCons (eVar 1) (aNil))))) (sSeq (sAsgF 3 (eTR1 (eCall caLen (aCons (eUn (opFld 14 1) (eVar 0)) (aNil))))) (sRet (eB (tAn (tV (eOwn g_is_joined (aCons (eVar 0) (aCons (eVar 3) (aNil))))) (tC2 cEq (eBin opAdd (eBin opSub (eUn (opFld 14 0) (eVar 0)) (eCall caLen (aCons (eUn (opFld 14 1) (eVar 0)) (aNil)))) (eCall caLen (aCons (eVar 2) (aNil)))) (eC (.int 2)))))))
def g_lies_flat : List D → Res D := runF f_lies_flat 4
def f_other_web_l1 : Env → Out := sDSet 3 (eVar 6) (eVar 4)
def f_other_web_l2 : Env → Out := sFor (iSeq (eVar 5)) (gtN 6) f_other_web_l1
def f_other_web_c3 : Env → Res D := eTup (aConsO (eBin opDG (eVar 3) (eBin opMul (eC (.int 2)) (eVar 7))) (aConsO (eBin opDG (eVar 3) (eBin opAdd (eBin opMul (eC (.int 2)) (eVar 7)) (eC (.int 1)))) (aNil)))
def f_other_web : Env → Out := sSeq (sIf (tNo (tTr (eOwn g_lies_flat (aCons (eVar 0) (aCons (eVar 1) (aNil)))))) (sRaise 11) (sNil)) (sSeq (sAsgF 2 (eOwn g_rounds_of (aCons (eVar 0) (aCons (eVar 1) (aNil))))) (sSeq (sAsg 3 (eDic)) (sSeq (sFor (iEnm (aCons (eVar 2) (aNil))) (gtT 2 (gtCons (gtN 4) (gtCons (gtN 5) (gtNil)))) f_other_web_l2) (sRet (eMkF 14 g_Web_init (aCons (eCall caLen (aCons (eVar 2) (aNil))) (aCons (eLc (iRg1 (aCons (eCall caLen (aCons (eUn (opFld 14 1) (eVar 0)) (aNil))) (aNil))) [7] (gtN 7) (tYesG) f_other_web_c3) (aNil))))))))
def g_other_web : List D → Res D := runF f_other_web 8
end Lw
end

noncomputable section
namespace Lw
open DL
def f_Desk_back : Env → Out := sSeq (sIf (tC2 cEq (eCall caLen (aCons (eUn (opFld 16 0) (eVar 0)) (aNil))) (eC (.int 1))) (sRaise 13) (sNil)) (sSeq (sNever) (sRet (eBin opSub (eCall caLen (aCons (eUn (opFld 16 0) (eVar 0)) (aNil))) (eC (.int 1)))))
def g_Desk_back : List D → Res D := runF f_Desk_back 1
def f_law_first : Env → Out := sSeq (sAsgF 2 (eMkF 14 g_Web_init (aCons (eC (.int 2)) (aCons (eLst (aConsO (eTup (aConsO (eC (.int 0)) (aConsO (eC (.int 1)) (aNil)))) (aConsO (eTup (aConsO (eC (.int 1)) (aConsO (eC (.int 0)) (aNil)))) (aNil)))) (aNil))))) (sSeq (sIf (tC2 cEq (eVar 0) (eC (.int 0))) (sRet (eMkF 14 g_Web_init (aCons (eBin opIx (eLst (aConsO (eC (.int 0)) (aConsO (eC (.int 15)) (aConsO (eBin opAdd (eC (.int 15)) (eVar 1)) (aConsO (eUn opNeg (eVar 1)) (aNil)))))) (eBin opMod (eVar 1) (eC (.int 4)))) (aCons (eLst (aNil)) (aNil))))) (sNil)) (sSeq (sIf (tC2 cEq (eVar 0) (eC (.int 1))) (sRet (eOwn g_made_set (aCons (eVar 2) (aCons (eBin opIx (eLst (aConsO (eLst (aConsO (eC (.int 2)) (aNil))) (aConsO (eLst (aConsO (eC (.int 1)) (aConsO (eC (.int 0)) (aNil)))) (aConsO (eLst (aConsO (eC (.int 0)) (aConsO (eC (.int 0)) (aNil)))) (aConsO (eLst (aConsO (eBin opSub (eUn opNeg (eC (.int 1))) (eVar 1)) (aNil))) (aNil)))))) (eBin opMod (eVar 1) (eC (.int 4)))) (aNil))))) (sNil)) (sSeq (sIf (tC2 cEq (eVar 0) (eC (.int 2))) (sRet (eOwn g_least_tree (aCons (eMkF 14 g_Web_init (aCons (eBin opAdd (eC (.int 2)) (eBin opMod (eVar 1) (eC (.int 13)))) (aCons (eLst (aNil)) (aNil)))) (aNil)))) (sNil)) (sSeq (sIf (tC2 cEq (eVar 0) (eC (.int 3))) (sRet (eOwn g_ring_of (aCons (eVar 2) (aCons (eBin opIx (eLst (aConsO (eLst (aConsO (eC (.int 0)) (aConsO (eC (.int 1)) (aNil)))) (aConsO (eLst (aNil)) (aConsO (eLst (aConsO (eBin opAdd (eC (.int 2)) (eVar 1)) (aNil))) (aNil))))) (eBin opMod (eVar 1) (eC (.int 3)))) (aCons (eC (.int 0)) (aNil)))))) (sNil)) (sSeq (sIf (tC2 cEq (eVar 0) (eC (.int 4))) (sRet (eOwn g_ring_of (aCons (eVar 2) (aCons (eLst (aConsO (eC (.int 0)) (aNil))) (aCons (eBin opIx (eLst (aConsO (eC (.int 0)) (aConsO (eC (.int 2)) (aConsO (eUn opNeg (eC (.int 1))) (aConsO (eBin opAdd (eC (.int 2)) (eVar 1)) (aNil)))))) (eBin opMod (eVar 1) (eC (.int 4)))) (aNil)))))) (sNil)) (sRet (eOwn g_tree_at (aCons (eVar 2) (aCons (eBin opIx (eLst (aConsO (eC (.int 2)) (aConsO (eUn opNeg (eC (.int 1))) (aConsO (eBin opAdd (eC (.int 2)) (eVar 1)) (aConsO (eBin opSub (eUn opNeg (eC (.int 1))) (eVar 1)) (aNil)))))) (eBin opMod (eVar 1) (eC (.int 4)))) (aNil))))))))))
def g_law_first : List D → Res D := runF f_law_first 3
def f_law_second : Env → Out := sSeq (sAsgF 2 (eMkF 14 g_Web_init (aCons (eC (.int 2)) (aCons (eLst (aConsO (eTup (aConsO (eC (.int 0)) (aConsO (eC (.int 1)) (aNil)))) (aConsO (eTup (aConsO (eC (.int 1)) (aConsO (eC (.int 0)) (aNil)))) (aNil)))) (aNil))))) (sSeq (sIf (tC2 cEq (eVar 0) (eC (.int 6))) (sRet (eOwn g_determinant (aCons (eLst (aConsO (eLst (aConsO (eC (.int 1)) (aConsO (eVar 1) (aNil)))) (aConsO (eLst (aConsO (eVar 1) (aNil))) (aNil)))) (aNil)))) (sNil)) (sSeq (sIf (tC2 cEq (eVar 0) (eC (.int 7))) (sRet (eOwn g_solved (aCons (eLst (aConsO (eLst (aConsO (eC (.int 1)) (aConsO (eVar 1) (aNil)))) (aConsO (eLst (aConsO (eC (.int 2)) (aConsO (eBin opMul (eC (.int 2)) (eVar 1)) (aNil)))) (aNil)))) (aCons (eLst (aConsO (eVar 1) (aConsO (eC (.int 3)) (aNil)))) (aNil))))) (sNil)) (sSeq (sIf (tC2 cEq (eVar 0) (eC (.int 8))) (sRet (eOwn g_tree_sum (aCons (eVar 2) (aCons (eBin opMul (eLst (aConsO (eVar 1) (aNil))) (eBin opIx (eLst (aConsO (eC (.int 0)) (aConsO (eC (.int 1)) (aConsO (eC (.int 3)) (aNil))))) (eBin opMod (eVar 1) (eC (.int 3))))) (aNil))))) (sNil)) (sSeq (sIf (tC2 cEq (eVar 0) (eC (.int 9))) (sRet (eOwn g_rounds_of (aCons (eVar 2) (aCons (eBin opIx (eLst (aConsO (eLst (aConsO (eLst (aConsO (eC (.int 0)) (aConsO (eC (.int 3)) (aNil)))) (aConsO (eLst (aConsO (eC (.int 1)) (aNil))) (aNil)))) (aConsO (eLst (aConsO (eLst (aConsO (eC (.int 0)) (aNil))) (aConsO (eLst (aConsO (eC (.int 1)) (aConsO (eC (.int 2)) (aConsO (eC (.int 3)) (aNil))))) (aNil)))) (aConsO (eLst (aConsO (eLst (aConsO (eC (.int 0)) (aConsO (eC (.int 3)) (aConsO (eC (.int 1)) (aNil))))) (aConsO (eLst (aConsO (eC (.int 2)) (aNil))) (aNil)))) (aConsO (eLst (aConsO (eLst (aConsO (eC (.int 0)) (aConsO (eC (.int 3)) (aNil)))) (aNil))) (aNil)))))) (eBin opMod (eVar 1) (eC (.int 4)))) (aNil))))) (sNil)) (sSeq (sIf (tC2 cEq (eVar 0) (eC (.int 10))) (sRet (eOwn g_other_web (aCons (eMkF 14 g_Web_init (aCons (eC (.int 1)) (aCons (eLst (aConsO (eTup (aConsO (eC (.int 0)) (aConsO (eC (.int 0)) (aNil)))) (aConsO (eTup (aConsO (eC (.int 0)) (aConsO (eC (.int 0)) (aNil)))) (aNil)))) (aNil)))) (aCons (eLst (aConsO (eLst (aConsO (eC (.int 0)) (aConsO (eC (.int 2)) (aConsO (eC (.int 1)) (aConsO (eC (.int 3)) (aNil)))))) (aNil))) (aNil))))) (sNil)) (sSeq (sIf (tC2 cEq (eVar 0) (eC (.int 11))) (sRet (eOwn g_read_web (aCons (eBin opIx (eLst (aConsO (eC (.str "")) (aConsO (eC (.str "places")) (aConsO (eC (.str "places 2 1")) (aConsO (eBin opAdd (eC (.str "tie 0 1 ")) (eCall caStr (aCons (eVar 1) (aNil)))) (aNil)))))) (eBin opMod (eVar 1) (eC (.int 4)))) (aNil)))) (sNil)) (sRet (eMeth 16 g_Desk_back (eMkF 16 g_Desk_init (aCons (eBin opAdd (eC (.str "places ")) (eCall caStr (aCons (eBin opAdd (eC (.int 1)) (eBin opMod (eVar 1) (eC (.int 14)))) (aNil)))) (aNil))) (aNil)))))))))
def g_law_second : List D → Res D := runF f_law_second 3
def f_law_takers_rest (ad : PySem.Addr) (b0 b1 b2 b3 b4 b5 b6 b7 b8 b9 b10 b11 b12 b13 : Bool) : Env → Out := sSeq (sAsgF 4 (eLst (aConsO (eIs 2 ad b0) (aConsO (eIs 2 ad b1) (aConsO (eIs 2 ad b2) (aNil)))))) (sSeq (sAsgF 4 (eBin opAdd (eVar 4) (eLst (aConsO (eIs 2 ad b3) (aConsO (eIs 2 ad b4) (aConsO (eIs 2 ad b5) (aNil))))))) (sSeq (sAsgF 4 (eBin opAdd (eVar 4) (eLst (aConsO (eIs 2 ad b6) (aConsO (eIs 2 ad b7) (aConsO (eIs 2 ad b8) (aNil))))))) (sSeq (sAsgF 4 (eBin opAdd (eVar 4) (eLst (aConsO (eIs 2 ad b9) (aConsO (eIs 2 ad b10) (aConsO (eIs 2 ad b11) (aNil))))))) (sRet (eBin opAdd (eVar 4) (eLst (aConsO (eIs 2 ad b12) (aConsO (eIs 2 ad b13) (aNil)))))))))
def f_law_takers_s (ci : Nat) (ad : PySem.Addr) : Env → Out := match ci with
  | 1 => sAsgF 2 (eVar 3)
  | 2 => sAsgF 2 (eVar 3)
  | 3 => sAsgF 2 (eVar 3)
  | 4 => sAsgF 2 (eVar 3)
  | 5 => sAsgF 2 (eVar 3)
  | 6 => sAsgF 2 (eVar 3)
  | 7 => sAsgF 2 (eVar 3)
  | 8 => sAsgF 2 (eVar 3)
  | 9 => sAsgF 2 (eVar 3)
  | 10 => sAsgF 2 (eVar 3)
  | 11 => sAsgF 2 (eVar 3)
  | 12 => sAsgF 2 (eVar 3)
  | 13 => sAsgF 2 (eVar 3)
  | _ => sNever
def f_law_takers_r (ci : Nat) (ad : PySem.Addr) : Env → Out := match ci with
  | 1 => f_law_takers_rest ad true false false false false false false false false false false false false true
  | 2 => f_law_takers_rest ad false true false false false false false false false false false false false true
  | 3 => f_law_takers_rest ad false false true false false false false false false false false false false true
  | 4 => f_law_takers_rest ad false false false true false false false false false false false false false true
  | 5 => f_law_takers_rest ad false false false false true false false false false false false false false true
  | 6 => f_law_takers_rest ad false false false false false true false false false false false false false true
  | 7 => f_law_takers_rest ad false false false false false false true false false false false false false true
  | 8 => f_law_takers_rest ad false false false false false false false true false false false false false true
  | 9 => f_law_takers_rest ad false false false false false false false false true false false false false true
  | 10 => f_law_takers_rest ad false false false false false false false false false true false false false true
  | 11 => f_law_takers_rest ad false false false false false false false false false false true false false true
  | 12 => f_law_takers_rest ad false false false false false false false false false false false true false true
  | 13 => f_law_takers_rest ad false false false false false false false false false false false false true true
  | _ => sNever
def f_law_takers_hh (ci : Nat) : Env → Out := fun g => if g.length = 5 then thnO 3 (f_law_takers_r ci 0) (f_law_takers_s ci 0 (g.set 3 (.rf 0))) else .bad
def f_law_takers : Env → Out := sSeq (sAsgF 2 (eC .non)) (sTryK (sIf (tC2 cLt (eVar 0) (eC (.int 6))) (sExp (eOwn g_law_first (aCons (eVar 0) (aCons (eVar 1) (aNil))))) (sExp (eOwn g_law_second (aCons (eVar 0) (aCons (eVar 1) (aNil)))))) f_law_takers_hh)
def g_law_takers : List D → Res D := runF f_law_takers 5
theorem heq_law_takers : ∀ c a g, f_law_takers_hh c g = .bad ∨ thnO 3 (f_law_takers_r c a) (f_law_takers_s c a (g.set 3 (.rf a))) = f_law_takers_hh c g := by
  intro c a g
  unfold f_law_takers_hh
  have lm : ∀ n : Nat, n ≤ 20 → n ≤ lim := fun n h => by rw [lim_eq]; omega
  by_cases h : g.length = 5
  · right
    rw [if_pos h]
    match g, h with
    | [x0, x1, x2, x3, x4], _ =>
      match c with
      | 1 => simp [f_law_takers_s, f_law_takers_r, f_law_takers_rest, thnO, frz, frzs, lm]
      | 2 => simp [f_law_takers_s, f_law_takers_r, f_law_takers_rest, thnO, frz, frzs, lm]
      | 3 => simp [f_law_takers_s, f_law_takers_r, f_law_takers_rest, thnO, frz, frzs, lm]
      | 4 => simp [f_law_takers_s, f_law_takers_r, f_law_takers_rest, thnO, frz, frzs, lm]
      | 5 => simp [f_law_takers_s, f_law_takers_r, f_law_takers_rest, thnO, frz, frzs, lm]
      | 6 => simp [f_law_takers_s, f_law_takers_r, f_law_takers_rest, thnO, frz, frzs, lm]
      | 7 => simp [f_law_takers_s, f_law_takers_r, f_law_takers_rest, thnO, frz, frzs, lm]
      | 8 => simp [f_law_takers_s, f_law_takers_r, f_law_takers_rest, thnO, frz, frzs, lm]
      | 9 => simp [f_law_takers_s, f_law_takers_r, f_law_takers_rest, thnO, frz, frzs, lm]
      | 10 => simp [f_law_takers_s, f_law_takers_r, f_law_takers_rest, thnO, frz, frzs, lm]
      | 11 => simp [f_law_takers_s, f_law_takers_r, f_law_takers_rest, thnO, frz, frzs, lm]
      | 12 => simp [f_law_takers_s, f_law_takers_r, f_law_takers_rest, thnO, frz, frzs, lm]
      | 13 => simp [f_law_takers_s, f_law_takers_r, f_law_takers_rest, thnO, frz, frzs, lm]
      | 0 => rfl
      | z + 14 => rfl
  · left; rw [if_neg h]
def f_law_k82_c1 : Env → Res D := eTup (aConsO (eVar 4) (aConsO (eBin opMul (eC (.int 3)) (eVar 4)) (aNil)))
def f_law_k82_l2 : Env → Out := sSeq (sAsgF 3 (eOwn g_law_cell (aCons (eVar 0) (aCons (eVar 2) (aNil))))) (sApp 1 (eTup (aConsO (eBin opMod (eVar 3) (eC (.int 13))) (aConsO (eBin opMod (eBin opDiv (eVar 3) (eC (.int 13))) (eBin opPow (eC (.int 10)) (eC (.int 40)))) (aNil)))))
def f_law_k82_c3 : Env → Res D := eB (tC2 cEq (eVar 2) (eVar 4))
def f_law_k82_l4 : Env → Out := sIf (tC2 cNe (eOwn g_law_takers (aCons (eVar 4) (aCons (eVar 5) (aNil)))) (eBin opAdd (eLc (iRg1 (aCons (eC (.int 13)) (aNil))) [2] (gtN 2) (tYesG) f_law_k82_c3) (eLst (aConsO (eC (.bl true)) (aNil))))) (sRet (eC (.bl false))) (sNil)
def f_law_k82 : Env → Out := sSeq (sAsg 1 (eLc (iRg1 (aCons (eC (.int 13)) (aNil))) [4] (gtN 4) (tYesG) f_law_k82_c1)) (sSeq (sFor (iRg1 (aCons (eCall caMin2 (aCons (eCall caLen (aCons (eVar 0) (aNil))) (aCons (eC (.int 20)) (aNil)))) (aNil))) (gtN 2) f_law_k82_l2) (sSeq (sFrz 1 (sFor (iSeq (eVar 1)) (gtT 2 (gtCons (gtN 4) (gtCons (gtN 5) (gtNil)))) f_law_k82_l4)) (sRet (eC (.bl true)))))
def g_law_k82 : List D → Res D := runF f_law_k82 6
end Lw
end

noncomputable section
namespace Lw
open DL L2 TL
open PySem (Str PyData)
abbrev w2 : List (Int × Int) := [(0, 1), (1, 0)]
theorem e2 : EndsOk 2 w2 := fun q hq => by
  simp only [w2, List.mem_cons, List.not_mem_nil, or_false] at hq
  rcases hq with rfl | rfl <;> decide
theorem if_x {c : Env → Res Bool} {f r : Env → Out} {g g' : Env} {e : Nat} (hc : c g = .ok true) (hf : f g = .xc e g') : sSeq (sIf c f sNil) r g = .xc e g' := by simp [hc, hf]
theorem if_o {c : Env → Res Bool} {f r : Env → Out} {g : Env} {o : Out} (hc : c g = .ok false) (h : r g = o) : sSeq (sIf c f sNil) r g = o := by simp [hc, h]
theorem ret_x {fe : Env → Res D} {g : Env} {e : Nat} (h : fe g = .xc e) : sRet fe g = .xc e g := by simp [h]
theorem run_x {f : Env → Out} {n : Nat} {ds : List D} {g g' : Env} {e : Nat} (h : f g = .xc e g') (hg : ds ++ List.replicate (n - ds.length) .un = g) : runF f n ds = .xc e := by
  subst hg
  unfold runF
  rw [h]
theorem own_x {g : List D → Res D} {fs : Env → Res (List D)} {env : Env} {ds : List D} {e : Nat} (h : fs env = .ok ds) (hs : shd ds = true) (hg : g ds = .xc e) : eOwn g fs env = .xc e := by simp [h, hs, hg]
theorem web82 : g_Web_init [.int 2, .ls [.tp [.int 0, .int 1], .tp [.int 1, .int 0]]] = .ok [.int 2, .ol [.tp [.int 0, .int 1], .tp [.int 1, .int 0]]] := web_init_ok 2 w2 (by decide) (by decide) (by decide) e2
theorem pick4 (a b c d : D) (m : Int) : ∃ x, atI [a, b, c, d] (m % 4) = some x ∧ ((m % 4 = 0 ∧ x = a) ∨ (m % 4 = 1 ∧ x = b) ∨ (m % 4 = 2 ∧ x = c) ∨ (m % 4 = 3 ∧ x = d)) := by
  rcases (by omega : m % 4 = 0 ∨ m % 4 = 1 ∨ m % 4 = 2 ∨ m % 4 = 3) with h | h | h | h <;> rw [h]
  · exact ⟨a, rfl, .inl ⟨rfl, rfl⟩⟩
  · exact ⟨b, rfl, .inr (.inl ⟨rfl, rfl⟩)⟩
  · exact ⟨c, rfl, .inr (.inr (.inl ⟨rfl, rfl⟩))⟩
  · exact ⟨d, rfl, .inr (.inr (.inr ⟨rfl, rfl⟩))⟩
theorem pick3 (a b c : D) (m : Int) : ∃ x, atI [a, b, c] (m % 3) = some x ∧ ((m % 3 = 0 ∧ x = a) ∨ (m % 3 = 1 ∧ x = b) ∨ (m % 3 = 2 ∧ x = c)) := by
  rcases (by omega : m % 3 = 0 ∨ m % 3 = 1 ∨ m % 3 = 2) with h | h | h <;> rw [h]
  · exact ⟨a, rfl, .inl ⟨rfl, rfl⟩⟩
  · exact ⟨b, rfl, .inr (.inl ⟨rfl, rfl⟩)⟩
  · exact ⟨c, rfl, .inr (.inr ⟨rfl, rfl⟩)⟩
theorem lm82 : ∀ n : Nat, n ≤ 1000 → n ≤ lim := fun n h => by rw [lim_eq]; omega
theorem first_head {w : D} {f : Int} {r : Env → Out} {o : Out} (h : r [w, .int f, .ob 14 [.int 2, .ls [.tp [.int 0, .int 1], .tp [.int 1, .int 0]]]] = o) :
    sSeq (sAsgF 2 (eMkF 14 g_Web_init (aCons (eC (.int 2)) (aCons (eLst (aConsO (eTup (aConsO (eC (.int 0)) (aConsO (eC (.int 1)) (aNil)))) (aConsO (eTup (aConsO (eC (.int 1)) (aConsO (eC (.int 0)) (aNil)))) (aNil)))) (aNil))))) r [w, .int f, .un] = o :=
  seq_to (g1 := [w, .int f, .ob 14 [.int 2, .ls [.tp [.int 0, .int 1], .tp [.int 1, .int 0]]]]) (by have := lm82; simp [web82, this]) h
abbrev wB : D := .ob 14 [.int 2, .ls [.tp [.int 0, .int 1], .tp [.int 1, .int 0]]]
theorem way0 (f : Int) (hf : 0 ≤ f) : g_law_first [.int 0, .int f] = .xc 1 := by
  have lm := lm82
  obtain ⟨x, hx, hc⟩ := pick4 (.int 0) (.int 15) (.int (15 + f)) (.int (-f)) f
  have bad : ∀ p : Int, p < 1 ∨ 14 < p → g_Web_init [.int p, .ls []] = .xc 1 := fun p h => web_init_no p [] fun q => by omega
  have hy : g_Web_init [x, .ls []] = .xc 1 := by
    rcases hc with ⟨h, rfl⟩ | ⟨h, rfl⟩ | ⟨h, rfl⟩ | ⟨h, rfl⟩
    · exact bad _ (by omega)
    · exact bad _ (by omega)
    · exact bad _ (by omega)
    · exact bad _ (by omega)
  have xi : ∃ i : Int, x = .int i := by
    rcases hc with ⟨h, rfl⟩ | ⟨h, rfl⟩ | ⟨h, rfl⟩ | ⟨h, rfl⟩ <;> exact ⟨_, rfl⟩
  obtain ⟨i, rfl⟩ := xi
  refine run_x (g := [.int 0, .int f, .un]) (g' := [.int 0, .int f, wB]) ?_ rfl
  unfold f_law_first
  refine first_head (if_x (by simp) (ret_x ?_))
  simp [hx, hy, lm]
theorem way1 (f : Int) (hf : 0 ≤ f) : g_law_first [.int 1, .int f] = .xc 2 := by
  have lm := lm82
  obtain ⟨x, hx, hc⟩ := pick4 (.ls [.int 2]) (.ls [.int 1, .int 0]) (.ls [.int 0, .int 0]) (.ls [.int (-1 - f)]) f
  have bad : ∀ l : List Int, goodB 2 l = false → g_made_set [wB, .ls (l.map D.int)] = .xc 2 := fun l h => by
    have := made_set_ls 2 w2 l
    rw [show goodB (w2.length : Int) l = false from h] at this
    exact this
  have hy : g_made_set [wB, x] = .xc 2 := by
    rcases hc with ⟨h, rfl⟩ | ⟨h, rfl⟩ | ⟨h, rfl⟩ | ⟨h, rfl⟩
    · exact bad [2] rfl
    · exact bad [1, 0] rfl
    · exact bad [0, 0] rfl
    · exact bad [-1 - f] (by simp [goodB, goodAux]; omega)
  have xi : ∃ i : List D, x = .ls i := by
    rcases hc with ⟨h, rfl⟩ | ⟨h, rfl⟩ | ⟨h, rfl⟩ | ⟨h, rfl⟩ <;> exact ⟨_, rfl⟩
  obtain ⟨i, rfl⟩ := xi
  refine run_x (g := [.int 1, .int f, .un]) (g' := [.int 1, .int f, wB]) ?_ rfl
  unfold f_law_first
  refine first_head (if_o (by simp) (if_x (by simp) (ret_x (own_x (ds := [wB, .ls i]) ?_ rfl hy))))
  simp [hx, lm]
theorem way2 (f : Int) (hf : 0 ≤ f) : g_law_first [.int 2, .int f] = .xc 3 := by
  have lm := lm82
  obtain ⟨p, ep, p2, p14⟩ : ∃ p : Nat, 2 + f % 13 = (p : Int) ∧ 2 ≤ p ∧ p ≤ 14 := ⟨(2 + f % 13).toNat, by omega, by omega, by omega⟩
  have E : EndsOk (p : Int) [] := fun q h => nomatch h
  have wi := web_init_ok p [] (by omega) (by omega) (by decide) E
  have wi : g_Web_init [.int p, .ls []] = .ok [.int p, .ol []] := wi
  have lt : g_least_tree [.ob 14 [.int p, .ls []]] = .xc 3 := by
    rcases (by omega : p = 2 ∨ p = 3 ∨ p = 4 ∨ p = 5 ∨ p = 6 ∨ p = 7 ∨ p = 8 ∨ p = 9 ∨ p = 10 ∨ p = 11 ∨ p = 12 ∨ p = 13 ∨ p = 14) with rfl | rfl | rfl | rfl | rfl | rfl | rfl | rfl | rfl | rfl | rfl | rfl | rfl <;> kernel_rfl
  refine run_x (g := [.int 2, .int f, .un]) (g' := [.int 2, .int f, wB]) ?_ rfl
  unfold f_law_first
  refine first_head (if_o (by simp) (if_o (by simp) (if_x (by simp) (ret_x (own_x (ds := [.ob 14 [.int p, .ls []]]) ?_ rfl lt)))))
  simp [ep, wi, lm]
theorem tree_no82 {f : Int} (hf : 0 ≤ f) : g_is_tree [wB, .ls [.int (2 + f)]] = .ok (.bl false) := by
  have h1 : ¬ (2 + f ≤ -1) := by omega
  have h2 : (2 : Int) ≤ 2 + f := by omega
  simp [g_is_tree, runF, f_is_tree, f_is_tree_l1, forL, h1, h2, hf]
theorem way3 (f : Int) (hf : 0 ≤ f) : g_law_first [.int 3, .int f] = .xc 4 := by
  have lm := lm82
  obtain ⟨x, hx, hc⟩ := pick3 (.ls [.int 0, .int 1]) (.ls []) (.ls [.int (2 + f)]) f
  have bad : ∀ LL : List D, g_is_tree [wB, .ls LL] = .ok (.bl false) → g_ring_of [wB, .ls LL, .int 0] = .xc 4 := fun LL h => by
    have lo : g_look_at_tree [wB, .ls LL] = .xc 4 := by simp [g_look_at_tree, runF, f_look_at_tree, h]
    refine run_x (n := 8) (g := [wB, .ls LL, .int 0, .un, .un, .un, .un, .un]) (g' := [wB, .ls LL, .int 0, .un, .un, .un, .un, .un]) ?_ rfl
    unfold f_ring_of
    rw [sSeq_, show sExp (eOwn g_look_at_tree (aCons (eVar 0) (aCons (eVar 1) (aNil)))) [wB, .ls LL, .int 0, .un, .un, .un, .un, .un] = .xc 4 [wB, .ls LL, .int 0, .un, .un, .un, .un, .un] from by simp [sExp, lo]]
  have hy : g_ring_of [wB, x, .int 0] = .xc 4 := by
    rcases hc with ⟨h, rfl⟩ | ⟨h, rfl⟩ | ⟨h, rfl⟩
    · exact bad _ (by kernel_rfl)
    · exact bad _ (by kernel_rfl)
    · exact bad _ (tree_no82 hf)
  have xi : ∃ i : List D, x = .ls i := by
    rcases hc with ⟨h, rfl⟩ | ⟨h, rfl⟩ | ⟨h, rfl⟩ <;> exact ⟨_, rfl⟩
  obtain ⟨i, rfl⟩ := xi
  refine run_x (g := [.int 3, .int f, .un]) (g' := [.int 3, .int f, wB]) ?_ rfl
  unfold f_law_first
  refine first_head (if_o (by simp) (if_o (by simp) (if_o (by simp) (if_x (by simp) (ret_x (own_x (ds := [wB, .ls i, .int 0]) ?_ rfl hy))))))
  simp [hx, lm]
theorem way4 (f : Int) (hf : 0 ≤ f) : g_law_first [.int 4, .int f] = .xc 5 := by
  have lm := lm82
  obtain ⟨x, hx, hc⟩ := pick4 (.int 0) (.int 2) (.int (-1)) (.int (2 + f)) f
  have lo : g_look_at_tree [wB, .ls [.int 0]] = .ok .non := by kernel_rfl
  have bad : ∀ t : Int, 2 ≤ t → g_ring_of [wB, .ls [.int 0], .int t] = .xc 5 := fun t h => by
    have h1 : ¬ (t < 2) := by omega
    have h0 : 0 ≤ t := by omega
    simp only [wB] at lo
    simp [g_ring_of, runF, f_ring_of, sExp, lo, h0, h1, sRaise]
  have hy : g_ring_of [wB, .ls [.int 0], x] = .xc 5 := by
    rcases hc with ⟨h, rfl⟩ | ⟨h, rfl⟩ | ⟨h, rfl⟩ | ⟨h, rfl⟩
    · kernel_rfl
    · kernel_rfl
    · kernel_rfl
    · exact bad _ (by omega)
  have xi : ∃ i : Int, x = .int i := by
    rcases hc with ⟨h, rfl⟩ | ⟨h, rfl⟩ | ⟨h, rfl⟩ | ⟨h, rfl⟩ <;> exact ⟨_, rfl⟩
  obtain ⟨i, rfl⟩ := xi
  refine run_x (g := [.int 4, .int f, .un]) (g' := [.int 4, .int f, wB]) ?_ rfl
  unfold f_law_first
  refine first_head (if_o (by simp) (if_o (by simp) (if_o (by simp) (if_o (by simp) (if_x (by simp) (ret_x (own_x (ds := [wB, .ls [.int 0], .int i]) ?_ rfl hy)))))))
  simp [hx, lm]
theorem way5 (f : Int) (hf : 0 ≤ f) : g_law_first [.int 5, .int f] = .xc 6 := by
  have lm := lm82
  obtain ⟨x, hx, hc⟩ := pick4 (.int 2) (.int (-1)) (.int (2 + f)) (.int (-1 - f)) f
  have tc : g_tree_count [wB] = .ok (.int 2) := by kernel_rfl
  have bad : ∀ t : Int, t < 0 ∨ 2 ≤ t → g_tree_at [wB, .int t] = .xc 6 := fun t h => by
    simp only [wB] at tc
    by_cases c : t < 0
    · simp [g_tree_at, runF, f_tree_at, tc, c, sRaise]
    · have c2 : 2 ≤ t := by omega
      simp [g_tree_at, runF, f_tree_at, tc, c, c2, sRaise]
  have hy : g_tree_at [wB, x] = .xc 6 := by
    rcases hc with ⟨h, rfl⟩ | ⟨h, rfl⟩ | ⟨h, rfl⟩ | ⟨h, rfl⟩
    · exact bad _ (by omega)
    · exact bad _ (by omega)
    · exact bad _ (by omega)
    · exact bad _ (by omega)
  have xi : ∃ i : Int, x = .int i := by
    rcases hc with ⟨h, rfl⟩ | ⟨h, rfl⟩ | ⟨h, rfl⟩ | ⟨h, rfl⟩ <;> exact ⟨_, rfl⟩
  obtain ⟨i, rfl⟩ := xi
  refine run_x (g := [.int 5, .int f, .un]) (g' := [.int 5, .int f, wB]) ?_ rfl
  unfold f_law_first
  refine first_head (if_o (by simp) (if_o (by simp) (if_o (by simp) (if_o (by simp) (if_o (by simp) (ret_x (own_x (ds := [wB, .int i]) ?_ rfl hy)))))))
  simp [hx, lm]
end Lw
end

noncomputable section
namespace Lw
open DL L2 TL
open PySem (Str PyData)
abbrev rwL (r : (Int × Int) × Int) : List Nat := tlC r.1 r.2
abbrev rOk (r : (Int × Int) × Int) : Prop := r.1.1.natAbs < 10 ^ 60 ∧ r.1.2.natAbs < 10 ^ 60 ∧ r.2.natAbs < 10 ^ 60
theorem rd_split {x : Str} {ls : List (List Nat)} (hx : x.length + 2 ≤ lim) (sp : PySem.Txt.split x "\n" = ls.map S8) : eSplit (eVar 0) (eC (.str "\n")) [.str x, .un, .un, .un, .un, .un] = .ok (.ol ((ls.map S8).map D.str)) := by
  have e1 : ("\n" : Str).length = 1 := by decide
  simp [e1, hx]
  rw [sp]
  simp
theorem rd_bad0 {x : Str} {l0 : List Nat} {ls : List (List Nat)} (hx : x.length + 2 ≤ lim) (sp : PySem.Txt.split x "\n" = (l0 :: ls).map S8) (h : g_numbers_behind [.str (S8 l0), .str "places", .int 1] = .xc 12) : g_read_web [.str x] = .xc 12 := by
  have hsp := rd_split hx sp
  obtain ⟨d1, d2, _, d4, _, _⟩ := dulls dull_str ((l0 :: ls).map S8)
  have ix : atI (((l0 :: ls).map S8).map D.str) 0 = some (.str (S8 l0)) := (DL.atI_natG (i := 0) (j := 0) rfl (by simp)).trans rfl
  generalize ((l0 :: ls).map S8).map D.str = NN at *
  generalize S8 l0 = L0 at *
  have fin : ∃ g, f_read_web [.str x, .un, .un, .un, .un, .un] = .xc 12 g := by
    unfold f_read_web
    refine ⟨[.str x, .ls NN, .un, .un, .un, .un], seq_to (g1 := [.str x, .ls NN, .un, .un, .un, .un]) ?_ ?_⟩
    · show ((eSplit _ _ _).bind kp).st _ _ = _
      rw [hsp]
      simp [d2, d4]
    · simp [ix, h, d1, d2, d4]
  obtain ⟨g, fin⟩ := fin
  show outR (f_read_web [.str x, .un, .un, .un, .un, .un]) = _
  rw [fin]
  rfl
def txL (ls : List (List Nat)) : Str := S8 (TL.joinL [10] ls)
theorem split_l {ls : List (List Nat)} (h0 : ls ≠ []) (h : ∀ w ∈ ls, 10 ∉ w) : PySem.Txt.split (txL ls) "\n" = ls.map S8 := by
  rw [nl_S]
  refine (SX.split_S (b := [10]) (by decide) (by decide)).trans ?_
  rw [show TL.spl [10] 0 [] (TL.joinL [10] ls) = ls from SX.spl_join h0 h]
end Lw
end

noncomputable section
namespace Lw
open DL
end Lw
end

noncomputable section
namespace Lw
open DL L2 TL
open PySem (Str PyData)
section
variable {w : List Nat} {ns : List Int} {m : Int}
end
end Lw
end

noncomputable section
namespace Lw
open DL L2 TL
open PySem (Str PyData)
theorem rwL_len {r : (Int × Int) × Int} (h : rOk r) : (rwL r).length ≤ 248 := by
  obtain ⟨h1, h2, h3⟩ := h
  refine lnC_len (w := tiC) (ns := [r.1.1, r.1.2, r.2]) (by decide) fun n hn => ?_
  rcases List.mem_cons.mp hn with rfl | hn
  · exact h1
  · rcases List.mem_cons.mp hn with rfl | hn
    · exact h2
    · rw [List.mem_singleton.mp hn]; exact h3
theorem tie_no (r : (Int × Int) × Int) (h : rOk r) : g_numbers_behind [.str (S8 (rwL r)), .str "places", .int 1] = .xc 12 := by
  refine nb_bad1 (w0 := "tie") (R := [r.1.1, r.1.2, r.2].map tI) (tl_split r.1 r.2) ?_ (.inl (by decide))
  rw [SX.S_len, lim_eq]
  have := rwL_len h
  omega
section
variable {p : Int} {R : List ((Int × Int) × Int)} {m : Int}
end
end Lw
end

noncomputable section
namespace Lw
open DL L2 TL
open PySem (Str PyData)
section
variable {p : Nat} {ts : List (Int × Int)} {L : List Int}
end
end Lw
end

noncomputable section
namespace Lw
open DL L2 TL
open PySem (Str PyData)
theorem run_rt82 {f : Env → Out} {n : Nat} {ds : List D} {g : Env} {d : D} (h : f g = .rt d) (hg : ds ++ List.replicate (n - ds.length) .un = g) : runF f n ds = .ok d := by
  subst hg
  unfold runF
  rw [h]
theorem second_head {w : D} {f : Int} {r : Env → Out} {o : Out} (h : r [w, .int f, wB] = o) :
    sSeq (sAsgF 2 (eMkF 14 g_Web_init (aCons (eC (.int 2)) (aCons (eLst (aConsO (eTup (aConsO (eC (.int 0)) (aConsO (eC (.int 1)) (aNil)))) (aConsO (eTup (aConsO (eC (.int 1)) (aConsO (eC (.int 0)) (aNil)))) (aNil)))) (aNil))))) r [w, .int f, .un] = o := first_head h
theorem way6 (f : Int) : g_law_second [.int 6, .int f] = .xc 7 := by
  have lm := lm82
  have hy : g_determinant [.ls [.ls [.int 1, .int f], .ls [.int f]]] = .xc 7 := by kernel_rfl
  refine run_x (g := [.int 6, .int f, .un]) (g' := [.int 6, .int f, wB]) ?_ rfl
  unfold f_law_second
  refine second_head (if_x (by simp) (ret_x (own_x (ds := [.ls [.ls [.int 1, .int f], .ls [.int f]]]) ?_ rfl hy)))
  simp [lm]
theorem cleared82 (f : Int) : g_cleared [.ls [.ls [.int 1, .int f], .ls [.int 2, .int (2 * f)]], .int 0, .int 1] = .ok (.ol [.ls [.int 0, .int 0]]) := by
  have lm := lm82
  have z : (2 * f * 1 - 2 * f) / 1 = 0 := by omega
  have li1 : 1 < lim := by rw [lim_eq]; omega
  have li0 : 0 < lim := by rw [lim_eq]; omega
  have r1 : rng 1 1 = [.int 1] := rfl
  have mu : opMul (.ls [.int 0]) (.int 1) = some (.ol [.int 0]) := by kernel_rfl
  have ix0 : atI [D.ls [.int 1, .int f], .ls [.int 2, .int (2 * f)]] 0 = some (.ls [.int 1, .int f]) := rfl
  have ia : atI [D.int 1, .int f] 0 = some (.int 1) := rfl
  have ib : atI [D.int 1, .int f] 1 = some (.int f) := rfl
  have ic : atI [D.int 2, .int (2 * f)] 0 = some (.int 2) := rfl
  have ie : atI [D.int 2, .int (2 * f)] 1 = some (.int (2 * f)) := rfl
  have ct : cut [D.ls [.int 1, .int f], .ls [.int 2, .int (2 * f)]] (some 1) none = [.ls [.int 2, .int (2 * f)]] := by rw [cut_from _ 1 (by omega)]; rfl
  have l1 : forL (gtN 7) f_cleared_l1 [.int 1] [.ls [.ls [.int 1, .int f], .ls [.int 2, .int (2 * f)]], .int 0, .int 1, .ol [], .ls [.int 1, .int f], .ls [.int 2, .int (2 * f)], .ol [.int 0], .un] = .nx [.ls [.ls [.int 1, .int f], .ls [.int 2, .int (2 * f)]], .int 0, .int 1, .ol [], .ls [.int 1, .int f], .ls [.int 2, .int (2 * f)], .ol [.int 0, .int 0], .int 1] := by
    simp [forL, f_cleared_l1, ia, ib, ic, ie, z, lm, li1]
  have l2 : forL (gtN 5) f_cleared_l2 [.ls [.int 2, .int (2 * f)]] [.ls [.ls [.int 1, .int f], .ls [.int 2, .int (2 * f)]], .int 0, .int 1, .ol [], .ls [.int 1, .int f], .un, .un, .un] = .nx [.ls [.ls [.int 1, .int f], .ls [.int 2, .int (2 * f)]], .int 0, .int 1, .ol [.ls [.int 0, .int 0]], .ls [.int 1, .int f], .ls [.int 2, .int (2 * f)], .ls [.int 0, .int 0], .int 1] := by
    have st : f_cleared_l2 [.ls [.ls [.int 1, .int f], .ls [.int 2, .int (2 * f)]], .int 0, .int 1, .ol [], .ls [.int 1, .int f], .ls [.int 2, .int (2 * f)], .un, .un] = .nx [.ls [.ls [.int 1, .int f], .ls [.int 2, .int (2 * f)]], .int 0, .int 1, .ol [.ls [.int 0, .int 0]], .ls [.int 1, .int f], .ls [.int 2, .int (2 * f)], .ls [.int 0, .int 0], .int 1] := by
      unfold f_cleared_l2
      refine seq_to (g1 := [.ls [.ls [.int 1, .int f], .ls [.int 2, .int (2 * f)]], .int 0, .int 1, .ol [], .ls [.int 1, .int f], .ls [.int 2, .int (2 * f)], .ol [.int 0], .un]) (by simp [mu, lm]) ?_
      refine seq_to (g1 := [.ls [.ls [.int 1, .int f], .ls [.int 2, .int (2 * f)]], .int 0, .int 1, .ol [], .ls [.int 1, .int f], .ls [.int 2, .int (2 * f)], .ol [.int 0, .int 0], .int 1]) ?_ ?_
      · refine Eq.trans ?_ l1
        have r2 : iRg2 (aCons (eBin opAdd (eVar 1) (eC (.int 1))) (aCons (eCall caLen (aCons (eVar 5) (aNil))) (aNil))) [.ls [.ls [.int 1, .int f], .ls [.int 2, .int (2 * f)]], .int 0, .int 1, .ol [], .ls [.int 1, .int f], .ls [.int 2, .int (2 * f)], .ol [.int 0], .un] = .ok [.int 1] := by kernel_rfl
        rw [sFor_, r2]
        rfl
      · kernel_rfl
    exact (forL_step (by simp) st).trans rfl
  refine run_rt82 (g := [.ls [.ls [.int 1, .int f], .ls [.int 2, .int (2 * f)]], .int 0, .int 1, .un, .un, .un, .un, .un]) ?_ rfl
  unfold f_cleared
  refine seq_to (g1 := [.ls [.ls [.int 1, .int f], .ls [.int 2, .int (2 * f)]], .int 0, .int 1, .ol [], .un, .un, .un, .un]) (by kernel_rfl) ?_
  refine seq_to (g1 := [.ls [.ls [.int 1, .int f], .ls [.int 2, .int (2 * f)]], .int 0, .int 1, .ol [], .ls [.int 1, .int f], .un, .un, .un]) (by kernel_rfl) ?_
  refine seq_to (g1 := [.ls [.ls [.int 1, .int f], .ls [.int 2, .int (2 * f)]], .int 0, .int 1, .ol [.ls [.int 0, .int 0]], .ls [.int 1, .int f], .ls [.int 2, .int (2 * f)], .ls [.int 0, .int 0], .int 1]) ?_ (by kernel_rfl)
  refine Eq.trans ?_ l2
  have it : iSeq (eSl (eVar 0) (ePart (some (eBin opAdd (eVar 1) (eC (.int 1))))) (ePart none)) [.ls [.ls [.int 1, .int f], .ls [.int 2, .int (2 * f)]], .int 0, .int 1, .ol [], .ls [.int 1, .int f], .un, .un, .un] = .ok [.ls [.int 2, .int (2 * f)]] := by kernel_rfl
  rw [sFor_, it]
  rfl
theorem way7 (f : Int) (hf : 0 ≤ f) : g_law_second [.int 7, .int f] = .xc 8 := by
  have lm := lm82
  have hl : g_look_at_table [.ls [.ls [.int 1, .int f], .ls [.int 2, .int (2 * f)]]] = .ok .non := by kernel_rfl
  have hd : g_determinant [.ls [.ls [.int 1, .int f], .ls [.int 2, .int (2 * f)]]] = .ok (.int 0) := by
    have cl := cleared82 f
    have fr0 : g_first_row_with [.ls [.ls [.int 1, .int f], .ls [.int 2, .int (2 * f)]], .int 0] = .ok (.int 0) := by kernel_rfl
    have fr1 : g_first_row_with [.ls [.ls [.int 1, .int f], .ls [.int 0, .int 0]], .int 1] = .ok .non := by kernel_rfl
    have d0 : f_determinant_l1 [.ls [.ls [.int 1, .int f], .ls [.int 2, .int (2 * f)]], .ol [.ls [.int 1, .int f], .ls [.int 2, .int (2 * f)]], .int 1, .int 1, .int 0, .un, .un] = .nx [.ls [.ls [.int 1, .int f], .ls [.int 2, .int (2 * f)]], .ol [.ls [.int 1, .int f], .ls [.int 0, .int 0]], .int 1, .int 1, .int 0, .int 0, .un] := by
      unfold f_determinant_l1
      refine seq_to (g1 := [.ls [.ls [.int 1, .int f], .ls [.int 2, .int (2 * f)]], .ol [.ls [.int 1, .int f], .ls [.int 2, .int (2 * f)]], .int 1, .int 1, .int 0, .int 0, .un]) (by kernel_rfl) ?_
      refine seq_to (g1 := [.ls [.ls [.int 1, .int f], .ls [.int 2, .int (2 * f)]], .ol [.ls [.int 1, .int f], .ls [.int 2, .int (2 * f)]], .int 1, .int 1, .int 0, .int 0, .un]) (by kernel_rfl) ?_
      refine seq_to (g1 := [.ls [.ls [.int 1, .int f], .ls [.int 2, .int (2 * f)]], .ol [.ls [.int 1, .int f], .ls [.int 2, .int (2 * f)]], .int 1, .int 1, .int 0, .int 0, .un]) (by kernel_rfl) ?_
      refine seq_to (g1 := [.ls [.ls [.int 1, .int f], .ls [.int 2, .int (2 * f)]], .ol [.ls [.int 1, .int f], .ls [.int 0, .int 0]], .int 1, .int 1, .int 0, .int 0, .un]) ?_ (by kernel_rfl)
      have ct : cut [D.ls [.int 1, .int f], .ls [.int 2, .int (2 * f)]] none (some 1) = [.ls [.int 1, .int f]] := by rw [cut_to _ 1 (by omega)]; rfl
      simp [frzAt, cl, ct, lm]
    have d1 : f_determinant_l1 [.ls [.ls [.int 1, .int f], .ls [.int 2, .int (2 * f)]], .ol [.ls [.int 1, .int f], .ls [.int 0, .int 0]], .int 1, .int 1, .int 1, .int 0, .un] = .rt (.int 0) := by kernel_rfl
    refine run_rt82 (g := [.ls [.ls [.int 1, .int f], .ls [.int 2, .int (2 * f)]], .un, .un, .un, .un, .un, .un]) ?_ rfl
    unfold f_determinant
    refine seq_to (g1 := [.ls [.ls [.int 1, .int f], .ls [.int 2, .int (2 * f)]], .un, .un, .un, .un, .un, .un]) (by simp [sExp, hl]) ?_
    refine seq_to (g1 := [.ls [.ls [.int 1, .int f], .ls [.int 2, .int (2 * f)]], .ol [.ls [.int 1, .int f], .ls [.int 2, .int (2 * f)]], .un, .un, .un, .un, .un]) (by kernel_rfl) ?_
    refine seq_to (g1 := [.ls [.ls [.int 1, .int f], .ls [.int 2, .int (2 * f)]], .ol [.ls [.int 1, .int f], .ls [.int 2, .int (2 * f)]], .int 1, .un, .un, .un, .un]) (by kernel_rfl) ?_
    refine seq_to (g1 := [.ls [.ls [.int 1, .int f], .ls [.int 2, .int (2 * f)]], .ol [.ls [.int 1, .int f], .ls [.int 2, .int (2 * f)]], .int 1, .int 1, .un, .un, .un]) (by kernel_rfl) ?_
    have fl : forL (gtN 4) f_determinant_l1 [.int 0, .int 1] [.ls [.ls [.int 1, .int f], .ls [.int 2, .int (2 * f)]], .ol [.ls [.int 1, .int f], .ls [.int 2, .int (2 * f)]], .int 1, .int 1, .un, .un, .un] = .rt (.int 0) := by
      refine (forL_step (by simp) d0).trans ?_
      have e : forL (gtN 4) f_determinant_l1 [.int 1] [.ls [.ls [.int 1, .int f], .ls [.int 2, .int (2 * f)]], .ol [.ls [.int 1, .int f], .ls [.int 0, .int 0]], .int 1, .int 1, .int 0, .int 0, .un] = match f_determinant_l1 [.ls [.ls [.int 1, .int f], .ls [.int 2, .int (2 * f)]], .ol [.ls [.int 1, .int f], .ls [.int 0, .int 0]], .int 1, .int 1, .int 1, .int 0, .un] with
        | .nx g => forL (gtN 4) f_determinant_l1 [] g
        | .ct g => forL (gtN 4) f_determinant_l1 [] g
        | .bk g => .nx g
        | o => o := rfl
      rw [e, d1]
    rw [sSeq_, show sFor (iRg1 (aCons (eCall caLen (aCons (eVar 1) (aNil))) (aNil))) (gtN 4) f_determinant_l1 [.ls [.ls [.int 1, .int f], .ls [.int 2, .int (2 * f)]], .ol [.ls [.int 1, .int f], .ls [.int 2, .int (2 * f)]], .int 1, .int 1, .un, .un, .un] = .rt (.int 0) from by
      have it : iRg1 (aCons (eCall caLen (aCons (eVar 1) (aNil))) (aNil)) [.ls [.ls [.int 1, .int f], .ls [.int 2, .int (2 * f)]], .ol [.ls [.int 1, .int f], .ls [.int 2, .int (2 * f)]], .int 1, .int 1, .un, .un, .un] = .ok [.int 0, .int 1] := by kernel_rfl
      rw [sFor_, it]
      exact fl]
  have hy : g_solved [.ls [.ls [.int 1, .int f], .ls [.int 2, .int (2 * f)]], .ls [.int f, .int 3]] = .xc 8 := by
    simp [g_solved, runF, f_solved, sExp, hl, hd, sRaise]
  have om : opMul (.int 2) (.int f) = some (.int (2 * f)) := by simp
  refine run_x (g := [.int 7, .int f, .un]) (g' := [.int 7, .int f, wB]) ?_ rfl
  unfold f_law_second
  refine second_head (if_o (by simp) (if_x (by simp) (ret_x (own_x (ds := [.ls [.ls [.int 1, .int f], .ls [.int 2, .int (2 * f)]], .ls [.int f, .int 3]]) ?_ rfl hy))))
  simp [lm, om]
theorem way8 (f : Int) (hf : 0 ≤ f) : g_law_second [.int 8, .int f] = .xc 9 := by
  have lm := lm82
  obtain ⟨x, hx, hc⟩ := pick3 (.int 0) (.int 1) (.int 3) f
  obtain ⟨l, hl, om⟩ : ∃ l : List Int, l.length ≠ 2 ∧ opMul (.ls [.int f]) x = some (.ol (l.map D.int)) := by
    rcases hc with ⟨h, rfl⟩ | ⟨h, rfl⟩ | ⟨h, rfl⟩
    · exact ⟨[], by decide, by kernel_rfl⟩
    · exact ⟨[f], by simp, by kernel_rfl⟩
    · exact ⟨[f, f, f], by simp, by kernel_rfl⟩
  have lk : g_look_at_weights [wB, .ls (l.map D.int)] = .xc 9 := by
    have e : (l.map D.int).length = l.length := List.length_map ..
    have ne : ¬ ((l.length : Int) = 2) := by omega
    generalize l.map D.int = LL at *
    refine run_x (g := [wB, .ls LL]) (g' := [wB, .ls LL]) ?_ rfl
    unfold f_look_at_weights
    simp [e, ne, sRaise]
  have hy : g_tree_sum [wB, .ls (l.map D.int)] = .xc 9 := by
    generalize l.map D.int = LL at *
    refine run_x (g := [wB, .ls LL, .un]) (g' := [wB, .ls LL, .un]) ?_ rfl
    unfold f_tree_sum
    rw [sSeq_, show sExp (eOwn g_look_at_weights (aCons (eVar 0) (aCons (eVar 1) (aNil)))) [wB, .ls LL, .un] = .xc 9 [wB, .ls LL, .un] from by simp [sExp, lk]]
  have xi : ∃ i : Int, x = .int i := by
    rcases hc with ⟨h, rfl⟩ | ⟨h, rfl⟩ | ⟨h, rfl⟩ <;> exact ⟨_, rfl⟩
  obtain ⟨i, rfl⟩ := xi
  refine run_x (g := [.int 8, .int f, .un]) (g' := [.int 8, .int f, wB]) ?_ rfl
  unfold f_law_second
  obtain ⟨u1, u2, _, u4, _, _⟩ := dulls dull_int l
  generalize l.map D.int = LL at *
  refine second_head (if_o (by simp) (if_o (by simp) (if_x (by simp) (ret_x (own_x (ds := [wB, .ls LL]) ?_ (by rfl) hy)))))
  simp [hx, lm, om, u2, u4]
theorem way10 (f : Int) : g_law_second [.int 10, .int f] = .xc 11 := by
  have lm := lm82
  have hy : g_other_web [.ob 14 [.int 1, .ls [.tp [.int 0, .int 0], .tp [.int 0, .int 0]]], .ls [.ls [.int 0, .int 2, .int 1, .int 3]]] = .xc 11 := by kernel_rfl
  have wi : g_Web_init [.int 1, .ls [.tp [.int 0, .int 0], .tp [.int 0, .int 0]]] = .ok [.int 1, .ol [.tp [.int 0, .int 0], .tp [.int 0, .int 0]]] := web_init_ok 1 [(0, 0), (0, 0)] (by decide) (by decide) (by decide) (fun q h => by
    have : q = (0, 0) := by simpa using h
    subst this; decide)
  refine run_x (g := [.int 10, .int f, .un]) (g' := [.int 10, .int f, wB]) ?_ rfl
  unfold f_law_second
  refine second_head (if_o (by simp) (if_o (by simp) (if_o (by simp) (if_o (by simp) (if_x (by simp) (ret_x (own_x (ds := [.ob 14 [.int 1, .ls [.tp [.int 0, .int 0], .tp [.int 0, .int 0]]], .ls [.ls [.int 0, .int 2, .int 1, .int 3]]]) ?_ rfl hy)))))))
  simp [wi, lm]
end Lw
end

noncomputable section
namespace Lw
open DL L2 TL
open PySem (Str PyData)
theorem way9 (f : Int) (hf : 0 ≤ f) : g_law_second [.int 9, .int f] = .xc 10 := by
  have lm := lm82
  obtain ⟨x, hx, hc⟩ := pick4 (.ls [.ls [.int 0, .int 3], .ls [.int 1]]) (.ls [.ls [.int 0], .ls [.int 1, .int 2, .int 3]]) (.ls [.ls [.int 0, .int 3, .int 1], .ls [.int 2]]) (.ls [.ls [.int 0, .int 3]]) f
  have hy : g_rounds_of [wB, x] = .xc 10 := by
    rcases hc with ⟨h, rfl⟩ | ⟨h, rfl⟩ | ⟨h, rfl⟩ | ⟨h, rfl⟩ <;> kernel_rfl
  have xi : ∃ i : List D, x = .ls i ∧ shd i = true := by
    rcases hc with ⟨h, rfl⟩ | ⟨h, rfl⟩ | ⟨h, rfl⟩ | ⟨h, rfl⟩ <;> exact ⟨_, rfl, rfl⟩
  obtain ⟨i, rfl, si⟩ := xi
  refine run_x (g := [.int 9, .int f, .un]) (g' := [.int 9, .int f, wB]) ?_ rfl
  unfold f_law_second
  refine second_head (if_o (by simp) (if_o (by simp) (if_o (by simp) (if_x (by simp) (ret_x (own_x (ds := [wB, .ls i]) ?_ (by rfl) hy))))))
  simp [hx, lm]
theorem rd0 : g_read_web [.str ""] = .xc 12 := by kernel_rfl
theorem rd1 : g_read_web [.str "places"] = .xc 12 := by kernel_rfl
theorem rd2 : g_read_web [.str "places 2 1"] = .xc 12 := by kernel_rfl
theorem tie01 (f : Int) : ("tie 0 1 " : Str) ++ tI f = S8 (tlC (0, 1) f) := by
  rw [show ("tie 0 1 " : Str) = S8 (tiC ++ ([32] ++ (cd 0 ++ ([32] ++ (cd 1 ++ [32]))))) from by decide +kernel, tI_S]
  refine (SX.S_cat _ _).trans ?_
  congr 1
theorem rd3 (f : Int) (hf : 0 ≤ f) (h40 : f < 10 ^ 40) : g_read_web [.str ("tie 0 1 " ++ tI f)] = .xc 12 := by
  have b : rOk ((0, 1), f) := ⟨show (0 : Int).natAbs < 10 ^ 60 by decide, show (1 : Int).natAbs < 10 ^ 60 by decide, show f.natAbs < 10 ^ 60 by omega⟩
  have no := tie_no ((0, 1), f) b
  rw [tie01]
  have hl := rwL_len b
  refine rd_bad0 (l0 := tlC (0, 1) f) (ls := []) ?_ ?_ no
  · rw [SX.S_len, lim_eq]
    have : (rwL ((0, 1), f)).length = (tlC (0, 1) f).length := rfl
    omega
  · exact split_l (ls := [tlC (0, 1) f]) (by simp) (fun v hv => by
      rw [List.mem_singleton.mp hv]
      exact lnC_free (by decide))
theorem way11 (f : Int) (hf : 0 ≤ f) (h40 : f < 10 ^ 40) : g_law_second [.int 11, .int f] = .xc 12 := by
  have lm := lm82
  obtain ⟨x, hx, hc⟩ := pick4 (.str "") (.str "places") (.str "places 2 1") (.str ("tie 0 1 " ++ tI f)) f
  have hy : g_read_web [x] = .xc 12 := by
    rcases hc with ⟨h, rfl⟩ | ⟨h, rfl⟩ | ⟨h, rfl⟩ | ⟨h, rfl⟩
    · exact rd0
    · exact rd1
    · exact rd2
    · exact rd3 f hf h40
  have xi : ∃ i : Str, x = .str i := by
    rcases hc with ⟨h, rfl⟩ | ⟨h, rfl⟩ | ⟨h, rfl⟩ | ⟨h, rfl⟩ <;> exact ⟨_, rfl⟩
  obtain ⟨i, rfl⟩ := xi
  have fb : f.natAbs < 2 ^ 1000 := Nat.lt_of_lt_of_le (show f.natAbs < 10 ^ 40 by omega) (by decide)
  have c1 := caStr_t fb
  have l1 := tI_len fb
  have e8 : ("tie 0 1 " : Str).length = 8 := by decide
  have ad := addS (x := "tie 0 1 ") (y := tI f) (by omega) (by omega)
  refine run_x (g := [.int 11, .int f, .un]) (g' := [.int 11, .int f, wB]) ?_ rfl
  unfold f_law_second
  refine second_head (if_o (by simp) (if_o (by simp) (if_o (by simp) (if_o (by simp) (if_o (by simp) (if_x (by simp) (ret_x (own_x (ds := [.str i]) ?_ (by rfl) hy))))))))
  simp [hx, lm, c1, ad]
theorem way12 (f : Int) (hf : 0 ≤ f) : g_law_second [.int 12, .int f] = .xc 13 := by
  have lm := lm82
  obtain ⟨p, ep, p1, p14⟩ : ∃ p : Nat, 1 + f % 14 = (p : Int) ∧ 1 ≤ p ∧ p ≤ 14 := ⟨(1 + f % 14).toNat, by omega, by omega, by omega⟩
  have E : EndsOk (p : Int) [] := fun q h => nomatch h
  have wi := web_init_ok p [] (by omega) (by omega) (by decide) E
  have pb : (p : Int).natAbs < 10 ^ 60 := Nat.lt_of_lt_of_le (show (p : Int).natAbs < 1000 by omega) (by decide)
  have tl := txC_len (p := (p : Int)) (R := []) pb (fun r h => nomatch h)
  have rd := read_raw (p := (p : Int)) (R := []) (x := S8 (txC p [])) (by rw [SX.S_len, lim_eq]; simp at tl; omega) (split_tx (p : Int) []) pb (fun r h => nomatch h) (by decide) wi
  have rd : g_read_web [.str (S8 (lnC plC [p]))] = .ok (.tp [.ob 14 [.int p, .ls (([] : List (Int × Int)).map dP)], .ls (([] : List Int).map D.int)]) := rd
  have di := desk_init rd
  have c1 := caStr_t (Nat.lt_trans pb (by decide : (10 : Nat) ^ 60 < 2 ^ 1000))
  have lp := tI_len (Nat.lt_trans pb (by decide : (10 : Nat) ^ 60 < 2 ^ 1000))
  have e7 : ("places " : Str).length = 7 := by decide
  have ad := addS (x := "places ") (y := tI (p : Int)) (by omega) (by omega)
  rw [place_line] at ad
  have bk : g_Desk_back [dk p [] []] = .xc 13 := by
    refine run_x (g := [dk p [] []]) (g' := [dk p [] []]) ?_ rfl
    unfold f_Desk_back
    simp [dk, wD, sRaise]
  refine run_x (g := [.int 12, .int f, .un]) (g' := [.int 12, .int f, wB]) ?_ rfl
  unfold f_law_second
  refine second_head (if_o (by simp) (if_o (by simp) (if_o (by simp) (if_o (by simp) (if_o (by simp) (if_o (by simp) (ret_x ?_)))))))
  have dm : eMkF 16 g_Desk_init (aCons (eBin opAdd (eC (.str "places ")) (eCall caStr (aCons (eBin opAdd (eC (.int 1)) (eBin opMod (eVar 1) (eC (.int 14)))) (aNil)))) (aNil)) [.int 12, .int f, wB] = .ok (dk p [] []) :=
    desk_make (p := p) (ts := []) (L := []) (x := S8 (lnC plC [p])) (by simp [ep, c1, ad]) rd
  show eMeth 16 g_Desk_back (eMkF 16 g_Desk_init _) aNil _ = _
  rw [eMeth_, dm]
  simp only [dk, wD, List.map_nil] at bk ⊢
  simp [bk]
end Lw
end

noncomputable section
namespace Lw
open DL L2 TL
open PySem (Str PyData)
def bits (k : Nat) : List D := (List.range 13).map (fun j => D.bl (j == k)) ++ [.bl true]
theorem hh82 (k : Nat) (hk : k < 13) (x0 x1 : D) : f_law_takers_hh (k + 1) [x0, x1, .non, .un, .un] = .rt (.ol (bits k)) := by
  match k, hk with
  | 0, _ => kernel_rfl
  | 1, _ => kernel_rfl
  | 2, _ => kernel_rfl
  | 3, _ => kernel_rfl
  | 4, _ => kernel_rfl
  | 5, _ => kernel_rfl
  | 6, _ => kernel_rfl
  | 7, _ => kernel_rfl
  | 8, _ => kernel_rfl
  | 9, _ => kernel_rfl
  | 10, _ => kernel_rfl
  | 11, _ => kernel_rfl
  | 12, _ => kernel_rfl
theorem body82 (k : Nat) (hk : k < 13) (f : Int) (hf : 0 ≤ f) (h40 : f < 10 ^ 40) (x2 x3 x4 : D) : sIf (tC2 cLt (eVar 0) (eC (.int 6))) (sExp (eOwn g_law_first (aCons (eVar 0) (aCons (eVar 1) (aNil))))) (sExp (eOwn g_law_second (aCons (eVar 0) (aCons (eVar 1) (aNil))))) [.int k, .int f, x2, x3, x4] = .xc (k + 1) [.int k, .int f, x2, x3, x4] := by
  match k, hk with
  | 0, _ => have := way0 f hf; simp [sExp, this]
  | 1, _ => have := way1 f hf; simp [sExp, this]
  | 2, _ => have := way2 f hf; simp [sExp, this]
  | 3, _ => have := way3 f hf; simp [sExp, this]
  | 4, _ => have := way4 f hf; simp [sExp, this]
  | 5, _ => have := way5 f hf; simp [sExp, this]
  | 6, _ => have := way6 f; simp [sExp, this]
  | 7, _ => have := way7 f hf; simp [sExp, this]
  | 8, _ => have := way8 f hf; simp [sExp, this]
  | 9, _ => have := way9 f hf; simp [sExp, this]
  | 10, _ => have := way10 f; simp [sExp, this]
  | 11, _ => have := way11 f hf h40; simp [sExp, this]
  | 12, _ => have := way12 f hf; simp [sExp, this]
theorem takers82 (k : Nat) (hk : k < 13) (f : Int) (hf : 0 ≤ f) (h40 : f < 10 ^ 40) : g_law_takers [.int k, .int f] = .ok (.ol (bits k)) := by
  refine run_rt (g := [.int k, .int f, .un, .un, .un]) ?_ rfl
  unfold f_law_takers
  refine seq_to (g1 := [.int k, .int f, .non, .un, .un]) (by simp) ?_
  rw [sTryK_, body82 k hk f hf h40]
  exact hh82 k hk _ _
theorem want82 (k : Nat) (hk : k < 13) (x0 x1 x3 x5 : D) (x2 : D) : eBin opAdd (eLc (iRg1 (aCons (eC (.int 13)) (aNil))) [2] (gtN 2) (tYesG) f_law_k82_c3) (eLst (aConsO (eC (.bl true)) (aNil))) [x0, x1, x2, x3, .int k, x5] = .ok (.ol (bits k)) := by
  match k, hk with
  | 0, _ => kernel_rfl
  | 1, _ => kernel_rfl
  | 2, _ => kernel_rfl
  | 3, _ => kernel_rfl
  | 4, _ => kernel_rfl
  | 5, _ => kernel_rfl
  | 6, _ => kernel_rfl
  | 7, _ => kernel_rfl
  | 8, _ => kernel_rfl
  | 9, _ => kernel_rfl
  | 10, _ => kernel_rfl
  | 11, _ => kernel_rfl
  | 12, _ => kernel_rfl
theorem beq82 (k : Nat) (hk : k < 13) : pyEq (.ls (bits k)) (.ls (bits k)) = some true ∧ nods (bits k) = true ∧ frzs (bits k) = bits k := by
  match k, hk with
  | 0, _ => exact ⟨by kernel_rfl, by kernel_rfl, by kernel_rfl⟩
  | 1, _ => exact ⟨by kernel_rfl, by kernel_rfl, by kernel_rfl⟩
  | 2, _ => exact ⟨by kernel_rfl, by kernel_rfl, by kernel_rfl⟩
  | 3, _ => exact ⟨by kernel_rfl, by kernel_rfl, by kernel_rfl⟩
  | 4, _ => exact ⟨by kernel_rfl, by kernel_rfl, by kernel_rfl⟩
  | 5, _ => exact ⟨by kernel_rfl, by kernel_rfl, by kernel_rfl⟩
  | 6, _ => exact ⟨by kernel_rfl, by kernel_rfl, by kernel_rfl⟩
  | 7, _ => exact ⟨by kernel_rfl, by kernel_rfl, by kernel_rfl⟩
  | 8, _ => exact ⟨by kernel_rfl, by kernel_rfl, by kernel_rfl⟩
  | 9, _ => exact ⟨by kernel_rfl, by kernel_rfl, by kernel_rfl⟩
  | 10, _ => exact ⟨by kernel_rfl, by kernel_rfl, by kernel_rfl⟩
  | 11, _ => exact ⟨by kernel_rfl, by kernel_rfl, by kernel_rfl⟩
  | 12, _ => exact ⟨by kernel_rfl, by kernel_rfl, by kernel_rfl⟩
theorem l482 (k : Nat) (hk : k < 13) (f : Int) (hf : 0 ≤ f) (h40 : f < 10 ^ 40) (x0 x1 x2 x3 : D) : f_law_k82_l4 [x0, x1, x2, x3, .int k, .int f] = .nx [x0, x1, x2, x3, .int k, .int f] := by
  have t := takers82 k hk f hf h40
  have w := want82 k hk x0 x1 x3 (.int f) x2
  obtain ⟨b1, b2, b3⟩ := beq82 k hk
  generalize bits k = B at *
  unfold f_law_k82_l4
  rw [sIf_, show tC2 cNe (eOwn g_law_takers (aCons (eVar 4) (aCons (eVar 5) (aNil)))) (eBin opAdd (eLc (iRg1 (aCons (eC (.int 13)) (aNil))) [2] (gtN 2) (tYesG) f_law_k82_c3) (eLst (aConsO (eC (.bl true)) (aNil)))) [x0, x1, x2, x3, .int k, .int f] = .ok false from by
    rw [tC2_, w]
    simp [t, b1, b2, b3]]
  simp
theorem for82 (x0 x1 x2 x3 : D) : ∀ (A : List (Int × Int)) (y4 y5 : D), (∀ q ∈ A, (0 ≤ q.1 ∧ q.1 < 13) ∧ 0 ≤ q.2 ∧ q.2 < 10 ^ 40) →
    ∃ z4 z5, forL (gtT 2 (gtCons (gtN 4) (gtCons (gtN 5) (gtNil)))) f_law_k82_l4 (A.map dP) [x0, x1, x2, x3, y4, y5] = .nx [x0, x1, x2, x3, z4, z5]
  | [], y4, y5, _ => ⟨y4, y5, rfl⟩
  | (w, f) :: A, y4, y5, h => by
    obtain ⟨⟨h1, h2⟩, h3, h4⟩ := h (w, f) (List.mem_cons_self ..)
    obtain ⟨k, rfl⟩ : ∃ k : Nat, w = k := ⟨w.toNat, by dsimp only at h1; omega⟩
    obtain ⟨z4, z5, e⟩ := for82 x0 x1 x2 x3 A (.int k) (.int f) fun q hq => h q (List.mem_cons_of_mem _ hq)
    refine ⟨z4, z5, ?_⟩
    rw [List.map_cons]
    exact (forL_step (g1 := [x0, x1, x2, x3, .int k, .int f]) (by simp [dP]) (l482 k (by dsimp only at h2; omega) f h3 h4 x0 x1 x2 x3)).trans e
theorem l282 (s : List Int) (A : List (Int × Int)) (k : Nat) (x3 x4 x5 : D) (hA : A.length < 100) : ∃ (q : Int × Int) (z3 : D), ((0 ≤ q.1 ∧ q.1 < 13) ∧ 0 ≤ q.2 ∧ q.2 < 10 ^ 40) ∧ f_law_k82_l2 [.sc (s.map D.int), .ol (A.map dP), .int k, x3, x4, x5] = .nx [.sc (s.map D.int), .ol ((A ++ [q]).map dP), .int k, z3, x4, x5] := by
  obtain ⟨c, c0, c1, ec⟩ := cell_ok s k (by omega)
  refine ⟨(c % 13, c / 13 % 10 ^ 40), .int c, ⟨⟨by dsimp only; omega, by dsimp only; omega⟩, by dsimp only; omega, by dsimp only; omega⟩, ?_⟩
  have pw : opPow (.int 10) (.int 40) = some (.int (10 ^ 40)) := by kernel_rfl
  have l2 : 2 ≤ lim := by rw [lim_eq]; omega
  have lA : (A.map dP).length < lim := by rw [List.length_map, lim_eq]; omega
  have p40 : (0 : Int) < 10 ^ 40 := by decide
  have ap : (A ++ [(c % 13, c / 13 % 10 ^ 40)]).map dP = A.map dP ++ [.tp [.int (c % 13), .int (c / 13 % 10 ^ 40)]] := by rw [List.map_append]; rfl
  rw [ap]
  have om : ∀ a : Int, opMod (.int a) (.int (10 ^ 40)) = some (.int (a % 10 ^ 40)) := fun a => by
    generalize (10 : Int) ^ 40 = P at *
    simp [p40]
  generalize (10 : Int) ^ 40 = P at *
  generalize A.map dP = LA at *
  generalize s.map D.int = S at *
  unfold f_law_k82_l2
  refine seq_to (g1 := [.sc S, .ol LA, .int k, .int c, x4, x5]) (by simp [ec]) ?_
  simp [pw, om, l2, lA]
theorem forl282 (s : List Int) (x4 x5 : D) : ∀ (n k : Nat) (A : List (Int × Int)) (y2 y3 : D), A.length + n < 90 → (∀ q ∈ A, (0 ≤ q.1 ∧ q.1 < 13) ∧ 0 ≤ q.2 ∧ q.2 < 10 ^ 40) →
    ∃ (B : List (Int × Int)) (z2 z3 : D), (∀ q ∈ B, (0 ≤ q.1 ∧ q.1 < 13) ∧ 0 ≤ q.2 ∧ q.2 < 10 ^ 40) ∧ B.length = A.length + n ∧ forL (gtN 2) f_law_k82_l2 (rng k n) [.sc (s.map D.int), .ol (A.map dP), y2, y3, x4, x5] = .nx [.sc (s.map D.int), .ol (B.map dP), z2, z3, x4, x5]
  | 0, k, A, y2, y3, _, h => ⟨A, y2, y3, h, rfl, rfl⟩
  | n + 1, k, A, y2, y3, hl, h => by
    obtain ⟨q, z3, hq, e⟩ := l282 s A k y3 x4 x5 (by omega)
    obtain ⟨B, w2, w3, hB, lB, e2⟩ := forl282 s x4 x5 n (k + 1) (A ++ [q]) (.int k) z3 (by rw [List.length_append, List.length_singleton]; omega) fun r hr => by
      rcases List.mem_append.mp hr with z | z
      · exact h r z
      · rw [List.mem_singleton.mp z]; exact hq
    refine ⟨B, w2, w3, hB, by rw [lB, List.length_append, List.length_singleton]; omega, ?_⟩
    rw [rng_succ]
    rw [show ((k : Int) + 1) = ((k + 1 : Nat) : Int) from by omega]
    exact (forL_step (g1 := [.sc (s.map D.int), .ol (A.map dP), .int k, y3, x4, x5]) (by simp) e).trans e2
def A082 : List (Int × Int) := (List.range 13).map fun i : Nat => ((i : Int), 3 * (i : Int))
theorem start82 (x0 : D) : sAsg 1 (eLc (iRg1 (aCons (eC (.int 13)) (aNil))) [4] (gtN 4) (tYesG) f_law_k82_c1) [x0, .un, .un, .un, .un, .un] = .nx [x0, .ol (A082.map dP), .un, .un, .un, .un] := by kernel_rfl
theorem true_law_k82 (ns : List Int) (h : ns.length ≤ 63) : g_law_k82 [.sc (ns.map D.int)] = .ok (.bl true) := by
  obtain ⟨B, z2, z3, hB, lB, e2⟩ := forl282 ns .un .un (min ns.length 20) 0 A082 .un .un (by have : A082.length = 13 := rfl; omega) (by decide)
  obtain ⟨z4, z5, e4⟩ := for82 (.sc (ns.map D.int)) (.ls (B.map dP)) z2 z3 B .un .un hB
  have lA : A082.length = 13 := rfl
  have ln : (ns.map D.int).length = ns.length := List.length_map ..
  have mn : min (ns.length : Int) 20 = ((min ns.length 20 : Nat) : Int) := by omega
  have hr : rgOk (((min ns.length 20 : Nat)) : Int) := rgOk_of (by omega) (by omega)
  obtain ⟨d1, d2, d3, d4, d5, d6⟩ := dulls dull_P B
  have lB : (B.map dP).length ≤ lim := by rw [List.length_map, lim_eq]; omega
  refine run_rt (g := [.sc (ns.map D.int), .un, .un, .un, .un, .un]) ?_ rfl
  unfold f_law_k82
  refine seq_to (start82 _) ?_
  rw [show ((0 : Nat) : Int) = 0 from rfl] at e2
  refine seq_to (g1 := [.sc (ns.map D.int), .ol (B.map dP), z2, z3, .un, .un]) ?_ ?_
  · refine Eq.trans ?_ e2
    have tn : (min (ns.length : Int) 20).toNat = min ns.length 20 := by omega
    have hr2 : rgOk (min (ns.length : Int) 20) := by rw [mn]; exact hr
    generalize A082.map dP = AA at *
    simp [ln, tn, hr2]
  refine seq_to (g1 := [.sc (ns.map D.int), .ls (B.map dP), z2, z3, z4, z5]) ?_ (by simp)
  generalize B.map dP = BB at *
  generalize ns.map D.int = NN at *
  have fz : frzAt [.sc NN, .ol BB, z2, z3, .un, .un] 1 = [.sc NN, .ls BB, z2, z3, .un, .un] := by simp [frzAt, d2, d4]
  simp [fz, d1, d2, d4, e4]
end Lw
end

namespace Lw
open PySem L2 DL
def top (i : Nat) : Stmt := PySem.Challenge.pw_spanrow_k82_refusals_stand_alone.main.body.getD i (.Pass ⟨0, 0, 0, 0⟩)
abbrev s_look_at_table : Stmt := top 17
abbrev s_first_row_with : Stmt := top 18
abbrev s_cleared : Stmt := top 19
abbrev s_determinant : Stmt := top 20
abbrev s_common_part : Stmt := top 21
abbrev s_as_fraction : Stmt := top 22
abbrev s_solved : Stmt := top 23
abbrev s_Web_init : Stmt := inClass (top 27) 0
abbrev s_made_set : Stmt := top 28
abbrev s_marks_over : Stmt := top 29
abbrev s_pieces_of : Stmt := top 30
abbrev s_is_joined : Stmt := top 31
abbrev s_is_tree : Stmt := top 33
abbrev s_look_at_tree : Stmt := top 34
abbrev s_grown : Stmt := top 35
abbrev s_least_tree : Stmt := top 36
abbrev s_without_tie : Stmt := top 37
abbrev s_ring_of : Stmt := top 38
abbrev s_pulls : Stmt := top 45
abbrev s_without_last : Stmt := top 46
abbrev s_pull_table : Stmt := top 47
abbrev s_tree_count : Stmt := top 48
abbrev s_count_with : Stmt := top 49
abbrev s_tree_at : Stmt := top 52
abbrev s_number_written : Stmt := top 76
abbrev s_numbers_behind : Stmt := top 77
abbrev s_read_web : Stmt := top 78
abbrev s_Desk_init : Stmt := inClass (top 83) 0
abbrev s_Desk_back : Stmt := inClass (top 83) 7
abbrev s_place_from : Stmt := top 88
abbrev s_look_at_turns : Stmt := top 89
abbrev s_darts_behind : Stmt := top 90
abbrev s_rounds_of : Stmt := top 91
abbrev s_lies_flat : Stmt := top 92
abbrev s_other_web : Stmt := top 93
abbrev s_look_at_weights : Stmt := top 95
abbrev s_weighed_table : Stmt := top 96
abbrev s_tree_sum : Stmt := top 97
abbrev s_law_cell : Stmt := top 99
abbrev s_law_first : Stmt := top 101
abbrev s_law_second : Stmt := top 102
abbrev s_law_takers : Stmt := top 103
abbrev s_law_k82 : Stmt := top 104
abbrev N_look_at_table : List Str := ["table", "row"]
abbrev N_first_row_with : List Str := ["rows", "at", "k"]
abbrev N_cleared : List Str := ["rows", "at", "ahead", "told", "pivot", "row", "made", "j"]
abbrev N_determinant : List Str := ["table", "rows", "sign", "ahead", "at", "found", "row"]
abbrev N_common_part : List Str := ["one", "other"]
abbrev N_as_fraction : List Str := ["top", "bottom", "share"]
abbrev N_solved : List Str := ["table", "right", "whole", "told", "k", "put", "row", "number"]
abbrev N_Web_init : List Str := ["self", "places", "ties", "one", "other"]
abbrev N_made_set : List Str := ["web", "ties", "ahead", "tie"]
abbrev N_marks_over : List Str := ["web", "ties", "marks", "tie", "one", "other", "low", "high", "mark"]
abbrev N_pieces_of : List Str := ["web", "ties", "marks", "mark", "place"]
abbrev N_is_joined : List Str := ["web", "ties"]
abbrev N_is_tree : List Str := ["web", "ties", "ahead", "tie"]
abbrev N_look_at_tree : List Str := ["web", "tree"]
abbrev N_grown : List Str := ["web", "kept", "order", "told", "marks", "tie", "one", "other"]
abbrev N_least_tree : List Str := ["web", "tree"]
abbrev N_without_tie : List Str := ["ties", "tie", "other"]
abbrev N_ring_of : List Str := ["web", "tree", "tie", "one", "other", "told", "inner", "marks"]
abbrev N_pulls : List Str := ["count", "ties", "table", "one", "other", "place"]
abbrev N_without_last : List Str := ["table", "row"]
abbrev N_pull_table : List Str := ["web"]
abbrev N_tree_count : List Str := ["web"]
abbrev N_count_with : List Str := ["web", "inside", "outside", "kept", "shut", "pieces", "place", "k", "piece", "one", "ties", "tie", "pair"]
abbrev N_tree_at : List Str := ["web", "number", "inside", "outside", "tie", "count"]
abbrev N_number_written : List Str := ["word", "figures", "sign"]
abbrev N_numbers_behind : List Str := ["line", "word", "count", "words", "other"]
abbrev N_read_web : List Str := ["text", "lines", "places", "rows", "line", "row"]
abbrev N_Desk_init : List Str := ["self", "text"]
abbrev N_Desk_back : List Str := ["self"]
abbrev N_place_from : List Str := ["web", "dart"]
abbrev N_look_at_turns : List Str := ["web", "turns", "met", "place", "row", "dart"]
abbrev N_darts_behind : List Str := ["turns", "told", "row", "k", "dart"]
abbrev N_rounds_of : List Str := ["web", "turns", "behind", "met", "told", "dart", "row", "at"]
abbrev N_lies_flat : List Str := ["web", "turns", "rounds", "everything"]
abbrev N_other_web : List Str := ["web", "turns", "rounds", "place", "k", "row", "dart", "tie"]
abbrev N_look_at_weights : List Str := ["web", "weights"]
abbrev N_weighed_table : List Str := ["web", "weights", "table", "ends", "weight", "one", "other", "place"]
abbrev N_tree_sum : List Str := ["web", "weights", "row"]
abbrev N_law_cell : List Str := ["script", "k"]
abbrev N_law_first : List Str := ["way", "far", "web"]
abbrev N_law_second : List Str := ["way", "far", "web"]
abbrev N_law_takers : List Str := ["way", "far", "caught", "e", "some"]
abbrev N_law_k82 : List Str := ["script", "asked", "k", "cell", "way", "far"]
theorem sc_look_at_table : FnScope ["table", "row"] ["table"] (defScope s_look_at_table) := ⟨rfl, rfl, rfl, by decide +kernel, rfl, by decide +kernel, by decide +kernel⟩
theorem sc_first_row_with : FnScope ["rows", "at", "k"] ["rows", "at"] (defScope s_first_row_with) := ⟨rfl, rfl, rfl, by decide +kernel, rfl, by decide +kernel, by decide +kernel⟩
theorem sc_cleared : FnScope ["rows", "at", "ahead", "told", "pivot", "row", "made", "j"] ["rows", "at", "ahead"] (defScope s_cleared) := ⟨rfl, rfl, rfl, by decide +kernel, rfl, by decide +kernel, by decide +kernel⟩
theorem sc_determinant : FnScope ["table", "rows", "sign", "ahead", "at", "found", "row"] ["table"] (defScope s_determinant) := ⟨rfl, rfl, rfl, by decide +kernel, rfl, by decide +kernel, by decide +kernel⟩
theorem sc_common_part : FnScope ["one", "other"] ["one", "other"] (defScope s_common_part) := ⟨rfl, rfl, rfl, by decide +kernel, rfl, by decide +kernel, by decide +kernel⟩
theorem sc_as_fraction : FnScope ["top", "bottom", "share"] ["top", "bottom"] (defScope s_as_fraction) := ⟨rfl, rfl, rfl, by decide +kernel, rfl, by decide +kernel, by decide +kernel⟩
theorem sc_solved : FnScope ["table", "right", "whole", "told", "k", "put", "row", "number"] ["table", "right"] (defScope s_solved) := ⟨rfl, rfl, rfl, by decide +kernel, rfl, by decide +kernel, by decide +kernel⟩
theorem sc_Web_init : FnScope ["self", "places", "ties", "one", "other"] ["self", "places", "ties"] (defScope s_Web_init) := ⟨rfl, rfl, rfl, by decide +kernel, rfl, by decide +kernel, by decide +kernel⟩
theorem sc_made_set : FnScope ["web", "ties", "ahead", "tie"] ["web", "ties"] (defScope s_made_set) := ⟨rfl, rfl, rfl, by decide +kernel, rfl, by decide +kernel, by decide +kernel⟩
theorem sc_marks_over : FnScope ["web", "ties", "marks", "tie", "one", "other", "low", "high", "mark"] ["web", "ties"] (defScope s_marks_over) := ⟨rfl, rfl, rfl, by decide +kernel, rfl, by decide +kernel, by decide +kernel⟩
theorem sc_pieces_of : FnScope ["web", "ties", "marks", "mark", "place"] ["web", "ties"] (defScope s_pieces_of) := ⟨rfl, rfl, rfl, by decide +kernel, rfl, by decide +kernel, by decide +kernel⟩
theorem sc_is_joined : FnScope ["web", "ties"] ["web", "ties"] (defScope s_is_joined) := ⟨rfl, rfl, rfl, by decide +kernel, rfl, by decide +kernel, by decide +kernel⟩
theorem sc_is_tree : FnScope ["web", "ties", "ahead", "tie"] ["web", "ties"] (defScope s_is_tree) := ⟨rfl, rfl, rfl, by decide +kernel, rfl, by decide +kernel, by decide +kernel⟩
theorem sc_look_at_tree : FnScope ["web", "tree"] ["web", "tree"] (defScope s_look_at_tree) := ⟨rfl, rfl, rfl, by decide +kernel, rfl, by decide +kernel, by decide +kernel⟩
theorem sc_grown : FnScope ["web", "kept", "order", "told", "marks", "tie", "one", "other"] ["web", "kept", "order"] (defScope s_grown) := ⟨rfl, rfl, rfl, by decide +kernel, rfl, by decide +kernel, by decide +kernel⟩
theorem sc_least_tree : FnScope ["web", "tree"] ["web"] (defScope s_least_tree) := ⟨rfl, rfl, rfl, by decide +kernel, rfl, by decide +kernel, by decide +kernel⟩
theorem sc_without_tie : FnScope ["ties", "tie", "other"] ["ties", "tie"] (defScope s_without_tie) := ⟨rfl, rfl, rfl, by decide +kernel, rfl, by decide +kernel, by decide +kernel⟩
theorem sc_ring_of : FnScope ["web", "tree", "tie", "one", "other", "told", "inner", "marks"] ["web", "tree", "tie"] (defScope s_ring_of) := ⟨rfl, rfl, rfl, by decide +kernel, rfl, by decide +kernel, by decide +kernel⟩
theorem sc_pulls : FnScope ["count", "ties", "table", "one", "other", "place"] ["count", "ties"] (defScope s_pulls) := ⟨rfl, rfl, rfl, by decide +kernel, rfl, by decide +kernel, by decide +kernel⟩
theorem sc_without_last : FnScope ["table", "row"] ["table"] (defScope s_without_last) := ⟨rfl, rfl, rfl, by decide +kernel, rfl, by decide +kernel, by decide +kernel⟩
theorem sc_pull_table : FnScope ["web"] ["web"] (defScope s_pull_table) := ⟨rfl, rfl, rfl, by decide +kernel, rfl, by decide +kernel, by decide +kernel⟩
theorem sc_tree_count : FnScope ["web"] ["web"] (defScope s_tree_count) := ⟨rfl, rfl, rfl, by decide +kernel, rfl, by decide +kernel, by decide +kernel⟩
theorem sc_count_with : FnScope ["web", "inside", "outside", "kept", "shut", "pieces", "place", "k", "piece", "one", "ties", "tie", "pair"] ["web", "inside", "outside"] (defScope s_count_with) := ⟨rfl, rfl, rfl, by decide +kernel, rfl, by decide +kernel, by decide +kernel⟩
theorem sc_tree_at : FnScope ["web", "number", "inside", "outside", "tie", "count"] ["web", "number"] (defScope s_tree_at) := ⟨rfl, rfl, rfl, by decide +kernel, rfl, by decide +kernel, by decide +kernel⟩
theorem sc_number_written : FnScope ["word", "figures", "sign"] ["word"] (defScope s_number_written) := ⟨rfl, rfl, rfl, by decide +kernel, rfl, by decide +kernel, by decide +kernel⟩
theorem sc_numbers_behind : FnScope ["line", "word", "count", "words", "other"] ["line", "word", "count"] (defScope s_numbers_behind) := ⟨rfl, rfl, rfl, by decide +kernel, rfl, by decide +kernel, by decide +kernel⟩
theorem sc_read_web : FnScope ["text", "lines", "places", "rows", "line", "row"] ["text"] (defScope s_read_web) := ⟨rfl, rfl, rfl, by decide +kernel, rfl, by decide +kernel, by decide +kernel⟩
theorem sc_Desk_init : FnScope ["self", "text"] ["self", "text"] (defScope s_Desk_init) := ⟨rfl, rfl, rfl, by decide +kernel, rfl, by decide +kernel, by decide +kernel⟩
theorem sc_Desk_back : FnScope ["self"] ["self"] (defScope s_Desk_back) := ⟨rfl, rfl, rfl, by decide +kernel, rfl, by decide +kernel, by decide +kernel⟩
theorem sc_place_from : FnScope ["web", "dart"] ["web", "dart"] (defScope s_place_from) := ⟨rfl, rfl, rfl, by decide +kernel, rfl, by decide +kernel, by decide +kernel⟩
theorem sc_look_at_turns : FnScope ["web", "turns", "met", "place", "row", "dart"] ["web", "turns"] (defScope s_look_at_turns) := ⟨rfl, rfl, rfl, by decide +kernel, rfl, by decide +kernel, by decide +kernel⟩
theorem sc_darts_behind : FnScope ["turns", "told", "row", "k", "dart"] ["turns"] (defScope s_darts_behind) := ⟨rfl, rfl, rfl, by decide +kernel, rfl, by decide +kernel, by decide +kernel⟩
theorem sc_rounds_of : FnScope ["web", "turns", "behind", "met", "told", "dart", "row", "at"] ["web", "turns"] (defScope s_rounds_of) := ⟨rfl, rfl, rfl, by decide +kernel, rfl, by decide +kernel, by decide +kernel⟩
theorem sc_lies_flat : FnScope ["web", "turns", "rounds", "everything"] ["web", "turns"] (defScope s_lies_flat) := ⟨rfl, rfl, rfl, by decide +kernel, rfl, by decide +kernel, by decide +kernel⟩
theorem sc_other_web : FnScope ["web", "turns", "rounds", "place", "k", "row", "dart", "tie"] ["web", "turns"] (defScope s_other_web) := ⟨rfl, rfl, rfl, by decide +kernel, rfl, by decide +kernel, by decide +kernel⟩
theorem sc_look_at_weights : FnScope ["web", "weights"] ["web", "weights"] (defScope s_look_at_weights) := ⟨rfl, rfl, rfl, by decide +kernel, rfl, by decide +kernel, by decide +kernel⟩
theorem sc_weighed_table : FnScope ["web", "weights", "table", "ends", "weight", "one", "other", "place"] ["web", "weights"] (defScope s_weighed_table) := ⟨rfl, rfl, rfl, by decide +kernel, rfl, by decide +kernel, by decide +kernel⟩
theorem sc_tree_sum : FnScope ["web", "weights", "row"] ["web", "weights"] (defScope s_tree_sum) := ⟨rfl, rfl, rfl, by decide +kernel, rfl, by decide +kernel, by decide +kernel⟩
theorem sc_law_cell : FnScope ["script", "k"] ["script", "k"] (defScope s_law_cell) := ⟨rfl, rfl, rfl, by decide +kernel, rfl, by decide +kernel, by decide +kernel⟩
theorem sc_law_first : FnScope ["way", "far", "web"] ["way", "far"] (defScope s_law_first) := ⟨rfl, rfl, rfl, by decide +kernel, rfl, by decide +kernel, by decide +kernel⟩
theorem sc_law_second : FnScope ["way", "far", "web"] ["way", "far"] (defScope s_law_second) := ⟨rfl, rfl, rfl, by decide +kernel, rfl, by decide +kernel, by decide +kernel⟩
theorem sc_law_takers : FnScope ["way", "far", "caught", "e", "some"] ["way", "far"] (defScope s_law_takers) := ⟨rfl, rfl, rfl, by decide +kernel, rfl, by decide +kernel, by decide +kernel⟩
theorem sc_law_k82 : FnScope ["script", "asked", "k", "cell", "way", "far"] ["script"] (defScope s_law_k82) := ⟨rfl, rfl, rfl, by decide +kernel, rfl, by decide +kernel, by decide +kernel⟩
set_option genInjectivity false in
set_option genSizeOfSpec false in
set_option maxHeartbeats 8000000 in
structure Tx (K : PySem.W.Frag) (mg : Str → Option Value) : Type where
  C_WebError : Addr
  C_BadWeb : Addr
  C_BadSet : Addr
  C_Parted : Addr
  C_NoTree : Addr
  C_NoTie : Addr
  C_NoSuch : Addr
  C_NotSquare : Addr
  C_Singular : Addr
  C_BadRow : Addr
  C_BadTurns : Addr
  C_NotFlat : Addr
  C_BadText : Addr
  C_NothingBack : Addr
  C_Web : Addr
  C_Desk : Addr
  a_look_at_table : Addr
  d_look_at_table : FuncData
  a_first_row_with : Addr
  d_first_row_with : FuncData
  a_cleared : Addr
  d_cleared : FuncData
  a_determinant : Addr
  d_determinant : FuncData
  a_common_part : Addr
  d_common_part : FuncData
  a_as_fraction : Addr
  d_as_fraction : FuncData
  a_solved : Addr
  d_solved : FuncData
  a_Web_init : Addr
  d_Web_init : FuncData
  a_made_set : Addr
  d_made_set : FuncData
  a_marks_over : Addr
  d_marks_over : FuncData
  a_pieces_of : Addr
  d_pieces_of : FuncData
  a_is_joined : Addr
  d_is_joined : FuncData
  a_is_tree : Addr
  d_is_tree : FuncData
  a_look_at_tree : Addr
  d_look_at_tree : FuncData
  a_grown : Addr
  d_grown : FuncData
  a_least_tree : Addr
  d_least_tree : FuncData
  a_without_tie : Addr
  d_without_tie : FuncData
  a_ring_of : Addr
  d_ring_of : FuncData
  a_pulls : Addr
  d_pulls : FuncData
  a_without_last : Addr
  d_without_last : FuncData
  a_pull_table : Addr
  d_pull_table : FuncData
  a_tree_count : Addr
  d_tree_count : FuncData
  a_count_with : Addr
  d_count_with : FuncData
  a_tree_at : Addr
  d_tree_at : FuncData
  a_number_written : Addr
  d_number_written : FuncData
  a_numbers_behind : Addr
  d_numbers_behind : FuncData
  a_read_web : Addr
  d_read_web : FuncData
  a_Desk_init : Addr
  d_Desk_init : FuncData
  a_Desk_back : Addr
  d_Desk_back : FuncData
  a_place_from : Addr
  d_place_from : FuncData
  a_look_at_turns : Addr
  d_look_at_turns : FuncData
  a_darts_behind : Addr
  d_darts_behind : FuncData
  a_rounds_of : Addr
  d_rounds_of : FuncData
  a_lies_flat : Addr
  d_lies_flat : FuncData
  a_other_web : Addr
  d_other_web : FuncData
  a_look_at_weights : Addr
  d_look_at_weights : FuncData
  a_weighed_table : Addr
  d_weighed_table : FuncData
  a_tree_sum : Addr
  d_tree_sum : FuncData
  a_law_cell : Addr
  d_law_cell : FuncData
  a_law_first : Addr
  d_law_first : FuncData
  a_law_second : Addr
  d_law_second : FuncData
  a_law_takers : Addr
  d_law_takers : FuncData
  a_law_k82 : Addr
  d_law_k82 : FuncData
  t_MOST_PLACES : Tok
  t_MOST_TIES : Tok
  t_FIGURES : Tok
  t_MOST_FIGURES : Tok
  m_WebError : mg "WebError" = some (.ref C_WebError)
  x_WebError : PySem.W.excIn K C_WebError [.type "ValueError", .type "Exception", .type "BaseException", .type "object"] "ValueError.__new__" = true
  kx_WebError : PySem.W.keepIn K (.ref C_WebError) = true
  bx_WebError : PySem.W.subIn K (.ref C_WebError) (.type "BaseException") = some true
  tx_WebError : PySem.W.typeIn K (.ref C_WebError) = some (.type "type")
  m_BadWeb : mg "BadWeb" = some (.ref C_BadWeb)
  x_BadWeb : PySem.W.excIn K C_BadWeb [.type "ValueError", .type "Exception", .type "BaseException", .type "object"] "ValueError.__new__" = true
  kx_BadWeb : PySem.W.keepIn K (.ref C_BadWeb) = true
  bx_BadWeb : PySem.W.subIn K (.ref C_BadWeb) (.type "BaseException") = some true
  tx_BadWeb : PySem.W.typeIn K (.ref C_BadWeb) = some (.type "type")
  m_BadSet : mg "BadSet" = some (.ref C_BadSet)
  x_BadSet : PySem.W.excIn K C_BadSet [.type "ValueError", .type "Exception", .type "BaseException", .type "object"] "ValueError.__new__" = true
  kx_BadSet : PySem.W.keepIn K (.ref C_BadSet) = true
  bx_BadSet : PySem.W.subIn K (.ref C_BadSet) (.type "BaseException") = some true
  tx_BadSet : PySem.W.typeIn K (.ref C_BadSet) = some (.type "type")
  m_Parted : mg "Parted" = some (.ref C_Parted)
  x_Parted : PySem.W.excIn K C_Parted [.type "ValueError", .type "Exception", .type "BaseException", .type "object"] "ValueError.__new__" = true
  kx_Parted : PySem.W.keepIn K (.ref C_Parted) = true
  bx_Parted : PySem.W.subIn K (.ref C_Parted) (.type "BaseException") = some true
  tx_Parted : PySem.W.typeIn K (.ref C_Parted) = some (.type "type")
  m_NoTree : mg "NoTree" = some (.ref C_NoTree)
  x_NoTree : PySem.W.excIn K C_NoTree [.type "ValueError", .type "Exception", .type "BaseException", .type "object"] "ValueError.__new__" = true
  kx_NoTree : PySem.W.keepIn K (.ref C_NoTree) = true
  bx_NoTree : PySem.W.subIn K (.ref C_NoTree) (.type "BaseException") = some true
  tx_NoTree : PySem.W.typeIn K (.ref C_NoTree) = some (.type "type")
  m_NoTie : mg "NoTie" = some (.ref C_NoTie)
  x_NoTie : PySem.W.excIn K C_NoTie [.type "ValueError", .type "Exception", .type "BaseException", .type "object"] "ValueError.__new__" = true
  kx_NoTie : PySem.W.keepIn K (.ref C_NoTie) = true
  bx_NoTie : PySem.W.subIn K (.ref C_NoTie) (.type "BaseException") = some true
  tx_NoTie : PySem.W.typeIn K (.ref C_NoTie) = some (.type "type")
  m_NoSuch : mg "NoSuch" = some (.ref C_NoSuch)
  x_NoSuch : PySem.W.excIn K C_NoSuch [.type "ValueError", .type "Exception", .type "BaseException", .type "object"] "ValueError.__new__" = true
  kx_NoSuch : PySem.W.keepIn K (.ref C_NoSuch) = true
  bx_NoSuch : PySem.W.subIn K (.ref C_NoSuch) (.type "BaseException") = some true
  tx_NoSuch : PySem.W.typeIn K (.ref C_NoSuch) = some (.type "type")
  m_NotSquare : mg "NotSquare" = some (.ref C_NotSquare)
  x_NotSquare : PySem.W.excIn K C_NotSquare [.type "ValueError", .type "Exception", .type "BaseException", .type "object"] "ValueError.__new__" = true
  kx_NotSquare : PySem.W.keepIn K (.ref C_NotSquare) = true
  bx_NotSquare : PySem.W.subIn K (.ref C_NotSquare) (.type "BaseException") = some true
  tx_NotSquare : PySem.W.typeIn K (.ref C_NotSquare) = some (.type "type")
  m_Singular : mg "Singular" = some (.ref C_Singular)
  x_Singular : PySem.W.excIn K C_Singular [.type "ValueError", .type "Exception", .type "BaseException", .type "object"] "ValueError.__new__" = true
  kx_Singular : PySem.W.keepIn K (.ref C_Singular) = true
  bx_Singular : PySem.W.subIn K (.ref C_Singular) (.type "BaseException") = some true
  tx_Singular : PySem.W.typeIn K (.ref C_Singular) = some (.type "type")
  m_BadRow : mg "BadRow" = some (.ref C_BadRow)
  x_BadRow : PySem.W.excIn K C_BadRow [.type "ValueError", .type "Exception", .type "BaseException", .type "object"] "ValueError.__new__" = true
  kx_BadRow : PySem.W.keepIn K (.ref C_BadRow) = true
  bx_BadRow : PySem.W.subIn K (.ref C_BadRow) (.type "BaseException") = some true
  tx_BadRow : PySem.W.typeIn K (.ref C_BadRow) = some (.type "type")
  m_BadTurns : mg "BadTurns" = some (.ref C_BadTurns)
  x_BadTurns : PySem.W.excIn K C_BadTurns [.type "ValueError", .type "Exception", .type "BaseException", .type "object"] "ValueError.__new__" = true
  kx_BadTurns : PySem.W.keepIn K (.ref C_BadTurns) = true
  bx_BadTurns : PySem.W.subIn K (.ref C_BadTurns) (.type "BaseException") = some true
  tx_BadTurns : PySem.W.typeIn K (.ref C_BadTurns) = some (.type "type")
  m_NotFlat : mg "NotFlat" = some (.ref C_NotFlat)
  x_NotFlat : PySem.W.excIn K C_NotFlat [.type "ValueError", .type "Exception", .type "BaseException", .type "object"] "ValueError.__new__" = true
  kx_NotFlat : PySem.W.keepIn K (.ref C_NotFlat) = true
  bx_NotFlat : PySem.W.subIn K (.ref C_NotFlat) (.type "BaseException") = some true
  tx_NotFlat : PySem.W.typeIn K (.ref C_NotFlat) = some (.type "type")
  m_BadText : mg "BadText" = some (.ref C_BadText)
  x_BadText : PySem.W.excIn K C_BadText [.type "ValueError", .type "Exception", .type "BaseException", .type "object"] "ValueError.__new__" = true
  kx_BadText : PySem.W.keepIn K (.ref C_BadText) = true
  bx_BadText : PySem.W.subIn K (.ref C_BadText) (.type "BaseException") = some true
  tx_BadText : PySem.W.typeIn K (.ref C_BadText) = some (.type "type")
  m_NothingBack : mg "NothingBack" = some (.ref C_NothingBack)
  x_NothingBack : PySem.W.excIn K C_NothingBack [.type "ValueError", .type "Exception", .type "BaseException", .type "object"] "ValueError.__new__" = true
  kx_NothingBack : PySem.W.keepIn K (.ref C_NothingBack) = true
  bx_NothingBack : PySem.W.subIn K (.ref C_NothingBack) (.type "BaseException") = some true
  tx_NothingBack : PySem.W.typeIn K (.ref C_NothingBack) = some (.type "type")
  ct_BadWeb_WebError : PySem.W.exmOne K (.ref C_BadWeb) (.ref C_WebError) = some true
  ct_BadSet_WebError : PySem.W.exmOne K (.ref C_BadSet) (.ref C_WebError) = some true
  ct_Parted_WebError : PySem.W.exmOne K (.ref C_Parted) (.ref C_WebError) = some true
  ct_NoTree_WebError : PySem.W.exmOne K (.ref C_NoTree) (.ref C_WebError) = some true
  ct_NoTie_WebError : PySem.W.exmOne K (.ref C_NoTie) (.ref C_WebError) = some true
  ct_NoSuch_WebError : PySem.W.exmOne K (.ref C_NoSuch) (.ref C_WebError) = some true
  ct_NotSquare_WebError : PySem.W.exmOne K (.ref C_NotSquare) (.ref C_WebError) = some true
  ct_Singular_WebError : PySem.W.exmOne K (.ref C_Singular) (.ref C_WebError) = some true
  ct_BadRow_WebError : PySem.W.exmOne K (.ref C_BadRow) (.ref C_WebError) = some true
  ct_BadTurns_WebError : PySem.W.exmOne K (.ref C_BadTurns) (.ref C_WebError) = some true
  ct_NotFlat_WebError : PySem.W.exmOne K (.ref C_NotFlat) (.ref C_WebError) = some true
  ct_BadText_WebError : PySem.W.exmOne K (.ref C_BadText) (.ref C_WebError) = some true
  ct_NothingBack_WebError : PySem.W.exmOne K (.ref C_NothingBack) (.ref C_WebError) = some true
  xc_BadWeb : ExcC K C_BadWeb
  xc_BadSet : ExcC K C_BadSet
  xc_Parted : ExcC K C_Parted
  xc_NoTree : ExcC K C_NoTree
  xc_NoTie : ExcC K C_NoTie
  xc_NoSuch : ExcC K C_NoSuch
  xc_NotSquare : ExcC K C_NotSquare
  xc_Singular : ExcC K C_Singular
  xc_BadRow : ExcC K C_BadRow
  xc_BadTurns : ExcC K C_BadTurns
  xc_NotFlat : ExcC K C_NotFlat
  xc_BadText : ExcC K C_BadText
  xc_NothingBack : ExcC K C_NothingBack
  is_BadWeb_BadWeb : PySem.W.kitOne K (.ref C_BadWeb) (.ref C_BadWeb) = some true
  is_BadSet_BadWeb : PySem.W.kitOne K (.ref C_BadSet) (.ref C_BadWeb) = some false
  is_Parted_BadWeb : PySem.W.kitOne K (.ref C_Parted) (.ref C_BadWeb) = some false
  is_NoTree_BadWeb : PySem.W.kitOne K (.ref C_NoTree) (.ref C_BadWeb) = some false
  is_NoTie_BadWeb : PySem.W.kitOne K (.ref C_NoTie) (.ref C_BadWeb) = some false
  is_NoSuch_BadWeb : PySem.W.kitOne K (.ref C_NoSuch) (.ref C_BadWeb) = some false
  is_NotSquare_BadWeb : PySem.W.kitOne K (.ref C_NotSquare) (.ref C_BadWeb) = some false
  is_Singular_BadWeb : PySem.W.kitOne K (.ref C_Singular) (.ref C_BadWeb) = some false
  is_BadRow_BadWeb : PySem.W.kitOne K (.ref C_BadRow) (.ref C_BadWeb) = some false
  is_BadTurns_BadWeb : PySem.W.kitOne K (.ref C_BadTurns) (.ref C_BadWeb) = some false
  is_NotFlat_BadWeb : PySem.W.kitOne K (.ref C_NotFlat) (.ref C_BadWeb) = some false
  is_BadText_BadWeb : PySem.W.kitOne K (.ref C_BadText) (.ref C_BadWeb) = some false
  is_NothingBack_BadWeb : PySem.W.kitOne K (.ref C_NothingBack) (.ref C_BadWeb) = some false
  is_BadWeb_BadSet : PySem.W.kitOne K (.ref C_BadWeb) (.ref C_BadSet) = some false
  is_BadSet_BadSet : PySem.W.kitOne K (.ref C_BadSet) (.ref C_BadSet) = some true
  is_Parted_BadSet : PySem.W.kitOne K (.ref C_Parted) (.ref C_BadSet) = some false
  is_NoTree_BadSet : PySem.W.kitOne K (.ref C_NoTree) (.ref C_BadSet) = some false
  is_NoTie_BadSet : PySem.W.kitOne K (.ref C_NoTie) (.ref C_BadSet) = some false
  is_NoSuch_BadSet : PySem.W.kitOne K (.ref C_NoSuch) (.ref C_BadSet) = some false
  is_NotSquare_BadSet : PySem.W.kitOne K (.ref C_NotSquare) (.ref C_BadSet) = some false
  is_Singular_BadSet : PySem.W.kitOne K (.ref C_Singular) (.ref C_BadSet) = some false
  is_BadRow_BadSet : PySem.W.kitOne K (.ref C_BadRow) (.ref C_BadSet) = some false
  is_BadTurns_BadSet : PySem.W.kitOne K (.ref C_BadTurns) (.ref C_BadSet) = some false
  is_NotFlat_BadSet : PySem.W.kitOne K (.ref C_NotFlat) (.ref C_BadSet) = some false
  is_BadText_BadSet : PySem.W.kitOne K (.ref C_BadText) (.ref C_BadSet) = some false
  is_NothingBack_BadSet : PySem.W.kitOne K (.ref C_NothingBack) (.ref C_BadSet) = some false
  is_BadWeb_Parted : PySem.W.kitOne K (.ref C_BadWeb) (.ref C_Parted) = some false
  is_BadSet_Parted : PySem.W.kitOne K (.ref C_BadSet) (.ref C_Parted) = some false
  is_Parted_Parted : PySem.W.kitOne K (.ref C_Parted) (.ref C_Parted) = some true
  is_NoTree_Parted : PySem.W.kitOne K (.ref C_NoTree) (.ref C_Parted) = some false
  is_NoTie_Parted : PySem.W.kitOne K (.ref C_NoTie) (.ref C_Parted) = some false
  is_NoSuch_Parted : PySem.W.kitOne K (.ref C_NoSuch) (.ref C_Parted) = some false
  is_NotSquare_Parted : PySem.W.kitOne K (.ref C_NotSquare) (.ref C_Parted) = some false
  is_Singular_Parted : PySem.W.kitOne K (.ref C_Singular) (.ref C_Parted) = some false
  is_BadRow_Parted : PySem.W.kitOne K (.ref C_BadRow) (.ref C_Parted) = some false
  is_BadTurns_Parted : PySem.W.kitOne K (.ref C_BadTurns) (.ref C_Parted) = some false
  is_NotFlat_Parted : PySem.W.kitOne K (.ref C_NotFlat) (.ref C_Parted) = some false
  is_BadText_Parted : PySem.W.kitOne K (.ref C_BadText) (.ref C_Parted) = some false
  is_NothingBack_Parted : PySem.W.kitOne K (.ref C_NothingBack) (.ref C_Parted) = some false
  is_BadWeb_NoTree : PySem.W.kitOne K (.ref C_BadWeb) (.ref C_NoTree) = some false
  is_BadSet_NoTree : PySem.W.kitOne K (.ref C_BadSet) (.ref C_NoTree) = some false
  is_Parted_NoTree : PySem.W.kitOne K (.ref C_Parted) (.ref C_NoTree) = some false
  is_NoTree_NoTree : PySem.W.kitOne K (.ref C_NoTree) (.ref C_NoTree) = some true
  is_NoTie_NoTree : PySem.W.kitOne K (.ref C_NoTie) (.ref C_NoTree) = some false
  is_NoSuch_NoTree : PySem.W.kitOne K (.ref C_NoSuch) (.ref C_NoTree) = some false
  is_NotSquare_NoTree : PySem.W.kitOne K (.ref C_NotSquare) (.ref C_NoTree) = some false
  is_Singular_NoTree : PySem.W.kitOne K (.ref C_Singular) (.ref C_NoTree) = some false
  is_BadRow_NoTree : PySem.W.kitOne K (.ref C_BadRow) (.ref C_NoTree) = some false
  is_BadTurns_NoTree : PySem.W.kitOne K (.ref C_BadTurns) (.ref C_NoTree) = some false
  is_NotFlat_NoTree : PySem.W.kitOne K (.ref C_NotFlat) (.ref C_NoTree) = some false
  is_BadText_NoTree : PySem.W.kitOne K (.ref C_BadText) (.ref C_NoTree) = some false
  is_NothingBack_NoTree : PySem.W.kitOne K (.ref C_NothingBack) (.ref C_NoTree) = some false
  is_BadWeb_NoTie : PySem.W.kitOne K (.ref C_BadWeb) (.ref C_NoTie) = some false
  is_BadSet_NoTie : PySem.W.kitOne K (.ref C_BadSet) (.ref C_NoTie) = some false
  is_Parted_NoTie : PySem.W.kitOne K (.ref C_Parted) (.ref C_NoTie) = some false
  is_NoTree_NoTie : PySem.W.kitOne K (.ref C_NoTree) (.ref C_NoTie) = some false
  is_NoTie_NoTie : PySem.W.kitOne K (.ref C_NoTie) (.ref C_NoTie) = some true
  is_NoSuch_NoTie : PySem.W.kitOne K (.ref C_NoSuch) (.ref C_NoTie) = some false
  is_NotSquare_NoTie : PySem.W.kitOne K (.ref C_NotSquare) (.ref C_NoTie) = some false
  is_Singular_NoTie : PySem.W.kitOne K (.ref C_Singular) (.ref C_NoTie) = some false
  is_BadRow_NoTie : PySem.W.kitOne K (.ref C_BadRow) (.ref C_NoTie) = some false
  is_BadTurns_NoTie : PySem.W.kitOne K (.ref C_BadTurns) (.ref C_NoTie) = some false
  is_NotFlat_NoTie : PySem.W.kitOne K (.ref C_NotFlat) (.ref C_NoTie) = some false
  is_BadText_NoTie : PySem.W.kitOne K (.ref C_BadText) (.ref C_NoTie) = some false
  is_NothingBack_NoTie : PySem.W.kitOne K (.ref C_NothingBack) (.ref C_NoTie) = some false
  is_BadWeb_NoSuch : PySem.W.kitOne K (.ref C_BadWeb) (.ref C_NoSuch) = some false
  is_BadSet_NoSuch : PySem.W.kitOne K (.ref C_BadSet) (.ref C_NoSuch) = some false
  is_Parted_NoSuch : PySem.W.kitOne K (.ref C_Parted) (.ref C_NoSuch) = some false
  is_NoTree_NoSuch : PySem.W.kitOne K (.ref C_NoTree) (.ref C_NoSuch) = some false
  is_NoTie_NoSuch : PySem.W.kitOne K (.ref C_NoTie) (.ref C_NoSuch) = some false
  is_NoSuch_NoSuch : PySem.W.kitOne K (.ref C_NoSuch) (.ref C_NoSuch) = some true
  is_NotSquare_NoSuch : PySem.W.kitOne K (.ref C_NotSquare) (.ref C_NoSuch) = some false
  is_Singular_NoSuch : PySem.W.kitOne K (.ref C_Singular) (.ref C_NoSuch) = some false
  is_BadRow_NoSuch : PySem.W.kitOne K (.ref C_BadRow) (.ref C_NoSuch) = some false
  is_BadTurns_NoSuch : PySem.W.kitOne K (.ref C_BadTurns) (.ref C_NoSuch) = some false
  is_NotFlat_NoSuch : PySem.W.kitOne K (.ref C_NotFlat) (.ref C_NoSuch) = some false
  is_BadText_NoSuch : PySem.W.kitOne K (.ref C_BadText) (.ref C_NoSuch) = some false
  is_NothingBack_NoSuch : PySem.W.kitOne K (.ref C_NothingBack) (.ref C_NoSuch) = some false
  is_BadWeb_NotSquare : PySem.W.kitOne K (.ref C_BadWeb) (.ref C_NotSquare) = some false
  is_BadSet_NotSquare : PySem.W.kitOne K (.ref C_BadSet) (.ref C_NotSquare) = some false
  is_Parted_NotSquare : PySem.W.kitOne K (.ref C_Parted) (.ref C_NotSquare) = some false
  is_NoTree_NotSquare : PySem.W.kitOne K (.ref C_NoTree) (.ref C_NotSquare) = some false
  is_NoTie_NotSquare : PySem.W.kitOne K (.ref C_NoTie) (.ref C_NotSquare) = some false
  is_NoSuch_NotSquare : PySem.W.kitOne K (.ref C_NoSuch) (.ref C_NotSquare) = some false
  is_NotSquare_NotSquare : PySem.W.kitOne K (.ref C_NotSquare) (.ref C_NotSquare) = some true
  is_Singular_NotSquare : PySem.W.kitOne K (.ref C_Singular) (.ref C_NotSquare) = some false
  is_BadRow_NotSquare : PySem.W.kitOne K (.ref C_BadRow) (.ref C_NotSquare) = some false
  is_BadTurns_NotSquare : PySem.W.kitOne K (.ref C_BadTurns) (.ref C_NotSquare) = some false
  is_NotFlat_NotSquare : PySem.W.kitOne K (.ref C_NotFlat) (.ref C_NotSquare) = some false
  is_BadText_NotSquare : PySem.W.kitOne K (.ref C_BadText) (.ref C_NotSquare) = some false
  is_NothingBack_NotSquare : PySem.W.kitOne K (.ref C_NothingBack) (.ref C_NotSquare) = some false
  is_BadWeb_Singular : PySem.W.kitOne K (.ref C_BadWeb) (.ref C_Singular) = some false
  is_BadSet_Singular : PySem.W.kitOne K (.ref C_BadSet) (.ref C_Singular) = some false
  is_Parted_Singular : PySem.W.kitOne K (.ref C_Parted) (.ref C_Singular) = some false
  is_NoTree_Singular : PySem.W.kitOne K (.ref C_NoTree) (.ref C_Singular) = some false
  is_NoTie_Singular : PySem.W.kitOne K (.ref C_NoTie) (.ref C_Singular) = some false
  is_NoSuch_Singular : PySem.W.kitOne K (.ref C_NoSuch) (.ref C_Singular) = some false
  is_NotSquare_Singular : PySem.W.kitOne K (.ref C_NotSquare) (.ref C_Singular) = some false
  is_Singular_Singular : PySem.W.kitOne K (.ref C_Singular) (.ref C_Singular) = some true
  is_BadRow_Singular : PySem.W.kitOne K (.ref C_BadRow) (.ref C_Singular) = some false
  is_BadTurns_Singular : PySem.W.kitOne K (.ref C_BadTurns) (.ref C_Singular) = some false
  is_NotFlat_Singular : PySem.W.kitOne K (.ref C_NotFlat) (.ref C_Singular) = some false
  is_BadText_Singular : PySem.W.kitOne K (.ref C_BadText) (.ref C_Singular) = some false
  is_NothingBack_Singular : PySem.W.kitOne K (.ref C_NothingBack) (.ref C_Singular) = some false
  is_BadWeb_BadRow : PySem.W.kitOne K (.ref C_BadWeb) (.ref C_BadRow) = some false
  is_BadSet_BadRow : PySem.W.kitOne K (.ref C_BadSet) (.ref C_BadRow) = some false
  is_Parted_BadRow : PySem.W.kitOne K (.ref C_Parted) (.ref C_BadRow) = some false
  is_NoTree_BadRow : PySem.W.kitOne K (.ref C_NoTree) (.ref C_BadRow) = some false
  is_NoTie_BadRow : PySem.W.kitOne K (.ref C_NoTie) (.ref C_BadRow) = some false
  is_NoSuch_BadRow : PySem.W.kitOne K (.ref C_NoSuch) (.ref C_BadRow) = some false
  is_NotSquare_BadRow : PySem.W.kitOne K (.ref C_NotSquare) (.ref C_BadRow) = some false
  is_Singular_BadRow : PySem.W.kitOne K (.ref C_Singular) (.ref C_BadRow) = some false
  is_BadRow_BadRow : PySem.W.kitOne K (.ref C_BadRow) (.ref C_BadRow) = some true
  is_BadTurns_BadRow : PySem.W.kitOne K (.ref C_BadTurns) (.ref C_BadRow) = some false
  is_NotFlat_BadRow : PySem.W.kitOne K (.ref C_NotFlat) (.ref C_BadRow) = some false
  is_BadText_BadRow : PySem.W.kitOne K (.ref C_BadText) (.ref C_BadRow) = some false
  is_NothingBack_BadRow : PySem.W.kitOne K (.ref C_NothingBack) (.ref C_BadRow) = some false
  is_BadWeb_BadTurns : PySem.W.kitOne K (.ref C_BadWeb) (.ref C_BadTurns) = some false
  is_BadSet_BadTurns : PySem.W.kitOne K (.ref C_BadSet) (.ref C_BadTurns) = some false
  is_Parted_BadTurns : PySem.W.kitOne K (.ref C_Parted) (.ref C_BadTurns) = some false
  is_NoTree_BadTurns : PySem.W.kitOne K (.ref C_NoTree) (.ref C_BadTurns) = some false
  is_NoTie_BadTurns : PySem.W.kitOne K (.ref C_NoTie) (.ref C_BadTurns) = some false
  is_NoSuch_BadTurns : PySem.W.kitOne K (.ref C_NoSuch) (.ref C_BadTurns) = some false
  is_NotSquare_BadTurns : PySem.W.kitOne K (.ref C_NotSquare) (.ref C_BadTurns) = some false
  is_Singular_BadTurns : PySem.W.kitOne K (.ref C_Singular) (.ref C_BadTurns) = some false
  is_BadRow_BadTurns : PySem.W.kitOne K (.ref C_BadRow) (.ref C_BadTurns) = some false
  is_BadTurns_BadTurns : PySem.W.kitOne K (.ref C_BadTurns) (.ref C_BadTurns) = some true
  is_NotFlat_BadTurns : PySem.W.kitOne K (.ref C_NotFlat) (.ref C_BadTurns) = some false
  is_BadText_BadTurns : PySem.W.kitOne K (.ref C_BadText) (.ref C_BadTurns) = some false
  is_NothingBack_BadTurns : PySem.W.kitOne K (.ref C_NothingBack) (.ref C_BadTurns) = some false
  is_BadWeb_NotFlat : PySem.W.kitOne K (.ref C_BadWeb) (.ref C_NotFlat) = some false
  is_BadSet_NotFlat : PySem.W.kitOne K (.ref C_BadSet) (.ref C_NotFlat) = some false
  is_Parted_NotFlat : PySem.W.kitOne K (.ref C_Parted) (.ref C_NotFlat) = some false
  is_NoTree_NotFlat : PySem.W.kitOne K (.ref C_NoTree) (.ref C_NotFlat) = some false
  is_NoTie_NotFlat : PySem.W.kitOne K (.ref C_NoTie) (.ref C_NotFlat) = some false
  is_NoSuch_NotFlat : PySem.W.kitOne K (.ref C_NoSuch) (.ref C_NotFlat) = some false
  is_NotSquare_NotFlat : PySem.W.kitOne K (.ref C_NotSquare) (.ref C_NotFlat) = some false
  is_Singular_NotFlat : PySem.W.kitOne K (.ref C_Singular) (.ref C_NotFlat) = some false
  is_BadRow_NotFlat : PySem.W.kitOne K (.ref C_BadRow) (.ref C_NotFlat) = some false
  is_BadTurns_NotFlat : PySem.W.kitOne K (.ref C_BadTurns) (.ref C_NotFlat) = some false
  is_NotFlat_NotFlat : PySem.W.kitOne K (.ref C_NotFlat) (.ref C_NotFlat) = some true
  is_BadText_NotFlat : PySem.W.kitOne K (.ref C_BadText) (.ref C_NotFlat) = some false
  is_NothingBack_NotFlat : PySem.W.kitOne K (.ref C_NothingBack) (.ref C_NotFlat) = some false
  is_BadWeb_BadText : PySem.W.kitOne K (.ref C_BadWeb) (.ref C_BadText) = some false
  is_BadSet_BadText : PySem.W.kitOne K (.ref C_BadSet) (.ref C_BadText) = some false
  is_Parted_BadText : PySem.W.kitOne K (.ref C_Parted) (.ref C_BadText) = some false
  is_NoTree_BadText : PySem.W.kitOne K (.ref C_NoTree) (.ref C_BadText) = some false
  is_NoTie_BadText : PySem.W.kitOne K (.ref C_NoTie) (.ref C_BadText) = some false
  is_NoSuch_BadText : PySem.W.kitOne K (.ref C_NoSuch) (.ref C_BadText) = some false
  is_NotSquare_BadText : PySem.W.kitOne K (.ref C_NotSquare) (.ref C_BadText) = some false
  is_Singular_BadText : PySem.W.kitOne K (.ref C_Singular) (.ref C_BadText) = some false
  is_BadRow_BadText : PySem.W.kitOne K (.ref C_BadRow) (.ref C_BadText) = some false
  is_BadTurns_BadText : PySem.W.kitOne K (.ref C_BadTurns) (.ref C_BadText) = some false
  is_NotFlat_BadText : PySem.W.kitOne K (.ref C_NotFlat) (.ref C_BadText) = some false
  is_BadText_BadText : PySem.W.kitOne K (.ref C_BadText) (.ref C_BadText) = some true
  is_NothingBack_BadText : PySem.W.kitOne K (.ref C_NothingBack) (.ref C_BadText) = some false
  is_BadWeb_NothingBack : PySem.W.kitOne K (.ref C_BadWeb) (.ref C_NothingBack) = some false
  is_BadSet_NothingBack : PySem.W.kitOne K (.ref C_BadSet) (.ref C_NothingBack) = some false
  is_Parted_NothingBack : PySem.W.kitOne K (.ref C_Parted) (.ref C_NothingBack) = some false
  is_NoTree_NothingBack : PySem.W.kitOne K (.ref C_NoTree) (.ref C_NothingBack) = some false
  is_NoTie_NothingBack : PySem.W.kitOne K (.ref C_NoTie) (.ref C_NothingBack) = some false
  is_NoSuch_NothingBack : PySem.W.kitOne K (.ref C_NoSuch) (.ref C_NothingBack) = some false
  is_NotSquare_NothingBack : PySem.W.kitOne K (.ref C_NotSquare) (.ref C_NothingBack) = some false
  is_Singular_NothingBack : PySem.W.kitOne K (.ref C_Singular) (.ref C_NothingBack) = some false
  is_BadRow_NothingBack : PySem.W.kitOne K (.ref C_BadRow) (.ref C_NothingBack) = some false
  is_BadTurns_NothingBack : PySem.W.kitOne K (.ref C_BadTurns) (.ref C_NothingBack) = some false
  is_NotFlat_NothingBack : PySem.W.kitOne K (.ref C_NotFlat) (.ref C_NothingBack) = some false
  is_BadText_NothingBack : PySem.W.kitOne K (.ref C_BadText) (.ref C_NothingBack) = some false
  is_NothingBack_NothingBack : PySem.W.kitOne K (.ref C_NothingBack) (.ref C_NothingBack) = some true
  is_BadWeb_ValueError : PySem.W.kitOne K (.ref C_BadWeb) (.type "ValueError") = some true
  is_BadSet_ValueError : PySem.W.kitOne K (.ref C_BadSet) (.type "ValueError") = some true
  is_Parted_ValueError : PySem.W.kitOne K (.ref C_Parted) (.type "ValueError") = some true
  is_NoTree_ValueError : PySem.W.kitOne K (.ref C_NoTree) (.type "ValueError") = some true
  is_NoTie_ValueError : PySem.W.kitOne K (.ref C_NoTie) (.type "ValueError") = some true
  is_NoSuch_ValueError : PySem.W.kitOne K (.ref C_NoSuch) (.type "ValueError") = some true
  is_NotSquare_ValueError : PySem.W.kitOne K (.ref C_NotSquare) (.type "ValueError") = some true
  is_Singular_ValueError : PySem.W.kitOne K (.ref C_Singular) (.type "ValueError") = some true
  is_BadRow_ValueError : PySem.W.kitOne K (.ref C_BadRow) (.type "ValueError") = some true
  is_BadTurns_ValueError : PySem.W.kitOne K (.ref C_BadTurns) (.type "ValueError") = some true
  is_NotFlat_ValueError : PySem.W.kitOne K (.ref C_NotFlat) (.type "ValueError") = some true
  is_BadText_ValueError : PySem.W.kitOne K (.ref C_BadText) (.type "ValueError") = some true
  is_NothingBack_ValueError : PySem.W.kitOne K (.ref C_NothingBack) (.type "ValueError") = some true
  m_Web : mg "Web" = some (.ref C_Web)
  cl_Web : L2.Cls K C_Web
  na_Web_places : NoAttr K C_Web "places"
  na_Web_ties : NoAttr K C_Web "ties"
  mk_Web : Mk K C_Web a_Web_init
  m_Desk : mg "Desk" = some (.ref C_Desk)
  cl_Desk : L2.Cls K C_Desk
  na_Desk_stood : NoAttr K C_Desk "stood"
  mk_Desk : Mk K C_Desk a_Desk_init
  F_look_at_table : Fun K "look_at_table" "look_at_table" s_look_at_table a_look_at_table d_look_at_table
  b_look_at_table : Binds K d_look_at_table ["table"] []
  m_look_at_table : mg "look_at_table" = some (.ref a_look_at_table)
  k_look_at_table : PySem.W.keepIn K (.ref a_look_at_table) = true
  F_first_row_with : Fun K "first_row_with" "first_row_with" s_first_row_with a_first_row_with d_first_row_with
  b_first_row_with : Binds K d_first_row_with ["rows", "at"] []
  m_first_row_with : mg "first_row_with" = some (.ref a_first_row_with)
  k_first_row_with : PySem.W.keepIn K (.ref a_first_row_with) = true
  F_cleared : Fun K "cleared" "cleared" s_cleared a_cleared d_cleared
  b_cleared : Binds K d_cleared ["rows", "at", "ahead"] []
  m_cleared : mg "cleared" = some (.ref a_cleared)
  k_cleared : PySem.W.keepIn K (.ref a_cleared) = true
  F_determinant : Fun K "determinant" "determinant" s_determinant a_determinant d_determinant
  b_determinant : Binds K d_determinant ["table"] []
  m_determinant : mg "determinant" = some (.ref a_determinant)
  k_determinant : PySem.W.keepIn K (.ref a_determinant) = true
  F_common_part : Fun K "common_part" "common_part" s_common_part a_common_part d_common_part
  b_common_part : Binds K d_common_part ["one", "other"] []
  m_common_part : mg "common_part" = some (.ref a_common_part)
  k_common_part : PySem.W.keepIn K (.ref a_common_part) = true
  F_as_fraction : Fun K "as_fraction" "as_fraction" s_as_fraction a_as_fraction d_as_fraction
  b_as_fraction : Binds K d_as_fraction ["top", "bottom"] []
  m_as_fraction : mg "as_fraction" = some (.ref a_as_fraction)
  k_as_fraction : PySem.W.keepIn K (.ref a_as_fraction) = true
  F_solved : Fun K "solved" "solved" s_solved a_solved d_solved
  b_solved : Binds K d_solved ["table", "right"] []
  m_solved : mg "solved" = some (.ref a_solved)
  k_solved : PySem.W.keepIn K (.ref a_solved) = true
  F_Web_init : Fun K "__init__" "Web.__init__" s_Web_init a_Web_init d_Web_init
  b_Web_init : Binds K d_Web_init ["self", "places", "ties"] []
  k_Web_init : PySem.W.keepIn K (.ref a_Web_init) = true
  F_made_set : Fun K "made_set" "made_set" s_made_set a_made_set d_made_set
  b_made_set : Binds K d_made_set ["web", "ties"] []
  m_made_set : mg "made_set" = some (.ref a_made_set)
  k_made_set : PySem.W.keepIn K (.ref a_made_set) = true
  F_marks_over : Fun K "marks_over" "marks_over" s_marks_over a_marks_over d_marks_over
  b_marks_over : Binds K d_marks_over ["web", "ties"] []
  m_marks_over : mg "marks_over" = some (.ref a_marks_over)
  k_marks_over : PySem.W.keepIn K (.ref a_marks_over) = true
  F_pieces_of : Fun K "pieces_of" "pieces_of" s_pieces_of a_pieces_of d_pieces_of
  b_pieces_of : Binds K d_pieces_of ["web", "ties"] []
  m_pieces_of : mg "pieces_of" = some (.ref a_pieces_of)
  k_pieces_of : PySem.W.keepIn K (.ref a_pieces_of) = true
  F_is_joined : Fun K "is_joined" "is_joined" s_is_joined a_is_joined d_is_joined
  b_is_joined : Binds K d_is_joined ["web", "ties"] []
  m_is_joined : mg "is_joined" = some (.ref a_is_joined)
  k_is_joined : PySem.W.keepIn K (.ref a_is_joined) = true
  F_is_tree : Fun K "is_tree" "is_tree" s_is_tree a_is_tree d_is_tree
  b_is_tree : Binds K d_is_tree ["web", "ties"] []
  m_is_tree : mg "is_tree" = some (.ref a_is_tree)
  k_is_tree : PySem.W.keepIn K (.ref a_is_tree) = true
  F_look_at_tree : Fun K "look_at_tree" "look_at_tree" s_look_at_tree a_look_at_tree d_look_at_tree
  b_look_at_tree : Binds K d_look_at_tree ["web", "tree"] []
  m_look_at_tree : mg "look_at_tree" = some (.ref a_look_at_tree)
  k_look_at_tree : PySem.W.keepIn K (.ref a_look_at_tree) = true
  F_grown : Fun K "grown" "grown" s_grown a_grown d_grown
  b_grown : Binds K d_grown ["web", "kept", "order"] []
  m_grown : mg "grown" = some (.ref a_grown)
  k_grown : PySem.W.keepIn K (.ref a_grown) = true
  F_least_tree : Fun K "least_tree" "least_tree" s_least_tree a_least_tree d_least_tree
  b_least_tree : Binds K d_least_tree ["web"] []
  m_least_tree : mg "least_tree" = some (.ref a_least_tree)
  k_least_tree : PySem.W.keepIn K (.ref a_least_tree) = true
  F_without_tie : Fun K "without_tie" "without_tie" s_without_tie a_without_tie d_without_tie
  b_without_tie : Binds K d_without_tie ["ties", "tie"] []
  m_without_tie : mg "without_tie" = some (.ref a_without_tie)
  k_without_tie : PySem.W.keepIn K (.ref a_without_tie) = true
  F_ring_of : Fun K "ring_of" "ring_of" s_ring_of a_ring_of d_ring_of
  b_ring_of : Binds K d_ring_of ["web", "tree", "tie"] []
  m_ring_of : mg "ring_of" = some (.ref a_ring_of)
  k_ring_of : PySem.W.keepIn K (.ref a_ring_of) = true
  F_pulls : Fun K "pulls" "pulls" s_pulls a_pulls d_pulls
  b_pulls : Binds K d_pulls ["count", "ties"] []
  m_pulls : mg "pulls" = some (.ref a_pulls)
  k_pulls : PySem.W.keepIn K (.ref a_pulls) = true
  F_without_last : Fun K "without_last" "without_last" s_without_last a_without_last d_without_last
  b_without_last : Binds K d_without_last ["table"] []
  m_without_last : mg "without_last" = some (.ref a_without_last)
  k_without_last : PySem.W.keepIn K (.ref a_without_last) = true
  F_pull_table : Fun K "pull_table" "pull_table" s_pull_table a_pull_table d_pull_table
  b_pull_table : Binds K d_pull_table ["web"] []
  m_pull_table : mg "pull_table" = some (.ref a_pull_table)
  k_pull_table : PySem.W.keepIn K (.ref a_pull_table) = true
  F_tree_count : Fun K "tree_count" "tree_count" s_tree_count a_tree_count d_tree_count
  b_tree_count : Binds K d_tree_count ["web"] []
  m_tree_count : mg "tree_count" = some (.ref a_tree_count)
  k_tree_count : PySem.W.keepIn K (.ref a_tree_count) = true
  F_count_with : Fun K "count_with" "count_with" s_count_with a_count_with d_count_with
  b_count_with : Binds K d_count_with ["web", "inside", "outside"] []
  m_count_with : mg "count_with" = some (.ref a_count_with)
  k_count_with : PySem.W.keepIn K (.ref a_count_with) = true
  F_tree_at : Fun K "tree_at" "tree_at" s_tree_at a_tree_at d_tree_at
  b_tree_at : Binds K d_tree_at ["web", "number"] []
  m_tree_at : mg "tree_at" = some (.ref a_tree_at)
  k_tree_at : PySem.W.keepIn K (.ref a_tree_at) = true
  F_number_written : Fun K "number_written" "number_written" s_number_written a_number_written d_number_written
  b_number_written : Binds K d_number_written ["word"] []
  m_number_written : mg "number_written" = some (.ref a_number_written)
  k_number_written : PySem.W.keepIn K (.ref a_number_written) = true
  F_numbers_behind : Fun K "numbers_behind" "numbers_behind" s_numbers_behind a_numbers_behind d_numbers_behind
  b_numbers_behind : Binds K d_numbers_behind ["line", "word", "count"] []
  m_numbers_behind : mg "numbers_behind" = some (.ref a_numbers_behind)
  k_numbers_behind : PySem.W.keepIn K (.ref a_numbers_behind) = true
  F_read_web : Fun K "read_web" "read_web" s_read_web a_read_web d_read_web
  b_read_web : Binds K d_read_web ["text"] []
  m_read_web : mg "read_web" = some (.ref a_read_web)
  k_read_web : PySem.W.keepIn K (.ref a_read_web) = true
  F_Desk_init : Fun K "__init__" "Desk.__init__" s_Desk_init a_Desk_init d_Desk_init
  b_Desk_init : Binds K d_Desk_init ["self", "text"] []
  k_Desk_init : PySem.W.keepIn K (.ref a_Desk_init) = true
  F_Desk_back : Fun K "back" "Desk.back" s_Desk_back a_Desk_back d_Desk_back
  b_Desk_back : Binds K d_Desk_back ["self"] []
  me_Desk_back : Meth K C_Desk "back" a_Desk_back
  k_Desk_back : PySem.W.keepIn K (.ref a_Desk_back) = true
  F_place_from : Fun K "place_from" "place_from" s_place_from a_place_from d_place_from
  b_place_from : Binds K d_place_from ["web", "dart"] []
  m_place_from : mg "place_from" = some (.ref a_place_from)
  k_place_from : PySem.W.keepIn K (.ref a_place_from) = true
  F_look_at_turns : Fun K "look_at_turns" "look_at_turns" s_look_at_turns a_look_at_turns d_look_at_turns
  b_look_at_turns : Binds K d_look_at_turns ["web", "turns"] []
  m_look_at_turns : mg "look_at_turns" = some (.ref a_look_at_turns)
  k_look_at_turns : PySem.W.keepIn K (.ref a_look_at_turns) = true
  F_darts_behind : Fun K "darts_behind" "darts_behind" s_darts_behind a_darts_behind d_darts_behind
  b_darts_behind : Binds K d_darts_behind ["turns"] []
  m_darts_behind : mg "darts_behind" = some (.ref a_darts_behind)
  k_darts_behind : PySem.W.keepIn K (.ref a_darts_behind) = true
  F_rounds_of : Fun K "rounds_of" "rounds_of" s_rounds_of a_rounds_of d_rounds_of
  b_rounds_of : Binds K d_rounds_of ["web", "turns"] []
  m_rounds_of : mg "rounds_of" = some (.ref a_rounds_of)
  k_rounds_of : PySem.W.keepIn K (.ref a_rounds_of) = true
  F_lies_flat : Fun K "lies_flat" "lies_flat" s_lies_flat a_lies_flat d_lies_flat
  b_lies_flat : Binds K d_lies_flat ["web", "turns"] []
  m_lies_flat : mg "lies_flat" = some (.ref a_lies_flat)
  k_lies_flat : PySem.W.keepIn K (.ref a_lies_flat) = true
  F_other_web : Fun K "other_web" "other_web" s_other_web a_other_web d_other_web
  b_other_web : Binds K d_other_web ["web", "turns"] []
  m_other_web : mg "other_web" = some (.ref a_other_web)
  k_other_web : PySem.W.keepIn K (.ref a_other_web) = true
  F_look_at_weights : Fun K "look_at_weights" "look_at_weights" s_look_at_weights a_look_at_weights d_look_at_weights
  b_look_at_weights : Binds K d_look_at_weights ["web", "weights"] []
  m_look_at_weights : mg "look_at_weights" = some (.ref a_look_at_weights)
  k_look_at_weights : PySem.W.keepIn K (.ref a_look_at_weights) = true
  F_weighed_table : Fun K "weighed_table" "weighed_table" s_weighed_table a_weighed_table d_weighed_table
  b_weighed_table : Binds K d_weighed_table ["web", "weights"] []
  m_weighed_table : mg "weighed_table" = some (.ref a_weighed_table)
  k_weighed_table : PySem.W.keepIn K (.ref a_weighed_table) = true
  F_tree_sum : Fun K "tree_sum" "tree_sum" s_tree_sum a_tree_sum d_tree_sum
  b_tree_sum : Binds K d_tree_sum ["web", "weights"] []
  m_tree_sum : mg "tree_sum" = some (.ref a_tree_sum)
  k_tree_sum : PySem.W.keepIn K (.ref a_tree_sum) = true
  F_law_cell : Fun K "_law_cell" "_law_cell" s_law_cell a_law_cell d_law_cell
  b_law_cell : Binds K d_law_cell ["script", "k"] []
  m_law_cell : mg "_law_cell" = some (.ref a_law_cell)
  k_law_cell : PySem.W.keepIn K (.ref a_law_cell) = true
  F_law_first : Fun K "_law_first" "_law_first" s_law_first a_law_first d_law_first
  b_law_first : Binds K d_law_first ["way", "far"] []
  m_law_first : mg "_law_first" = some (.ref a_law_first)
  k_law_first : PySem.W.keepIn K (.ref a_law_first) = true
  F_law_second : Fun K "_law_second" "_law_second" s_law_second a_law_second d_law_second
  b_law_second : Binds K d_law_second ["way", "far"] []
  m_law_second : mg "_law_second" = some (.ref a_law_second)
  k_law_second : PySem.W.keepIn K (.ref a_law_second) = true
  F_law_takers : Fun K "_law_takers" "_law_takers" s_law_takers a_law_takers d_law_takers
  b_law_takers : Binds K d_law_takers ["way", "far"] []
  m_law_takers : mg "_law_takers" = some (.ref a_law_takers)
  k_law_takers : PySem.W.keepIn K (.ref a_law_takers) = true
  F_law_k82 : Fun K "law" "law" s_law_k82 a_law_k82 d_law_k82
  b_law_k82 : Binds K d_law_k82 ["script"] []
  m_law_k82 : mg "law" = some (.ref a_law_k82)
  k_law_k82 : PySem.W.keepIn K (.ref a_law_k82) = true
  v_MOST_PLACES : mg "MOST_PLACES" = some (.int 14 t_MOST_PLACES)
  v_MOST_TIES : mg "MOST_TIES" = some (.int 30 t_MOST_TIES)
  v_FIGURES : mg "FIGURES" = some (.str "0123456789" t_FIGURES)
  v_MOST_FIGURES : mg "MOST_FIGURES" = some (.int 60 t_MOST_FIGURES)
  z_ValueError : mg "ValueError" = none
  z_abs : mg "abs" = none
  z_all : mg "all" = none
  z_any : mg "any" = none
  z_enumerate : mg "enumerate" = none
  z_int : mg "int" = none
  z_isinstance : mg "isinstance" = none
  z_len : mg "len" = none
  z_list : mg "list" = none
  z_max : mg "max" = none
  z_min : mg "min" = none
  z_range : mg "range" = none
  z_set : mg "set" = none
  z_sorted : mg "sorted" = none
  z_str : mg "str" = none
  z_tuple : mg "tuple" = none
  z_zip : mg "zip" = none
section
variable {P : Program} {w : World} {K : PySem.W.Frag} {mg : Str → Option Value} {base : Heap}
def Tx.cls (T : Tx K mg) : DL.Cls := fun c => ([some (T.C_WebError, []), some (T.C_BadWeb, []), some (T.C_BadSet, []), some (T.C_Parted, []), some (T.C_NoTree, []), some (T.C_NoTie, []), some (T.C_NoSuch, []), some (T.C_NotSquare, []), some (T.C_Singular, []), some (T.C_BadRow, []), some (T.C_BadTurns, []), some (T.C_NotFlat, []), some (T.C_BadText, []), some (T.C_NothingBack, []), some (T.C_Web, ["places", "ties"]), none, some (T.C_Desk, ["stood"])] : List (Option (Addr × List Str))).getD c none
theorem Tx.e_WebError (T : Tx K mg) : ExOk K mg T.cls 0 "WebError" T.C_WebError := ⟨rfl, T.m_WebError, T.x_WebError, T.kx_WebError, T.bx_WebError, T.tx_WebError⟩
theorem Tx.e_BadWeb (T : Tx K mg) : ExOk K mg T.cls 1 "BadWeb" T.C_BadWeb := ⟨rfl, T.m_BadWeb, T.x_BadWeb, T.kx_BadWeb, T.bx_BadWeb, T.tx_BadWeb⟩
theorem Tx.e_BadSet (T : Tx K mg) : ExOk K mg T.cls 2 "BadSet" T.C_BadSet := ⟨rfl, T.m_BadSet, T.x_BadSet, T.kx_BadSet, T.bx_BadSet, T.tx_BadSet⟩
theorem Tx.e_Parted (T : Tx K mg) : ExOk K mg T.cls 3 "Parted" T.C_Parted := ⟨rfl, T.m_Parted, T.x_Parted, T.kx_Parted, T.bx_Parted, T.tx_Parted⟩
theorem Tx.e_NoTree (T : Tx K mg) : ExOk K mg T.cls 4 "NoTree" T.C_NoTree := ⟨rfl, T.m_NoTree, T.x_NoTree, T.kx_NoTree, T.bx_NoTree, T.tx_NoTree⟩
theorem Tx.e_NoTie (T : Tx K mg) : ExOk K mg T.cls 5 "NoTie" T.C_NoTie := ⟨rfl, T.m_NoTie, T.x_NoTie, T.kx_NoTie, T.bx_NoTie, T.tx_NoTie⟩
theorem Tx.e_NoSuch (T : Tx K mg) : ExOk K mg T.cls 6 "NoSuch" T.C_NoSuch := ⟨rfl, T.m_NoSuch, T.x_NoSuch, T.kx_NoSuch, T.bx_NoSuch, T.tx_NoSuch⟩
theorem Tx.e_NotSquare (T : Tx K mg) : ExOk K mg T.cls 7 "NotSquare" T.C_NotSquare := ⟨rfl, T.m_NotSquare, T.x_NotSquare, T.kx_NotSquare, T.bx_NotSquare, T.tx_NotSquare⟩
theorem Tx.e_Singular (T : Tx K mg) : ExOk K mg T.cls 8 "Singular" T.C_Singular := ⟨rfl, T.m_Singular, T.x_Singular, T.kx_Singular, T.bx_Singular, T.tx_Singular⟩
theorem Tx.e_BadRow (T : Tx K mg) : ExOk K mg T.cls 9 "BadRow" T.C_BadRow := ⟨rfl, T.m_BadRow, T.x_BadRow, T.kx_BadRow, T.bx_BadRow, T.tx_BadRow⟩
theorem Tx.e_BadTurns (T : Tx K mg) : ExOk K mg T.cls 10 "BadTurns" T.C_BadTurns := ⟨rfl, T.m_BadTurns, T.x_BadTurns, T.kx_BadTurns, T.bx_BadTurns, T.tx_BadTurns⟩
theorem Tx.e_NotFlat (T : Tx K mg) : ExOk K mg T.cls 11 "NotFlat" T.C_NotFlat := ⟨rfl, T.m_NotFlat, T.x_NotFlat, T.kx_NotFlat, T.bx_NotFlat, T.tx_NotFlat⟩
theorem Tx.e_BadText (T : Tx K mg) : ExOk K mg T.cls 12 "BadText" T.C_BadText := ⟨rfl, T.m_BadText, T.x_BadText, T.kx_BadText, T.bx_BadText, T.tx_BadText⟩
theorem Tx.e_NothingBack (T : Tx K mg) : ExOk K mg T.cls 13 "NothingBack" T.C_NothingBack := ⟨rfl, T.m_NothingBack, T.x_NothingBack, T.kx_NothingBack, T.bx_NothingBack, T.tx_NothingBack⟩
theorem Tx.o_Web (T : Tx K mg) : ClsOk K T.cls 14 T.C_Web ["places", "ties"] := ⟨rfl, by decide +kernel, T.cl_Web, fun f h => (by simp at h; rcases h with rfl | rfl <;> first | exact T.na_Web_places | exact T.na_Web_ties)⟩
theorem Tx.o_Desk (T : Tx K mg) : ClsOk K T.cls 16 T.C_Desk ["stood"] := ⟨rfl, by decide +kernel, T.cl_Desk, fun f h => (by simp at h; subst h; exact T.na_Desk_stood)⟩
set_option maxHeartbeats 4000000 in
theorem ok_look_at_table (T : Tx K mg) : FnOk P w K mg base (L2.CX P w) 1 T.a_look_at_table T.d_look_at_table ["table"] (spD K T.cls 1 g_look_at_table) :=
  fnD_ok T.F_look_at_table sc_look_at_table rfl (fun cdv A outer s H E c => jss_one (js_for c (ji_seq (je_var 0)) (jg_name (i := 1) c.nd rfl (by first | exact Or.inl rfl | exact Or.inr rfl)) (jss_one (js_if (jt_cmp (op_ne4 c.eq) ok_ne (je_callB call_len ok_len T.z_len (by decide +kernel) (ja_cons (je_var 1) (ja_nil))) (je_callB call_len ok_len T.z_len (by decide +kernel) (ja_cons (je_var 0) (ja_nil))) (nomark _)) (jss_one (js_raise c T.e_NotSquare)) (jss_nil))))) (fun _ _ => .inr rfl)
set_option maxHeartbeats 4000000 in
theorem ok_first_row_with (T : Tx K mg) : FnOk P w K mg base (L2.CX P w) 1 T.a_first_row_with T.d_first_row_with ["rows", "at"] (spD K T.cls 2 g_first_row_with) :=
  fnD_ok T.F_first_row_with sc_first_row_with rfl (fun cdv A outer s H E c => jss_cons (js_for c (ji_rg2 T.z_range (ja_cons (je_var 1) (ja_cons (je_callB call_len ok_len T.z_len (by decide +kernel) (ja_cons (je_var 0) (ja_nil))) (ja_nil)))) (jg_name (i := 2) c.nd rfl (by first | exact Or.inl rfl | exact Or.inr rfl)) (jss_one (js_if (jt_cmp (op_ne4 c.eq) ok_ne (je_ix (je_ix (je_var 0) (je_var 2)) (je_var 1)) (je_int) (nomark _)) (jss_one (js_retV 2)) (jss_nil)))) (jss_one (js_ret (je_non)))) (fun _ _ => .inr rfl)
set_option maxHeartbeats 4000000 in
theorem ok_cleared (T : Tx K mg) : FnOk P w K mg base (L2.CX P w) 1 T.a_cleared T.d_cleared ["rows", "at", "ahead"] (spD K T.cls 3 g_cleared) :=
  fnD_ok T.F_cleared sc_cleared rfl (fun cdv A outer s H E c => jss_cons (js_set (i := 3) c rfl (by first | exact Or.inl rfl | exact Or.inr rfl) (je_lst (jao_nil))) (jss_cons (js_setF (i := 4) c rfl (by first | exact Or.inl rfl | exact Or.inr rfl) (je_ix (je_var 0) (je_var 1))) (jss_cons (js_for c (ji_seq (je_sl (je_var 0) (jp_some (je_bin op_add4 ok_add (je_var 1) (je_int))) (jp_none))) (jg_name (i := 5) c.nd rfl (by first | exact Or.inl rfl | exact Or.inr rfl)) (jss_cons (js_set (i := 6) c rfl (by first | exact Or.inl rfl | exact Or.inr rfl) (je_bin op_mul4 ok_mul (je_lst (jao_cons (je_int) (jao_nil))) (je_bin op_add4 ok_add (je_var 1) (je_int)))) (jss_cons (js_for c (ji_rg2 T.z_range (ja_cons (je_bin op_add4 ok_add (je_var 1) (je_int)) (ja_cons (je_callB call_len ok_len T.z_len (by decide +kernel) (ja_cons (je_var 5) (ja_nil))) (ja_nil)))) (jg_name (i := 7) c.nd rfl (by first | exact Or.inl rfl | exact Or.inr rfl)) (jss_one (js_app (i := 6) rfl (by first | exact Or.inl rfl | exact Or.inr (Or.inl rfl) | exact Or.inr (Or.inr rfl)) (je_bin op_divX ok_div (je_bin op_sub ok_sub (je_bin op_mul4 ok_mul (je_ix (je_var 5) (je_var 7)) (je_ix (je_var 4) (je_var 1))) (je_bin op_mul4 ok_mul (je_ix (je_var 5) (je_var 1)) (je_ix (je_var 4) (je_var 7)))) (je_var 2))))) (jss_one (js_frz 6 (js_app (i := 3) rfl (by first | exact Or.inl rfl | exact Or.inr (Or.inl rfl) | exact Or.inr (Or.inr rfl)) (je_var 6))))))) (jss_one (js_retV 3))))) (fun _ _ => .inr rfl)
set_option maxHeartbeats 4000000 in
theorem ok_determinant (T : Tx K mg) (G_look_at_table : FnOk P w K mg base (L2.CX P w) 1 T.a_look_at_table T.d_look_at_table ["table"] (spD K T.cls 1 g_look_at_table)) (G_first_row_with : FnOk P w K mg base (L2.CX P w) 1 T.a_first_row_with T.d_first_row_with ["rows", "at"] (spD K T.cls 2 g_first_row_with)) (G_cleared : FnOk P w K mg base (L2.CX P w) 1 T.a_cleared T.d_cleared ["rows", "at", "ahead"] (spD K T.cls 3 g_cleared)) : FnOk P w K mg base (L2.CX P w) 2 T.a_determinant T.d_determinant ["table"] (spD K T.cls 1 g_determinant) :=
  fnD_ok T.F_determinant sc_determinant rfl (fun cdv A outer s H E c => jss_cons (js_exp (je_own (c.mono (by decide)) G_look_at_table T.m_look_at_table T.k_look_at_table T.b_look_at_table (ja_cons (je_var 0) (ja_nil)) (alS (al0)))) (jss_cons (js_setLcI (i := 1) [("row", 6)] c rfl rfl (sw_true rfl rfl rfl (by decide +kernel)) (ji_seq (je_var 0)) (blkOk_by (N := N_determinant) (sc := defScope s_determinant) (by decide +kernel)) (fun _ _ _ _ _ => jg_name (i := 6) c.nd rfl (by first | exact Or.inl rfl | exact Or.inr rfl)) (fun _ _ _ _ _ c => jts_nil) (fun _ _ _ _ _ c => je_callTy call_list_of ok_list T.z_list (by decide +kernel) (ja_cons (je_var 6) (ja_nil))) (by decide)) (jss_cons (js_setF (i := 2) c rfl (by first | exact Or.inl rfl | exact Or.inr rfl) (je_int)) (jss_cons (js_setF (i := 3) c rfl (by first | exact Or.inl rfl | exact Or.inr rfl) (je_int)) (jss_cons (js_for c (ji_rg1 T.z_range (ja_cons (je_callB call_len ok_len T.z_len (by decide +kernel) (ja_cons (je_var 1) (ja_nil))) (ja_nil))) (jg_name (i := 4) c.nd rfl (by first | exact Or.inl rfl | exact Or.inr rfl)) (jss_cons (js_setF (i := 5) c rfl (by first | exact Or.inl rfl | exact Or.inr rfl) (je_own (c.mono (by decide)) G_first_row_with T.m_first_row_with T.k_first_row_with T.b_first_row_with (ja_cons (je_var 1) (ja_cons (je_var 4) (ja_nil))) (alS (alS (al0))))) (jss_cons (js_if (jt_cmp op_isN ok_isN (je_var 5) (je_non) (nomark _)) (jss_one (js_ret (je_int))) (jss_nil)) (jss_cons (js_if (jt_cmp (op_ne4 c.eq) ok_ne (je_var 5) (je_var 4) (nomark _)) (jss_cons (js_swp (i := 1) c rfl (by first | exact Or.inl rfl | exact Or.inr (Or.inl rfl) | exact Or.inr (Or.inr rfl)) (je_tup (jao_cons (je_ix (je_var 1) (je_var 5)) (jao_cons (je_ix (je_var 1) (je_var 4)) (jao_nil)))) (je_var 4) (je_var 5)) (jss_one (js_setF (i := 2) c rfl (by first | exact Or.inl rfl | exact Or.inr rfl) (je_un un_neg ok_neg (je_var 2))))) (jss_nil)) (jss_cons (js_frz 1 (js_set (i := 1) c rfl (by first | exact Or.inl rfl | exact Or.inr rfl) (je_bin op_add4 ok_add (je_sl (je_var 1) (jp_none) (jp_some (je_bin op_add4 ok_add (je_var 4) (je_int)))) (je_own (c.mono (by decide)) G_cleared T.m_cleared T.k_cleared T.b_cleared (ja_cons (je_var 1) (ja_cons (je_var 4) (ja_cons (je_var 3) (ja_nil)))) (alS (alS (alS (al0)))))))) (jss_one (js_setF (i := 3) c rfl (by first | exact Or.inl rfl | exact Or.inr rfl) (je_ix (je_ix (je_var 1) (je_var 4)) (je_var 4))))))))) (jss_one (js_ret (je_bin op_mul4 ok_mul (je_var 2) (je_var 3))))))))) (fun _ _ => .inr rfl)
set_option maxHeartbeats 4000000 in
theorem ok_common_part (T : Tx K mg) : FnOk P w K mg base (L2.CX P w) 1 T.a_common_part T.d_common_part ["one", "other"] (spD K T.cls 2 g_common_part) :=
  fnD_ok T.F_common_part sc_common_part rfl (fun cdv A outer s H E c => jss_cons (js_setF (i := 0) c rfl (by first | exact Or.inl rfl | exact Or.inr rfl) (je_callB call_abs ok_abs T.z_abs (by decide +kernel) (ja_cons (je_var 0) (ja_nil)))) (jss_cons (js_setF (i := 1) c rfl (by first | exact Or.inl rfl | exact Or.inr rfl) (je_callB call_abs ok_abs T.z_abs (by decide +kernel) (ja_cons (je_var 1) (ja_nil)))) (jss_cons (js_while c (jt_cmp op_gt ok_gt (je_var 1) (je_int) (nomark _)) (jss_one (js_par (i := 0) (j := 1) c rfl rfl (by decide) rfl rfl (jao_cons (je_var 1) (jao_cons (je_bin op_modX ok_mod (je_var 0) (je_var 1)) (jao_nil)))))) (jss_one (js_retV 0))))) (fun _ _ => .inr rfl)
set_option maxHeartbeats 4000000 in
theorem ok_as_fraction (T : Tx K mg) (G_common_part : FnOk P w K mg base (L2.CX P w) 1 T.a_common_part T.d_common_part ["one", "other"] (spD K T.cls 2 g_common_part)) : FnOk P w K mg base (L2.CX P w) 2 T.a_as_fraction T.d_as_fraction ["top", "bottom"] (spD K T.cls 2 g_as_fraction) :=
  fnD_ok T.F_as_fraction sc_as_fraction rfl (fun cdv A outer s H E c => jss_cons (js_setF (i := 2) c rfl (by first | exact Or.inl rfl | exact Or.inr rfl) (je_own (c.mono (by decide)) G_common_part T.m_common_part T.k_common_part T.b_common_part (ja_cons (je_var 0) (ja_cons (je_var 1) (ja_nil))) (alS (alS (al0))))) (jss_cons (js_if (jt_cmp op_lt ok_lt (je_var 1) (je_int) (nomark _)) (jss_one (js_setF (i := 2) c rfl (by first | exact Or.inl rfl | exact Or.inr rfl) (je_un un_neg ok_neg (je_var 2)))) (jss_nil)) (jss_one (js_ret (je_tup (jao_cons (je_bin op_divX ok_div (je_var 0) (je_var 2)) (jao_cons (je_bin op_divX ok_div (je_var 1) (je_var 2)) (jao_nil)))))))) (fun _ _ => .inr rfl)
set_option maxHeartbeats 4000000 in
theorem ok_solved (T : Tx K mg) (G_look_at_table : FnOk P w K mg base (L2.CX P w) 1 T.a_look_at_table T.d_look_at_table ["table"] (spD K T.cls 1 g_look_at_table)) (G_determinant : FnOk P w K mg base (L2.CX P w) 2 T.a_determinant T.d_determinant ["table"] (spD K T.cls 1 g_determinant)) (G_as_fraction : FnOk P w K mg base (L2.CX P w) 2 T.a_as_fraction T.d_as_fraction ["top", "bottom"] (spD K T.cls 2 g_as_fraction)) : FnOk P w K mg base (L2.CX P w) 3 T.a_solved T.d_solved ["table", "right"] (spD K T.cls 2 g_solved) :=
  fnD_ok T.F_solved sc_solved rfl (fun cdv A outer s H E c => jss_cons (js_exp (je_own (c.mono (by decide)) G_look_at_table T.m_look_at_table T.k_look_at_table T.b_look_at_table (ja_cons (je_var 0) (ja_nil)) (alS (al0)))) (jss_cons (js_if (jt_cmp (op_ne4 c.eq) ok_ne (je_callB call_len ok_len T.z_len (by decide +kernel) (ja_cons (je_var 1) (ja_nil))) (je_callB call_len ok_len T.z_len (by decide +kernel) (ja_cons (je_var 0) (ja_nil))) (nomark _)) (jss_one (js_raise c T.e_NotSquare)) (jss_nil)) (jss_cons (js_setF (i := 2) c rfl (by first | exact Or.inl rfl | exact Or.inr rfl) (je_own (c.mono (by decide)) G_determinant T.m_determinant T.k_determinant T.b_determinant (ja_cons (je_var 0) (ja_nil)) (alS (al0)))) (jss_cons (js_if (jt_cmp (op_eq4 c.eq) ok_eq (je_var 2) (je_int) (nomark _)) (jss_one (js_raise c T.e_Singular)) (jss_nil)) (jss_cons (js_set (i := 3) c rfl (by first | exact Or.inl rfl | exact Or.inr rfl) (je_lst (jao_nil))) (jss_cons (js_for c (ji_rg1 T.z_range (ja_cons (je_callB call_len ok_len T.z_len (by decide +kernel) (ja_cons (je_var 0) (ja_nil))) (ja_nil))) (jg_name (i := 4) c.nd rfl (by first | exact Or.inl rfl | exact Or.inr rfl)) (jss_cons (js_setLcF (i := 5) [("row", 6), ("number", 7)] c rfl rfl (sw_true rfl rfl rfl (by decide +kernel)) (ji_zip3 T.z_zip (ja_cons (je_var 0) (ja_cons (je_var 1) (ja_nil)))) (blkOk_by (N := N_solved) (sc := defScope s_solved) (by decide +kernel)) (fun _ _ _ _ _ => jg_tup c.calm (jgs_cons (jg_name (i := 6) c.nd rfl (by first | exact Or.inl rfl | exact Or.inr rfl)) (jgs_cons (jg_name (i := 7) c.nd rfl (by first | exact Or.inl rfl | exact Or.inr rfl)) (jgs_nil)))) (fun _ _ _ _ _ c => jts_nil) (fun _ _ _ _ _ c => je_bin op_add4 ok_add (je_bin op_add4 ok_add (je_callTy call_list_of ok_list T.z_list (by decide +kernel) (ja_cons (je_sl (je_var 6) (jp_none) (jp_some (je_var 4))) (ja_nil))) (je_lst (jao_cons (je_var 7) (jao_nil)))) (je_callTy call_list_of ok_list T.z_list (by decide +kernel) (ja_cons (je_sl (je_var 6) (jp_some (je_bin op_add4 ok_add (je_var 4) (je_int))) (jp_none)) (ja_nil)))) (by decide)) (jss_one (js_app (i := 3) rfl (by first | exact Or.inl rfl | exact Or.inr (Or.inl rfl) | exact Or.inr (Or.inr rfl)) (je_own (c.mono (by decide)) G_as_fraction T.m_as_fraction T.k_as_fraction T.b_as_fraction (ja_cons (je_own (c.mono (by decide)) G_determinant T.m_determinant T.k_determinant T.b_determinant (ja_cons (je_var 5) (ja_nil)) (alS (al0))) (ja_cons (je_var 2) (ja_nil))) (alS (alS (al0)))))))) (jss_one (js_ret (je_callTy call_tuple_of ok_tuple T.z_tuple (by decide +kernel) (ja_cons (je_var 3) (ja_nil))))))))))) (fun _ _ => .inr rfl)
set_option maxHeartbeats 4000000 in
theorem ok_Web_init (T : Tx K mg) : FnOk P w K mg base (L2.CX P w) 1 T.a_Web_init T.d_Web_init ["self", "places", "ties"] (spI K T.cls 14 2 g_Web_init) :=
  fnI_ok T.F_Web_init sc_Web_init rfl (fun cdv A outer s H E c => jss_cons (js_if (jt_w (jw_or (jt_not (jt_chain op_le op_le ok_le ok_le (je_int) (je_var 1) (je_gint T.v_MOST_PLACES))) (jw_or1 (jt_cmp op_gt ok_gt (je_callB call_len ok_len T.z_len (by decide +kernel) (ja_cons (je_var 2) (ja_nil))) (je_gint T.v_MOST_TIES) (nomark _))))) (jss_one (js_raise c T.e_BadWeb)) (jss_nil)) (jss_cons (js_for c (ji_seq (je_var 2)) (jg_tup c.calm (jgs_cons (jg_name (i := 3) c.nd rfl (by first | exact Or.inl rfl | exact Or.inr rfl)) (jgs_cons (jg_name (i := 4) c.nd rfl (by first | exact Or.inl rfl | exact Or.inr rfl)) (jgs_nil)))) (jss_one (js_if (jt_w (jw_or (jt_not (jt_chain op_le op_lt ok_le ok_lt (je_int) (je_var 3) (je_var 1))) (jw_or1 (jt_not (jt_chain op_le op_lt ok_le ok_lt (je_int) (je_var 4) (je_var 1)))))) (jss_one (js_raise c T.e_BadWeb)) (jss_nil)))) (jss_cons (js_fld (i := 0) T.o_Web (j := 0) rfl (by decide) rfl (by first | exact Or.inl rfl | exact Or.inr (Or.inl rfl) | exact Or.inr (Or.inr rfl)) (je_var 1)) (jss_one (js_fld (i := 0) T.o_Web (j := 1) rfl (by decide) rfl (by first | exact Or.inl rfl | exact Or.inr (Or.inl rfl) | exact Or.inr (Or.inr rfl)) (je_callTy call_list_of ok_list T.z_list (by decide +kernel) (ja_cons (je_var 2) (ja_nil)))))))) (mirI_ok)
set_option maxHeartbeats 4000000 in
theorem ok_made_set (T : Tx K mg) : FnOk P w K mg base (L2.CX P w) 1 T.a_made_set T.d_made_set ["web", "ties"] (spD K T.cls 2 g_made_set) :=
  fnD_ok T.F_made_set sc_made_set rfl (fun cdv A outer s H E c => jss_cons (js_setF (i := 2) c rfl (by first | exact Or.inl rfl | exact Or.inr rfl) (je_un un_neg ok_neg (je_int))) (jss_cons (js_for c (ji_seq (je_var 1)) (jg_name (i := 3) c.nd rfl (by first | exact Or.inl rfl | exact Or.inr rfl)) (jss_cons (js_if (jt_w (jw_or (jt_cmp op_le ok_le (je_var 3) (je_var 2) (nomark _)) (jw_or1 (jt_cmp op_ge ok_ge (je_var 3) (je_callB call_len ok_len T.z_len (by decide +kernel) (ja_cons (je_fld T.o_Web (i := 1) rfl (je_var 0)) (ja_nil))) (nomark _))))) (jss_one (js_raise c T.e_BadSet)) (jss_nil)) (jss_one (js_setF (i := 2) c rfl (by first | exact Or.inl rfl | exact Or.inr rfl) (je_var 3))))) (jss_one (js_ret (je_callTy call_tuple_of ok_tuple T.z_tuple (by decide +kernel) (ja_cons (je_var 1) (ja_nil))))))) (fun _ _ => .inr rfl)
set_option maxHeartbeats 4000000 in
theorem ok_marks_over (T : Tx K mg) : FnOk P w K mg base (L2.CX P w) 1 T.a_marks_over T.d_marks_over ["web", "ties"] (spD K T.cls 2 g_marks_over) :=
  fnD_ok T.F_marks_over sc_marks_over rfl (fun cdv A outer s H E c => jss_cons (js_setF (i := 2) c rfl (by first | exact Or.inl rfl | exact Or.inr rfl) (je_lr1 c T.z_list T.z_range (je_fld T.o_Web (i := 0) rfl (je_var 0)))) (jss_cons (js_for c (ji_seq (je_var 1)) (jg_name (i := 3) c.nd rfl (by first | exact Or.inl rfl | exact Or.inr rfl)) (jss_cons (js_asgT (je_ix (je_fld T.o_Web (i := 1) rfl (je_var 0)) (je_var 3)) (jg_tup c.calm (jgs_cons (jg_name (i := 4) c.nd rfl (by first | exact Or.inl rfl | exact Or.inr rfl)) (jgs_cons (jg_name (i := 5) c.nd rfl (by first | exact Or.inl rfl | exact Or.inr rfl)) (jgs_nil))))) (jss_cons (js_setF (i := 6) c rfl (by first | exact Or.inl rfl | exact Or.inr rfl) (je_callB (call_min2 c.calm) ok_min2 T.z_min (by decide +kernel) (ja_cons (je_ix (je_var 2) (je_var 4)) (ja_cons (je_ix (je_var 2) (je_var 5)) (ja_nil))))) (jss_cons (js_setF (i := 7) c rfl (by first | exact Or.inl rfl | exact Or.inr rfl) (je_callB (call_max2 c.calm) ok_max2 T.z_max (by decide +kernel) (ja_cons (je_ix (je_var 2) (je_var 4)) (ja_cons (je_ix (je_var 2) (je_var 5)) (ja_nil))))) (jss_one (js_setLcF (i := 2) [("mark", 8)] c rfl rfl (sw_true rfl rfl rfl (by decide +kernel)) (ji_seq (je_var 2)) (blkOk_by (N := N_marks_over) (sc := defScope s_marks_over) (by decide +kernel)) (fun _ _ _ _ _ => jg_name (i := 8) c.nd rfl (by first | exact Or.inl rfl | exact Or.inr rfl)) (fun _ _ _ _ _ c => jts_nil) (fun _ _ _ _ _ c => je_if (jt_cmp (op_eq4 c.eq) ok_eq (je_var 8) (je_var 7) (nomark _)) (je_var 6) (je_var 8)) (by decide))))))) (jss_one (js_retV 2)))) (fun _ _ => .inr rfl)
set_option maxHeartbeats 4000000 in
theorem ok_pieces_of (T : Tx K mg) (G_marks_over : FnOk P w K mg base (L2.CX P w) 1 T.a_marks_over T.d_marks_over ["web", "ties"] (spD K T.cls 2 g_marks_over)) (G_made_set : FnOk P w K mg base (L2.CX P w) 1 T.a_made_set T.d_made_set ["web", "ties"] (spD K T.cls 2 g_made_set)) : FnOk P w K mg base (L2.CX P w) 2 T.a_pieces_of T.d_pieces_of ["web", "ties"] (spD K T.cls 2 g_pieces_of) :=
  fnD_ok T.F_pieces_of sc_pieces_of rfl (fun cdv A outer s H E c => jss_cons (js_setF (i := 2) c rfl (by first | exact Or.inl rfl | exact Or.inr rfl) (je_own (c.mono (by decide)) G_marks_over T.m_marks_over T.k_marks_over T.b_marks_over (ja_cons (je_var 0) (ja_cons (je_own (c.mono (by decide)) G_made_set T.m_made_set T.k_made_set T.b_made_set (ja_cons (je_var 0) (ja_cons (je_var 1) (ja_nil))) (alS (alS (al0)))) (ja_nil))) (alS (alS (al0))))) (jss_one (js_ret (je_lc [("mark", 3)] c (ji_seq (je_sortedset c T.z_sorted T.z_set (je_var 2))) (blkOk_by (N := N_pieces_of) (sc := defScope s_pieces_of) (by decide +kernel)) (fun _ _ _ _ _ => jg_name (i := 3) c.nd rfl (by first | exact Or.inl rfl | exact Or.inr rfl)) (fun _ _ _ _ _ c => jts_nil) (fun _ _ _ _ _ c => je_lc [("place", 4)] c (ji_rg1 T.z_range (ja_cons (je_fld T.o_Web (i := 0) rfl (je_var 0)) (ja_nil))) (blkOk_by (by kernel_rfl)) (fun _ _ _ _ _ => jg_name (i := 4) c.nd rfl (by first | exact Or.inl rfl | exact Or.inr rfl)) (fun _ _ _ _ _ c => jts_one (jt_cmp (op_eq4 c.eq) ok_eq (je_ix (je_var 2) (je_var 4)) (je_var 3) (nomark _))) (fun _ _ _ _ _ c => je_var 4) (by decide)) (by decide))))) (fun _ _ => .inr rfl)
set_option maxHeartbeats 4000000 in
theorem ok_is_joined (T : Tx K mg) (G_marks_over : FnOk P w K mg base (L2.CX P w) 1 T.a_marks_over T.d_marks_over ["web", "ties"] (spD K T.cls 2 g_marks_over)) (G_made_set : FnOk P w K mg base (L2.CX P w) 1 T.a_made_set T.d_made_set ["web", "ties"] (spD K T.cls 2 g_made_set)) : FnOk P w K mg base (L2.CX P w) 2 T.a_is_joined T.d_is_joined ["web", "ties"] (spD K T.cls 2 g_is_joined) :=
  fnD_ok T.F_is_joined sc_is_joined rfl (fun cdv A outer s H E c => jss_one (js_ret (je_cmp (op_eq4 c.eq) ok_eq (je_lenset c T.z_len T.z_set (je_own (c.mono (by decide)) G_marks_over T.m_marks_over T.k_marks_over T.b_marks_over (ja_cons (je_var 0) (ja_cons (je_own (c.mono (by decide)) G_made_set T.m_made_set T.k_made_set T.b_made_set (ja_cons (je_var 0) (ja_cons (je_var 1) (ja_nil))) (alS (alS (al0)))) (ja_nil))) (alS (alS (al0))))) (je_int) (nomark _)))) (fun _ _ => .inr rfl)
set_option maxHeartbeats 4000000 in
theorem ok_is_tree (T : Tx K mg) (G_marks_over : FnOk P w K mg base (L2.CX P w) 1 T.a_marks_over T.d_marks_over ["web", "ties"] (spD K T.cls 2 g_marks_over)) : FnOk P w K mg base (L2.CX P w) 2 T.a_is_tree T.d_is_tree ["web", "ties"] (spD K T.cls 2 g_is_tree) :=
  fnD_ok T.F_is_tree sc_is_tree rfl (fun cdv A outer s H E c => jss_cons (js_if (jt_cmp (op_ne4 c.eq) ok_ne (je_callB call_len ok_len T.z_len (by decide +kernel) (ja_cons (je_var 1) (ja_nil))) (je_bin op_sub ok_sub (je_fld T.o_Web (i := 0) rfl (je_var 0)) (je_int)) (nomark _)) (jss_one (js_ret (je_bl))) (jss_nil)) (jss_cons (js_setF (i := 2) c rfl (by first | exact Or.inl rfl | exact Or.inr rfl) (je_un un_neg ok_neg (je_int))) (jss_cons (js_for c (ji_seq (je_var 1)) (jg_name (i := 3) c.nd rfl (by first | exact Or.inl rfl | exact Or.inr rfl)) (jss_cons (js_if (jt_w (jw_or (jt_cmp op_le ok_le (je_var 3) (je_var 2) (nomark _)) (jw_or1 (jt_cmp op_ge ok_ge (je_var 3) (je_callB call_len ok_len T.z_len (by decide +kernel) (ja_cons (je_fld T.o_Web (i := 1) rfl (je_var 0)) (ja_nil))) (nomark _))))) (jss_one (js_ret (je_bl))) (jss_nil)) (jss_one (js_setF (i := 2) c rfl (by first | exact Or.inl rfl | exact Or.inr rfl) (je_var 3))))) (jss_one (js_ret (je_cmp (op_eq4 c.eq) ok_eq (je_lenset c T.z_len T.z_set (je_own (c.mono (by decide)) G_marks_over T.m_marks_over T.k_marks_over T.b_marks_over (ja_cons (je_var 0) (ja_cons (je_var 1) (ja_nil))) (alS (alS (al0))))) (je_int) (nomark _))))))) (fun _ _ => .inr rfl)
set_option maxHeartbeats 4000000 in
theorem ok_look_at_tree (T : Tx K mg) (G_is_tree : FnOk P w K mg base (L2.CX P w) 2 T.a_is_tree T.d_is_tree ["web", "ties"] (spD K T.cls 2 g_is_tree)) : FnOk P w K mg base (L2.CX P w) 3 T.a_look_at_tree T.d_look_at_tree ["web", "tree"] (spD K T.cls 2 g_look_at_tree) :=
  fnD_ok T.F_look_at_tree sc_look_at_tree rfl (fun cdv A outer s H E c => jss_one (js_if (jt_not (jt_truth (je_own (c.mono (by decide)) G_is_tree T.m_is_tree T.k_is_tree T.b_is_tree (ja_cons (je_var 0) (ja_cons (je_var 1) (ja_nil))) (alS (alS (al0)))))) (jss_one (js_raise c T.e_NoTree)) (jss_nil))) (fun _ _ => .inr rfl)
set_option maxHeartbeats 4000000 in
theorem ok_grown (T : Tx K mg) (G_marks_over : FnOk P w K mg base (L2.CX P w) 1 T.a_marks_over T.d_marks_over ["web", "ties"] (spD K T.cls 2 g_marks_over)) : FnOk P w K mg base (L2.CX P w) 2 T.a_grown T.d_grown ["web", "kept", "order"] (spD K T.cls 3 g_grown) :=
  fnD_ok T.F_grown sc_grown rfl (fun cdv A outer s H E c => jss_cons (js_set (i := 3) c rfl (by first | exact Or.inl rfl | exact Or.inr rfl) (je_callTy call_list_of ok_list T.z_list (by decide +kernel) (ja_cons (je_var 1) (ja_nil)))) (jss_cons (js_setF (i := 4) c rfl (by first | exact Or.inl rfl | exact Or.inr rfl) (je_own2 (c.mono (by decide)) G_marks_over T.m_marks_over T.k_marks_over T.b_marks_over (ja_cons (je_var 0) (ja_cons (je_var 3) (ja_nil))) (alS (alS (al0))))) (jss_cons (js_for c (ji_seq (je_var 2)) (jg_name (i := 5) c.nd rfl (by first | exact Or.inl rfl | exact Or.inr rfl)) (jss_cons (js_asgT (je_ix (je_fld T.o_Web (i := 1) rfl (je_var 0)) (je_var 5)) (jg_tup c.calm (jgs_cons (jg_name (i := 6) c.nd rfl (by first | exact Or.inl rfl | exact Or.inr rfl)) (jgs_cons (jg_name (i := 7) c.nd rfl (by first | exact Or.inl rfl | exact Or.inr rfl)) (jgs_nil))))) (jss_one (js_if (jt_cmp (op_ne4 c.eq) ok_ne (je_ix (je_var 4) (je_var 6)) (je_ix (je_var 4) (je_var 7)) (nomark _)) (jss_cons (js_app (i := 3) rfl (by first | exact Or.inl rfl | exact Or.inr (Or.inl rfl) | exact Or.inr (Or.inr rfl)) (je_var 5)) (jss_one (js_setF (i := 4) c rfl (by first | exact Or.inl rfl | exact Or.inr rfl) (je_own2 (c.mono (by decide)) G_marks_over T.m_marks_over T.k_marks_over T.b_marks_over (ja_cons (je_var 0) (ja_cons (je_var 3) (ja_nil))) (alS (alS (al0))))))) (jss_nil))))) (jss_one (js_ret (je_callTy call_tuple_of ok_tuple T.z_tuple (by decide +kernel) (ja_cons (je_callB cr_sorted3 ok_sorted3 T.z_sorted (by decide +kernel) (ja_cons (je_var 3) (ja_nil))) (ja_nil)))))))) (fun _ _ => .inr rfl)
set_option maxHeartbeats 4000000 in
theorem ok_least_tree (T : Tx K mg) (G_grown : FnOk P w K mg base (L2.CX P w) 2 T.a_grown T.d_grown ["web", "kept", "order"] (spD K T.cls 3 g_grown)) : FnOk P w K mg base (L2.CX P w) 3 T.a_least_tree T.d_least_tree ["web"] (spD K T.cls 1 g_least_tree) :=
  fnD_ok T.F_least_tree sc_least_tree rfl (fun cdv A outer s H E c => jss_cons (js_setF (i := 1) c rfl (by first | exact Or.inl rfl | exact Or.inr rfl) (je_own (c.mono (by decide)) G_grown T.m_grown T.k_grown T.b_grown (ja_cons (je_var 0) (ja_cons (je_tup (jao_nil)) (ja_cons (je_lr1 c T.z_list T.z_range (je_callB call_len ok_len T.z_len (by decide +kernel) (ja_cons (je_fld T.o_Web (i := 1) rfl (je_var 0)) (ja_nil)))) (ja_nil)))) (alS (alS (alS (al0)))))) (jss_cons (js_if (jt_cmp op_lt ok_lt (je_callB call_len ok_len T.z_len (by decide +kernel) (ja_cons (je_var 1) (ja_nil))) (je_bin op_sub ok_sub (je_fld T.o_Web (i := 0) rfl (je_var 0)) (je_int)) (nomark _)) (jss_one (js_raise c T.e_Parted)) (jss_nil)) (jss_one (js_retV 1)))) (fun _ _ => .inr rfl)
set_option maxHeartbeats 4000000 in
theorem ok_without_tie (T : Tx K mg) : FnOk P w K mg base (L2.CX P w) 1 T.a_without_tie T.d_without_tie ["ties", "tie"] (spD K T.cls 2 g_without_tie) :=
  fnD_ok T.F_without_tie sc_without_tie rfl (fun cdv A outer s H E c => jss_one (js_ret (je_callTy call_tuple_of ok_tuple T.z_tuple (by decide +kernel) (ja_cons (je_lc [("other", 2)] c (ji_seq (je_var 0)) (blkOk_by (N := N_without_tie) (sc := defScope s_without_tie) (by decide +kernel)) (fun _ _ _ _ _ => jg_name (i := 2) c.nd rfl (by first | exact Or.inl rfl | exact Or.inr rfl)) (fun _ _ _ _ _ c => jts_one (jt_cmp (op_ne4 c.eq) ok_ne (je_var 2) (je_var 1) (nomark _))) (fun _ _ _ _ _ c => je_var 2) (by decide)) (ja_nil))))) (fun _ _ => .inr rfl)
set_option maxHeartbeats 4000000 in
theorem ok_ring_of (T : Tx K mg) (G_look_at_tree : FnOk P w K mg base (L2.CX P w) 3 T.a_look_at_tree T.d_look_at_tree ["web", "tree"] (spD K T.cls 2 g_look_at_tree)) (G_marks_over : FnOk P w K mg base (L2.CX P w) 1 T.a_marks_over T.d_marks_over ["web", "ties"] (spD K T.cls 2 g_marks_over)) (G_without_tie : FnOk P w K mg base (L2.CX P w) 1 T.a_without_tie T.d_without_tie ["ties", "tie"] (spD K T.cls 2 g_without_tie)) : FnOk P w K mg base (L2.CX P w) 4 T.a_ring_of T.d_ring_of ["web", "tree", "tie"] (spD K T.cls 3 g_ring_of) :=
  fnD_ok T.F_ring_of sc_ring_of rfl (fun cdv A outer s H E c => jss_cons (js_exp (je_own (c.mono (by decide)) G_look_at_tree T.m_look_at_tree T.k_look_at_tree T.b_look_at_tree (ja_cons (je_var 0) (ja_cons (je_var 1) (ja_nil))) (alS (alS (al0))))) (jss_cons (js_if (jt_w (jw_or (jt_not (jt_chain op_le op_lt ok_le ok_lt (je_int) (je_var 2) (je_callB call_len ok_len T.z_len (by decide +kernel) (ja_cons (je_fld T.o_Web (i := 1) rfl (je_var 0)) (ja_nil))))) (jw_or1 (jt_cmp op_in_seq ok_in (je_var 2) (je_var 1) (by rfl))))) (jss_one (js_raise c T.e_NoTie)) (jss_nil)) (jss_cons (js_asgT (je_ix (je_fld T.o_Web (i := 1) rfl (je_var 0)) (je_var 2)) (jg_tup c.calm (jgs_cons (jg_name (i := 3) c.nd rfl (by first | exact Or.inl rfl | exact Or.inr rfl)) (jgs_cons (jg_name (i := 4) c.nd rfl (by first | exact Or.inl rfl | exact Or.inr rfl)) (jgs_nil))))) (jss_cons (js_set (i := 5) c rfl (by first | exact Or.inl rfl | exact Or.inr rfl) (je_lst (jao_cons (je_var 2) (jao_nil)))) (jss_cons (js_for c (ji_seq (je_var 1)) (jg_name (i := 6) c.nd rfl (by first | exact Or.inl rfl | exact Or.inr rfl)) (jss_cons (js_setF (i := 7) c rfl (by first | exact Or.inl rfl | exact Or.inr rfl) (je_own (c.mono (by decide)) G_marks_over T.m_marks_over T.k_marks_over T.b_marks_over (ja_cons (je_var 0) (ja_cons (je_own (c.mono (by decide)) G_without_tie T.m_without_tie T.k_without_tie T.b_without_tie (ja_cons (je_var 1) (ja_cons (je_var 6) (ja_nil))) (alS (alS (al0)))) (ja_nil))) (alS (alS (al0))))) (jss_one (js_if (jt_cmp (op_ne4 c.eq) ok_ne (je_ix (je_var 7) (je_var 3)) (je_ix (je_var 7) (je_var 4)) (nomark _)) (jss_one (js_app (i := 5) rfl (by first | exact Or.inl rfl | exact Or.inr (Or.inl rfl) | exact Or.inr (Or.inr rfl)) (je_var 6))) (jss_nil))))) (jss_one (js_ret (je_callTy call_tuple_of ok_tuple T.z_tuple (by decide +kernel) (ja_cons (je_callB cr_sorted3 ok_sorted3 T.z_sorted (by decide +kernel) (ja_cons (je_var 5) (ja_nil))) (ja_nil)))))))))) (fun _ _ => .inr rfl)
set_option maxHeartbeats 4000000 in
theorem ok_pulls (T : Tx K mg) : FnOk P w K mg base (L2.CX P w) 1 T.a_pulls T.d_pulls ["count", "ties"] (spD K T.cls 2 g_pulls) :=
  fnD_ok T.F_pulls sc_pulls rfl (fun cdv A outer s H E c => jss_cons (js_setLc (i := 2) [("place", 5)] c rfl rfl (sw_true rfl rfl rfl (by decide +kernel)) (ji_rg1 T.z_range (ja_cons (je_var 0) (ja_nil))) (blkOk_by (N := N_pulls) (sc := defScope s_pulls) (by decide +kernel)) (fun _ _ _ _ _ => jg_name (i := 5) c.nd rfl (by first | exact Or.inl rfl | exact Or.inr rfl)) (fun _ _ _ _ _ c => jts_nil) (fun _ _ _ _ _ c => je_bin op_mul4 ok_mul (je_lst (jao_cons (je_int) (jao_nil))) (je_var 0)) (by decide)) (jss_cons (js_for c (ji_seq (je_var 1)) (jg_tup c.calm (jgs_cons (jg_name (i := 3) c.nd rfl (by first | exact Or.inl rfl | exact Or.inr rfl)) (jgs_cons (jg_name (i := 4) c.nd rfl (by first | exact Or.inl rfl | exact Or.inr rfl)) (jgs_nil)))) (jss_one (js_if (jt_cmp (op_ne4 c.eq) ok_ne (je_var 3) (je_var 4) (nomark _)) (jss_cons (js_aug2 (i := 2) (j1 := 3) (j2 := 3) ip_add rfl (by first | exact Or.inl rfl | exact Or.inr (Or.inl rfl) | exact Or.inr (Or.inr rfl)) rfl (by first | exact Or.inl rfl | exact Or.inr (Or.inl rfl) | exact Or.inr (Or.inr rfl)) rfl (by first | exact Or.inl rfl | exact Or.inr (Or.inl rfl) | exact Or.inr (Or.inr rfl)) (je_int)) (jss_cons (js_aug2 (i := 2) (j1 := 4) (j2 := 4) ip_add rfl (by first | exact Or.inl rfl | exact Or.inr (Or.inl rfl) | exact Or.inr (Or.inr rfl)) rfl (by first | exact Or.inl rfl | exact Or.inr (Or.inl rfl) | exact Or.inr (Or.inr rfl)) rfl (by first | exact Or.inl rfl | exact Or.inr (Or.inl rfl) | exact Or.inr (Or.inr rfl)) (je_int)) (jss_cons (js_aug2 (i := 2) (j1 := 3) (j2 := 4) ip_sub rfl (by first | exact Or.inl rfl | exact Or.inr (Or.inl rfl) | exact Or.inr (Or.inr rfl)) rfl (by first | exact Or.inl rfl | exact Or.inr (Or.inl rfl) | exact Or.inr (Or.inr rfl)) rfl (by first | exact Or.inl rfl | exact Or.inr (Or.inl rfl) | exact Or.inr (Or.inr rfl)) (je_int)) (jss_one (js_aug2 (i := 2) (j1 := 4) (j2 := 3) ip_sub rfl (by first | exact Or.inl rfl | exact Or.inr (Or.inl rfl) | exact Or.inr (Or.inr rfl)) rfl (by first | exact Or.inl rfl | exact Or.inr (Or.inl rfl) | exact Or.inr (Or.inr rfl)) rfl (by first | exact Or.inl rfl | exact Or.inr (Or.inl rfl) | exact Or.inr (Or.inr rfl)) (je_int)))))) (jss_nil)))) (jss_one (js_retV 2)))) (fun _ _ => .inr rfl)
set_option maxHeartbeats 4000000 in
theorem ok_without_last (T : Tx K mg) : FnOk P w K mg base (L2.CX P w) 1 T.a_without_last T.d_without_last ["table"] (spD K T.cls 1 g_without_last) :=
  fnD_ok T.F_without_last sc_without_last rfl (fun cdv A outer s H E c => jss_one (js_ret (je_lc [("row", 1)] c (ji_seq (je_sl (je_var 0) (jp_none) (jp_some (je_un un_neg ok_neg (je_int))))) (blkOk_by (N := N_without_last) (sc := defScope s_without_last) (by decide +kernel)) (fun _ _ _ _ _ => jg_name (i := 1) c.nd rfl (by first | exact Or.inl rfl | exact Or.inr rfl)) (fun _ _ _ _ _ c => jts_nil) (fun _ _ _ _ _ c => je_sl (je_var 1) (jp_none) (jp_some (je_un un_neg ok_neg (je_int)))) (by decide)))) (fun _ _ => .inr rfl)
set_option maxHeartbeats 4000000 in
theorem ok_pull_table (T : Tx K mg) (G_pulls : FnOk P w K mg base (L2.CX P w) 1 T.a_pulls T.d_pulls ["count", "ties"] (spD K T.cls 2 g_pulls)) : FnOk P w K mg base (L2.CX P w) 2 T.a_pull_table T.d_pull_table ["web"] (spD K T.cls 1 g_pull_table) :=
  fnD_ok T.F_pull_table sc_pull_table rfl (fun cdv A outer s H E c => jss_one (js_ret (je_own (c.mono (by decide)) G_pulls T.m_pulls T.k_pulls T.b_pulls (ja_cons (je_fld T.o_Web (i := 0) rfl (je_var 0)) (ja_cons (je_fld T.o_Web (i := 1) rfl (je_var 0)) (ja_nil))) (alS (alS (al0)))))) (fun _ _ => .inr rfl)
set_option maxHeartbeats 4000000 in
theorem ok_tree_count (T : Tx K mg) (G_determinant : FnOk P w K mg base (L2.CX P w) 2 T.a_determinant T.d_determinant ["table"] (spD K T.cls 1 g_determinant)) (G_without_last : FnOk P w K mg base (L2.CX P w) 1 T.a_without_last T.d_without_last ["table"] (spD K T.cls 1 g_without_last)) (G_pull_table : FnOk P w K mg base (L2.CX P w) 2 T.a_pull_table T.d_pull_table ["web"] (spD K T.cls 1 g_pull_table)) : FnOk P w K mg base (L2.CX P w) 3 T.a_tree_count T.d_tree_count ["web"] (spD K T.cls 1 g_tree_count) :=
  fnD_ok T.F_tree_count sc_tree_count rfl (fun cdv A outer s H E c => jss_one (js_ret (je_own (c.mono (by decide)) G_determinant T.m_determinant T.k_determinant T.b_determinant (ja_cons (je_own (c.mono (by decide)) G_without_last T.m_without_last T.k_without_last T.b_without_last (ja_cons (je_own (c.mono (by decide)) G_pull_table T.m_pull_table T.k_pull_table T.b_pull_table (ja_cons (je_var 0) (ja_nil)) (alS (al0))) (ja_nil)) (alS (al0))) (ja_nil)) (alS (al0))))) (fun _ _ => .inr rfl)
set_option maxHeartbeats 4000000 in
theorem ok_count_with (T : Tx K mg) (G_made_set : FnOk P w K mg base (L2.CX P w) 1 T.a_made_set T.d_made_set ["web", "ties"] (spD K T.cls 2 g_made_set)) (G_pieces_of : FnOk P w K mg base (L2.CX P w) 2 T.a_pieces_of T.d_pieces_of ["web", "ties"] (spD K T.cls 2 g_pieces_of)) (G_determinant : FnOk P w K mg base (L2.CX P w) 2 T.a_determinant T.d_determinant ["table"] (spD K T.cls 1 g_determinant)) (G_without_last : FnOk P w K mg base (L2.CX P w) 1 T.a_without_last T.d_without_last ["table"] (spD K T.cls 1 g_without_last)) (G_pulls : FnOk P w K mg base (L2.CX P w) 1 T.a_pulls T.d_pulls ["count", "ties"] (spD K T.cls 2 g_pulls)) : FnOk P w K mg base (L2.CX P w) 3 T.a_count_with T.d_count_with ["web", "inside", "outside"] (spD K T.cls 3 g_count_with) :=
  fnD_ok T.F_count_with sc_count_with rfl (fun cdv A outer s H E c => jss_cons (js_setF (i := 3) c rfl (by first | exact Or.inl rfl | exact Or.inr rfl) (je_own (c.mono (by decide)) G_made_set T.m_made_set T.k_made_set T.b_made_set (ja_cons (je_var 0) (ja_cons (je_var 1) (ja_nil))) (alS (alS (al0))))) (jss_cons (js_setF (i := 4) c rfl (by first | exact Or.inl rfl | exact Or.inr rfl) (je_own (c.mono (by decide)) G_made_set T.m_made_set T.k_made_set T.b_made_set (ja_cons (je_var 0) (ja_cons (je_var 2) (ja_nil))) (alS (alS (al0))))) (jss_cons (js_setF (i := 5) c rfl (by first | exact Or.inl rfl | exact Or.inr rfl) (je_own (c.mono (by decide)) G_pieces_of T.m_pieces_of T.k_pieces_of T.b_pieces_of (ja_cons (je_var 0) (ja_cons (je_var 3) (ja_nil))) (alS (alS (al0))))) (jss_cons (js_if (jt_w (jw_or (jt_cmp (op_ne4 c.eq) ok_ne (je_callB call_len ok_len T.z_len (by decide +kernel) (ja_cons (je_var 3) (ja_nil))) (je_bin op_sub ok_sub (je_fld T.o_Web (i := 0) rfl (je_var 0)) (je_callB call_len ok_len T.z_len (by decide +kernel) (ja_cons (je_var 5) (ja_nil)))) (nomark _)) (jw_or1 (jt_truth (je_callB (cr_any c.calm) ok_any T.z_any (by decide +kernel) (ja_cons (je_lc [("tie", 11)] c (ji_seq (je_var 3)) (blkOk_by (N := N_count_with) (sc := defScope s_count_with) (by decide +kernel)) (fun _ _ _ _ _ => jg_name (i := 11) c.nd rfl (by first | exact Or.inl rfl | exact Or.inr rfl)) (fun _ _ _ _ _ c => jts_nil) (fun _ _ _ _ _ c => je_cmp op_in_seq ok_in (je_var 11) (je_var 4) (by rfl)) (by decide)) (ja_nil))))))) (jss_one (js_ret (je_int))) (jss_nil)) (jss_cons (js_set (i := 6) c rfl (by first | exact Or.inl rfl | exact Or.inr rfl) (je_dic)) (jss_cons (js_for c (ji_enm T.z_enumerate (ja_cons (je_var 5) (ja_nil))) (jg_tup c.calm (jgs_cons (jg_name (i := 7) c.nd rfl (by first | exact Or.inl rfl | exact Or.inr rfl)) (jgs_cons (jg_name (i := 8) c.nd rfl (by first | exact Or.inl rfl | exact Or.inr rfl)) (jgs_nil)))) (jss_one (js_for c (ji_seq (je_var 8)) (jg_name (i := 9) c.nd rfl (by first | exact Or.inl rfl | exact Or.inr rfl)) (jss_one (js_dset (i := 6) c rfl (by first | exact Or.inl rfl | exact Or.inr (Or.inl rfl) | exact Or.inr (Or.inr rfl)) (je_var 7) (je_var 9)))))) (jss_cons (js_setLcF (i := 10) [("tie", 11), ("pair", 12)] c rfl rfl (sw_true rfl rfl rfl (by decide +kernel)) (ji_enm T.z_enumerate (ja_cons (je_fld T.o_Web (i := 1) rfl (je_var 0)) (ja_nil))) (blkOk_by (N := N_count_with) (sc := defScope s_count_with) (by decide +kernel)) (fun _ _ _ _ _ => jg_tup c.calm (jgs_cons (jg_name (i := 11) c.nd rfl (by first | exact Or.inl rfl | exact Or.inr rfl)) (jgs_cons (jg_name (i := 12) c.nd rfl (by first | exact Or.inl rfl | exact Or.inr rfl)) (jgs_nil)))) (fun _ _ _ _ _ c => jts_one (jt_cmp op_notIn_seq ok_nin (je_var 11) (je_var 4) (by rfl))) (fun _ _ _ _ _ c => je_tup (jao_cons (je_dget c (je_var 6) (je_ix (je_var 12) (je_int))) (jao_cons (je_dget c (je_var 6) (je_ix (je_var 12) (je_int))) (jao_nil)))) (by decide)) (jss_one (js_ret (je_own (c.mono (by decide)) G_determinant T.m_determinant T.k_determinant T.b_determinant (ja_cons (je_own (c.mono (by decide)) G_without_last T.m_without_last T.k_without_last T.b_without_last (ja_cons (je_own (c.mono (by decide)) G_pulls T.m_pulls T.k_pulls T.b_pulls (ja_cons (je_callB call_len ok_len T.z_len (by decide +kernel) (ja_cons (je_var 5) (ja_nil))) (ja_cons (je_var 10) (ja_nil))) (alS (alS (al0)))) (ja_nil)) (alS (al0))) (ja_nil)) (alS (al0)))))))))))) (fun _ _ => .inr rfl)
set_option maxHeartbeats 4000000 in
theorem ok_tree_at (T : Tx K mg) (G_tree_count : FnOk P w K mg base (L2.CX P w) 3 T.a_tree_count T.d_tree_count ["web"] (spD K T.cls 1 g_tree_count)) (G_count_with : FnOk P w K mg base (L2.CX P w) 3 T.a_count_with T.d_count_with ["web", "inside", "outside"] (spD K T.cls 3 g_count_with)) : FnOk P w K mg base (L2.CX P w) 4 T.a_tree_at T.d_tree_at ["web", "number"] (spD K T.cls 2 g_tree_at) :=
  fnD_ok T.F_tree_at sc_tree_at rfl (fun cdv A outer s H E c => jss_cons (js_if (jt_w (jw_or (jt_cmp op_lt ok_lt (je_var 1) (je_int) (nomark _)) (jw_or1 (jt_cmp op_ge ok_ge (je_var 1) (je_own (c.mono (by decide)) G_tree_count T.m_tree_count T.k_tree_count T.b_tree_count (ja_cons (je_var 0) (ja_nil)) (alS (al0))) (nomark _))))) (jss_one (js_raise c T.e_NoSuch)) (jss_nil)) (jss_cons (js_setF (i := 2) c rfl (by first | exact Or.inl rfl | exact Or.inr rfl) (je_tup (jao_nil))) (jss_cons (js_setF (i := 3) c rfl (by first | exact Or.inl rfl | exact Or.inr rfl) (je_tup (jao_nil))) (jss_cons (js_for c (ji_rg1 T.z_range (ja_cons (je_callB call_len ok_len T.z_len (by decide +kernel) (ja_cons (je_fld T.o_Web (i := 1) rfl (je_var 0)) (ja_nil))) (ja_nil))) (jg_name (i := 4) c.nd rfl (by first | exact Or.inl rfl | exact Or.inr rfl)) (jss_cons (js_setF (i := 5) c rfl (by first | exact Or.inl rfl | exact Or.inr rfl) (je_own (c.mono (by decide)) G_count_with T.m_count_with T.k_count_with T.b_count_with (ja_cons (je_var 0) (ja_cons (je_bin op_add4 ok_add (je_var 2) (je_tup (jao_cons (je_var 4) (jao_nil)))) (ja_cons (je_var 3) (ja_nil)))) (alS (alS (alS (al0)))))) (jss_one (js_if (jt_cmp op_lt ok_lt (je_var 1) (je_var 5) (nomark _)) (jss_one (js_setF (i := 2) c rfl (by first | exact Or.inl rfl | exact Or.inr rfl) (je_bin op_add4 ok_add (je_var 2) (je_tup (jao_cons (je_var 4) (jao_nil)))))) (jss_cons (js_setF (i := 1) c rfl (by first | exact Or.inl rfl | exact Or.inr rfl) (je_bin op_sub ok_sub (je_var 1) (je_var 5))) (jss_one (js_setF (i := 3) c rfl (by first | exact Or.inl rfl | exact Or.inr rfl) (je_bin op_add4 ok_add (je_var 3) (je_tup (jao_cons (je_var 4) (jao_nil))))))))))) (jss_one (js_retV 2)))))) (fun _ _ => .inr rfl)
set_option maxHeartbeats 4000000 in
theorem ok_number_written (T : Tx K mg) : FnOk P w K mg base (L2.CX P w) 1 T.a_number_written T.d_number_written ["word"] (spD K T.cls 1 g_number_written) :=
  fnD_ok T.F_number_written sc_number_written rfl (fun cdv A outer s H E c => jss_cons (js_setF (i := 1) c rfl (by first | exact Or.inl rfl | exact Or.inr rfl) (je_var 0)) (jss_cons (js_if (jt_cmp (op_eq4 c.eq) ok_eq (je_slS (je_var 0) (jp_none) (jp_some (je_int))) (je_str) (nomark _)) (jss_one (js_setF (i := 1) c rfl (by first | exact Or.inl rfl | exact Or.inr rfl) (je_slS (je_var 0) (jp_some (je_int)) (jp_none)))) (jss_nil)) (jss_cons (js_if (jt_w (jw_or (jt_not (jt_chain op_le op_le ok_le ok_le (je_int) (je_callB call_len ok_len T.z_len (by decide +kernel) (ja_cons (je_var 1) (ja_nil))) (je_gint T.v_MOST_FIGURES))) (jw_or1 (jt_not (jt_truth (je_callB (cr_all c.calm) ok_all T.z_all (by decide +kernel) (ja_cons (je_lc [("sign", 2)] c (ji_str (je_var 1)) (blkOk_by (N := N_number_written) (sc := defScope s_number_written) (by decide +kernel)) (fun _ _ _ _ _ => jg_name (i := 2) c.nd rfl (by first | exact Or.inl rfl | exact Or.inr rfl)) (fun _ _ _ _ _ c => jts_nil) (fun _ _ _ _ _ c => je_cmp op_in_sign ok_inC (je_var 2) (je_gstr T.v_FIGURES) (by rfl)) (by decide)) (ja_nil)))))))) (jss_one (js_raise c T.e_BadText)) (jss_nil)) (jss_cons (js_if (jt_w (jw_and (jt_cmp (op_eq4 c.eq) ok_eq (je_ix (je_var 1) (je_int)) (je_str) (nomark _)) (jw_and1 (jt_cmp (op_ne4 c.eq) ok_ne (je_var 0) (je_str) (nomark _))))) (jss_one (js_raise c T.e_BadText)) (jss_nil)) (jss_one (js_ret (je_callTy call_int_str ok_intS T.z_int (by decide +kernel) (ja_cons (je_var 0) (ja_nil))))))))) (fun _ _ => .inr rfl)
set_option maxHeartbeats 4000000 in
theorem ok_numbers_behind (T : Tx K mg) (G_number_written : FnOk P w K mg base (L2.CX P w) 1 T.a_number_written T.d_number_written ["word"] (spD K T.cls 1 g_number_written)) : FnOk P w K mg base (L2.CX P w) 2 T.a_numbers_behind T.d_numbers_behind ["line", "word", "count"] (spD K T.cls 3 g_numbers_behind) :=
  fnD_ok T.F_numbers_behind sc_numbers_behind rfl (fun cdv A outer s H E c => jss_cons (js_setF (i := 3) c rfl (by first | exact Or.inl rfl | exact Or.inr rfl) (je_split (je_var 0) (je_str))) (jss_cons (js_if (jt_w (jw_or (jt_cmp (op_ne4 c.eq) ok_ne (je_ix (je_var 3) (je_int)) (je_var 1) (nomark _)) (jw_or1 (jt_cmp (op_ne4 c.eq) ok_ne (je_callB call_len ok_len T.z_len (by decide +kernel) (ja_cons (je_var 3) (ja_nil))) (je_bin op_add4 ok_add (je_var 2) (je_int)) (nomark _))))) (jss_one (js_raise c T.e_BadText)) (jss_nil)) (jss_one (js_ret (je_lcX [("other", 4)] c rfl rfl (ji_seq (je_sl (je_var 3) (jp_some (je_int)) (jp_none))) (blkOk_by (N := N_numbers_behind) (sc := defScope s_numbers_behind) (by decide +kernel)) (fun _ _ _ _ _ => jg_name (i := 4) c.nd rfl (by first | exact Or.inl rfl | exact Or.inr rfl)) (fun _ _ _ _ _ _ _ c => je_own (c.mono (by decide)) G_number_written T.m_number_written T.k_number_written T.b_number_written (ja_cons (je_var 4) (ja_nil)) (alS (al0))) (by decide)))))) (fun _ _ => .inr rfl)
set_option maxHeartbeats 4000000 in
theorem ok_read_web (T : Tx K mg) (G_numbers_behind : FnOk P w K mg base (L2.CX P w) 2 T.a_numbers_behind T.d_numbers_behind ["line", "word", "count"] (spD K T.cls 3 g_numbers_behind)) (G_Web_init : FnOk P w K mg base (L2.CX P w) 1 T.a_Web_init T.d_Web_init ["self", "places", "ties"] (spI K T.cls 14 2 g_Web_init)) : FnOk P w K mg base (L2.CX P w) 3 T.a_read_web T.d_read_web ["text"] (spD K T.cls 1 g_read_web) :=
  fnD_ok T.F_read_web sc_read_web rfl (fun cdv A outer s H E c => jss_cons (js_setF (i := 1) c rfl (by first | exact Or.inl rfl | exact Or.inr rfl) (je_split (je_var 0) (je_str))) (jss_cons (js_setF (i := 2) c rfl (by first | exact Or.inl rfl | exact Or.inr rfl) (je_ix (je_own (c.mono (by decide)) G_numbers_behind T.m_numbers_behind T.k_numbers_behind T.b_numbers_behind (ja_cons (je_ix (je_var 1) (je_int)) (ja_cons (je_str) (ja_cons (je_int) (ja_nil)))) (alS (alS (alS (al0))))) (je_int))) (jss_cons (js_setLcXF (i := 3) [("line", 4)] c rfl rfl rfl rfl (sw_true rfl rfl rfl (by decide +kernel)) (ji_seq (je_sl (je_var 1) (jp_some (je_int)) (jp_none))) (blkOk_by (N := N_read_web) (sc := defScope s_read_web) (by decide +kernel)) (fun _ _ _ _ _ => jg_name (i := 4) c.nd rfl (by first | exact Or.inl rfl | exact Or.inr rfl)) (fun _ _ _ _ _ _ _ c => je_own (c.mono (by decide)) G_numbers_behind T.m_numbers_behind T.k_numbers_behind T.b_numbers_behind (ja_cons (je_var 4) (ja_cons (je_str) (ja_cons (je_int) (ja_nil)))) (alS (alS (alS (al0))))) (by decide)) (jss_one (js_ret (je_tup (jao_cons (je_make (c.mono (by decide)) T.o_Web.e T.mk_Web G_Web_init T.m_Web T.b_Web_init (ja_cons (je_var 2) (ja_cons (je_lc [("row", 5)] c (ji_seq (je_var 3)) (blkOk_by (N := N_read_web) (sc := defScope s_read_web) (by decide +kernel)) (fun _ _ _ _ _ => jg_name (i := 5) c.nd rfl (by first | exact Or.inl rfl | exact Or.inr rfl)) (fun _ _ _ _ _ c => jts_nil) (fun _ _ _ _ _ c => je_tup (jao_cons (je_ix (je_var 5) (je_int)) (jao_cons (je_ix (je_var 5) (je_int)) (jao_nil)))) (by decide)) (ja_nil))) (alS (alS (al0)))) (jao_cons (je_frzE (je_lc [("row", 5)] c (ji_seq (je_var 3)) (blkOk_by (N := N_read_web) (sc := defScope s_read_web) (by decide +kernel)) (fun _ _ _ _ _ => jg_name (i := 5) c.nd rfl (by first | exact Or.inl rfl | exact Or.inr rfl)) (fun _ _ _ _ _ c => jts_nil) (fun _ _ _ _ _ c => je_ix (je_var 5) (je_int)) (by decide))) (jao_nil))))))))) (fun _ _ => .inr rfl)
set_option maxHeartbeats 4000000 in
theorem ok_Desk_init (T : Tx K mg) (G_read_web : FnOk P w K mg base (L2.CX P w) 3 T.a_read_web T.d_read_web ["text"] (spD K T.cls 1 g_read_web)) : FnOk P w K mg base (L2.CX P w) 4 T.a_Desk_init T.d_Desk_init ["self", "text"] (spI K T.cls 16 1 g_Desk_init) :=
  fnI_ok T.F_Desk_init sc_Desk_init rfl (fun cdv A outer s H E c => jss_one (js_fld (i := 0) T.o_Desk (j := 0) rfl (by decide) rfl (by first | exact Or.inl rfl | exact Or.inr (Or.inl rfl) | exact Or.inr (Or.inr rfl)) (je_lst (jao_cons (je_own (c.mono (by decide)) G_read_web T.m_read_web T.k_read_web T.b_read_web (ja_cons (je_var 1) (ja_nil)) (alS (al0))) (jao_nil))))) (mirI_ok)
set_option maxHeartbeats 4000000 in
theorem ok_Desk_back (T : Tx K mg) : FnOk P w K mg base (L2.CX P w) 1 T.a_Desk_back T.d_Desk_back ["self"] (spD K T.cls 1 g_Desk_back) :=
  fnD_ok T.F_Desk_back sc_Desk_back rfl (fun cdv A outer s H E c => jss_cons (js_if (jt_cmp (op_eq4 c.eq) ok_eq (je_callB call_len ok_len T.z_len (by decide +kernel) (ja_cons (je_fld T.o_Desk (i := 0) rfl (je_var 0)) (ja_nil))) (je_int) (nomark _)) (jss_one (js_raise c T.e_NothingBack)) (jss_nil)) (jss_cons (js_never) (jss_one (js_ret (je_bin op_sub ok_sub (je_callB call_len ok_len T.z_len (by decide +kernel) (ja_cons (je_fld T.o_Desk (i := 0) rfl (je_var 0)) (ja_nil))) (je_int)))))) (fun _ _ => .inr rfl)
set_option maxHeartbeats 4000000 in
theorem ok_place_from (T : Tx K mg) : FnOk P w K mg base (L2.CX P w) 1 T.a_place_from T.d_place_from ["web", "dart"] (spD K T.cls 2 g_place_from) :=
  fnD_ok T.F_place_from sc_place_from rfl (fun cdv A outer s H E c => jss_one (js_ret (je_ix (je_ix (je_fld T.o_Web (i := 1) rfl (je_var 0)) (je_bin op_divX ok_div (je_var 1) (je_int))) (je_bin op_modX ok_mod (je_var 1) (je_int))))) (fun _ _ => .inr rfl)
set_option maxHeartbeats 4000000 in
theorem ok_look_at_turns (T : Tx K mg) (G_place_from : FnOk P w K mg base (L2.CX P w) 1 T.a_place_from T.d_place_from ["web", "dart"] (spD K T.cls 2 g_place_from)) : FnOk P w K mg base (L2.CX P w) 2 T.a_look_at_turns T.d_look_at_turns ["web", "turns"] (spD K T.cls 2 g_look_at_turns) :=
  fnD_ok T.F_look_at_turns sc_look_at_turns rfl (fun cdv A outer s H E c => jss_cons (js_if (jt_cmp (op_ne4 c.eq) ok_ne (je_callB call_len ok_len T.z_len (by decide +kernel) (ja_cons (je_var 1) (ja_nil))) (je_fld T.o_Web (i := 0) rfl (je_var 0)) (nomark _)) (jss_one (js_raise c T.e_BadTurns)) (jss_nil)) (jss_cons (js_set (i := 2) c rfl (by first | exact Or.inl rfl | exact Or.inr rfl) (je_dic)) (jss_cons (js_for c (ji_enm3 T.z_enumerate (ja_cons (je_var 1) (ja_nil))) (jg_tup c.calm (jgs_cons (jg_name (i := 3) c.nd rfl (by first | exact Or.inl rfl | exact Or.inr rfl)) (jgs_cons (jg_name (i := 4) c.nd rfl (by first | exact Or.inl rfl | exact Or.inr rfl)) (jgs_nil)))) (jss_one (js_for c (ji_seq (je_var 4)) (jg_name (i := 5) c.nd rfl (by first | exact Or.inl rfl | exact Or.inr rfl)) (jss_cons (js_if (jt_w (jw_or (jt_cmp op_lt ok_lt (je_var 5) (je_int) (nomark _)) (jw_or (jt_cmp op_ge ok_ge (je_var 5) (je_bin op_mul4 ok_mul (je_int) (je_callB call_len ok_len T.z_len (by decide +kernel) (ja_cons (je_fld T.o_Web (i := 1) rfl (je_var 0)) (ja_nil)))) (nomark _)) (jw_or (jt_cmp (op_di c.eq1) ok_di (je_var 5) (je_var 2) (by rfl)) (jw_or1 (jt_cmp (op_ne4 c.eq) ok_ne (je_own (c.mono (by decide)) G_place_from T.m_place_from T.k_place_from T.b_place_from (ja_cons (je_var 0) (ja_cons (je_var 5) (ja_nil))) (alS (alS (al0)))) (je_var 3) (nomark _))))))) (jss_one (js_raise c T.e_BadTurns)) (jss_nil)) (jss_one (js_dset (i := 2) c rfl (by first | exact Or.inl rfl | exact Or.inr (Or.inl rfl) | exact Or.inr (Or.inr rfl)) (je_var 3) (je_var 5))))))) (jss_one (js_if (jt_cmp (op_ne4 c.eq) ok_ne (je_callB call_lenD ok_lenD T.z_len (by decide +kernel) (ja_cons (je_var 2) (ja_nil))) (je_bin op_mul4 ok_mul (je_int) (je_callB call_len ok_len T.z_len (by decide +kernel) (ja_cons (je_fld T.o_Web (i := 1) rfl (je_var 0)) (ja_nil)))) (nomark _)) (jss_one (js_raise c T.e_BadTurns)) (jss_nil)))))) (fun _ _ => .inr rfl)
set_option maxHeartbeats 4000000 in
theorem ok_darts_behind (T : Tx K mg) : FnOk P w K mg base (L2.CX P w) 1 T.a_darts_behind T.d_darts_behind ["turns"] (spD K T.cls 1 g_darts_behind) :=
  fnD_ok T.F_darts_behind sc_darts_behind rfl (fun cdv A outer s H E c => jss_cons (js_set (i := 1) c rfl (by first | exact Or.inl rfl | exact Or.inr rfl) (je_dic)) (jss_cons (js_for c (ji_seq (je_var 0)) (jg_name (i := 2) c.nd rfl (by first | exact Or.inl rfl | exact Or.inr rfl)) (jss_one (js_for c (ji_enm3 T.z_enumerate (ja_cons (je_var 2) (ja_nil))) (jg_tup c.calm (jgs_cons (jg_name (i := 3) c.nd rfl (by first | exact Or.inl rfl | exact Or.inr rfl)) (jgs_cons (jg_name (i := 4) c.nd rfl (by first | exact Or.inl rfl | exact Or.inr rfl)) (jgs_nil)))) (jss_one (js_dset (i := 1) c rfl (by first | exact Or.inl rfl | exact Or.inr (Or.inl rfl) | exact Or.inr (Or.inr rfl)) (je_ix (je_var 2) (je_bin op_modX ok_mod (je_bin op_add4 ok_add (je_var 3) (je_int)) (je_callB call_len ok_len T.z_len (by decide +kernel) (ja_cons (je_var 2) (ja_nil))))) (je_bin op_xor ok_xor (je_var 4) (je_int))))))) (jss_one (js_retV 1)))) (fun _ _ => .inr rfl)
set_option maxHeartbeats 4000000 in
theorem ok_rounds_of (T : Tx K mg) (G_look_at_turns : FnOk P w K mg base (L2.CX P w) 2 T.a_look_at_turns T.d_look_at_turns ["web", "turns"] (spD K T.cls 2 g_look_at_turns)) (G_darts_behind : FnOk P w K mg base (L2.CX P w) 1 T.a_darts_behind T.d_darts_behind ["turns"] (spD K T.cls 1 g_darts_behind)) : FnOk P w K mg base (L2.CX P w) 3 T.a_rounds_of T.d_rounds_of ["web", "turns"] (spD K T.cls 2 g_rounds_of) :=
  fnD_ok T.F_rounds_of sc_rounds_of rfl (fun cdv A outer s H E c => jss_cons (js_exp (je_own (c.mono (by decide)) G_look_at_turns T.m_look_at_turns T.k_look_at_turns T.b_look_at_turns (ja_cons (je_var 0) (ja_cons (je_var 1) (ja_nil))) (alS (alS (al0))))) (jss_cons (js_set (i := 2) c rfl (by first | exact Or.inl rfl | exact Or.inr rfl) (je_own (c.mono (by decide)) G_darts_behind T.m_darts_behind T.k_darts_behind T.b_darts_behind (ja_cons (je_var 1) (ja_nil)) (alS (al0)))) (jss_cons (js_set (i := 3) c rfl (by first | exact Or.inl rfl | exact Or.inr rfl) (je_dic)) (jss_cons (js_set (i := 4) c rfl (by first | exact Or.inl rfl | exact Or.inr rfl) (je_lst (jao_nil))) (jss_cons (js_for c (ji_rg1 T.z_range (ja_cons (je_bin op_mul4 ok_mul (je_int) (je_callB call_len ok_len T.z_len (by decide +kernel) (ja_cons (je_fld T.o_Web (i := 1) rfl (je_var 0)) (ja_nil)))) (ja_nil))) (jg_name (i := 5) c.nd rfl (by first | exact Or.inl rfl | exact Or.inr rfl)) (jss_one (js_if (jt_cmp (op_dn c.eq1) ok_dn (je_var 5) (je_var 3) (by rfl)) (jss_cons (js_set (i := 6) c rfl (by first | exact Or.inl rfl | exact Or.inr rfl) (je_lst (jao_nil))) (jss_cons (js_setF (i := 7) c rfl (by first | exact Or.inl rfl | exact Or.inr rfl) (je_var 5)) (jss_cons (js_while c (jt_cmp (op_dn c.eq1) ok_dn (je_var 7) (je_var 3) (by rfl)) (jss_cons (js_dset (i := 3) c rfl (by first | exact Or.inl rfl | exact Or.inr (Or.inl rfl) | exact Or.inr (Or.inr rfl)) (je_bl) (je_var 7)) (jss_cons (js_app (i := 6) rfl (by first | exact Or.inl rfl | exact Or.inr (Or.inl rfl) | exact Or.inr (Or.inr rfl)) (je_var 7)) (jss_one (js_setF (i := 7) c rfl (by first | exact Or.inl rfl | exact Or.inr rfl) (je_dget c (je_var 2) (je_var 7))))))) (jss_one (js_appMv (i := 4) (j := 6) rfl (by first | exact Or.inl rfl | exact Or.inr (Or.inl rfl) | exact Or.inr (Or.inr rfl)) rfl (by first | exact Or.inl rfl | exact Or.inr (Or.inl rfl) | exact Or.inr (Or.inr rfl))))))) (jss_nil)))) (jss_cons (js_if (jt_cmp (op_eq4 c.eq) ok_eq (je_callB call_len ok_len T.z_len (by decide +kernel) (ja_cons (je_var 4) (ja_nil))) (je_int) (nomark _)) (jss_one (js_ret (je_lst (jao_cons (je_lst (jao_nil)) (jao_nil))))) (jss_nil)) (jss_one (js_retV 4)))))))) (fun _ _ => .inr rfl)
set_option maxHeartbeats 4000000 in
theorem ok_lies_flat (T : Tx K mg) (G_rounds_of : FnOk P w K mg base (L2.CX P w) 3 T.a_rounds_of T.d_rounds_of ["web", "turns"] (spD K T.cls 2 g_rounds_of)) (G_is_joined : FnOk P w K mg base (L2.CX P w) 2 T.a_is_joined T.d_is_joined ["web", "ties"] (spD K T.cls 2 g_is_joined)) : FnOk P w K mg base (L2.CX P w) 4 T.a_lies_flat T.d_lies_flat ["web", "turns"] (spD K T.cls 2 g_lies_flat) :=
  fnD_ok T.F_lies_flat sc_lies_flat rfl (fun cdv A outer s H E c => jss_cons (js_setF (i := 2) c rfl (by first | exact Or.inl rfl | exact Or.inr rfl) (je_own (c.mono (by decide)) G_rounds_of T.m_rounds_of T.k_rounds_of T.b_rounds_of (ja_cons (je_var 0) (ja_cons (je_var 1) (ja_nil))) (alS (alS (al0))))) (jss_cons (js_setF (i := 3) c rfl (by first | exact Or.inl rfl | exact Or.inr rfl) (je_tr1 c T.z_tuple T.z_range (je_callB call_len ok_len T.z_len (by decide +kernel) (ja_cons (je_fld T.o_Web (i := 1) rfl (je_var 0)) (ja_nil))))) (jss_one (js_ret (je_and (je_tV (je_own (c.mono (by decide)) G_is_joined T.m_is_joined T.k_is_joined T.b_is_joined (ja_cons (je_var 0) (ja_cons (je_var 3) (ja_nil))) (alS (alS (al0))))) (je_one (je_cmp (op_eq4 c.eq) ok_eq (je_bin op_add4 ok_add (je_bin op_sub ok_sub (je_fld T.o_Web (i := 0) rfl (je_var 0)) (je_callB call_len ok_len T.z_len (by decide +kernel) (ja_cons (je_fld T.o_Web (i := 1) rfl (je_var 0)) (ja_nil)))) (je_callB call_len ok_len T.z_len (by decide +kernel) (ja_cons (je_var 2) (ja_nil)))) (je_int) (nomark _)))))))) (fun _ _ => .inr rfl)
set_option maxHeartbeats 4000000 in
theorem ok_other_web (T : Tx K mg) (G_lies_flat : FnOk P w K mg base (L2.CX P w) 4 T.a_lies_flat T.d_lies_flat ["web", "turns"] (spD K T.cls 2 g_lies_flat)) (G_rounds_of : FnOk P w K mg base (L2.CX P w) 3 T.a_rounds_of T.d_rounds_of ["web", "turns"] (spD K T.cls 2 g_rounds_of)) (G_Web_init : FnOk P w K mg base (L2.CX P w) 1 T.a_Web_init T.d_Web_init ["self", "places", "ties"] (spI K T.cls 14 2 g_Web_init)) : FnOk P w K mg base (L2.CX P w) 5 T.a_other_web T.d_other_web ["web", "turns"] (spD K T.cls 2 g_other_web) :=
  fnD_ok T.F_other_web sc_other_web rfl (fun cdv A outer s H E c => jss_cons (js_if (jt_not (jt_truth (je_own (c.mono (by decide)) G_lies_flat T.m_lies_flat T.k_lies_flat T.b_lies_flat (ja_cons (je_var 0) (ja_cons (je_var 1) (ja_nil))) (alS (alS (al0)))))) (jss_one (js_raise c T.e_NotFlat)) (jss_nil)) (jss_cons (js_setF (i := 2) c rfl (by first | exact Or.inl rfl | exact Or.inr rfl) (je_own (c.mono (by decide)) G_rounds_of T.m_rounds_of T.k_rounds_of T.b_rounds_of (ja_cons (je_var 0) (ja_cons (je_var 1) (ja_nil))) (alS (alS (al0))))) (jss_cons (js_set (i := 3) c rfl (by first | exact Or.inl rfl | exact Or.inr rfl) (je_dic)) (jss_cons (js_for c (ji_enm T.z_enumerate (ja_cons (je_var 2) (ja_nil))) (jg_tup c.calm (jgs_cons (jg_name (i := 4) c.nd rfl (by first | exact Or.inl rfl | exact Or.inr rfl)) (jgs_cons (jg_name (i := 5) c.nd rfl (by first | exact Or.inl rfl | exact Or.inr rfl)) (jgs_nil)))) (jss_one (js_for c (ji_seq (je_var 5)) (jg_name (i := 6) c.nd rfl (by first | exact Or.inl rfl | exact Or.inr rfl)) (jss_one (js_dset (i := 3) c rfl (by first | exact Or.inl rfl | exact Or.inr (Or.inl rfl) | exact Or.inr (Or.inr rfl)) (je_var 4) (je_var 6)))))) (jss_one (js_ret (je_make (c.mono (by decide)) T.o_Web.e T.mk_Web G_Web_init T.m_Web T.b_Web_init (ja_cons (je_callB call_len ok_len T.z_len (by decide +kernel) (ja_cons (je_var 2) (ja_nil))) (ja_cons (je_lc [("tie", 7)] c (ji_rg1 T.z_range (ja_cons (je_callB call_len ok_len T.z_len (by decide +kernel) (ja_cons (je_fld T.o_Web (i := 1) rfl (je_var 0)) (ja_nil))) (ja_nil))) (blkOk_by (N := N_other_web) (sc := defScope s_other_web) (by decide +kernel)) (fun _ _ _ _ _ => jg_name (i := 7) c.nd rfl (by first | exact Or.inl rfl | exact Or.inr rfl)) (fun _ _ _ _ _ c => jts_nil) (fun _ _ _ _ _ c => je_tup (jao_cons (je_dget c (je_var 3) (je_bin op_mul4 ok_mul (je_int) (je_var 7))) (jao_cons (je_dget c (je_var 3) (je_bin op_add4 ok_add (je_bin op_mul4 ok_mul (je_int) (je_var 7)) (je_int))) (jao_nil)))) (by decide)) (ja_nil))) (alS (alS (al0)))))))))) (fun _ _ => .inr rfl)
set_option maxHeartbeats 4000000 in
theorem ok_look_at_weights (T : Tx K mg) : FnOk P w K mg base (L2.CX P w) 1 T.a_look_at_weights T.d_look_at_weights ["web", "weights"] (spD K T.cls 2 g_look_at_weights) :=
  fnD_ok T.F_look_at_weights sc_look_at_weights rfl (fun cdv A outer s H E c => jss_one (js_if (jt_cmp (op_ne4 c.eq) ok_ne (je_callB call_len ok_len T.z_len (by decide +kernel) (ja_cons (je_var 1) (ja_nil))) (je_callB call_len ok_len T.z_len (by decide +kernel) (ja_cons (je_fld T.o_Web (i := 1) rfl (je_var 0)) (ja_nil))) (nomark _)) (jss_one (js_raise c T.e_BadRow)) (jss_nil))) (fun _ _ => .inr rfl)
set_option maxHeartbeats 4000000 in
theorem ok_weighed_table (T : Tx K mg) : FnOk P w K mg base (L2.CX P w) 1 T.a_weighed_table T.d_weighed_table ["web", "weights"] (spD K T.cls 2 g_weighed_table) :=
  fnD_ok T.F_weighed_table sc_weighed_table rfl (fun cdv A outer s H E c => jss_cons (js_setLc (i := 2) [("place", 7)] c rfl rfl (sw_true rfl rfl rfl (by decide +kernel)) (ji_rg1 T.z_range (ja_cons (je_fld T.o_Web (i := 0) rfl (je_var 0)) (ja_nil))) (blkOk_by (N := N_weighed_table) (sc := defScope s_weighed_table) (by decide +kernel)) (fun _ _ _ _ _ => jg_name (i := 7) c.nd rfl (by first | exact Or.inl rfl | exact Or.inr rfl)) (fun _ _ _ _ _ c => jts_nil) (fun _ _ _ _ _ c => je_bin op_mul4 ok_mul (je_lst (jao_cons (je_int) (jao_nil))) (je_fld T.o_Web (i := 0) rfl (je_var 0))) (by decide)) (jss_cons (js_for c (ji_zip2 T.z_zip (ja_cons (je_fld T.o_Web (i := 1) rfl (je_var 0)) (ja_cons (je_var 1) (ja_nil)))) (jg_tup c.calm (jgs_cons (jg_name (i := 3) c.nd rfl (by first | exact Or.inl rfl | exact Or.inr rfl)) (jgs_cons (jg_name (i := 4) c.nd rfl (by first | exact Or.inl rfl | exact Or.inr rfl)) (jgs_nil)))) (jss_cons (js_asgT (je_var 3) (jg_tup c.calm (jgs_cons (jg_name (i := 5) c.nd rfl (by first | exact Or.inl rfl | exact Or.inr rfl)) (jgs_cons (jg_name (i := 6) c.nd rfl (by first | exact Or.inl rfl | exact Or.inr rfl)) (jgs_nil))))) (jss_one (js_if (jt_cmp (op_ne4 c.eq) ok_ne (je_var 5) (je_var 6) (nomark _)) (jss_cons (js_aug2 (i := 2) (j1 := 5) (j2 := 5) ip_add rfl (by first | exact Or.inl rfl | exact Or.inr (Or.inl rfl) | exact Or.inr (Or.inr rfl)) rfl (by first | exact Or.inl rfl | exact Or.inr (Or.inl rfl) | exact Or.inr (Or.inr rfl)) rfl (by first | exact Or.inl rfl | exact Or.inr (Or.inl rfl) | exact Or.inr (Or.inr rfl)) (je_var 4)) (jss_cons (js_aug2 (i := 2) (j1 := 6) (j2 := 6) ip_add rfl (by first | exact Or.inl rfl | exact Or.inr (Or.inl rfl) | exact Or.inr (Or.inr rfl)) rfl (by first | exact Or.inl rfl | exact Or.inr (Or.inl rfl) | exact Or.inr (Or.inr rfl)) rfl (by first | exact Or.inl rfl | exact Or.inr (Or.inl rfl) | exact Or.inr (Or.inr rfl)) (je_var 4)) (jss_cons (js_aug2 (i := 2) (j1 := 5) (j2 := 6) ip_sub rfl (by first | exact Or.inl rfl | exact Or.inr (Or.inl rfl) | exact Or.inr (Or.inr rfl)) rfl (by first | exact Or.inl rfl | exact Or.inr (Or.inl rfl) | exact Or.inr (Or.inr rfl)) rfl (by first | exact Or.inl rfl | exact Or.inr (Or.inl rfl) | exact Or.inr (Or.inr rfl)) (je_var 4)) (jss_one (js_aug2 (i := 2) (j1 := 6) (j2 := 5) ip_sub rfl (by first | exact Or.inl rfl | exact Or.inr (Or.inl rfl) | exact Or.inr (Or.inr rfl)) rfl (by first | exact Or.inl rfl | exact Or.inr (Or.inl rfl) | exact Or.inr (Or.inr rfl)) rfl (by first | exact Or.inl rfl | exact Or.inr (Or.inl rfl) | exact Or.inr (Or.inr rfl)) (je_var 4)))))) (jss_nil))))) (jss_one (js_retV 2)))) (fun _ _ => .inr rfl)
set_option maxHeartbeats 4000000 in
theorem ok_tree_sum (T : Tx K mg) (G_look_at_weights : FnOk P w K mg base (L2.CX P w) 1 T.a_look_at_weights T.d_look_at_weights ["web", "weights"] (spD K T.cls 2 g_look_at_weights)) (G_determinant : FnOk P w K mg base (L2.CX P w) 2 T.a_determinant T.d_determinant ["table"] (spD K T.cls 1 g_determinant)) (G_weighed_table : FnOk P w K mg base (L2.CX P w) 1 T.a_weighed_table T.d_weighed_table ["web", "weights"] (spD K T.cls 2 g_weighed_table)) : FnOk P w K mg base (L2.CX P w) 3 T.a_tree_sum T.d_tree_sum ["web", "weights"] (spD K T.cls 2 g_tree_sum) :=
  fnD_ok T.F_tree_sum sc_tree_sum rfl (fun cdv A outer s H E c => jss_cons (js_exp (je_own (c.mono (by decide)) G_look_at_weights T.m_look_at_weights T.k_look_at_weights T.b_look_at_weights (ja_cons (je_var 0) (ja_cons (je_var 1) (ja_nil))) (alS (alS (al0))))) (jss_one (js_ret (je_own (c.mono (by decide)) G_determinant T.m_determinant T.k_determinant T.b_determinant (ja_cons (je_lc [("row", 2)] c (ji_seq (je_sl (je_own (c.mono (by decide)) G_weighed_table T.m_weighed_table T.k_weighed_table T.b_weighed_table (ja_cons (je_var 0) (ja_cons (je_var 1) (ja_nil))) (alS (alS (al0)))) (jp_none) (jp_some (je_un un_neg ok_neg (je_int))))) (blkOk_by (N := N_tree_sum) (sc := defScope s_tree_sum) (by decide +kernel)) (fun _ _ _ _ _ => jg_name (i := 2) c.nd rfl (by first | exact Or.inl rfl | exact Or.inr rfl)) (fun _ _ _ _ _ c => jts_nil) (fun _ _ _ _ _ c => je_sl (je_var 2) (jp_none) (jp_some (je_un un_neg ok_neg (je_int)))) (by decide)) (ja_nil)) (alS (al0)))))) (fun _ _ => .inr rfl)
set_option maxHeartbeats 4000000 in
theorem ok_law_cell (T : Tx K mg) : FnOk P w K mg base (L2.CX P w) 1 T.a_law_cell T.d_law_cell ["script", "k"] (spD K T.cls 2 g_law_cell) :=
  fnD_ok T.F_law_cell sc_law_cell rfl (fun cdv A outer s H E c => jss_cons (js_if (jt_cmp op_lt ok_lt (je_var 1) (je_callB call_len ok_len T.z_len (by decide +kernel) (ja_cons (je_var 0) (ja_nil))) (nomark _)) (jss_one (js_ret (je_bin op_modX ok_mod (je_ix (je_var 0) (je_var 1)) (je_bin op_pow ok_pow (je_int) (je_int))))) (jss_nil)) (jss_one (js_ret (je_int)))) (fun _ _ => .inr rfl)
set_option maxHeartbeats 4000000 in
theorem ok_law_first (T : Tx K mg) (G_Web_init : FnOk P w K mg base (L2.CX P w) 1 T.a_Web_init T.d_Web_init ["self", "places", "ties"] (spI K T.cls 14 2 g_Web_init)) (G_made_set : FnOk P w K mg base (L2.CX P w) 1 T.a_made_set T.d_made_set ["web", "ties"] (spD K T.cls 2 g_made_set)) (G_least_tree : FnOk P w K mg base (L2.CX P w) 3 T.a_least_tree T.d_least_tree ["web"] (spD K T.cls 1 g_least_tree)) (G_ring_of : FnOk P w K mg base (L2.CX P w) 4 T.a_ring_of T.d_ring_of ["web", "tree", "tie"] (spD K T.cls 3 g_ring_of)) (G_tree_at : FnOk P w K mg base (L2.CX P w) 4 T.a_tree_at T.d_tree_at ["web", "number"] (spD K T.cls 2 g_tree_at)) : FnOk P w K mg base (L2.CX P w) 5 T.a_law_first T.d_law_first ["way", "far"] (spD K T.cls 2 g_law_first) :=
  fnD_ok T.F_law_first sc_law_first rfl (fun cdv A outer s H E c => jss_cons (js_setF (i := 2) c rfl (by first | exact Or.inl rfl | exact Or.inr rfl) (je_make (c.mono (by decide)) T.o_Web.e T.mk_Web G_Web_init T.m_Web T.b_Web_init (ja_cons (je_int) (ja_cons (je_lst (jao_cons (je_tup (jao_cons (je_int) (jao_cons (je_int) (jao_nil)))) (jao_cons (je_tup (jao_cons (je_int) (jao_cons (je_int) (jao_nil)))) (jao_nil)))) (ja_nil))) (alS (alS (al0))))) (jss_cons (js_if (jt_cmp (op_eq4 c.eq) ok_eq (je_var 0) (je_int) (nomark _)) (jss_one (js_ret (je_make (c.mono (by decide)) T.o_Web.e T.mk_Web G_Web_init T.m_Web T.b_Web_init (ja_cons (je_ix (je_lst (jao_cons (je_int) (jao_cons (je_int) (jao_cons (je_bin op_add4 ok_add (je_int) (je_var 1)) (jao_cons (je_un un_neg ok_neg (je_var 1)) (jao_nil)))))) (je_bin op_modX ok_mod (je_var 1) (je_int))) (ja_cons (je_lst (jao_nil)) (ja_nil))) (alS (alS (al0)))))) (jss_nil)) (jss_cons (js_if (jt_cmp (op_eq4 c.eq) ok_eq (je_var 0) (je_int) (nomark _)) (jss_one (js_ret (je_own (c.mono (by decide)) G_made_set T.m_made_set T.k_made_set T.b_made_set (ja_cons (je_var 2) (ja_cons (je_ix (je_lst (jao_cons (je_lst (jao_cons (je_int) (jao_nil))) (jao_cons (je_lst (jao_cons (je_int) (jao_cons (je_int) (jao_nil)))) (jao_cons (je_lst (jao_cons (je_int) (jao_cons (je_int) (jao_nil)))) (jao_cons (je_lst (jao_cons (je_bin op_sub ok_sub (je_un un_neg ok_neg (je_int)) (je_var 1)) (jao_nil))) (jao_nil)))))) (je_bin op_modX ok_mod (je_var 1) (je_int))) (ja_nil))) (alS (alS (al0)))))) (jss_nil)) (jss_cons (js_if (jt_cmp (op_eq4 c.eq) ok_eq (je_var 0) (je_int) (nomark _)) (jss_one (js_ret (je_own (c.mono (by decide)) G_least_tree T.m_least_tree T.k_least_tree T.b_least_tree (ja_cons (je_make (c.mono (by decide)) T.o_Web.e T.mk_Web G_Web_init T.m_Web T.b_Web_init (ja_cons (je_bin op_add4 ok_add (je_int) (je_bin op_modX ok_mod (je_var 1) (je_int))) (ja_cons (je_lst (jao_nil)) (ja_nil))) (alS (alS (al0)))) (ja_nil)) (alS (al0))))) (jss_nil)) (jss_cons (js_if (jt_cmp (op_eq4 c.eq) ok_eq (je_var 0) (je_int) (nomark _)) (jss_one (js_ret (je_own (c.mono (by decide)) G_ring_of T.m_ring_of T.k_ring_of T.b_ring_of (ja_cons (je_var 2) (ja_cons (je_ix (je_lst (jao_cons (je_lst (jao_cons (je_int) (jao_cons (je_int) (jao_nil)))) (jao_cons (je_lst (jao_nil)) (jao_cons (je_lst (jao_cons (je_bin op_add4 ok_add (je_int) (je_var 1)) (jao_nil))) (jao_nil))))) (je_bin op_modX ok_mod (je_var 1) (je_int))) (ja_cons (je_int) (ja_nil)))) (alS (alS (alS (al0))))))) (jss_nil)) (jss_cons (js_if (jt_cmp (op_eq4 c.eq) ok_eq (je_var 0) (je_int) (nomark _)) (jss_one (js_ret (je_own (c.mono (by decide)) G_ring_of T.m_ring_of T.k_ring_of T.b_ring_of (ja_cons (je_var 2) (ja_cons (je_lst (jao_cons (je_int) (jao_nil))) (ja_cons (je_ix (je_lst (jao_cons (je_int) (jao_cons (je_int) (jao_cons (je_un un_neg ok_neg (je_int)) (jao_cons (je_bin op_add4 ok_add (je_int) (je_var 1)) (jao_nil)))))) (je_bin op_modX ok_mod (je_var 1) (je_int))) (ja_nil)))) (alS (alS (alS (al0))))))) (jss_nil)) (jss_one (js_ret (je_own (c.mono (by decide)) G_tree_at T.m_tree_at T.k_tree_at T.b_tree_at (ja_cons (je_var 2) (ja_cons (je_ix (je_lst (jao_cons (je_int) (jao_cons (je_un un_neg ok_neg (je_int)) (jao_cons (je_bin op_add4 ok_add (je_int) (je_var 1)) (jao_cons (je_bin op_sub ok_sub (je_un un_neg ok_neg (je_int)) (je_var 1)) (jao_nil)))))) (je_bin op_modX ok_mod (je_var 1) (je_int))) (ja_nil))) (alS (alS (al0)))))))))))) (fun _ _ => .inr rfl)
set_option maxHeartbeats 4000000 in
theorem ok_law_second (T : Tx K mg) (G_Web_init : FnOk P w K mg base (L2.CX P w) 1 T.a_Web_init T.d_Web_init ["self", "places", "ties"] (spI K T.cls 14 2 g_Web_init)) (G_determinant : FnOk P w K mg base (L2.CX P w) 2 T.a_determinant T.d_determinant ["table"] (spD K T.cls 1 g_determinant)) (G_solved : FnOk P w K mg base (L2.CX P w) 3 T.a_solved T.d_solved ["table", "right"] (spD K T.cls 2 g_solved)) (G_tree_sum : FnOk P w K mg base (L2.CX P w) 3 T.a_tree_sum T.d_tree_sum ["web", "weights"] (spD K T.cls 2 g_tree_sum)) (G_rounds_of : FnOk P w K mg base (L2.CX P w) 3 T.a_rounds_of T.d_rounds_of ["web", "turns"] (spD K T.cls 2 g_rounds_of)) (G_other_web : FnOk P w K mg base (L2.CX P w) 5 T.a_other_web T.d_other_web ["web", "turns"] (spD K T.cls 2 g_other_web)) (G_read_web : FnOk P w K mg base (L2.CX P w) 3 T.a_read_web T.d_read_web ["text"] (spD K T.cls 1 g_read_web)) (G_Desk_back : FnOk P w K mg base (L2.CX P w) 1 T.a_Desk_back T.d_Desk_back ["self"] (spD K T.cls 1 g_Desk_back)) (G_Desk_init : FnOk P w K mg base (L2.CX P w) 4 T.a_Desk_init T.d_Desk_init ["self", "text"] (spI K T.cls 16 1 g_Desk_init)) : FnOk P w K mg base (L2.CX P w) 6 T.a_law_second T.d_law_second ["way", "far"] (spD K T.cls 2 g_law_second) :=
  fnD_ok T.F_law_second sc_law_second rfl (fun cdv A outer s H E c => jss_cons (js_setF (i := 2) c rfl (by first | exact Or.inl rfl | exact Or.inr rfl) (je_make (c.mono (by decide)) T.o_Web.e T.mk_Web G_Web_init T.m_Web T.b_Web_init (ja_cons (je_int) (ja_cons (je_lst (jao_cons (je_tup (jao_cons (je_int) (jao_cons (je_int) (jao_nil)))) (jao_cons (je_tup (jao_cons (je_int) (jao_cons (je_int) (jao_nil)))) (jao_nil)))) (ja_nil))) (alS (alS (al0))))) (jss_cons (js_if (jt_cmp (op_eq4 c.eq) ok_eq (je_var 0) (je_int) (nomark _)) (jss_one (js_ret (je_own (c.mono (by decide)) G_determinant T.m_determinant T.k_determinant T.b_determinant (ja_cons (je_lst (jao_cons (je_lst (jao_cons (je_int) (jao_cons (je_var 1) (jao_nil)))) (jao_cons (je_lst (jao_cons (je_var 1) (jao_nil))) (jao_nil)))) (ja_nil)) (alS (al0))))) (jss_nil)) (jss_cons (js_if (jt_cmp (op_eq4 c.eq) ok_eq (je_var 0) (je_int) (nomark _)) (jss_one (js_ret (je_own (c.mono (by decide)) G_solved T.m_solved T.k_solved T.b_solved (ja_cons (je_lst (jao_cons (je_lst (jao_cons (je_int) (jao_cons (je_var 1) (jao_nil)))) (jao_cons (je_lst (jao_cons (je_int) (jao_cons (je_bin op_mul4 ok_mul (je_int) (je_var 1)) (jao_nil)))) (jao_nil)))) (ja_cons (je_lst (jao_cons (je_var 1) (jao_cons (je_int) (jao_nil)))) (ja_nil))) (alS (alS (al0)))))) (jss_nil)) (jss_cons (js_if (jt_cmp (op_eq4 c.eq) ok_eq (je_var 0) (je_int) (nomark _)) (jss_one (js_ret (je_own (c.mono (by decide)) G_tree_sum T.m_tree_sum T.k_tree_sum T.b_tree_sum (ja_cons (je_var 2) (ja_cons (je_bin op_mul4 ok_mul (je_lst (jao_cons (je_var 1) (jao_nil))) (je_ix (je_lst (jao_cons (je_int) (jao_cons (je_int) (jao_cons (je_int) (jao_nil))))) (je_bin op_modX ok_mod (je_var 1) (je_int)))) (ja_nil))) (alS (alS (al0)))))) (jss_nil)) (jss_cons (js_if (jt_cmp (op_eq4 c.eq) ok_eq (je_var 0) (je_int) (nomark _)) (jss_one (js_ret (je_own (c.mono (by decide)) G_rounds_of T.m_rounds_of T.k_rounds_of T.b_rounds_of (ja_cons (je_var 2) (ja_cons (je_ix (je_lst (jao_cons (je_lst (jao_cons (je_lst (jao_cons (je_int) (jao_cons (je_int) (jao_nil)))) (jao_cons (je_lst (jao_cons (je_int) (jao_nil))) (jao_nil)))) (jao_cons (je_lst (jao_cons (je_lst (jao_cons (je_int) (jao_nil))) (jao_cons (je_lst (jao_cons (je_int) (jao_cons (je_int) (jao_cons (je_int) (jao_nil))))) (jao_nil)))) (jao_cons (je_lst (jao_cons (je_lst (jao_cons (je_int) (jao_cons (je_int) (jao_cons (je_int) (jao_nil))))) (jao_cons (je_lst (jao_cons (je_int) (jao_nil))) (jao_nil)))) (jao_cons (je_lst (jao_cons (je_lst (jao_cons (je_int) (jao_cons (je_int) (jao_nil)))) (jao_nil))) (jao_nil)))))) (je_bin op_modX ok_mod (je_var 1) (je_int))) (ja_nil))) (alS (alS (al0)))))) (jss_nil)) (jss_cons (js_if (jt_cmp (op_eq4 c.eq) ok_eq (je_var 0) (je_int) (nomark _)) (jss_one (js_ret (je_own (c.mono (by decide)) G_other_web T.m_other_web T.k_other_web T.b_other_web (ja_cons (je_make (c.mono (by decide)) T.o_Web.e T.mk_Web G_Web_init T.m_Web T.b_Web_init (ja_cons (je_int) (ja_cons (je_lst (jao_cons (je_tup (jao_cons (je_int) (jao_cons (je_int) (jao_nil)))) (jao_cons (je_tup (jao_cons (je_int) (jao_cons (je_int) (jao_nil)))) (jao_nil)))) (ja_nil))) (alS (alS (al0)))) (ja_cons (je_lst (jao_cons (je_lst (jao_cons (je_int) (jao_cons (je_int) (jao_cons (je_int) (jao_cons (je_int) (jao_nil)))))) (jao_nil))) (ja_nil))) (alS (alS (al0)))))) (jss_nil)) (jss_cons (js_if (jt_cmp (op_eq4 c.eq) ok_eq (je_var 0) (je_int) (nomark _)) (jss_one (js_ret (je_own (c.mono (by decide)) G_read_web T.m_read_web T.k_read_web T.b_read_web (ja_cons (je_ix (je_lst (jao_cons (je_str) (jao_cons (je_str) (jao_cons (je_str) (jao_cons (je_bin op_add4 ok_add (je_str) (je_callTy call_str_int ok_str T.z_str (by decide +kernel) (ja_cons (je_var 1) (ja_nil)))) (jao_nil)))))) (je_bin op_modX ok_mod (je_var 1) (je_int))) (ja_nil)) (alS (al0))))) (jss_nil)) (jss_one (js_ret (je_meth0 (c.mono (by decide)) T.o_Desk (je_make (c.mono (by decide)) T.o_Desk.e T.mk_Desk G_Desk_init T.m_Desk T.b_Desk_init (ja_cons (je_bin op_add4 ok_add (je_str) (je_callTy call_str_int ok_str T.z_str (by decide +kernel) (ja_cons (je_bin op_add4 ok_add (je_int) (je_bin op_modX ok_mod (je_var 1) (je_int))) (ja_nil)))) (ja_nil)) (alS (al0))) T.me_Desk_back G_Desk_back T.b_Desk_back)))))))))) (fun _ _ => .inr rfl)
theorem catch_law_takers (T : Tx K mg) : ∀ c g, f_law_takers_hh c g ≠ .bad → PySem.W.exmOne K (excV T.cls c) (.ref T.C_WebError) = some true := by
  intro c g h
  match c with
  | 1 => rw [T.e_BadWeb.v]; exact T.ct_BadWeb_WebError
  | 2 => rw [T.e_BadSet.v]; exact T.ct_BadSet_WebError
  | 3 => rw [T.e_Parted.v]; exact T.ct_Parted_WebError
  | 4 => rw [T.e_NoTree.v]; exact T.ct_NoTree_WebError
  | 5 => rw [T.e_NoTie.v]; exact T.ct_NoTie_WebError
  | 6 => rw [T.e_NoSuch.v]; exact T.ct_NoSuch_WebError
  | 7 => rw [T.e_NotSquare.v]; exact T.ct_NotSquare_WebError
  | 8 => rw [T.e_Singular.v]; exact T.ct_Singular_WebError
  | 9 => rw [T.e_BadRow.v]; exact T.ct_BadRow_WebError
  | 10 => rw [T.e_BadTurns.v]; exact T.ct_BadTurns_WebError
  | 11 => rw [T.e_NotFlat.v]; exact T.ct_NotFlat_WebError
  | 12 => rw [T.e_BadText.v]; exact T.ct_BadText_WebError
  | 13 => rw [T.e_NothingBack.v]; exact T.ct_NothingBack_WebError
  | 0 => exact absurd (by simp [f_law_takers_hh, f_law_takers_s, thnO]) h
  | z + 14 => exact absurd (by simp [f_law_takers_hh, f_law_takers_s, thnO]) h
theorem rest_law_takers (T : Tx K mg) {k : Nat} {cdv : Value} {A : Around} {outer : List PySem.Env} {s : Shared} {H : Hp} {E : XK} {pn : List (Addr × Obj)} {ad D1 : Addr} {oe : Obj} {b0 b1 b2 b3 b4 b5 b6 b7 b8 b9 b10 b11 b12 b13 : Bool} (c : Cn ((cxOf (L2.CX P w) P w K mg base N_law_takers "_law_takers" (defScope s_law_takers) T.a_law_takers cdv A outer s H E).tr pn (cxOf (L2.CX P w) P w K mg base N_law_takers "_law_takers" (defScope s_law_takers) T.a_law_takers cdv A outer s H E).xe) (fun c d _ H => E c d H) k) (hm : (ad, oe) ∈ pn) (C : ExcC K D1) (hz : Zc (.ref D1) none oe) (hf : ∃ vs, oe.data = .fields vs) (k0 : PySem.W.kitOne K (.ref D1) (.ref T.C_BadWeb) = some b0) (k1 : PySem.W.kitOne K (.ref D1) (.ref T.C_BadSet) = some b1) (k2 : PySem.W.kitOne K (.ref D1) (.ref T.C_Parted) = some b2) (k3 : PySem.W.kitOne K (.ref D1) (.ref T.C_NoTree) = some b3) (k4 : PySem.W.kitOne K (.ref D1) (.ref T.C_NoTie) = some b4) (k5 : PySem.W.kitOne K (.ref D1) (.ref T.C_NoSuch) = some b5) (k6 : PySem.W.kitOne K (.ref D1) (.ref T.C_NotSquare) = some b6) (k7 : PySem.W.kitOne K (.ref D1) (.ref T.C_Singular) = some b7) (k8 : PySem.W.kitOne K (.ref D1) (.ref T.C_BadRow) = some b8) (k9 : PySem.W.kitOne K (.ref D1) (.ref T.C_BadTurns) = some b9) (k10 : PySem.W.kitOne K (.ref D1) (.ref T.C_NotFlat) = some b10) (k11 : PySem.W.kitOne K (.ref D1) (.ref T.C_BadText) = some b11) (k12 : PySem.W.kitOne K (.ref D1) (.ref T.C_NothingBack) = some b12) (k13 : PySem.W.kitOne K (.ref D1) (.type "ValueError") = some b13) :
    JSs ((cxOf (L2.CX P w) P w K mg base N_law_takers "_law_takers" (defScope s_law_takers) T.a_law_takers cdv A outer s H E).tr pn (cxOf (L2.CX P w) P w K mg base N_law_takers "_law_takers" (defScope s_law_takers) T.a_law_takers cdv A outer s H E).xe) T.cls (fun c d _ H => E c d H) ((defBody s_law_takers).drop 2) (f_law_takers_rest ad b0 b1 b2 b3 b4 b5 b6 b7 b8 b9 b10 b11 b12 b13) := jss_cons (js_setF (i := 4) c rfl (by first | exact Or.inl rfl | exact Or.inr rfl) (je_lst (jao_cons (je_isK hm C hz hf T.z_isinstance (i := 2) rfl (Or.inl rfl) (by decide) (by decide) (pe_glob (v := .ref T.C_BadWeb) (by rfl) T.m_BadWeb rfl) (fun _ h => h) k0) (jao_cons (je_isK hm C hz hf T.z_isinstance (i := 2) rfl (Or.inl rfl) (by decide) (by decide) (pe_glob (v := .ref T.C_BadSet) (by rfl) T.m_BadSet rfl) (fun _ h => h) k1) (jao_cons (je_isK hm C hz hf T.z_isinstance (i := 2) rfl (Or.inl rfl) (by decide) (by decide) (pe_glob (v := .ref T.C_Parted) (by rfl) T.m_Parted rfl) (fun _ h => h) k2) (jao_nil)))))) (jss_cons (js_setF (i := 4) c rfl (by first | exact Or.inl rfl | exact Or.inr rfl) (je_bin op_add4 ok_add (je_var 4) (je_lst (jao_cons (je_isK hm C hz hf T.z_isinstance (i := 2) rfl (Or.inl rfl) (by decide) (by decide) (pe_glob (v := .ref T.C_NoTree) (by rfl) T.m_NoTree rfl) (fun _ h => h) k3) (jao_cons (je_isK hm C hz hf T.z_isinstance (i := 2) rfl (Or.inl rfl) (by decide) (by decide) (pe_glob (v := .ref T.C_NoTie) (by rfl) T.m_NoTie rfl) (fun _ h => h) k4) (jao_cons (je_isK hm C hz hf T.z_isinstance (i := 2) rfl (Or.inl rfl) (by decide) (by decide) (pe_glob (v := .ref T.C_NoSuch) (by rfl) T.m_NoSuch rfl) (fun _ h => h) k5) (jao_nil))))))) (jss_cons (js_setF (i := 4) c rfl (by first | exact Or.inl rfl | exact Or.inr rfl) (je_bin op_add4 ok_add (je_var 4) (je_lst (jao_cons (je_isK hm C hz hf T.z_isinstance (i := 2) rfl (Or.inl rfl) (by decide) (by decide) (pe_glob (v := .ref T.C_NotSquare) (by rfl) T.m_NotSquare rfl) (fun _ h => h) k6) (jao_cons (je_isK hm C hz hf T.z_isinstance (i := 2) rfl (Or.inl rfl) (by decide) (by decide) (pe_glob (v := .ref T.C_Singular) (by rfl) T.m_Singular rfl) (fun _ h => h) k7) (jao_cons (je_isK hm C hz hf T.z_isinstance (i := 2) rfl (Or.inl rfl) (by decide) (by decide) (pe_glob (v := .ref T.C_BadRow) (by rfl) T.m_BadRow rfl) (fun _ h => h) k8) (jao_nil))))))) (jss_cons (js_setF (i := 4) c rfl (by first | exact Or.inl rfl | exact Or.inr rfl) (je_bin op_add4 ok_add (je_var 4) (je_lst (jao_cons (je_isK hm C hz hf T.z_isinstance (i := 2) rfl (Or.inl rfl) (by decide) (by decide) (pe_glob (v := .ref T.C_BadTurns) (by rfl) T.m_BadTurns rfl) (fun _ h => h) k9) (jao_cons (je_isK hm C hz hf T.z_isinstance (i := 2) rfl (Or.inl rfl) (by decide) (by decide) (pe_glob (v := .ref T.C_NotFlat) (by rfl) T.m_NotFlat rfl) (fun _ h => h) k10) (jao_cons (je_isK hm C hz hf T.z_isinstance (i := 2) rfl (Or.inl rfl) (by decide) (by decide) (pe_glob (v := .ref T.C_BadText) (by rfl) T.m_BadText rfl) (fun _ h => h) k11) (jao_nil))))))) (jss_one (js_ret (je_bin op_add4 ok_add (je_var 4) (je_lst (jao_cons (je_isK hm C hz hf T.z_isinstance (i := 2) rfl (Or.inl rfl) (by decide) (by decide) (pe_glob (v := .ref T.C_NothingBack) (by rfl) T.m_NothingBack rfl) (fun _ h => h) k12) (jao_cons (je_isK hm C hz hf T.z_isinstance (i := 2) rfl (Or.inl rfl) (by decide) (by decide) (pe_bltn (v := .ty "ValueError") (by rfl) T.z_ValueError (by decide +kernel) rfl) (fun _ h => h) k13) (jao_nil))))))))))
set_option maxHeartbeats 4000000 in
theorem ok_law_takers (T : Tx K mg) (G_law_first : FnOk P w K mg base (L2.CX P w) 5 T.a_law_first T.d_law_first ["way", "far"] (spD K T.cls 2 g_law_first)) (G_law_second : FnOk P w K mg base (L2.CX P w) 6 T.a_law_second T.d_law_second ["way", "far"] (spD K T.cls 2 g_law_second)) : FnOk P w K mg base (L2.CX P w) 7 T.a_law_takers T.d_law_takers ["way", "far"] (spD K T.cls 2 g_law_takers) :=
  fnD_ok T.F_law_takers sc_law_takers rfl (fun cdv A outer s H E c => jss_cons (js_setF (i := 2) c rfl (by first | exact Or.inl rfl | exact Or.inr rfl) (je_non)) (jss_tryK (i := 3) c rfl rfl rfl rfl T.m_WebError (catch_law_takers T) (fun W pn xe c => jss_one (js_if (jt_cmp op_lt ok_lt (je_var 0) (je_int) (nomark _)) (jss_one (js_exp (je_own (c.mono (by decide)) G_law_first T.m_law_first T.k_law_first T.b_law_first (ja_cons (je_var 0) (ja_cons (je_var 1) (ja_nil))) (alS (alS (al0)))))) (jss_one (js_exp (je_own (c.mono (by decide)) G_law_second T.m_law_second T.k_law_second T.b_law_second (ja_cons (je_var 0) (ja_cons (je_var 1) (ja_nil))) (alS (alS (al0)))))))) (by have nd := c.nd; exact (fun ci ad oe pn hz hf => by
    match ci, hz with
    | 1, hz => (rw [T.e_BadWeb.v] at hz; exact jss_one (js_setFN (i := 2) nd rfl (by first | exact Or.inl rfl | exact Or.inr rfl) (je_var 3)))
    | 2, hz => (rw [T.e_BadSet.v] at hz; exact jss_one (js_setFN (i := 2) nd rfl (by first | exact Or.inl rfl | exact Or.inr rfl) (je_var 3)))
    | 3, hz => (rw [T.e_Parted.v] at hz; exact jss_one (js_setFN (i := 2) nd rfl (by first | exact Or.inl rfl | exact Or.inr rfl) (je_var 3)))
    | 4, hz => (rw [T.e_NoTree.v] at hz; exact jss_one (js_setFN (i := 2) nd rfl (by first | exact Or.inl rfl | exact Or.inr rfl) (je_var 3)))
    | 5, hz => (rw [T.e_NoTie.v] at hz; exact jss_one (js_setFN (i := 2) nd rfl (by first | exact Or.inl rfl | exact Or.inr rfl) (je_var 3)))
    | 6, hz => (rw [T.e_NoSuch.v] at hz; exact jss_one (js_setFN (i := 2) nd rfl (by first | exact Or.inl rfl | exact Or.inr rfl) (je_var 3)))
    | 7, hz => (rw [T.e_NotSquare.v] at hz; exact jss_one (js_setFN (i := 2) nd rfl (by first | exact Or.inl rfl | exact Or.inr rfl) (je_var 3)))
    | 8, hz => (rw [T.e_Singular.v] at hz; exact jss_one (js_setFN (i := 2) nd rfl (by first | exact Or.inl rfl | exact Or.inr rfl) (je_var 3)))
    | 9, hz => (rw [T.e_BadRow.v] at hz; exact jss_one (js_setFN (i := 2) nd rfl (by first | exact Or.inl rfl | exact Or.inr rfl) (je_var 3)))
    | 10, hz => (rw [T.e_BadTurns.v] at hz; exact jss_one (js_setFN (i := 2) nd rfl (by first | exact Or.inl rfl | exact Or.inr rfl) (je_var 3)))
    | 11, hz => (rw [T.e_NotFlat.v] at hz; exact jss_one (js_setFN (i := 2) nd rfl (by first | exact Or.inl rfl | exact Or.inr rfl) (je_var 3)))
    | 12, hz => (rw [T.e_BadText.v] at hz; exact jss_one (js_setFN (i := 2) nd rfl (by first | exact Or.inl rfl | exact Or.inr rfl) (je_var 3)))
    | 13, hz => (rw [T.e_NothingBack.v] at hz; exact jss_one (js_setFN (i := 2) nd rfl (by first | exact Or.inl rfl | exact Or.inr rfl) (je_var 3)))
    | 0, _ => exact jss_never
    | z + 14, _ => exact jss_never)) (fun ci ad oe pn hm hz hf c => by
    match ci, hz with
    | 1, hz => (rw [T.e_BadWeb.v] at hz; exact rest_law_takers T c hm T.xc_BadWeb hz hf T.is_BadWeb_BadWeb T.is_BadWeb_BadSet T.is_BadWeb_Parted T.is_BadWeb_NoTree T.is_BadWeb_NoTie T.is_BadWeb_NoSuch T.is_BadWeb_NotSquare T.is_BadWeb_Singular T.is_BadWeb_BadRow T.is_BadWeb_BadTurns T.is_BadWeb_NotFlat T.is_BadWeb_BadText T.is_BadWeb_NothingBack T.is_BadWeb_ValueError)
    | 2, hz => (rw [T.e_BadSet.v] at hz; exact rest_law_takers T c hm T.xc_BadSet hz hf T.is_BadSet_BadWeb T.is_BadSet_BadSet T.is_BadSet_Parted T.is_BadSet_NoTree T.is_BadSet_NoTie T.is_BadSet_NoSuch T.is_BadSet_NotSquare T.is_BadSet_Singular T.is_BadSet_BadRow T.is_BadSet_BadTurns T.is_BadSet_NotFlat T.is_BadSet_BadText T.is_BadSet_NothingBack T.is_BadSet_ValueError)
    | 3, hz => (rw [T.e_Parted.v] at hz; exact rest_law_takers T c hm T.xc_Parted hz hf T.is_Parted_BadWeb T.is_Parted_BadSet T.is_Parted_Parted T.is_Parted_NoTree T.is_Parted_NoTie T.is_Parted_NoSuch T.is_Parted_NotSquare T.is_Parted_Singular T.is_Parted_BadRow T.is_Parted_BadTurns T.is_Parted_NotFlat T.is_Parted_BadText T.is_Parted_NothingBack T.is_Parted_ValueError)
    | 4, hz => (rw [T.e_NoTree.v] at hz; exact rest_law_takers T c hm T.xc_NoTree hz hf T.is_NoTree_BadWeb T.is_NoTree_BadSet T.is_NoTree_Parted T.is_NoTree_NoTree T.is_NoTree_NoTie T.is_NoTree_NoSuch T.is_NoTree_NotSquare T.is_NoTree_Singular T.is_NoTree_BadRow T.is_NoTree_BadTurns T.is_NoTree_NotFlat T.is_NoTree_BadText T.is_NoTree_NothingBack T.is_NoTree_ValueError)
    | 5, hz => (rw [T.e_NoTie.v] at hz; exact rest_law_takers T c hm T.xc_NoTie hz hf T.is_NoTie_BadWeb T.is_NoTie_BadSet T.is_NoTie_Parted T.is_NoTie_NoTree T.is_NoTie_NoTie T.is_NoTie_NoSuch T.is_NoTie_NotSquare T.is_NoTie_Singular T.is_NoTie_BadRow T.is_NoTie_BadTurns T.is_NoTie_NotFlat T.is_NoTie_BadText T.is_NoTie_NothingBack T.is_NoTie_ValueError)
    | 6, hz => (rw [T.e_NoSuch.v] at hz; exact rest_law_takers T c hm T.xc_NoSuch hz hf T.is_NoSuch_BadWeb T.is_NoSuch_BadSet T.is_NoSuch_Parted T.is_NoSuch_NoTree T.is_NoSuch_NoTie T.is_NoSuch_NoSuch T.is_NoSuch_NotSquare T.is_NoSuch_Singular T.is_NoSuch_BadRow T.is_NoSuch_BadTurns T.is_NoSuch_NotFlat T.is_NoSuch_BadText T.is_NoSuch_NothingBack T.is_NoSuch_ValueError)
    | 7, hz => (rw [T.e_NotSquare.v] at hz; exact rest_law_takers T c hm T.xc_NotSquare hz hf T.is_NotSquare_BadWeb T.is_NotSquare_BadSet T.is_NotSquare_Parted T.is_NotSquare_NoTree T.is_NotSquare_NoTie T.is_NotSquare_NoSuch T.is_NotSquare_NotSquare T.is_NotSquare_Singular T.is_NotSquare_BadRow T.is_NotSquare_BadTurns T.is_NotSquare_NotFlat T.is_NotSquare_BadText T.is_NotSquare_NothingBack T.is_NotSquare_ValueError)
    | 8, hz => (rw [T.e_Singular.v] at hz; exact rest_law_takers T c hm T.xc_Singular hz hf T.is_Singular_BadWeb T.is_Singular_BadSet T.is_Singular_Parted T.is_Singular_NoTree T.is_Singular_NoTie T.is_Singular_NoSuch T.is_Singular_NotSquare T.is_Singular_Singular T.is_Singular_BadRow T.is_Singular_BadTurns T.is_Singular_NotFlat T.is_Singular_BadText T.is_Singular_NothingBack T.is_Singular_ValueError)
    | 9, hz => (rw [T.e_BadRow.v] at hz; exact rest_law_takers T c hm T.xc_BadRow hz hf T.is_BadRow_BadWeb T.is_BadRow_BadSet T.is_BadRow_Parted T.is_BadRow_NoTree T.is_BadRow_NoTie T.is_BadRow_NoSuch T.is_BadRow_NotSquare T.is_BadRow_Singular T.is_BadRow_BadRow T.is_BadRow_BadTurns T.is_BadRow_NotFlat T.is_BadRow_BadText T.is_BadRow_NothingBack T.is_BadRow_ValueError)
    | 10, hz => (rw [T.e_BadTurns.v] at hz; exact rest_law_takers T c hm T.xc_BadTurns hz hf T.is_BadTurns_BadWeb T.is_BadTurns_BadSet T.is_BadTurns_Parted T.is_BadTurns_NoTree T.is_BadTurns_NoTie T.is_BadTurns_NoSuch T.is_BadTurns_NotSquare T.is_BadTurns_Singular T.is_BadTurns_BadRow T.is_BadTurns_BadTurns T.is_BadTurns_NotFlat T.is_BadTurns_BadText T.is_BadTurns_NothingBack T.is_BadTurns_ValueError)
    | 11, hz => (rw [T.e_NotFlat.v] at hz; exact rest_law_takers T c hm T.xc_NotFlat hz hf T.is_NotFlat_BadWeb T.is_NotFlat_BadSet T.is_NotFlat_Parted T.is_NotFlat_NoTree T.is_NotFlat_NoTie T.is_NotFlat_NoSuch T.is_NotFlat_NotSquare T.is_NotFlat_Singular T.is_NotFlat_BadRow T.is_NotFlat_BadTurns T.is_NotFlat_NotFlat T.is_NotFlat_BadText T.is_NotFlat_NothingBack T.is_NotFlat_ValueError)
    | 12, hz => (rw [T.e_BadText.v] at hz; exact rest_law_takers T c hm T.xc_BadText hz hf T.is_BadText_BadWeb T.is_BadText_BadSet T.is_BadText_Parted T.is_BadText_NoTree T.is_BadText_NoTie T.is_BadText_NoSuch T.is_BadText_NotSquare T.is_BadText_Singular T.is_BadText_BadRow T.is_BadText_BadTurns T.is_BadText_NotFlat T.is_BadText_BadText T.is_BadText_NothingBack T.is_BadText_ValueError)
    | 13, hz => (rw [T.e_NothingBack.v] at hz; exact rest_law_takers T c hm T.xc_NothingBack hz hf T.is_NothingBack_BadWeb T.is_NothingBack_BadSet T.is_NothingBack_Parted T.is_NothingBack_NoTree T.is_NothingBack_NoTie T.is_NothingBack_NoSuch T.is_NothingBack_NotSquare T.is_NothingBack_Singular T.is_NothingBack_BadRow T.is_NothingBack_BadTurns T.is_NothingBack_NotFlat T.is_NothingBack_BadText T.is_NothingBack_NothingBack T.is_NothingBack_ValueError)
    | 0, _ => exact jss_never
    | z + 14, _ => exact jss_never) (heq_law_takers))) (fun _ _ => .inr rfl)
set_option maxHeartbeats 4000000 in
theorem ok_law_k82 (T : Tx K mg) (G_law_cell : FnOk P w K mg base (L2.CX P w) 1 T.a_law_cell T.d_law_cell ["script", "k"] (spD K T.cls 2 g_law_cell)) (G_law_takers : FnOk P w K mg base (L2.CX P w) 7 T.a_law_takers T.d_law_takers ["way", "far"] (spD K T.cls 2 g_law_takers)) : FnOk P w K mg base (L2.CX P w) 8 T.a_law_k82 T.d_law_k82 ["script"] (spD K T.cls 1 g_law_k82) :=
  fnD_ok T.F_law_k82 sc_law_k82 rfl (fun cdv A outer s H E c => jss_cons (js_setLc (i := 1) [("way", 4)] c rfl rfl (sw_true rfl rfl rfl (by decide +kernel)) (ji_rg1 T.z_range (ja_cons (je_int) (ja_nil))) (blkOk_by (N := N_law_k82) (sc := defScope s_law_k82) (by decide +kernel)) (fun _ _ _ _ _ => jg_name (i := 4) c.nd rfl (by first | exact Or.inl rfl | exact Or.inr rfl)) (fun _ _ _ _ _ c => jts_nil) (fun _ _ _ _ _ c => je_tup (jao_cons (je_var 4) (jao_cons (je_bin op_mul4 ok_mul (je_int) (je_var 4)) (jao_nil)))) (by decide)) (jss_cons (js_for c (ji_rg1 T.z_range (ja_cons (je_callB (call_min2 c.calm) ok_min2 T.z_min (by decide +kernel) (ja_cons (je_callB call_len ok_len T.z_len (by decide +kernel) (ja_cons (je_var 0) (ja_nil))) (ja_cons (je_int) (ja_nil)))) (ja_nil))) (jg_name (i := 2) c.nd rfl (by first | exact Or.inl rfl | exact Or.inr rfl)) (jss_cons (js_setF (i := 3) c rfl (by first | exact Or.inl rfl | exact Or.inr rfl) (je_own (c.mono (by decide)) G_law_cell T.m_law_cell T.k_law_cell T.b_law_cell (ja_cons (je_var 0) (ja_cons (je_var 2) (ja_nil))) (alS (alS (al0))))) (jss_one (js_app (i := 1) rfl (by first | exact Or.inl rfl | exact Or.inr (Or.inl rfl) | exact Or.inr (Or.inr rfl)) (je_tup (jao_cons (je_bin op_modX ok_mod (je_var 3) (je_int)) (jao_cons (je_bin op_modX ok_mod (je_bin op_divX ok_div (je_var 3) (je_int)) (je_bin op_pow ok_pow (je_int) (je_int))) (jao_nil)))))))) (jss_cons (js_frz 1 (js_for c (ji_seq (je_var 1)) (jg_tup c.calm (jgs_cons (jg_name (i := 4) c.nd rfl (by first | exact Or.inl rfl | exact Or.inr rfl)) (jgs_cons (jg_name (i := 5) c.nd rfl (by first | exact Or.inl rfl | exact Or.inr rfl)) (jgs_nil)))) (jss_one (js_if (jt_cmp (op_ne4 c.eq) ok_ne (je_own (c.mono (by decide)) G_law_takers T.m_law_takers T.k_law_takers T.b_law_takers (ja_cons (je_var 4) (ja_cons (je_var 5) (ja_nil))) (alS (alS (al0)))) (je_bin op_add4 ok_add (je_lc [("k", 2)] c (ji_rg1 T.z_range (ja_cons (je_int) (ja_nil))) (blkOk_by (N := N_law_k82) (sc := defScope s_law_k82) (by decide +kernel)) (fun _ _ _ _ _ => jg_name (i := 2) c.nd rfl (by first | exact Or.inl rfl | exact Or.inr rfl)) (fun _ _ _ _ _ c => jts_nil) (fun _ _ _ _ _ c => je_cmp (op_eq4 c.eq) ok_eq (je_var 2) (je_var 4) (nomark _)) (by decide)) (je_lst (jao_cons (je_bl) (jao_nil)))) (nomark _)) (jss_one (js_ret (je_bl))) (jss_nil))))) (jss_one (js_ret (je_bl)))))) (fun _ _ => .inr rfl)
set_option maxHeartbeats 8000000 in
theorem all_mk {K : PySem.W.Frag} {h : Heap} {mg : Str → Option Value} (X : K.In h) (G : h.Ns mainGlobals mg) {C_WebError C_BadWeb C_BadSet C_Parted C_NoTree C_NoTie C_NoSuch C_NotSquare C_Singular C_BadRow C_BadTurns C_NotFlat C_BadText C_NothingBack C_Web C_Desk a_look_at_table a_first_row_with a_cleared a_determinant a_common_part a_as_fraction a_solved a_Web_init a_made_set a_marks_over a_pieces_of a_is_joined a_is_tree a_look_at_tree a_grown a_least_tree a_without_tie a_ring_of a_pulls a_without_last a_pull_table a_tree_count a_count_with a_tree_at a_number_written a_numbers_behind a_read_web a_Desk_init a_Desk_back a_place_from a_look_at_turns a_darts_behind a_rounds_of a_lies_flat a_other_web a_look_at_weights a_weighed_table a_tree_sum a_law_cell a_law_first a_law_second a_law_takers a_law_k82 : Addr} {od_look_at_table an_look_at_table od_first_row_with an_first_row_with od_cleared an_cleared od_determinant an_determinant od_common_part an_common_part od_as_fraction an_as_fraction od_solved an_solved od_Web_init an_Web_init od_made_set an_made_set od_marks_over an_marks_over od_pieces_of an_pieces_of od_is_joined an_is_joined od_is_tree an_is_tree od_look_at_tree an_look_at_tree od_grown an_grown od_least_tree an_least_tree od_without_tie an_without_tie od_ring_of an_ring_of od_pulls an_pulls od_without_last an_without_last od_pull_table an_pull_table od_tree_count an_tree_count od_count_with an_count_with od_tree_at an_tree_at od_number_written an_number_written od_numbers_behind an_numbers_behind od_read_web an_read_web od_Desk_init an_Desk_init od_Desk_back an_Desk_back od_place_from an_place_from od_look_at_turns an_look_at_turns od_darts_behind an_darts_behind od_rounds_of an_rounds_of od_lies_flat an_lies_flat od_other_web an_other_web od_look_at_weights an_look_at_weights od_weighed_table an_weighed_table od_tree_sum an_tree_sum od_law_cell an_law_cell od_law_first an_law_first od_law_second an_law_second od_law_takers an_law_takers od_law_k82 an_law_k82 : Option Addr} {sl_look_at_table sl_first_row_with sl_cleared sl_determinant sl_common_part sl_as_fraction sl_solved sl_Web_init sl_made_set sl_marks_over sl_pieces_of sl_is_joined sl_is_tree sl_look_at_tree sl_grown sl_least_tree sl_without_tie sl_ring_of sl_pulls sl_without_last sl_pull_table sl_tree_count sl_count_with sl_tree_at sl_number_written sl_numbers_behind sl_read_web sl_Desk_init sl_Desk_back sl_place_from sl_look_at_turns sl_darts_behind sl_rounds_of sl_lies_flat sl_other_web sl_look_at_weights sl_weighed_table sl_tree_sum sl_law_cell sl_law_first sl_law_second sl_law_takers sl_law_k82 : Array (Option Value)} {oc_look_at_table kV_look_at_table dc_look_at_table pm_look_at_table cd_look_at_table ct_look_at_table oc_first_row_with kV_first_row_with dc_first_row_with pm_first_row_with cd_first_row_with ct_first_row_with oc_cleared kV_cleared dc_cleared pm_cleared cd_cleared ct_cleared oc_determinant kV_determinant dc_determinant pm_determinant cd_determinant ct_determinant oc_common_part kV_common_part dc_common_part pm_common_part cd_common_part ct_common_part oc_as_fraction kV_as_fraction dc_as_fraction pm_as_fraction cd_as_fraction ct_as_fraction oc_solved kV_solved dc_solved pm_solved cd_solved ct_solved oc_Web_init kV_Web_init dc_Web_init pm_Web_init cd_Web_init ct_Web_init oc_made_set kV_made_set dc_made_set pm_made_set cd_made_set ct_made_set oc_marks_over kV_marks_over dc_marks_over pm_marks_over cd_marks_over ct_marks_over oc_pieces_of kV_pieces_of dc_pieces_of pm_pieces_of cd_pieces_of ct_pieces_of oc_is_joined kV_is_joined dc_is_joined pm_is_joined cd_is_joined ct_is_joined oc_is_tree kV_is_tree dc_is_tree pm_is_tree cd_is_tree ct_is_tree oc_look_at_tree kV_look_at_tree dc_look_at_tree pm_look_at_tree cd_look_at_tree ct_look_at_tree oc_grown kV_grown dc_grown pm_grown cd_grown ct_grown oc_least_tree kV_least_tree dc_least_tree pm_least_tree cd_least_tree ct_least_tree oc_without_tie kV_without_tie dc_without_tie pm_without_tie cd_without_tie ct_without_tie oc_ring_of kV_ring_of dc_ring_of pm_ring_of cd_ring_of ct_ring_of oc_pulls kV_pulls dc_pulls pm_pulls cd_pulls ct_pulls oc_without_last kV_without_last dc_without_last pm_without_last cd_without_last ct_without_last oc_pull_table kV_pull_table dc_pull_table pm_pull_table cd_pull_table ct_pull_table oc_tree_count kV_tree_count dc_tree_count pm_tree_count cd_tree_count ct_tree_count oc_count_with kV_count_with dc_count_with pm_count_with cd_count_with ct_count_with oc_tree_at kV_tree_at dc_tree_at pm_tree_at cd_tree_at ct_tree_at oc_number_written kV_number_written dc_number_written pm_number_written cd_number_written ct_number_written oc_numbers_behind kV_numbers_behind dc_numbers_behind pm_numbers_behind cd_numbers_behind ct_numbers_behind oc_read_web kV_read_web dc_read_web pm_read_web cd_read_web ct_read_web oc_Desk_init kV_Desk_init dc_Desk_init pm_Desk_init cd_Desk_init ct_Desk_init oc_Desk_back kV_Desk_back dc_Desk_back pm_Desk_back cd_Desk_back ct_Desk_back oc_place_from kV_place_from dc_place_from pm_place_from cd_place_from ct_place_from oc_look_at_turns kV_look_at_turns dc_look_at_turns pm_look_at_turns cd_look_at_turns ct_look_at_turns oc_darts_behind kV_darts_behind dc_darts_behind pm_darts_behind cd_darts_behind ct_darts_behind oc_rounds_of kV_rounds_of dc_rounds_of pm_rounds_of cd_rounds_of ct_rounds_of oc_lies_flat kV_lies_flat dc_lies_flat pm_lies_flat cd_lies_flat ct_lies_flat oc_other_web kV_other_web dc_other_web pm_other_web cd_other_web ct_other_web oc_look_at_weights kV_look_at_weights dc_look_at_weights pm_look_at_weights cd_look_at_weights ct_look_at_weights oc_weighed_table kV_weighed_table dc_weighed_table pm_weighed_table cd_weighed_table ct_weighed_table oc_tree_sum kV_tree_sum dc_tree_sum pm_tree_sum cd_tree_sum ct_tree_sum oc_law_cell kV_law_cell dc_law_cell pm_law_cell cd_law_cell ct_law_cell oc_law_first kV_law_first dc_law_first pm_law_first cd_law_first ct_law_first oc_law_second kV_law_second dc_law_second pm_law_second cd_law_second ct_law_second oc_law_takers kV_law_takers dc_law_takers pm_law_takers cd_law_takers ct_law_takers oc_law_k82 kV_law_k82 dc_law_k82 pm_law_k82 cd_law_k82 ct_law_k82 : Value} {t_MOST_PLACES t_MOST_TIES t_FIGURES t_MOST_FIGURES : Tok}
    (a_WebError : PySem.W.nsIn K mainGlobals "WebError" = some (some (.ref C_WebError)))
    (x_WebError : PySem.W.excIn K C_WebError [.type "ValueError", .type "Exception", .type "BaseException", .type "object"] "ValueError.__new__" = true)
    (kx_WebError : PySem.W.keepIn K (.ref C_WebError) = true)
    (bx_WebError : PySem.W.subIn K (.ref C_WebError) (.type "BaseException") = some true)
    (tx_WebError : PySem.W.typeIn K (.ref C_WebError) = some (.type "type"))
    (a_BadWeb : PySem.W.nsIn K mainGlobals "BadWeb" = some (some (.ref C_BadWeb)))
    (x_BadWeb : PySem.W.excIn K C_BadWeb [.type "ValueError", .type "Exception", .type "BaseException", .type "object"] "ValueError.__new__" = true)
    (kx_BadWeb : PySem.W.keepIn K (.ref C_BadWeb) = true)
    (bx_BadWeb : PySem.W.subIn K (.ref C_BadWeb) (.type "BaseException") = some true)
    (tx_BadWeb : PySem.W.typeIn K (.ref C_BadWeb) = some (.type "type"))
    (a_BadSet : PySem.W.nsIn K mainGlobals "BadSet" = some (some (.ref C_BadSet)))
    (x_BadSet : PySem.W.excIn K C_BadSet [.type "ValueError", .type "Exception", .type "BaseException", .type "object"] "ValueError.__new__" = true)
    (kx_BadSet : PySem.W.keepIn K (.ref C_BadSet) = true)
    (bx_BadSet : PySem.W.subIn K (.ref C_BadSet) (.type "BaseException") = some true)
    (tx_BadSet : PySem.W.typeIn K (.ref C_BadSet) = some (.type "type"))
    (a_Parted : PySem.W.nsIn K mainGlobals "Parted" = some (some (.ref C_Parted)))
    (x_Parted : PySem.W.excIn K C_Parted [.type "ValueError", .type "Exception", .type "BaseException", .type "object"] "ValueError.__new__" = true)
    (kx_Parted : PySem.W.keepIn K (.ref C_Parted) = true)
    (bx_Parted : PySem.W.subIn K (.ref C_Parted) (.type "BaseException") = some true)
    (tx_Parted : PySem.W.typeIn K (.ref C_Parted) = some (.type "type"))
    (a_NoTree : PySem.W.nsIn K mainGlobals "NoTree" = some (some (.ref C_NoTree)))
    (x_NoTree : PySem.W.excIn K C_NoTree [.type "ValueError", .type "Exception", .type "BaseException", .type "object"] "ValueError.__new__" = true)
    (kx_NoTree : PySem.W.keepIn K (.ref C_NoTree) = true)
    (bx_NoTree : PySem.W.subIn K (.ref C_NoTree) (.type "BaseException") = some true)
    (tx_NoTree : PySem.W.typeIn K (.ref C_NoTree) = some (.type "type"))
    (a_NoTie : PySem.W.nsIn K mainGlobals "NoTie" = some (some (.ref C_NoTie)))
    (x_NoTie : PySem.W.excIn K C_NoTie [.type "ValueError", .type "Exception", .type "BaseException", .type "object"] "ValueError.__new__" = true)
    (kx_NoTie : PySem.W.keepIn K (.ref C_NoTie) = true)
    (bx_NoTie : PySem.W.subIn K (.ref C_NoTie) (.type "BaseException") = some true)
    (tx_NoTie : PySem.W.typeIn K (.ref C_NoTie) = some (.type "type"))
    (a_NoSuch : PySem.W.nsIn K mainGlobals "NoSuch" = some (some (.ref C_NoSuch)))
    (x_NoSuch : PySem.W.excIn K C_NoSuch [.type "ValueError", .type "Exception", .type "BaseException", .type "object"] "ValueError.__new__" = true)
    (kx_NoSuch : PySem.W.keepIn K (.ref C_NoSuch) = true)
    (bx_NoSuch : PySem.W.subIn K (.ref C_NoSuch) (.type "BaseException") = some true)
    (tx_NoSuch : PySem.W.typeIn K (.ref C_NoSuch) = some (.type "type"))
    (a_NotSquare : PySem.W.nsIn K mainGlobals "NotSquare" = some (some (.ref C_NotSquare)))
    (x_NotSquare : PySem.W.excIn K C_NotSquare [.type "ValueError", .type "Exception", .type "BaseException", .type "object"] "ValueError.__new__" = true)
    (kx_NotSquare : PySem.W.keepIn K (.ref C_NotSquare) = true)
    (bx_NotSquare : PySem.W.subIn K (.ref C_NotSquare) (.type "BaseException") = some true)
    (tx_NotSquare : PySem.W.typeIn K (.ref C_NotSquare) = some (.type "type"))
    (a_Singular : PySem.W.nsIn K mainGlobals "Singular" = some (some (.ref C_Singular)))
    (x_Singular : PySem.W.excIn K C_Singular [.type "ValueError", .type "Exception", .type "BaseException", .type "object"] "ValueError.__new__" = true)
    (kx_Singular : PySem.W.keepIn K (.ref C_Singular) = true)
    (bx_Singular : PySem.W.subIn K (.ref C_Singular) (.type "BaseException") = some true)
    (tx_Singular : PySem.W.typeIn K (.ref C_Singular) = some (.type "type"))
    (a_BadRow : PySem.W.nsIn K mainGlobals "BadRow" = some (some (.ref C_BadRow)))
    (x_BadRow : PySem.W.excIn K C_BadRow [.type "ValueError", .type "Exception", .type "BaseException", .type "object"] "ValueError.__new__" = true)
    (kx_BadRow : PySem.W.keepIn K (.ref C_BadRow) = true)
    (bx_BadRow : PySem.W.subIn K (.ref C_BadRow) (.type "BaseException") = some true)
    (tx_BadRow : PySem.W.typeIn K (.ref C_BadRow) = some (.type "type"))
    (a_BadTurns : PySem.W.nsIn K mainGlobals "BadTurns" = some (some (.ref C_BadTurns)))
    (x_BadTurns : PySem.W.excIn K C_BadTurns [.type "ValueError", .type "Exception", .type "BaseException", .type "object"] "ValueError.__new__" = true)
    (kx_BadTurns : PySem.W.keepIn K (.ref C_BadTurns) = true)
    (bx_BadTurns : PySem.W.subIn K (.ref C_BadTurns) (.type "BaseException") = some true)
    (tx_BadTurns : PySem.W.typeIn K (.ref C_BadTurns) = some (.type "type"))
    (a_NotFlat : PySem.W.nsIn K mainGlobals "NotFlat" = some (some (.ref C_NotFlat)))
    (x_NotFlat : PySem.W.excIn K C_NotFlat [.type "ValueError", .type "Exception", .type "BaseException", .type "object"] "ValueError.__new__" = true)
    (kx_NotFlat : PySem.W.keepIn K (.ref C_NotFlat) = true)
    (bx_NotFlat : PySem.W.subIn K (.ref C_NotFlat) (.type "BaseException") = some true)
    (tx_NotFlat : PySem.W.typeIn K (.ref C_NotFlat) = some (.type "type"))
    (a_BadText : PySem.W.nsIn K mainGlobals "BadText" = some (some (.ref C_BadText)))
    (x_BadText : PySem.W.excIn K C_BadText [.type "ValueError", .type "Exception", .type "BaseException", .type "object"] "ValueError.__new__" = true)
    (kx_BadText : PySem.W.keepIn K (.ref C_BadText) = true)
    (bx_BadText : PySem.W.subIn K (.ref C_BadText) (.type "BaseException") = some true)
    (tx_BadText : PySem.W.typeIn K (.ref C_BadText) = some (.type "type"))
    (a_NothingBack : PySem.W.nsIn K mainGlobals "NothingBack" = some (some (.ref C_NothingBack)))
    (x_NothingBack : PySem.W.excIn K C_NothingBack [.type "ValueError", .type "Exception", .type "BaseException", .type "object"] "ValueError.__new__" = true)
    (kx_NothingBack : PySem.W.keepIn K (.ref C_NothingBack) = true)
    (bx_NothingBack : PySem.W.subIn K (.ref C_NothingBack) (.type "BaseException") = some true)
    (tx_NothingBack : PySem.W.typeIn K (.ref C_NothingBack) = some (.type "type"))
    (su_BadWeb_WebError : PySem.W.subIn K (.ref C_BadWeb) (.ref C_WebError) = some true)
    (su_BadSet_WebError : PySem.W.subIn K (.ref C_BadSet) (.ref C_WebError) = some true)
    (su_Parted_WebError : PySem.W.subIn K (.ref C_Parted) (.ref C_WebError) = some true)
    (su_NoTree_WebError : PySem.W.subIn K (.ref C_NoTree) (.ref C_WebError) = some true)
    (su_NoTie_WebError : PySem.W.subIn K (.ref C_NoTie) (.ref C_WebError) = some true)
    (su_NoSuch_WebError : PySem.W.subIn K (.ref C_NoSuch) (.ref C_WebError) = some true)
    (su_NotSquare_WebError : PySem.W.subIn K (.ref C_NotSquare) (.ref C_WebError) = some true)
    (su_Singular_WebError : PySem.W.subIn K (.ref C_Singular) (.ref C_WebError) = some true)
    (su_BadRow_WebError : PySem.W.subIn K (.ref C_BadRow) (.ref C_WebError) = some true)
    (su_BadTurns_WebError : PySem.W.subIn K (.ref C_BadTurns) (.ref C_WebError) = some true)
    (su_NotFlat_WebError : PySem.W.subIn K (.ref C_NotFlat) (.ref C_WebError) = some true)
    (su_BadText_WebError : PySem.W.subIn K (.ref C_BadText) (.ref C_WebError) = some true)
    (su_NothingBack_WebError : PySem.W.subIn K (.ref C_NothingBack) (.ref C_WebError) = some true)
    (hd_WebError : PySem.W.hasDictIn K C_WebError = true)
    (e6 : PySem.W.specialIn K (.builtin "object.__class__") "__get__" = some (some (.builtin "getset_descriptor.__get__")))
    (e7 : PySem.W.takesIn K (.builtin "object.__class__") = some true)
    (e0_BadWeb : PySem.W.findIn K (.ref C_BadWeb) "__getattribute__" = some (some (.builtin "BaseException.__getattribute__")))
    (e1_BadWeb : PySem.W.findIn K (.ref C_BadWeb) "__getattr__" = some none)
    (e3_BadWeb : PySem.W.hasDictIn K C_BadWeb = true)
    (e4_BadWeb : PySem.W.findIn K (.ref C_BadWeb) "__class__" = some (some (.builtin "object.__class__")))
    (e7_BadWeb : PySem.W.mroIn K C_BadWeb (.type "object") = some true)
    (e0_BadSet : PySem.W.findIn K (.ref C_BadSet) "__getattribute__" = some (some (.builtin "BaseException.__getattribute__")))
    (e1_BadSet : PySem.W.findIn K (.ref C_BadSet) "__getattr__" = some none)
    (e3_BadSet : PySem.W.hasDictIn K C_BadSet = true)
    (e4_BadSet : PySem.W.findIn K (.ref C_BadSet) "__class__" = some (some (.builtin "object.__class__")))
    (e7_BadSet : PySem.W.mroIn K C_BadSet (.type "object") = some true)
    (e0_Parted : PySem.W.findIn K (.ref C_Parted) "__getattribute__" = some (some (.builtin "BaseException.__getattribute__")))
    (e1_Parted : PySem.W.findIn K (.ref C_Parted) "__getattr__" = some none)
    (e3_Parted : PySem.W.hasDictIn K C_Parted = true)
    (e4_Parted : PySem.W.findIn K (.ref C_Parted) "__class__" = some (some (.builtin "object.__class__")))
    (e7_Parted : PySem.W.mroIn K C_Parted (.type "object") = some true)
    (e0_NoTree : PySem.W.findIn K (.ref C_NoTree) "__getattribute__" = some (some (.builtin "BaseException.__getattribute__")))
    (e1_NoTree : PySem.W.findIn K (.ref C_NoTree) "__getattr__" = some none)
    (e3_NoTree : PySem.W.hasDictIn K C_NoTree = true)
    (e4_NoTree : PySem.W.findIn K (.ref C_NoTree) "__class__" = some (some (.builtin "object.__class__")))
    (e7_NoTree : PySem.W.mroIn K C_NoTree (.type "object") = some true)
    (e0_NoTie : PySem.W.findIn K (.ref C_NoTie) "__getattribute__" = some (some (.builtin "BaseException.__getattribute__")))
    (e1_NoTie : PySem.W.findIn K (.ref C_NoTie) "__getattr__" = some none)
    (e3_NoTie : PySem.W.hasDictIn K C_NoTie = true)
    (e4_NoTie : PySem.W.findIn K (.ref C_NoTie) "__class__" = some (some (.builtin "object.__class__")))
    (e7_NoTie : PySem.W.mroIn K C_NoTie (.type "object") = some true)
    (e0_NoSuch : PySem.W.findIn K (.ref C_NoSuch) "__getattribute__" = some (some (.builtin "BaseException.__getattribute__")))
    (e1_NoSuch : PySem.W.findIn K (.ref C_NoSuch) "__getattr__" = some none)
    (e3_NoSuch : PySem.W.hasDictIn K C_NoSuch = true)
    (e4_NoSuch : PySem.W.findIn K (.ref C_NoSuch) "__class__" = some (some (.builtin "object.__class__")))
    (e7_NoSuch : PySem.W.mroIn K C_NoSuch (.type "object") = some true)
    (e0_NotSquare : PySem.W.findIn K (.ref C_NotSquare) "__getattribute__" = some (some (.builtin "BaseException.__getattribute__")))
    (e1_NotSquare : PySem.W.findIn K (.ref C_NotSquare) "__getattr__" = some none)
    (e3_NotSquare : PySem.W.hasDictIn K C_NotSquare = true)
    (e4_NotSquare : PySem.W.findIn K (.ref C_NotSquare) "__class__" = some (some (.builtin "object.__class__")))
    (e7_NotSquare : PySem.W.mroIn K C_NotSquare (.type "object") = some true)
    (e0_Singular : PySem.W.findIn K (.ref C_Singular) "__getattribute__" = some (some (.builtin "BaseException.__getattribute__")))
    (e1_Singular : PySem.W.findIn K (.ref C_Singular) "__getattr__" = some none)
    (e3_Singular : PySem.W.hasDictIn K C_Singular = true)
    (e4_Singular : PySem.W.findIn K (.ref C_Singular) "__class__" = some (some (.builtin "object.__class__")))
    (e7_Singular : PySem.W.mroIn K C_Singular (.type "object") = some true)
    (e0_BadRow : PySem.W.findIn K (.ref C_BadRow) "__getattribute__" = some (some (.builtin "BaseException.__getattribute__")))
    (e1_BadRow : PySem.W.findIn K (.ref C_BadRow) "__getattr__" = some none)
    (e3_BadRow : PySem.W.hasDictIn K C_BadRow = true)
    (e4_BadRow : PySem.W.findIn K (.ref C_BadRow) "__class__" = some (some (.builtin "object.__class__")))
    (e7_BadRow : PySem.W.mroIn K C_BadRow (.type "object") = some true)
    (e0_BadTurns : PySem.W.findIn K (.ref C_BadTurns) "__getattribute__" = some (some (.builtin "BaseException.__getattribute__")))
    (e1_BadTurns : PySem.W.findIn K (.ref C_BadTurns) "__getattr__" = some none)
    (e3_BadTurns : PySem.W.hasDictIn K C_BadTurns = true)
    (e4_BadTurns : PySem.W.findIn K (.ref C_BadTurns) "__class__" = some (some (.builtin "object.__class__")))
    (e7_BadTurns : PySem.W.mroIn K C_BadTurns (.type "object") = some true)
    (e0_NotFlat : PySem.W.findIn K (.ref C_NotFlat) "__getattribute__" = some (some (.builtin "BaseException.__getattribute__")))
    (e1_NotFlat : PySem.W.findIn K (.ref C_NotFlat) "__getattr__" = some none)
    (e3_NotFlat : PySem.W.hasDictIn K C_NotFlat = true)
    (e4_NotFlat : PySem.W.findIn K (.ref C_NotFlat) "__class__" = some (some (.builtin "object.__class__")))
    (e7_NotFlat : PySem.W.mroIn K C_NotFlat (.type "object") = some true)
    (e0_BadText : PySem.W.findIn K (.ref C_BadText) "__getattribute__" = some (some (.builtin "BaseException.__getattribute__")))
    (e1_BadText : PySem.W.findIn K (.ref C_BadText) "__getattr__" = some none)
    (e3_BadText : PySem.W.hasDictIn K C_BadText = true)
    (e4_BadText : PySem.W.findIn K (.ref C_BadText) "__class__" = some (some (.builtin "object.__class__")))
    (e7_BadText : PySem.W.mroIn K C_BadText (.type "object") = some true)
    (e0_NothingBack : PySem.W.findIn K (.ref C_NothingBack) "__getattribute__" = some (some (.builtin "BaseException.__getattribute__")))
    (e1_NothingBack : PySem.W.findIn K (.ref C_NothingBack) "__getattr__" = some none)
    (e3_NothingBack : PySem.W.hasDictIn K C_NothingBack = true)
    (e4_NothingBack : PySem.W.findIn K (.ref C_NothingBack) "__class__" = some (some (.builtin "object.__class__")))
    (e7_NothingBack : PySem.W.mroIn K C_NothingBack (.type "object") = some true)
    (is_BadWeb_BadWeb : PySem.W.kitOne K (.ref C_BadWeb) (.ref C_BadWeb) = some true)
    (is_BadSet_BadWeb : PySem.W.kitOne K (.ref C_BadSet) (.ref C_BadWeb) = some false)
    (is_Parted_BadWeb : PySem.W.kitOne K (.ref C_Parted) (.ref C_BadWeb) = some false)
    (is_NoTree_BadWeb : PySem.W.kitOne K (.ref C_NoTree) (.ref C_BadWeb) = some false)
    (is_NoTie_BadWeb : PySem.W.kitOne K (.ref C_NoTie) (.ref C_BadWeb) = some false)
    (is_NoSuch_BadWeb : PySem.W.kitOne K (.ref C_NoSuch) (.ref C_BadWeb) = some false)
    (is_NotSquare_BadWeb : PySem.W.kitOne K (.ref C_NotSquare) (.ref C_BadWeb) = some false)
    (is_Singular_BadWeb : PySem.W.kitOne K (.ref C_Singular) (.ref C_BadWeb) = some false)
    (is_BadRow_BadWeb : PySem.W.kitOne K (.ref C_BadRow) (.ref C_BadWeb) = some false)
    (is_BadTurns_BadWeb : PySem.W.kitOne K (.ref C_BadTurns) (.ref C_BadWeb) = some false)
    (is_NotFlat_BadWeb : PySem.W.kitOne K (.ref C_NotFlat) (.ref C_BadWeb) = some false)
    (is_BadText_BadWeb : PySem.W.kitOne K (.ref C_BadText) (.ref C_BadWeb) = some false)
    (is_NothingBack_BadWeb : PySem.W.kitOne K (.ref C_NothingBack) (.ref C_BadWeb) = some false)
    (is_BadWeb_BadSet : PySem.W.kitOne K (.ref C_BadWeb) (.ref C_BadSet) = some false)
    (is_BadSet_BadSet : PySem.W.kitOne K (.ref C_BadSet) (.ref C_BadSet) = some true)
    (is_Parted_BadSet : PySem.W.kitOne K (.ref C_Parted) (.ref C_BadSet) = some false)
    (is_NoTree_BadSet : PySem.W.kitOne K (.ref C_NoTree) (.ref C_BadSet) = some false)
    (is_NoTie_BadSet : PySem.W.kitOne K (.ref C_NoTie) (.ref C_BadSet) = some false)
    (is_NoSuch_BadSet : PySem.W.kitOne K (.ref C_NoSuch) (.ref C_BadSet) = some false)
    (is_NotSquare_BadSet : PySem.W.kitOne K (.ref C_NotSquare) (.ref C_BadSet) = some false)
    (is_Singular_BadSet : PySem.W.kitOne K (.ref C_Singular) (.ref C_BadSet) = some false)
    (is_BadRow_BadSet : PySem.W.kitOne K (.ref C_BadRow) (.ref C_BadSet) = some false)
    (is_BadTurns_BadSet : PySem.W.kitOne K (.ref C_BadTurns) (.ref C_BadSet) = some false)
    (is_NotFlat_BadSet : PySem.W.kitOne K (.ref C_NotFlat) (.ref C_BadSet) = some false)
    (is_BadText_BadSet : PySem.W.kitOne K (.ref C_BadText) (.ref C_BadSet) = some false)
    (is_NothingBack_BadSet : PySem.W.kitOne K (.ref C_NothingBack) (.ref C_BadSet) = some false)
    (is_BadWeb_Parted : PySem.W.kitOne K (.ref C_BadWeb) (.ref C_Parted) = some false)
    (is_BadSet_Parted : PySem.W.kitOne K (.ref C_BadSet) (.ref C_Parted) = some false)
    (is_Parted_Parted : PySem.W.kitOne K (.ref C_Parted) (.ref C_Parted) = some true)
    (is_NoTree_Parted : PySem.W.kitOne K (.ref C_NoTree) (.ref C_Parted) = some false)
    (is_NoTie_Parted : PySem.W.kitOne K (.ref C_NoTie) (.ref C_Parted) = some false)
    (is_NoSuch_Parted : PySem.W.kitOne K (.ref C_NoSuch) (.ref C_Parted) = some false)
    (is_NotSquare_Parted : PySem.W.kitOne K (.ref C_NotSquare) (.ref C_Parted) = some false)
    (is_Singular_Parted : PySem.W.kitOne K (.ref C_Singular) (.ref C_Parted) = some false)
    (is_BadRow_Parted : PySem.W.kitOne K (.ref C_BadRow) (.ref C_Parted) = some false)
    (is_BadTurns_Parted : PySem.W.kitOne K (.ref C_BadTurns) (.ref C_Parted) = some false)
    (is_NotFlat_Parted : PySem.W.kitOne K (.ref C_NotFlat) (.ref C_Parted) = some false)
    (is_BadText_Parted : PySem.W.kitOne K (.ref C_BadText) (.ref C_Parted) = some false)
    (is_NothingBack_Parted : PySem.W.kitOne K (.ref C_NothingBack) (.ref C_Parted) = some false)
    (is_BadWeb_NoTree : PySem.W.kitOne K (.ref C_BadWeb) (.ref C_NoTree) = some false)
    (is_BadSet_NoTree : PySem.W.kitOne K (.ref C_BadSet) (.ref C_NoTree) = some false)
    (is_Parted_NoTree : PySem.W.kitOne K (.ref C_Parted) (.ref C_NoTree) = some false)
    (is_NoTree_NoTree : PySem.W.kitOne K (.ref C_NoTree) (.ref C_NoTree) = some true)
    (is_NoTie_NoTree : PySem.W.kitOne K (.ref C_NoTie) (.ref C_NoTree) = some false)
    (is_NoSuch_NoTree : PySem.W.kitOne K (.ref C_NoSuch) (.ref C_NoTree) = some false)
    (is_NotSquare_NoTree : PySem.W.kitOne K (.ref C_NotSquare) (.ref C_NoTree) = some false)
    (is_Singular_NoTree : PySem.W.kitOne K (.ref C_Singular) (.ref C_NoTree) = some false)
    (is_BadRow_NoTree : PySem.W.kitOne K (.ref C_BadRow) (.ref C_NoTree) = some false)
    (is_BadTurns_NoTree : PySem.W.kitOne K (.ref C_BadTurns) (.ref C_NoTree) = some false)
    (is_NotFlat_NoTree : PySem.W.kitOne K (.ref C_NotFlat) (.ref C_NoTree) = some false)
    (is_BadText_NoTree : PySem.W.kitOne K (.ref C_BadText) (.ref C_NoTree) = some false)
    (is_NothingBack_NoTree : PySem.W.kitOne K (.ref C_NothingBack) (.ref C_NoTree) = some false)
    (is_BadWeb_NoTie : PySem.W.kitOne K (.ref C_BadWeb) (.ref C_NoTie) = some false)
    (is_BadSet_NoTie : PySem.W.kitOne K (.ref C_BadSet) (.ref C_NoTie) = some false)
    (is_Parted_NoTie : PySem.W.kitOne K (.ref C_Parted) (.ref C_NoTie) = some false)
    (is_NoTree_NoTie : PySem.W.kitOne K (.ref C_NoTree) (.ref C_NoTie) = some false)
    (is_NoTie_NoTie : PySem.W.kitOne K (.ref C_NoTie) (.ref C_NoTie) = some true)
    (is_NoSuch_NoTie : PySem.W.kitOne K (.ref C_NoSuch) (.ref C_NoTie) = some false)
    (is_NotSquare_NoTie : PySem.W.kitOne K (.ref C_NotSquare) (.ref C_NoTie) = some false)
    (is_Singular_NoTie : PySem.W.kitOne K (.ref C_Singular) (.ref C_NoTie) = some false)
    (is_BadRow_NoTie : PySem.W.kitOne K (.ref C_BadRow) (.ref C_NoTie) = some false)
    (is_BadTurns_NoTie : PySem.W.kitOne K (.ref C_BadTurns) (.ref C_NoTie) = some false)
    (is_NotFlat_NoTie : PySem.W.kitOne K (.ref C_NotFlat) (.ref C_NoTie) = some false)
    (is_BadText_NoTie : PySem.W.kitOne K (.ref C_BadText) (.ref C_NoTie) = some false)
    (is_NothingBack_NoTie : PySem.W.kitOne K (.ref C_NothingBack) (.ref C_NoTie) = some false)
    (is_BadWeb_NoSuch : PySem.W.kitOne K (.ref C_BadWeb) (.ref C_NoSuch) = some false)
    (is_BadSet_NoSuch : PySem.W.kitOne K (.ref C_BadSet) (.ref C_NoSuch) = some false)
    (is_Parted_NoSuch : PySem.W.kitOne K (.ref C_Parted) (.ref C_NoSuch) = some false)
    (is_NoTree_NoSuch : PySem.W.kitOne K (.ref C_NoTree) (.ref C_NoSuch) = some false)
    (is_NoTie_NoSuch : PySem.W.kitOne K (.ref C_NoTie) (.ref C_NoSuch) = some false)
    (is_NoSuch_NoSuch : PySem.W.kitOne K (.ref C_NoSuch) (.ref C_NoSuch) = some true)
    (is_NotSquare_NoSuch : PySem.W.kitOne K (.ref C_NotSquare) (.ref C_NoSuch) = some false)
    (is_Singular_NoSuch : PySem.W.kitOne K (.ref C_Singular) (.ref C_NoSuch) = some false)
    (is_BadRow_NoSuch : PySem.W.kitOne K (.ref C_BadRow) (.ref C_NoSuch) = some false)
    (is_BadTurns_NoSuch : PySem.W.kitOne K (.ref C_BadTurns) (.ref C_NoSuch) = some false)
    (is_NotFlat_NoSuch : PySem.W.kitOne K (.ref C_NotFlat) (.ref C_NoSuch) = some false)
    (is_BadText_NoSuch : PySem.W.kitOne K (.ref C_BadText) (.ref C_NoSuch) = some false)
    (is_NothingBack_NoSuch : PySem.W.kitOne K (.ref C_NothingBack) (.ref C_NoSuch) = some false)
    (is_BadWeb_NotSquare : PySem.W.kitOne K (.ref C_BadWeb) (.ref C_NotSquare) = some false)
    (is_BadSet_NotSquare : PySem.W.kitOne K (.ref C_BadSet) (.ref C_NotSquare) = some false)
    (is_Parted_NotSquare : PySem.W.kitOne K (.ref C_Parted) (.ref C_NotSquare) = some false)
    (is_NoTree_NotSquare : PySem.W.kitOne K (.ref C_NoTree) (.ref C_NotSquare) = some false)
    (is_NoTie_NotSquare : PySem.W.kitOne K (.ref C_NoTie) (.ref C_NotSquare) = some false)
    (is_NoSuch_NotSquare : PySem.W.kitOne K (.ref C_NoSuch) (.ref C_NotSquare) = some false)
    (is_NotSquare_NotSquare : PySem.W.kitOne K (.ref C_NotSquare) (.ref C_NotSquare) = some true)
    (is_Singular_NotSquare : PySem.W.kitOne K (.ref C_Singular) (.ref C_NotSquare) = some false)
    (is_BadRow_NotSquare : PySem.W.kitOne K (.ref C_BadRow) (.ref C_NotSquare) = some false)
    (is_BadTurns_NotSquare : PySem.W.kitOne K (.ref C_BadTurns) (.ref C_NotSquare) = some false)
    (is_NotFlat_NotSquare : PySem.W.kitOne K (.ref C_NotFlat) (.ref C_NotSquare) = some false)
    (is_BadText_NotSquare : PySem.W.kitOne K (.ref C_BadText) (.ref C_NotSquare) = some false)
    (is_NothingBack_NotSquare : PySem.W.kitOne K (.ref C_NothingBack) (.ref C_NotSquare) = some false)
    (is_BadWeb_Singular : PySem.W.kitOne K (.ref C_BadWeb) (.ref C_Singular) = some false)
    (is_BadSet_Singular : PySem.W.kitOne K (.ref C_BadSet) (.ref C_Singular) = some false)
    (is_Parted_Singular : PySem.W.kitOne K (.ref C_Parted) (.ref C_Singular) = some false)
    (is_NoTree_Singular : PySem.W.kitOne K (.ref C_NoTree) (.ref C_Singular) = some false)
    (is_NoTie_Singular : PySem.W.kitOne K (.ref C_NoTie) (.ref C_Singular) = some false)
    (is_NoSuch_Singular : PySem.W.kitOne K (.ref C_NoSuch) (.ref C_Singular) = some false)
    (is_NotSquare_Singular : PySem.W.kitOne K (.ref C_NotSquare) (.ref C_Singular) = some false)
    (is_Singular_Singular : PySem.W.kitOne K (.ref C_Singular) (.ref C_Singular) = some true)
    (is_BadRow_Singular : PySem.W.kitOne K (.ref C_BadRow) (.ref C_Singular) = some false)
    (is_BadTurns_Singular : PySem.W.kitOne K (.ref C_BadTurns) (.ref C_Singular) = some false)
    (is_NotFlat_Singular : PySem.W.kitOne K (.ref C_NotFlat) (.ref C_Singular) = some false)
    (is_BadText_Singular : PySem.W.kitOne K (.ref C_BadText) (.ref C_Singular) = some false)
    (is_NothingBack_Singular : PySem.W.kitOne K (.ref C_NothingBack) (.ref C_Singular) = some false)
    (is_BadWeb_BadRow : PySem.W.kitOne K (.ref C_BadWeb) (.ref C_BadRow) = some false)
    (is_BadSet_BadRow : PySem.W.kitOne K (.ref C_BadSet) (.ref C_BadRow) = some false)
    (is_Parted_BadRow : PySem.W.kitOne K (.ref C_Parted) (.ref C_BadRow) = some false)
    (is_NoTree_BadRow : PySem.W.kitOne K (.ref C_NoTree) (.ref C_BadRow) = some false)
    (is_NoTie_BadRow : PySem.W.kitOne K (.ref C_NoTie) (.ref C_BadRow) = some false)
    (is_NoSuch_BadRow : PySem.W.kitOne K (.ref C_NoSuch) (.ref C_BadRow) = some false)
    (is_NotSquare_BadRow : PySem.W.kitOne K (.ref C_NotSquare) (.ref C_BadRow) = some false)
    (is_Singular_BadRow : PySem.W.kitOne K (.ref C_Singular) (.ref C_BadRow) = some false)
    (is_BadRow_BadRow : PySem.W.kitOne K (.ref C_BadRow) (.ref C_BadRow) = some true)
    (is_BadTurns_BadRow : PySem.W.kitOne K (.ref C_BadTurns) (.ref C_BadRow) = some false)
    (is_NotFlat_BadRow : PySem.W.kitOne K (.ref C_NotFlat) (.ref C_BadRow) = some false)
    (is_BadText_BadRow : PySem.W.kitOne K (.ref C_BadText) (.ref C_BadRow) = some false)
    (is_NothingBack_BadRow : PySem.W.kitOne K (.ref C_NothingBack) (.ref C_BadRow) = some false)
    (is_BadWeb_BadTurns : PySem.W.kitOne K (.ref C_BadWeb) (.ref C_BadTurns) = some false)
    (is_BadSet_BadTurns : PySem.W.kitOne K (.ref C_BadSet) (.ref C_BadTurns) = some false)
    (is_Parted_BadTurns : PySem.W.kitOne K (.ref C_Parted) (.ref C_BadTurns) = some false)
    (is_NoTree_BadTurns : PySem.W.kitOne K (.ref C_NoTree) (.ref C_BadTurns) = some false)
    (is_NoTie_BadTurns : PySem.W.kitOne K (.ref C_NoTie) (.ref C_BadTurns) = some false)
    (is_NoSuch_BadTurns : PySem.W.kitOne K (.ref C_NoSuch) (.ref C_BadTurns) = some false)
    (is_NotSquare_BadTurns : PySem.W.kitOne K (.ref C_NotSquare) (.ref C_BadTurns) = some false)
    (is_Singular_BadTurns : PySem.W.kitOne K (.ref C_Singular) (.ref C_BadTurns) = some false)
    (is_BadRow_BadTurns : PySem.W.kitOne K (.ref C_BadRow) (.ref C_BadTurns) = some false)
    (is_BadTurns_BadTurns : PySem.W.kitOne K (.ref C_BadTurns) (.ref C_BadTurns) = some true)
    (is_NotFlat_BadTurns : PySem.W.kitOne K (.ref C_NotFlat) (.ref C_BadTurns) = some false)
    (is_BadText_BadTurns : PySem.W.kitOne K (.ref C_BadText) (.ref C_BadTurns) = some false)
    (is_NothingBack_BadTurns : PySem.W.kitOne K (.ref C_NothingBack) (.ref C_BadTurns) = some false)
    (is_BadWeb_NotFlat : PySem.W.kitOne K (.ref C_BadWeb) (.ref C_NotFlat) = some false)
    (is_BadSet_NotFlat : PySem.W.kitOne K (.ref C_BadSet) (.ref C_NotFlat) = some false)
    (is_Parted_NotFlat : PySem.W.kitOne K (.ref C_Parted) (.ref C_NotFlat) = some false)
    (is_NoTree_NotFlat : PySem.W.kitOne K (.ref C_NoTree) (.ref C_NotFlat) = some false)
    (is_NoTie_NotFlat : PySem.W.kitOne K (.ref C_NoTie) (.ref C_NotFlat) = some false)
    (is_NoSuch_NotFlat : PySem.W.kitOne K (.ref C_NoSuch) (.ref C_NotFlat) = some false)
    (is_NotSquare_NotFlat : PySem.W.kitOne K (.ref C_NotSquare) (.ref C_NotFlat) = some false)
    (is_Singular_NotFlat : PySem.W.kitOne K (.ref C_Singular) (.ref C_NotFlat) = some false)
    (is_BadRow_NotFlat : PySem.W.kitOne K (.ref C_BadRow) (.ref C_NotFlat) = some false)
    (is_BadTurns_NotFlat : PySem.W.kitOne K (.ref C_BadTurns) (.ref C_NotFlat) = some false)
    (is_NotFlat_NotFlat : PySem.W.kitOne K (.ref C_NotFlat) (.ref C_NotFlat) = some true)
    (is_BadText_NotFlat : PySem.W.kitOne K (.ref C_BadText) (.ref C_NotFlat) = some false)
    (is_NothingBack_NotFlat : PySem.W.kitOne K (.ref C_NothingBack) (.ref C_NotFlat) = some false)
    (is_BadWeb_BadText : PySem.W.kitOne K (.ref C_BadWeb) (.ref C_BadText) = some false)
    (is_BadSet_BadText : PySem.W.kitOne K (.ref C_BadSet) (.ref C_BadText) = some false)
    (is_Parted_BadText : PySem.W.kitOne K (.ref C_Parted) (.ref C_BadText) = some false)
    (is_NoTree_BadText : PySem.W.kitOne K (.ref C_NoTree) (.ref C_BadText) = some false)
    (is_NoTie_BadText : PySem.W.kitOne K (.ref C_NoTie) (.ref C_BadText) = some false)
    (is_NoSuch_BadText : PySem.W.kitOne K (.ref C_NoSuch) (.ref C_BadText) = some false)
    (is_NotSquare_BadText : PySem.W.kitOne K (.ref C_NotSquare) (.ref C_BadText) = some false)
    (is_Singular_BadText : PySem.W.kitOne K (.ref C_Singular) (.ref C_BadText) = some false)
    (is_BadRow_BadText : PySem.W.kitOne K (.ref C_BadRow) (.ref C_BadText) = some false)
    (is_BadTurns_BadText : PySem.W.kitOne K (.ref C_BadTurns) (.ref C_BadText) = some false)
    (is_NotFlat_BadText : PySem.W.kitOne K (.ref C_NotFlat) (.ref C_BadText) = some false)
    (is_BadText_BadText : PySem.W.kitOne K (.ref C_BadText) (.ref C_BadText) = some true)
    (is_NothingBack_BadText : PySem.W.kitOne K (.ref C_NothingBack) (.ref C_BadText) = some false)
    (is_BadWeb_NothingBack : PySem.W.kitOne K (.ref C_BadWeb) (.ref C_NothingBack) = some false)
    (is_BadSet_NothingBack : PySem.W.kitOne K (.ref C_BadSet) (.ref C_NothingBack) = some false)
    (is_Parted_NothingBack : PySem.W.kitOne K (.ref C_Parted) (.ref C_NothingBack) = some false)
    (is_NoTree_NothingBack : PySem.W.kitOne K (.ref C_NoTree) (.ref C_NothingBack) = some false)
    (is_NoTie_NothingBack : PySem.W.kitOne K (.ref C_NoTie) (.ref C_NothingBack) = some false)
    (is_NoSuch_NothingBack : PySem.W.kitOne K (.ref C_NoSuch) (.ref C_NothingBack) = some false)
    (is_NotSquare_NothingBack : PySem.W.kitOne K (.ref C_NotSquare) (.ref C_NothingBack) = some false)
    (is_Singular_NothingBack : PySem.W.kitOne K (.ref C_Singular) (.ref C_NothingBack) = some false)
    (is_BadRow_NothingBack : PySem.W.kitOne K (.ref C_BadRow) (.ref C_NothingBack) = some false)
    (is_BadTurns_NothingBack : PySem.W.kitOne K (.ref C_BadTurns) (.ref C_NothingBack) = some false)
    (is_NotFlat_NothingBack : PySem.W.kitOne K (.ref C_NotFlat) (.ref C_NothingBack) = some false)
    (is_BadText_NothingBack : PySem.W.kitOne K (.ref C_BadText) (.ref C_NothingBack) = some false)
    (is_NothingBack_NothingBack : PySem.W.kitOne K (.ref C_NothingBack) (.ref C_NothingBack) = some true)
    (is_BadWeb_ValueError : PySem.W.kitOne K (.ref C_BadWeb) (.type "ValueError") = some true)
    (is_BadSet_ValueError : PySem.W.kitOne K (.ref C_BadSet) (.type "ValueError") = some true)
    (is_Parted_ValueError : PySem.W.kitOne K (.ref C_Parted) (.type "ValueError") = some true)
    (is_NoTree_ValueError : PySem.W.kitOne K (.ref C_NoTree) (.type "ValueError") = some true)
    (is_NoTie_ValueError : PySem.W.kitOne K (.ref C_NoTie) (.type "ValueError") = some true)
    (is_NoSuch_ValueError : PySem.W.kitOne K (.ref C_NoSuch) (.type "ValueError") = some true)
    (is_NotSquare_ValueError : PySem.W.kitOne K (.ref C_NotSquare) (.type "ValueError") = some true)
    (is_Singular_ValueError : PySem.W.kitOne K (.ref C_Singular) (.type "ValueError") = some true)
    (is_BadRow_ValueError : PySem.W.kitOne K (.ref C_BadRow) (.type "ValueError") = some true)
    (is_BadTurns_ValueError : PySem.W.kitOne K (.ref C_BadTurns) (.type "ValueError") = some true)
    (is_NotFlat_ValueError : PySem.W.kitOne K (.ref C_NotFlat) (.type "ValueError") = some true)
    (is_BadText_ValueError : PySem.W.kitOne K (.ref C_BadText) (.type "ValueError") = some true)
    (is_NothingBack_ValueError : PySem.W.kitOne K (.ref C_NothingBack) (.type "ValueError") = some true)
    (a_Web : PySem.W.nsIn K mainGlobals "Web" = some (some (.ref C_Web)))
    (pg_Web : PySem.W.plainGet K C_Web Str.empty = true)
    (hd_Web : PySem.W.hasDictIn K C_Web = true)
    (po_Web : PySem.W.plainOver K C_Web = true)
    (sa_Web : PySem.W.findIn K (.ref C_Web) "__setattr__" = some (some (.builtin "object.__setattr__")))
    (mk_Web : PySem.W.makesIn K C_Web = true)
    (kc_Web : PySem.W.keepIn K (.ref C_Web) = true)
    (na_Web_places : PySem.W.findIn K (.ref C_Web) "places" = some none)
    (na_Web_ties : PySem.W.findIn K (.ref C_Web) "ties" = some none)
    (a_Desk : PySem.W.nsIn K mainGlobals "Desk" = some (some (.ref C_Desk)))
    (pg_Desk : PySem.W.plainGet K C_Desk Str.empty = true)
    (hd_Desk : PySem.W.hasDictIn K C_Desk = true)
    (po_Desk : PySem.W.plainOver K C_Desk = true)
    (sa_Desk : PySem.W.findIn K (.ref C_Desk) "__setattr__" = some (some (.builtin "object.__setattr__")))
    (mk_Desk : PySem.W.makesIn K C_Desk = true)
    (kc_Desk : PySem.W.keepIn K (.ref C_Desk) = true)
    (na_Desk_stood : PySem.W.findIn K (.ref C_Desk) "stood" = some none)
    (n_look_at_table : PySem.W.nsIn K mainGlobals "look_at_table" = some (some (.ref a_look_at_table)))
    (l_look_at_table : K.lookup a_look_at_table = some ⟨oc_look_at_table, od_look_at_table, .func (PySem.W.fnOf "look_at_table" "look_at_table" (defArgs s_look_at_table) (defBody s_look_at_table) (defScope s_look_at_table) .none kV_look_at_table dc_look_at_table pm_look_at_table an_look_at_table cd_look_at_table ct_look_at_table), sl_look_at_table⟩)
    (c_look_at_table : PySem.W.codeIn K cd_look_at_table "look_at_table" = true)
    (k_look_at_table : PySem.W.keepIn K (.ref a_look_at_table) = true)
    (n_first_row_with : PySem.W.nsIn K mainGlobals "first_row_with" = some (some (.ref a_first_row_with)))
    (l_first_row_with : K.lookup a_first_row_with = some ⟨oc_first_row_with, od_first_row_with, .func (PySem.W.fnOf "first_row_with" "first_row_with" (defArgs s_first_row_with) (defBody s_first_row_with) (defScope s_first_row_with) .none kV_first_row_with dc_first_row_with pm_first_row_with an_first_row_with cd_first_row_with ct_first_row_with), sl_first_row_with⟩)
    (c_first_row_with : PySem.W.codeIn K cd_first_row_with "first_row_with" = true)
    (k_first_row_with : PySem.W.keepIn K (.ref a_first_row_with) = true)
    (n_cleared : PySem.W.nsIn K mainGlobals "cleared" = some (some (.ref a_cleared)))
    (l_cleared : K.lookup a_cleared = some ⟨oc_cleared, od_cleared, .func (PySem.W.fnOf "cleared" "cleared" (defArgs s_cleared) (defBody s_cleared) (defScope s_cleared) .none kV_cleared dc_cleared pm_cleared an_cleared cd_cleared ct_cleared), sl_cleared⟩)
    (c_cleared : PySem.W.codeIn K cd_cleared "cleared" = true)
    (k_cleared : PySem.W.keepIn K (.ref a_cleared) = true)
    (n_determinant : PySem.W.nsIn K mainGlobals "determinant" = some (some (.ref a_determinant)))
    (l_determinant : K.lookup a_determinant = some ⟨oc_determinant, od_determinant, .func (PySem.W.fnOf "determinant" "determinant" (defArgs s_determinant) (defBody s_determinant) (defScope s_determinant) .none kV_determinant dc_determinant pm_determinant an_determinant cd_determinant ct_determinant), sl_determinant⟩)
    (c_determinant : PySem.W.codeIn K cd_determinant "determinant" = true)
    (k_determinant : PySem.W.keepIn K (.ref a_determinant) = true)
    (n_common_part : PySem.W.nsIn K mainGlobals "common_part" = some (some (.ref a_common_part)))
    (l_common_part : K.lookup a_common_part = some ⟨oc_common_part, od_common_part, .func (PySem.W.fnOf "common_part" "common_part" (defArgs s_common_part) (defBody s_common_part) (defScope s_common_part) .none kV_common_part dc_common_part pm_common_part an_common_part cd_common_part ct_common_part), sl_common_part⟩)
    (c_common_part : PySem.W.codeIn K cd_common_part "common_part" = true)
    (k_common_part : PySem.W.keepIn K (.ref a_common_part) = true)
    (n_as_fraction : PySem.W.nsIn K mainGlobals "as_fraction" = some (some (.ref a_as_fraction)))
    (l_as_fraction : K.lookup a_as_fraction = some ⟨oc_as_fraction, od_as_fraction, .func (PySem.W.fnOf "as_fraction" "as_fraction" (defArgs s_as_fraction) (defBody s_as_fraction) (defScope s_as_fraction) .none kV_as_fraction dc_as_fraction pm_as_fraction an_as_fraction cd_as_fraction ct_as_fraction), sl_as_fraction⟩)
    (c_as_fraction : PySem.W.codeIn K cd_as_fraction "as_fraction" = true)
    (k_as_fraction : PySem.W.keepIn K (.ref a_as_fraction) = true)
    (n_solved : PySem.W.nsIn K mainGlobals "solved" = some (some (.ref a_solved)))
    (l_solved : K.lookup a_solved = some ⟨oc_solved, od_solved, .func (PySem.W.fnOf "solved" "solved" (defArgs s_solved) (defBody s_solved) (defScope s_solved) .none kV_solved dc_solved pm_solved an_solved cd_solved ct_solved), sl_solved⟩)
    (c_solved : PySem.W.codeIn K cd_solved "solved" = true)
    (k_solved : PySem.W.keepIn K (.ref a_solved) = true)
    (n_Web_init : PySem.W.findIn K (.ref C_Web) "__init__" = some (some (.ref a_Web_init)))
    (i_Web_init : PySem.W.isFn K (.ref a_Web_init) = true)
    (l_Web_init : K.lookup a_Web_init = some ⟨oc_Web_init, od_Web_init, .func (PySem.W.fnOf "__init__" "Web.__init__" (defArgs s_Web_init) (defBody s_Web_init) (defScope s_Web_init) .none kV_Web_init dc_Web_init pm_Web_init an_Web_init cd_Web_init ct_Web_init), sl_Web_init⟩)
    (c_Web_init : PySem.W.codeIn K cd_Web_init "Web.__init__" = true)
    (k_Web_init : PySem.W.keepIn K (.ref a_Web_init) = true)
    (n_made_set : PySem.W.nsIn K mainGlobals "made_set" = some (some (.ref a_made_set)))
    (l_made_set : K.lookup a_made_set = some ⟨oc_made_set, od_made_set, .func (PySem.W.fnOf "made_set" "made_set" (defArgs s_made_set) (defBody s_made_set) (defScope s_made_set) .none kV_made_set dc_made_set pm_made_set an_made_set cd_made_set ct_made_set), sl_made_set⟩)
    (c_made_set : PySem.W.codeIn K cd_made_set "made_set" = true)
    (k_made_set : PySem.W.keepIn K (.ref a_made_set) = true)
    (n_marks_over : PySem.W.nsIn K mainGlobals "marks_over" = some (some (.ref a_marks_over)))
    (l_marks_over : K.lookup a_marks_over = some ⟨oc_marks_over, od_marks_over, .func (PySem.W.fnOf "marks_over" "marks_over" (defArgs s_marks_over) (defBody s_marks_over) (defScope s_marks_over) .none kV_marks_over dc_marks_over pm_marks_over an_marks_over cd_marks_over ct_marks_over), sl_marks_over⟩)
    (c_marks_over : PySem.W.codeIn K cd_marks_over "marks_over" = true)
    (k_marks_over : PySem.W.keepIn K (.ref a_marks_over) = true)
    (n_pieces_of : PySem.W.nsIn K mainGlobals "pieces_of" = some (some (.ref a_pieces_of)))
    (l_pieces_of : K.lookup a_pieces_of = some ⟨oc_pieces_of, od_pieces_of, .func (PySem.W.fnOf "pieces_of" "pieces_of" (defArgs s_pieces_of) (defBody s_pieces_of) (defScope s_pieces_of) .none kV_pieces_of dc_pieces_of pm_pieces_of an_pieces_of cd_pieces_of ct_pieces_of), sl_pieces_of⟩)
    (c_pieces_of : PySem.W.codeIn K cd_pieces_of "pieces_of" = true)
    (k_pieces_of : PySem.W.keepIn K (.ref a_pieces_of) = true)
    (n_is_joined : PySem.W.nsIn K mainGlobals "is_joined" = some (some (.ref a_is_joined)))
    (l_is_joined : K.lookup a_is_joined = some ⟨oc_is_joined, od_is_joined, .func (PySem.W.fnOf "is_joined" "is_joined" (defArgs s_is_joined) (defBody s_is_joined) (defScope s_is_joined) .none kV_is_joined dc_is_joined pm_is_joined an_is_joined cd_is_joined ct_is_joined), sl_is_joined⟩)
    (c_is_joined : PySem.W.codeIn K cd_is_joined "is_joined" = true)
    (k_is_joined : PySem.W.keepIn K (.ref a_is_joined) = true)
    (n_is_tree : PySem.W.nsIn K mainGlobals "is_tree" = some (some (.ref a_is_tree)))
    (l_is_tree : K.lookup a_is_tree = some ⟨oc_is_tree, od_is_tree, .func (PySem.W.fnOf "is_tree" "is_tree" (defArgs s_is_tree) (defBody s_is_tree) (defScope s_is_tree) .none kV_is_tree dc_is_tree pm_is_tree an_is_tree cd_is_tree ct_is_tree), sl_is_tree⟩)
    (c_is_tree : PySem.W.codeIn K cd_is_tree "is_tree" = true)
    (k_is_tree : PySem.W.keepIn K (.ref a_is_tree) = true)
    (n_look_at_tree : PySem.W.nsIn K mainGlobals "look_at_tree" = some (some (.ref a_look_at_tree)))
    (l_look_at_tree : K.lookup a_look_at_tree = some ⟨oc_look_at_tree, od_look_at_tree, .func (PySem.W.fnOf "look_at_tree" "look_at_tree" (defArgs s_look_at_tree) (defBody s_look_at_tree) (defScope s_look_at_tree) .none kV_look_at_tree dc_look_at_tree pm_look_at_tree an_look_at_tree cd_look_at_tree ct_look_at_tree), sl_look_at_tree⟩)
    (c_look_at_tree : PySem.W.codeIn K cd_look_at_tree "look_at_tree" = true)
    (k_look_at_tree : PySem.W.keepIn K (.ref a_look_at_tree) = true)
    (n_grown : PySem.W.nsIn K mainGlobals "grown" = some (some (.ref a_grown)))
    (l_grown : K.lookup a_grown = some ⟨oc_grown, od_grown, .func (PySem.W.fnOf "grown" "grown" (defArgs s_grown) (defBody s_grown) (defScope s_grown) .none kV_grown dc_grown pm_grown an_grown cd_grown ct_grown), sl_grown⟩)
    (c_grown : PySem.W.codeIn K cd_grown "grown" = true)
    (k_grown : PySem.W.keepIn K (.ref a_grown) = true)
    (n_least_tree : PySem.W.nsIn K mainGlobals "least_tree" = some (some (.ref a_least_tree)))
    (l_least_tree : K.lookup a_least_tree = some ⟨oc_least_tree, od_least_tree, .func (PySem.W.fnOf "least_tree" "least_tree" (defArgs s_least_tree) (defBody s_least_tree) (defScope s_least_tree) .none kV_least_tree dc_least_tree pm_least_tree an_least_tree cd_least_tree ct_least_tree), sl_least_tree⟩)
    (c_least_tree : PySem.W.codeIn K cd_least_tree "least_tree" = true)
    (k_least_tree : PySem.W.keepIn K (.ref a_least_tree) = true)
    (n_without_tie : PySem.W.nsIn K mainGlobals "without_tie" = some (some (.ref a_without_tie)))
    (l_without_tie : K.lookup a_without_tie = some ⟨oc_without_tie, od_without_tie, .func (PySem.W.fnOf "without_tie" "without_tie" (defArgs s_without_tie) (defBody s_without_tie) (defScope s_without_tie) .none kV_without_tie dc_without_tie pm_without_tie an_without_tie cd_without_tie ct_without_tie), sl_without_tie⟩)
    (c_without_tie : PySem.W.codeIn K cd_without_tie "without_tie" = true)
    (k_without_tie : PySem.W.keepIn K (.ref a_without_tie) = true)
    (n_ring_of : PySem.W.nsIn K mainGlobals "ring_of" = some (some (.ref a_ring_of)))
    (l_ring_of : K.lookup a_ring_of = some ⟨oc_ring_of, od_ring_of, .func (PySem.W.fnOf "ring_of" "ring_of" (defArgs s_ring_of) (defBody s_ring_of) (defScope s_ring_of) .none kV_ring_of dc_ring_of pm_ring_of an_ring_of cd_ring_of ct_ring_of), sl_ring_of⟩)
    (c_ring_of : PySem.W.codeIn K cd_ring_of "ring_of" = true)
    (k_ring_of : PySem.W.keepIn K (.ref a_ring_of) = true)
    (n_pulls : PySem.W.nsIn K mainGlobals "pulls" = some (some (.ref a_pulls)))
    (l_pulls : K.lookup a_pulls = some ⟨oc_pulls, od_pulls, .func (PySem.W.fnOf "pulls" "pulls" (defArgs s_pulls) (defBody s_pulls) (defScope s_pulls) .none kV_pulls dc_pulls pm_pulls an_pulls cd_pulls ct_pulls), sl_pulls⟩)
    (c_pulls : PySem.W.codeIn K cd_pulls "pulls" = true)
    (k_pulls : PySem.W.keepIn K (.ref a_pulls) = true)
    (n_without_last : PySem.W.nsIn K mainGlobals "without_last" = some (some (.ref a_without_last)))
    (l_without_last : K.lookup a_without_last = some ⟨oc_without_last, od_without_last, .func (PySem.W.fnOf "without_last" "without_last" (defArgs s_without_last) (defBody s_without_last) (defScope s_without_last) .none kV_without_last dc_without_last pm_without_last an_without_last cd_without_last ct_without_last), sl_without_last⟩)
    (c_without_last : PySem.W.codeIn K cd_without_last "without_last" = true)
    (k_without_last : PySem.W.keepIn K (.ref a_without_last) = true)
    (n_pull_table : PySem.W.nsIn K mainGlobals "pull_table" = some (some (.ref a_pull_table)))
    (l_pull_table : K.lookup a_pull_table = some ⟨oc_pull_table, od_pull_table, .func (PySem.W.fnOf "pull_table" "pull_table" (defArgs s_pull_table) (defBody s_pull_table) (defScope s_pull_table) .none kV_pull_table dc_pull_table pm_pull_table an_pull_table cd_pull_table ct_pull_table), sl_pull_table⟩)
    (c_pull_table : PySem.W.codeIn K cd_pull_table "pull_table" = true)
    (k_pull_table : PySem.W.keepIn K (.ref a_pull_table) = true)
    (n_tree_count : PySem.W.nsIn K mainGlobals "tree_count" = some (some (.ref a_tree_count)))
    (l_tree_count : K.lookup a_tree_count = some ⟨oc_tree_count, od_tree_count, .func (PySem.W.fnOf "tree_count" "tree_count" (defArgs s_tree_count) (defBody s_tree_count) (defScope s_tree_count) .none kV_tree_count dc_tree_count pm_tree_count an_tree_count cd_tree_count ct_tree_count), sl_tree_count⟩)
    (c_tree_count : PySem.W.codeIn K cd_tree_count "tree_count" = true)
    (k_tree_count : PySem.W.keepIn K (.ref a_tree_count) = true)
    (n_count_with : PySem.W.nsIn K mainGlobals "count_with" = some (some (.ref a_count_with)))
    (l_count_with : K.lookup a_count_with = some ⟨oc_count_with, od_count_with, .func (PySem.W.fnOf "count_with" "count_with" (defArgs s_count_with) (defBody s_count_with) (defScope s_count_with) .none kV_count_with dc_count_with pm_count_with an_count_with cd_count_with ct_count_with), sl_count_with⟩)
    (c_count_with : PySem.W.codeIn K cd_count_with "count_with" = true)
    (k_count_with : PySem.W.keepIn K (.ref a_count_with) = true)
    (n_tree_at : PySem.W.nsIn K mainGlobals "tree_at" = some (some (.ref a_tree_at)))
    (l_tree_at : K.lookup a_tree_at = some ⟨oc_tree_at, od_tree_at, .func (PySem.W.fnOf "tree_at" "tree_at" (defArgs s_tree_at) (defBody s_tree_at) (defScope s_tree_at) .none kV_tree_at dc_tree_at pm_tree_at an_tree_at cd_tree_at ct_tree_at), sl_tree_at⟩)
    (c_tree_at : PySem.W.codeIn K cd_tree_at "tree_at" = true)
    (k_tree_at : PySem.W.keepIn K (.ref a_tree_at) = true)
    (n_number_written : PySem.W.nsIn K mainGlobals "number_written" = some (some (.ref a_number_written)))
    (l_number_written : K.lookup a_number_written = some ⟨oc_number_written, od_number_written, .func (PySem.W.fnOf "number_written" "number_written" (defArgs s_number_written) (defBody s_number_written) (defScope s_number_written) .none kV_number_written dc_number_written pm_number_written an_number_written cd_number_written ct_number_written), sl_number_written⟩)
    (c_number_written : PySem.W.codeIn K cd_number_written "number_written" = true)
    (k_number_written : PySem.W.keepIn K (.ref a_number_written) = true)
    (n_numbers_behind : PySem.W.nsIn K mainGlobals "numbers_behind" = some (some (.ref a_numbers_behind)))
    (l_numbers_behind : K.lookup a_numbers_behind = some ⟨oc_numbers_behind, od_numbers_behind, .func (PySem.W.fnOf "numbers_behind" "numbers_behind" (defArgs s_numbers_behind) (defBody s_numbers_behind) (defScope s_numbers_behind) .none kV_numbers_behind dc_numbers_behind pm_numbers_behind an_numbers_behind cd_numbers_behind ct_numbers_behind), sl_numbers_behind⟩)
    (c_numbers_behind : PySem.W.codeIn K cd_numbers_behind "numbers_behind" = true)
    (k_numbers_behind : PySem.W.keepIn K (.ref a_numbers_behind) = true)
    (n_read_web : PySem.W.nsIn K mainGlobals "read_web" = some (some (.ref a_read_web)))
    (l_read_web : K.lookup a_read_web = some ⟨oc_read_web, od_read_web, .func (PySem.W.fnOf "read_web" "read_web" (defArgs s_read_web) (defBody s_read_web) (defScope s_read_web) .none kV_read_web dc_read_web pm_read_web an_read_web cd_read_web ct_read_web), sl_read_web⟩)
    (c_read_web : PySem.W.codeIn K cd_read_web "read_web" = true)
    (k_read_web : PySem.W.keepIn K (.ref a_read_web) = true)
    (n_Desk_init : PySem.W.findIn K (.ref C_Desk) "__init__" = some (some (.ref a_Desk_init)))
    (i_Desk_init : PySem.W.isFn K (.ref a_Desk_init) = true)
    (l_Desk_init : K.lookup a_Desk_init = some ⟨oc_Desk_init, od_Desk_init, .func (PySem.W.fnOf "__init__" "Desk.__init__" (defArgs s_Desk_init) (defBody s_Desk_init) (defScope s_Desk_init) .none kV_Desk_init dc_Desk_init pm_Desk_init an_Desk_init cd_Desk_init ct_Desk_init), sl_Desk_init⟩)
    (c_Desk_init : PySem.W.codeIn K cd_Desk_init "Desk.__init__" = true)
    (k_Desk_init : PySem.W.keepIn K (.ref a_Desk_init) = true)
    (n_Desk_back : PySem.W.findIn K (.ref C_Desk) "back" = some (some (.ref a_Desk_back)))
    (i_Desk_back : PySem.W.isFn K (.ref a_Desk_back) = true)
    (l_Desk_back : K.lookup a_Desk_back = some ⟨oc_Desk_back, od_Desk_back, .func (PySem.W.fnOf "back" "Desk.back" (defArgs s_Desk_back) (defBody s_Desk_back) (defScope s_Desk_back) .none kV_Desk_back dc_Desk_back pm_Desk_back an_Desk_back cd_Desk_back ct_Desk_back), sl_Desk_back⟩)
    (c_Desk_back : PySem.W.codeIn K cd_Desk_back "Desk.back" = true)
    (k_Desk_back : PySem.W.keepIn K (.ref a_Desk_back) = true)
    (n_place_from : PySem.W.nsIn K mainGlobals "place_from" = some (some (.ref a_place_from)))
    (l_place_from : K.lookup a_place_from = some ⟨oc_place_from, od_place_from, .func (PySem.W.fnOf "place_from" "place_from" (defArgs s_place_from) (defBody s_place_from) (defScope s_place_from) .none kV_place_from dc_place_from pm_place_from an_place_from cd_place_from ct_place_from), sl_place_from⟩)
    (c_place_from : PySem.W.codeIn K cd_place_from "place_from" = true)
    (k_place_from : PySem.W.keepIn K (.ref a_place_from) = true)
    (n_look_at_turns : PySem.W.nsIn K mainGlobals "look_at_turns" = some (some (.ref a_look_at_turns)))
    (l_look_at_turns : K.lookup a_look_at_turns = some ⟨oc_look_at_turns, od_look_at_turns, .func (PySem.W.fnOf "look_at_turns" "look_at_turns" (defArgs s_look_at_turns) (defBody s_look_at_turns) (defScope s_look_at_turns) .none kV_look_at_turns dc_look_at_turns pm_look_at_turns an_look_at_turns cd_look_at_turns ct_look_at_turns), sl_look_at_turns⟩)
    (c_look_at_turns : PySem.W.codeIn K cd_look_at_turns "look_at_turns" = true)
    (k_look_at_turns : PySem.W.keepIn K (.ref a_look_at_turns) = true)
    (n_darts_behind : PySem.W.nsIn K mainGlobals "darts_behind" = some (some (.ref a_darts_behind)))
    (l_darts_behind : K.lookup a_darts_behind = some ⟨oc_darts_behind, od_darts_behind, .func (PySem.W.fnOf "darts_behind" "darts_behind" (defArgs s_darts_behind) (defBody s_darts_behind) (defScope s_darts_behind) .none kV_darts_behind dc_darts_behind pm_darts_behind an_darts_behind cd_darts_behind ct_darts_behind), sl_darts_behind⟩)
    (c_darts_behind : PySem.W.codeIn K cd_darts_behind "darts_behind" = true)
    (k_darts_behind : PySem.W.keepIn K (.ref a_darts_behind) = true)
    (n_rounds_of : PySem.W.nsIn K mainGlobals "rounds_of" = some (some (.ref a_rounds_of)))
    (l_rounds_of : K.lookup a_rounds_of = some ⟨oc_rounds_of, od_rounds_of, .func (PySem.W.fnOf "rounds_of" "rounds_of" (defArgs s_rounds_of) (defBody s_rounds_of) (defScope s_rounds_of) .none kV_rounds_of dc_rounds_of pm_rounds_of an_rounds_of cd_rounds_of ct_rounds_of), sl_rounds_of⟩)
    (c_rounds_of : PySem.W.codeIn K cd_rounds_of "rounds_of" = true)
    (k_rounds_of : PySem.W.keepIn K (.ref a_rounds_of) = true)
    (n_lies_flat : PySem.W.nsIn K mainGlobals "lies_flat" = some (some (.ref a_lies_flat)))
    (l_lies_flat : K.lookup a_lies_flat = some ⟨oc_lies_flat, od_lies_flat, .func (PySem.W.fnOf "lies_flat" "lies_flat" (defArgs s_lies_flat) (defBody s_lies_flat) (defScope s_lies_flat) .none kV_lies_flat dc_lies_flat pm_lies_flat an_lies_flat cd_lies_flat ct_lies_flat), sl_lies_flat⟩)
    (c_lies_flat : PySem.W.codeIn K cd_lies_flat "lies_flat" = true)
    (k_lies_flat : PySem.W.keepIn K (.ref a_lies_flat) = true)
    (n_other_web : PySem.W.nsIn K mainGlobals "other_web" = some (some (.ref a_other_web)))
    (l_other_web : K.lookup a_other_web = some ⟨oc_other_web, od_other_web, .func (PySem.W.fnOf "other_web" "other_web" (defArgs s_other_web) (defBody s_other_web) (defScope s_other_web) .none kV_other_web dc_other_web pm_other_web an_other_web cd_other_web ct_other_web), sl_other_web⟩)
    (c_other_web : PySem.W.codeIn K cd_other_web "other_web" = true)
    (k_other_web : PySem.W.keepIn K (.ref a_other_web) = true)
    (n_look_at_weights : PySem.W.nsIn K mainGlobals "look_at_weights" = some (some (.ref a_look_at_weights)))
    (l_look_at_weights : K.lookup a_look_at_weights = some ⟨oc_look_at_weights, od_look_at_weights, .func (PySem.W.fnOf "look_at_weights" "look_at_weights" (defArgs s_look_at_weights) (defBody s_look_at_weights) (defScope s_look_at_weights) .none kV_look_at_weights dc_look_at_weights pm_look_at_weights an_look_at_weights cd_look_at_weights ct_look_at_weights), sl_look_at_weights⟩)
    (c_look_at_weights : PySem.W.codeIn K cd_look_at_weights "look_at_weights" = true)
    (k_look_at_weights : PySem.W.keepIn K (.ref a_look_at_weights) = true)
    (n_weighed_table : PySem.W.nsIn K mainGlobals "weighed_table" = some (some (.ref a_weighed_table)))
    (l_weighed_table : K.lookup a_weighed_table = some ⟨oc_weighed_table, od_weighed_table, .func (PySem.W.fnOf "weighed_table" "weighed_table" (defArgs s_weighed_table) (defBody s_weighed_table) (defScope s_weighed_table) .none kV_weighed_table dc_weighed_table pm_weighed_table an_weighed_table cd_weighed_table ct_weighed_table), sl_weighed_table⟩)
    (c_weighed_table : PySem.W.codeIn K cd_weighed_table "weighed_table" = true)
    (k_weighed_table : PySem.W.keepIn K (.ref a_weighed_table) = true)
    (n_tree_sum : PySem.W.nsIn K mainGlobals "tree_sum" = some (some (.ref a_tree_sum)))
    (l_tree_sum : K.lookup a_tree_sum = some ⟨oc_tree_sum, od_tree_sum, .func (PySem.W.fnOf "tree_sum" "tree_sum" (defArgs s_tree_sum) (defBody s_tree_sum) (defScope s_tree_sum) .none kV_tree_sum dc_tree_sum pm_tree_sum an_tree_sum cd_tree_sum ct_tree_sum), sl_tree_sum⟩)
    (c_tree_sum : PySem.W.codeIn K cd_tree_sum "tree_sum" = true)
    (k_tree_sum : PySem.W.keepIn K (.ref a_tree_sum) = true)
    (n_law_cell : PySem.W.nsIn K mainGlobals "_law_cell" = some (some (.ref a_law_cell)))
    (l_law_cell : K.lookup a_law_cell = some ⟨oc_law_cell, od_law_cell, .func (PySem.W.fnOf "_law_cell" "_law_cell" (defArgs s_law_cell) (defBody s_law_cell) (defScope s_law_cell) .none kV_law_cell dc_law_cell pm_law_cell an_law_cell cd_law_cell ct_law_cell), sl_law_cell⟩)
    (c_law_cell : PySem.W.codeIn K cd_law_cell "_law_cell" = true)
    (k_law_cell : PySem.W.keepIn K (.ref a_law_cell) = true)
    (n_law_first : PySem.W.nsIn K mainGlobals "_law_first" = some (some (.ref a_law_first)))
    (l_law_first : K.lookup a_law_first = some ⟨oc_law_first, od_law_first, .func (PySem.W.fnOf "_law_first" "_law_first" (defArgs s_law_first) (defBody s_law_first) (defScope s_law_first) .none kV_law_first dc_law_first pm_law_first an_law_first cd_law_first ct_law_first), sl_law_first⟩)
    (c_law_first : PySem.W.codeIn K cd_law_first "_law_first" = true)
    (k_law_first : PySem.W.keepIn K (.ref a_law_first) = true)
    (n_law_second : PySem.W.nsIn K mainGlobals "_law_second" = some (some (.ref a_law_second)))
    (l_law_second : K.lookup a_law_second = some ⟨oc_law_second, od_law_second, .func (PySem.W.fnOf "_law_second" "_law_second" (defArgs s_law_second) (defBody s_law_second) (defScope s_law_second) .none kV_law_second dc_law_second pm_law_second an_law_second cd_law_second ct_law_second), sl_law_second⟩)
    (c_law_second : PySem.W.codeIn K cd_law_second "_law_second" = true)
    (k_law_second : PySem.W.keepIn K (.ref a_law_second) = true)
    (n_law_takers : PySem.W.nsIn K mainGlobals "_law_takers" = some (some (.ref a_law_takers)))
    (l_law_takers : K.lookup a_law_takers = some ⟨oc_law_takers, od_law_takers, .func (PySem.W.fnOf "_law_takers" "_law_takers" (defArgs s_law_takers) (defBody s_law_takers) (defScope s_law_takers) .none kV_law_takers dc_law_takers pm_law_takers an_law_takers cd_law_takers ct_law_takers), sl_law_takers⟩)
    (c_law_takers : PySem.W.codeIn K cd_law_takers "_law_takers" = true)
    (k_law_takers : PySem.W.keepIn K (.ref a_law_takers) = true)
    (n_law_k82 : PySem.W.nsIn K mainGlobals "law" = some (some (.ref a_law_k82)))
    (l_law_k82 : K.lookup a_law_k82 = some ⟨oc_law_k82, od_law_k82, .func (PySem.W.fnOf "law" "law" (defArgs s_law_k82) (defBody s_law_k82) (defScope s_law_k82) .none kV_law_k82 dc_law_k82 pm_law_k82 an_law_k82 cd_law_k82 ct_law_k82), sl_law_k82⟩)
    (c_law_k82 : PySem.W.codeIn K cd_law_k82 "law" = true)
    (k_law_k82 : PySem.W.keepIn K (.ref a_law_k82) = true)
    (v_MOST_PLACES : PySem.W.nsIn K mainGlobals "MOST_PLACES" = some (some (.int 14 t_MOST_PLACES)))
    (v_MOST_TIES : PySem.W.nsIn K mainGlobals "MOST_TIES" = some (some (.int 30 t_MOST_TIES)))
    (v_FIGURES : PySem.W.nsIn K mainGlobals "FIGURES" = some (some (.str "0123456789" t_FIGURES)))
    (v_MOST_FIGURES : PySem.W.nsIn K mainGlobals "MOST_FIGURES" = some (some (.int 60 t_MOST_FIGURES)))
    (z_ValueError : PySem.W.nsIn K mainGlobals "ValueError" = some none)
    (z_abs : PySem.W.nsIn K mainGlobals "abs" = some none)
    (z_all : PySem.W.nsIn K mainGlobals "all" = some none)
    (z_any : PySem.W.nsIn K mainGlobals "any" = some none)
    (z_enumerate : PySem.W.nsIn K mainGlobals "enumerate" = some none)
    (z_int : PySem.W.nsIn K mainGlobals "int" = some none)
    (z_isinstance : PySem.W.nsIn K mainGlobals "isinstance" = some none)
    (z_len : PySem.W.nsIn K mainGlobals "len" = some none)
    (z_list : PySem.W.nsIn K mainGlobals "list" = some none)
    (z_max : PySem.W.nsIn K mainGlobals "max" = some none)
    (z_min : PySem.W.nsIn K mainGlobals "min" = some none)
    (z_range : PySem.W.nsIn K mainGlobals "range" = some none)
    (z_set : PySem.W.nsIn K mainGlobals "set" = some none)
    (z_sorted : PySem.W.nsIn K mainGlobals "sorted" = some none)
    (z_str : PySem.W.nsIn K mainGlobals "str" = some none)
    (z_tuple : PySem.W.nsIn K mainGlobals "tuple" = some none)
    (z_zip : PySem.W.nsIn K mainGlobals "zip" = some none)
    : ∃ T : Tx K mg, mg "law" = some (.ref T.a_law_k82) ∧ ∀ (s : Shared) (v : Value), BindsTo s T.d_law_k82 ⟨[v], []⟩ [("script", v)] := by
  refine ⟨{
    C_WebError := C_WebError,
    C_BadWeb := C_BadWeb,
    C_BadSet := C_BadSet,
    C_Parted := C_Parted,
    C_NoTree := C_NoTree,
    C_NoTie := C_NoTie,
    C_NoSuch := C_NoSuch,
    C_NotSquare := C_NotSquare,
    C_Singular := C_Singular,
    C_BadRow := C_BadRow,
    C_BadTurns := C_BadTurns,
    C_NotFlat := C_NotFlat,
    C_BadText := C_BadText,
    C_NothingBack := C_NothingBack,
    C_Web := C_Web,
    C_Desk := C_Desk,
    a_look_at_table := a_look_at_table,
    d_look_at_table := PySem.W.fnOf "look_at_table" "look_at_table" (defArgs s_look_at_table) (defBody s_look_at_table) (defScope s_look_at_table) .none kV_look_at_table dc_look_at_table pm_look_at_table an_look_at_table cd_look_at_table ct_look_at_table,
    a_first_row_with := a_first_row_with,
    d_first_row_with := PySem.W.fnOf "first_row_with" "first_row_with" (defArgs s_first_row_with) (defBody s_first_row_with) (defScope s_first_row_with) .none kV_first_row_with dc_first_row_with pm_first_row_with an_first_row_with cd_first_row_with ct_first_row_with,
    a_cleared := a_cleared,
    d_cleared := PySem.W.fnOf "cleared" "cleared" (defArgs s_cleared) (defBody s_cleared) (defScope s_cleared) .none kV_cleared dc_cleared pm_cleared an_cleared cd_cleared ct_cleared,
    a_determinant := a_determinant,
    d_determinant := PySem.W.fnOf "determinant" "determinant" (defArgs s_determinant) (defBody s_determinant) (defScope s_determinant) .none kV_determinant dc_determinant pm_determinant an_determinant cd_determinant ct_determinant,
    a_common_part := a_common_part,
    d_common_part := PySem.W.fnOf "common_part" "common_part" (defArgs s_common_part) (defBody s_common_part) (defScope s_common_part) .none kV_common_part dc_common_part pm_common_part an_common_part cd_common_part ct_common_part,
    a_as_fraction := a_as_fraction,
    d_as_fraction := PySem.W.fnOf "as_fraction" "as_fraction" (defArgs s_as_fraction) (defBody s_as_fraction) (defScope s_as_fraction) .none kV_as_fraction dc_as_fraction pm_as_fraction an_as_fraction cd_as_fraction ct_as_fraction,
    a_solved := a_solved,
    d_solved := PySem.W.fnOf "solved" "solved" (defArgs s_solved) (defBody s_solved) (defScope s_solved) .none kV_solved dc_solved pm_solved an_solved cd_solved ct_solved,
    a_Web_init := a_Web_init,
    d_Web_init := PySem.W.fnOf "__init__" "Web.__init__" (defArgs s_Web_init) (defBody s_Web_init) (defScope s_Web_init) .none kV_Web_init dc_Web_init pm_Web_init an_Web_init cd_Web_init ct_Web_init,
    a_made_set := a_made_set,
    d_made_set := PySem.W.fnOf "made_set" "made_set" (defArgs s_made_set) (defBody s_made_set) (defScope s_made_set) .none kV_made_set dc_made_set pm_made_set an_made_set cd_made_set ct_made_set,
    a_marks_over := a_marks_over,
    d_marks_over := PySem.W.fnOf "marks_over" "marks_over" (defArgs s_marks_over) (defBody s_marks_over) (defScope s_marks_over) .none kV_marks_over dc_marks_over pm_marks_over an_marks_over cd_marks_over ct_marks_over,
    a_pieces_of := a_pieces_of,
    d_pieces_of := PySem.W.fnOf "pieces_of" "pieces_of" (defArgs s_pieces_of) (defBody s_pieces_of) (defScope s_pieces_of) .none kV_pieces_of dc_pieces_of pm_pieces_of an_pieces_of cd_pieces_of ct_pieces_of,
    a_is_joined := a_is_joined,
    d_is_joined := PySem.W.fnOf "is_joined" "is_joined" (defArgs s_is_joined) (defBody s_is_joined) (defScope s_is_joined) .none kV_is_joined dc_is_joined pm_is_joined an_is_joined cd_is_joined ct_is_joined,
    a_is_tree := a_is_tree,
    d_is_tree := PySem.W.fnOf "is_tree" "is_tree" (defArgs s_is_tree) (defBody s_is_tree) (defScope s_is_tree) .none kV_is_tree dc_is_tree pm_is_tree an_is_tree cd_is_tree ct_is_tree,
    a_look_at_tree := a_look_at_tree,
    d_look_at_tree := PySem.W.fnOf "look_at_tree" "look_at_tree" (defArgs s_look_at_tree) (defBody s_look_at_tree) (defScope s_look_at_tree) .none kV_look_at_tree dc_look_at_tree pm_look_at_tree an_look_at_tree cd_look_at_tree ct_look_at_tree,
    a_grown := a_grown,
    d_grown := PySem.W.fnOf "grown" "grown" (defArgs s_grown) (defBody s_grown) (defScope s_grown) .none kV_grown dc_grown pm_grown an_grown cd_grown ct_grown,
    a_least_tree := a_least_tree,
    d_least_tree := PySem.W.fnOf "least_tree" "least_tree" (defArgs s_least_tree) (defBody s_least_tree) (defScope s_least_tree) .none kV_least_tree dc_least_tree pm_least_tree an_least_tree cd_least_tree ct_least_tree,
    a_without_tie := a_without_tie,
    d_without_tie := PySem.W.fnOf "without_tie" "without_tie" (defArgs s_without_tie) (defBody s_without_tie) (defScope s_without_tie) .none kV_without_tie dc_without_tie pm_without_tie an_without_tie cd_without_tie ct_without_tie,
    a_ring_of := a_ring_of,
    d_ring_of := PySem.W.fnOf "ring_of" "ring_of" (defArgs s_ring_of) (defBody s_ring_of) (defScope s_ring_of) .none kV_ring_of dc_ring_of pm_ring_of an_ring_of cd_ring_of ct_ring_of,
    a_pulls := a_pulls,
    d_pulls := PySem.W.fnOf "pulls" "pulls" (defArgs s_pulls) (defBody s_pulls) (defScope s_pulls) .none kV_pulls dc_pulls pm_pulls an_pulls cd_pulls ct_pulls,
    a_without_last := a_without_last,
    d_without_last := PySem.W.fnOf "without_last" "without_last" (defArgs s_without_last) (defBody s_without_last) (defScope s_without_last) .none kV_without_last dc_without_last pm_without_last an_without_last cd_without_last ct_without_last,
    a_pull_table := a_pull_table,
    d_pull_table := PySem.W.fnOf "pull_table" "pull_table" (defArgs s_pull_table) (defBody s_pull_table) (defScope s_pull_table) .none kV_pull_table dc_pull_table pm_pull_table an_pull_table cd_pull_table ct_pull_table,
    a_tree_count := a_tree_count,
    d_tree_count := PySem.W.fnOf "tree_count" "tree_count" (defArgs s_tree_count) (defBody s_tree_count) (defScope s_tree_count) .none kV_tree_count dc_tree_count pm_tree_count an_tree_count cd_tree_count ct_tree_count,
    a_count_with := a_count_with,
    d_count_with := PySem.W.fnOf "count_with" "count_with" (defArgs s_count_with) (defBody s_count_with) (defScope s_count_with) .none kV_count_with dc_count_with pm_count_with an_count_with cd_count_with ct_count_with,
    a_tree_at := a_tree_at,
    d_tree_at := PySem.W.fnOf "tree_at" "tree_at" (defArgs s_tree_at) (defBody s_tree_at) (defScope s_tree_at) .none kV_tree_at dc_tree_at pm_tree_at an_tree_at cd_tree_at ct_tree_at,
    a_number_written := a_number_written,
    d_number_written := PySem.W.fnOf "number_written" "number_written" (defArgs s_number_written) (defBody s_number_written) (defScope s_number_written) .none kV_number_written dc_number_written pm_number_written an_number_written cd_number_written ct_number_written,
    a_numbers_behind := a_numbers_behind,
    d_numbers_behind := PySem.W.fnOf "numbers_behind" "numbers_behind" (defArgs s_numbers_behind) (defBody s_numbers_behind) (defScope s_numbers_behind) .none kV_numbers_behind dc_numbers_behind pm_numbers_behind an_numbers_behind cd_numbers_behind ct_numbers_behind,
    a_read_web := a_read_web,
    d_read_web := PySem.W.fnOf "read_web" "read_web" (defArgs s_read_web) (defBody s_read_web) (defScope s_read_web) .none kV_read_web dc_read_web pm_read_web an_read_web cd_read_web ct_read_web,
    a_Desk_init := a_Desk_init,
    d_Desk_init := PySem.W.fnOf "__init__" "Desk.__init__" (defArgs s_Desk_init) (defBody s_Desk_init) (defScope s_Desk_init) .none kV_Desk_init dc_Desk_init pm_Desk_init an_Desk_init cd_Desk_init ct_Desk_init,
    a_Desk_back := a_Desk_back,
    d_Desk_back := PySem.W.fnOf "back" "Desk.back" (defArgs s_Desk_back) (defBody s_Desk_back) (defScope s_Desk_back) .none kV_Desk_back dc_Desk_back pm_Desk_back an_Desk_back cd_Desk_back ct_Desk_back,
    a_place_from := a_place_from,
    d_place_from := PySem.W.fnOf "place_from" "place_from" (defArgs s_place_from) (defBody s_place_from) (defScope s_place_from) .none kV_place_from dc_place_from pm_place_from an_place_from cd_place_from ct_place_from,
    a_look_at_turns := a_look_at_turns,
    d_look_at_turns := PySem.W.fnOf "look_at_turns" "look_at_turns" (defArgs s_look_at_turns) (defBody s_look_at_turns) (defScope s_look_at_turns) .none kV_look_at_turns dc_look_at_turns pm_look_at_turns an_look_at_turns cd_look_at_turns ct_look_at_turns,
    a_darts_behind := a_darts_behind,
    d_darts_behind := PySem.W.fnOf "darts_behind" "darts_behind" (defArgs s_darts_behind) (defBody s_darts_behind) (defScope s_darts_behind) .none kV_darts_behind dc_darts_behind pm_darts_behind an_darts_behind cd_darts_behind ct_darts_behind,
    a_rounds_of := a_rounds_of,
    d_rounds_of := PySem.W.fnOf "rounds_of" "rounds_of" (defArgs s_rounds_of) (defBody s_rounds_of) (defScope s_rounds_of) .none kV_rounds_of dc_rounds_of pm_rounds_of an_rounds_of cd_rounds_of ct_rounds_of,
    a_lies_flat := a_lies_flat,
    d_lies_flat := PySem.W.fnOf "lies_flat" "lies_flat" (defArgs s_lies_flat) (defBody s_lies_flat) (defScope s_lies_flat) .none kV_lies_flat dc_lies_flat pm_lies_flat an_lies_flat cd_lies_flat ct_lies_flat,
    a_other_web := a_other_web,
    d_other_web := PySem.W.fnOf "other_web" "other_web" (defArgs s_other_web) (defBody s_other_web) (defScope s_other_web) .none kV_other_web dc_other_web pm_other_web an_other_web cd_other_web ct_other_web,
    a_look_at_weights := a_look_at_weights,
    d_look_at_weights := PySem.W.fnOf "look_at_weights" "look_at_weights" (defArgs s_look_at_weights) (defBody s_look_at_weights) (defScope s_look_at_weights) .none kV_look_at_weights dc_look_at_weights pm_look_at_weights an_look_at_weights cd_look_at_weights ct_look_at_weights,
    a_weighed_table := a_weighed_table,
    d_weighed_table := PySem.W.fnOf "weighed_table" "weighed_table" (defArgs s_weighed_table) (defBody s_weighed_table) (defScope s_weighed_table) .none kV_weighed_table dc_weighed_table pm_weighed_table an_weighed_table cd_weighed_table ct_weighed_table,
    a_tree_sum := a_tree_sum,
    d_tree_sum := PySem.W.fnOf "tree_sum" "tree_sum" (defArgs s_tree_sum) (defBody s_tree_sum) (defScope s_tree_sum) .none kV_tree_sum dc_tree_sum pm_tree_sum an_tree_sum cd_tree_sum ct_tree_sum,
    a_law_cell := a_law_cell,
    d_law_cell := PySem.W.fnOf "_law_cell" "_law_cell" (defArgs s_law_cell) (defBody s_law_cell) (defScope s_law_cell) .none kV_law_cell dc_law_cell pm_law_cell an_law_cell cd_law_cell ct_law_cell,
    a_law_first := a_law_first,
    d_law_first := PySem.W.fnOf "_law_first" "_law_first" (defArgs s_law_first) (defBody s_law_first) (defScope s_law_first) .none kV_law_first dc_law_first pm_law_first an_law_first cd_law_first ct_law_first,
    a_law_second := a_law_second,
    d_law_second := PySem.W.fnOf "_law_second" "_law_second" (defArgs s_law_second) (defBody s_law_second) (defScope s_law_second) .none kV_law_second dc_law_second pm_law_second an_law_second cd_law_second ct_law_second,
    a_law_takers := a_law_takers,
    d_law_takers := PySem.W.fnOf "_law_takers" "_law_takers" (defArgs s_law_takers) (defBody s_law_takers) (defScope s_law_takers) .none kV_law_takers dc_law_takers pm_law_takers an_law_takers cd_law_takers ct_law_takers,
    a_law_k82 := a_law_k82,
    d_law_k82 := PySem.W.fnOf "law" "law" (defArgs s_law_k82) (defBody s_law_k82) (defScope s_law_k82) .none kV_law_k82 dc_law_k82 pm_law_k82 an_law_k82 cd_law_k82 ct_law_k82,
    t_MOST_PLACES := t_MOST_PLACES,
    t_MOST_TIES := t_MOST_TIES,
    t_FIGURES := t_FIGURES,
    t_MOST_FIGURES := t_MOST_FIGURES,
    m_WebError := PySem.W.mg_of X G a_WebError,
    x_WebError := x_WebError,
    kx_WebError := kx_WebError,
    bx_WebError := bx_WebError,
    tx_WebError := tx_WebError,
    m_BadWeb := PySem.W.mg_of X G a_BadWeb,
    x_BadWeb := x_BadWeb,
    kx_BadWeb := kx_BadWeb,
    bx_BadWeb := bx_BadWeb,
    tx_BadWeb := tx_BadWeb,
    m_BadSet := PySem.W.mg_of X G a_BadSet,
    x_BadSet := x_BadSet,
    kx_BadSet := kx_BadSet,
    bx_BadSet := bx_BadSet,
    tx_BadSet := tx_BadSet,
    m_Parted := PySem.W.mg_of X G a_Parted,
    x_Parted := x_Parted,
    kx_Parted := kx_Parted,
    bx_Parted := bx_Parted,
    tx_Parted := tx_Parted,
    m_NoTree := PySem.W.mg_of X G a_NoTree,
    x_NoTree := x_NoTree,
    kx_NoTree := kx_NoTree,
    bx_NoTree := bx_NoTree,
    tx_NoTree := tx_NoTree,
    m_NoTie := PySem.W.mg_of X G a_NoTie,
    x_NoTie := x_NoTie,
    kx_NoTie := kx_NoTie,
    bx_NoTie := bx_NoTie,
    tx_NoTie := tx_NoTie,
    m_NoSuch := PySem.W.mg_of X G a_NoSuch,
    x_NoSuch := x_NoSuch,
    kx_NoSuch := kx_NoSuch,
    bx_NoSuch := bx_NoSuch,
    tx_NoSuch := tx_NoSuch,
    m_NotSquare := PySem.W.mg_of X G a_NotSquare,
    x_NotSquare := x_NotSquare,
    kx_NotSquare := kx_NotSquare,
    bx_NotSquare := bx_NotSquare,
    tx_NotSquare := tx_NotSquare,
    m_Singular := PySem.W.mg_of X G a_Singular,
    x_Singular := x_Singular,
    kx_Singular := kx_Singular,
    bx_Singular := bx_Singular,
    tx_Singular := tx_Singular,
    m_BadRow := PySem.W.mg_of X G a_BadRow,
    x_BadRow := x_BadRow,
    kx_BadRow := kx_BadRow,
    bx_BadRow := bx_BadRow,
    tx_BadRow := tx_BadRow,
    m_BadTurns := PySem.W.mg_of X G a_BadTurns,
    x_BadTurns := x_BadTurns,
    kx_BadTurns := kx_BadTurns,
    bx_BadTurns := bx_BadTurns,
    tx_BadTurns := tx_BadTurns,
    m_NotFlat := PySem.W.mg_of X G a_NotFlat,
    x_NotFlat := x_NotFlat,
    kx_NotFlat := kx_NotFlat,
    bx_NotFlat := bx_NotFlat,
    tx_NotFlat := tx_NotFlat,
    m_BadText := PySem.W.mg_of X G a_BadText,
    x_BadText := x_BadText,
    kx_BadText := kx_BadText,
    bx_BadText := bx_BadText,
    tx_BadText := tx_BadText,
    m_NothingBack := PySem.W.mg_of X G a_NothingBack,
    x_NothingBack := x_NothingBack,
    kx_NothingBack := kx_NothingBack,
    bx_NothingBack := bx_NothingBack,
    tx_NothingBack := tx_NothingBack,
    ct_BadWeb_WebError := PySem.W.exm_ref bx_WebError hd_WebError tx_WebError su_BadWeb_WebError,
    ct_BadSet_WebError := PySem.W.exm_ref bx_WebError hd_WebError tx_WebError su_BadSet_WebError,
    ct_Parted_WebError := PySem.W.exm_ref bx_WebError hd_WebError tx_WebError su_Parted_WebError,
    ct_NoTree_WebError := PySem.W.exm_ref bx_WebError hd_WebError tx_WebError su_NoTree_WebError,
    ct_NoTie_WebError := PySem.W.exm_ref bx_WebError hd_WebError tx_WebError su_NoTie_WebError,
    ct_NoSuch_WebError := PySem.W.exm_ref bx_WebError hd_WebError tx_WebError su_NoSuch_WebError,
    ct_NotSquare_WebError := PySem.W.exm_ref bx_WebError hd_WebError tx_WebError su_NotSquare_WebError,
    ct_Singular_WebError := PySem.W.exm_ref bx_WebError hd_WebError tx_WebError su_Singular_WebError,
    ct_BadRow_WebError := PySem.W.exm_ref bx_WebError hd_WebError tx_WebError su_BadRow_WebError,
    ct_BadTurns_WebError := PySem.W.exm_ref bx_WebError hd_WebError tx_WebError su_BadTurns_WebError,
    ct_NotFlat_WebError := PySem.W.exm_ref bx_WebError hd_WebError tx_WebError su_NotFlat_WebError,
    ct_BadText_WebError := PySem.W.exm_ref bx_WebError hd_WebError tx_WebError su_BadText_WebError,
    ct_NothingBack_WebError := PySem.W.exm_ref bx_WebError hd_WebError tx_WebError su_NothingBack_WebError,
    xc_BadWeb := ⟨e0_BadWeb, e1_BadWeb, bx_BadWeb, e3_BadWeb, e4_BadWeb, e6, e7, e7_BadWeb⟩,
    xc_BadSet := ⟨e0_BadSet, e1_BadSet, bx_BadSet, e3_BadSet, e4_BadSet, e6, e7, e7_BadSet⟩,
    xc_Parted := ⟨e0_Parted, e1_Parted, bx_Parted, e3_Parted, e4_Parted, e6, e7, e7_Parted⟩,
    xc_NoTree := ⟨e0_NoTree, e1_NoTree, bx_NoTree, e3_NoTree, e4_NoTree, e6, e7, e7_NoTree⟩,
    xc_NoTie := ⟨e0_NoTie, e1_NoTie, bx_NoTie, e3_NoTie, e4_NoTie, e6, e7, e7_NoTie⟩,
    xc_NoSuch := ⟨e0_NoSuch, e1_NoSuch, bx_NoSuch, e3_NoSuch, e4_NoSuch, e6, e7, e7_NoSuch⟩,
    xc_NotSquare := ⟨e0_NotSquare, e1_NotSquare, bx_NotSquare, e3_NotSquare, e4_NotSquare, e6, e7, e7_NotSquare⟩,
    xc_Singular := ⟨e0_Singular, e1_Singular, bx_Singular, e3_Singular, e4_Singular, e6, e7, e7_Singular⟩,
    xc_BadRow := ⟨e0_BadRow, e1_BadRow, bx_BadRow, e3_BadRow, e4_BadRow, e6, e7, e7_BadRow⟩,
    xc_BadTurns := ⟨e0_BadTurns, e1_BadTurns, bx_BadTurns, e3_BadTurns, e4_BadTurns, e6, e7, e7_BadTurns⟩,
    xc_NotFlat := ⟨e0_NotFlat, e1_NotFlat, bx_NotFlat, e3_NotFlat, e4_NotFlat, e6, e7, e7_NotFlat⟩,
    xc_BadText := ⟨e0_BadText, e1_BadText, bx_BadText, e3_BadText, e4_BadText, e6, e7, e7_BadText⟩,
    xc_NothingBack := ⟨e0_NothingBack, e1_NothingBack, bx_NothingBack, e3_NothingBack, e4_NothingBack, e6, e7, e7_NothingBack⟩,
    is_BadWeb_BadWeb := is_BadWeb_BadWeb,
    is_BadSet_BadWeb := is_BadSet_BadWeb,
    is_Parted_BadWeb := is_Parted_BadWeb,
    is_NoTree_BadWeb := is_NoTree_BadWeb,
    is_NoTie_BadWeb := is_NoTie_BadWeb,
    is_NoSuch_BadWeb := is_NoSuch_BadWeb,
    is_NotSquare_BadWeb := is_NotSquare_BadWeb,
    is_Singular_BadWeb := is_Singular_BadWeb,
    is_BadRow_BadWeb := is_BadRow_BadWeb,
    is_BadTurns_BadWeb := is_BadTurns_BadWeb,
    is_NotFlat_BadWeb := is_NotFlat_BadWeb,
    is_BadText_BadWeb := is_BadText_BadWeb,
    is_NothingBack_BadWeb := is_NothingBack_BadWeb,
    is_BadWeb_BadSet := is_BadWeb_BadSet,
    is_BadSet_BadSet := is_BadSet_BadSet,
    is_Parted_BadSet := is_Parted_BadSet,
    is_NoTree_BadSet := is_NoTree_BadSet,
    is_NoTie_BadSet := is_NoTie_BadSet,
    is_NoSuch_BadSet := is_NoSuch_BadSet,
    is_NotSquare_BadSet := is_NotSquare_BadSet,
    is_Singular_BadSet := is_Singular_BadSet,
    is_BadRow_BadSet := is_BadRow_BadSet,
    is_BadTurns_BadSet := is_BadTurns_BadSet,
    is_NotFlat_BadSet := is_NotFlat_BadSet,
    is_BadText_BadSet := is_BadText_BadSet,
    is_NothingBack_BadSet := is_NothingBack_BadSet,
    is_BadWeb_Parted := is_BadWeb_Parted,
    is_BadSet_Parted := is_BadSet_Parted,
    is_Parted_Parted := is_Parted_Parted,
    is_NoTree_Parted := is_NoTree_Parted,
    is_NoTie_Parted := is_NoTie_Parted,
    is_NoSuch_Parted := is_NoSuch_Parted,
    is_NotSquare_Parted := is_NotSquare_Parted,
    is_Singular_Parted := is_Singular_Parted,
    is_BadRow_Parted := is_BadRow_Parted,
    is_BadTurns_Parted := is_BadTurns_Parted,
    is_NotFlat_Parted := is_NotFlat_Parted,
    is_BadText_Parted := is_BadText_Parted,
    is_NothingBack_Parted := is_NothingBack_Parted,
    is_BadWeb_NoTree := is_BadWeb_NoTree,
    is_BadSet_NoTree := is_BadSet_NoTree,
    is_Parted_NoTree := is_Parted_NoTree,
    is_NoTree_NoTree := is_NoTree_NoTree,
    is_NoTie_NoTree := is_NoTie_NoTree,
    is_NoSuch_NoTree := is_NoSuch_NoTree,
    is_NotSquare_NoTree := is_NotSquare_NoTree,
    is_Singular_NoTree := is_Singular_NoTree,
    is_BadRow_NoTree := is_BadRow_NoTree,
    is_BadTurns_NoTree := is_BadTurns_NoTree,
    is_NotFlat_NoTree := is_NotFlat_NoTree,
    is_BadText_NoTree := is_BadText_NoTree,
    is_NothingBack_NoTree := is_NothingBack_NoTree,
    is_BadWeb_NoTie := is_BadWeb_NoTie,
    is_BadSet_NoTie := is_BadSet_NoTie,
    is_Parted_NoTie := is_Parted_NoTie,
    is_NoTree_NoTie := is_NoTree_NoTie,
    is_NoTie_NoTie := is_NoTie_NoTie,
    is_NoSuch_NoTie := is_NoSuch_NoTie,
    is_NotSquare_NoTie := is_NotSquare_NoTie,
    is_Singular_NoTie := is_Singular_NoTie,
    is_BadRow_NoTie := is_BadRow_NoTie,
    is_BadTurns_NoTie := is_BadTurns_NoTie,
    is_NotFlat_NoTie := is_NotFlat_NoTie,
    is_BadText_NoTie := is_BadText_NoTie,
    is_NothingBack_NoTie := is_NothingBack_NoTie,
    is_BadWeb_NoSuch := is_BadWeb_NoSuch,
    is_BadSet_NoSuch := is_BadSet_NoSuch,
    is_Parted_NoSuch := is_Parted_NoSuch,
    is_NoTree_NoSuch := is_NoTree_NoSuch,
    is_NoTie_NoSuch := is_NoTie_NoSuch,
    is_NoSuch_NoSuch := is_NoSuch_NoSuch,
    is_NotSquare_NoSuch := is_NotSquare_NoSuch,
    is_Singular_NoSuch := is_Singular_NoSuch,
    is_BadRow_NoSuch := is_BadRow_NoSuch,
    is_BadTurns_NoSuch := is_BadTurns_NoSuch,
    is_NotFlat_NoSuch := is_NotFlat_NoSuch,
    is_BadText_NoSuch := is_BadText_NoSuch,
    is_NothingBack_NoSuch := is_NothingBack_NoSuch,
    is_BadWeb_NotSquare := is_BadWeb_NotSquare,
    is_BadSet_NotSquare := is_BadSet_NotSquare,
    is_Parted_NotSquare := is_Parted_NotSquare,
    is_NoTree_NotSquare := is_NoTree_NotSquare,
    is_NoTie_NotSquare := is_NoTie_NotSquare,
    is_NoSuch_NotSquare := is_NoSuch_NotSquare,
    is_NotSquare_NotSquare := is_NotSquare_NotSquare,
    is_Singular_NotSquare := is_Singular_NotSquare,
    is_BadRow_NotSquare := is_BadRow_NotSquare,
    is_BadTurns_NotSquare := is_BadTurns_NotSquare,
    is_NotFlat_NotSquare := is_NotFlat_NotSquare,
    is_BadText_NotSquare := is_BadText_NotSquare,
    is_NothingBack_NotSquare := is_NothingBack_NotSquare,
    is_BadWeb_Singular := is_BadWeb_Singular,
    is_BadSet_Singular := is_BadSet_Singular,
    is_Parted_Singular := is_Parted_Singular,
    is_NoTree_Singular := is_NoTree_Singular,
    is_NoTie_Singular := is_NoTie_Singular,
    is_NoSuch_Singular := is_NoSuch_Singular,
    is_NotSquare_Singular := is_NotSquare_Singular,
    is_Singular_Singular := is_Singular_Singular,
    is_BadRow_Singular := is_BadRow_Singular,
    is_BadTurns_Singular := is_BadTurns_Singular,
    is_NotFlat_Singular := is_NotFlat_Singular,
    is_BadText_Singular := is_BadText_Singular,
    is_NothingBack_Singular := is_NothingBack_Singular,
    is_BadWeb_BadRow := is_BadWeb_BadRow,
    is_BadSet_BadRow := is_BadSet_BadRow,
    is_Parted_BadRow := is_Parted_BadRow,
    is_NoTree_BadRow := is_NoTree_BadRow,
    is_NoTie_BadRow := is_NoTie_BadRow,
    is_NoSuch_BadRow := is_NoSuch_BadRow,
    is_NotSquare_BadRow := is_NotSquare_BadRow,
    is_Singular_BadRow := is_Singular_BadRow,
    is_BadRow_BadRow := is_BadRow_BadRow,
    is_BadTurns_BadRow := is_BadTurns_BadRow,
    is_NotFlat_BadRow := is_NotFlat_BadRow,
    is_BadText_BadRow := is_BadText_BadRow,
    is_NothingBack_BadRow := is_NothingBack_BadRow,
    is_BadWeb_BadTurns := is_BadWeb_BadTurns,
    is_BadSet_BadTurns := is_BadSet_BadTurns,
    is_Parted_BadTurns := is_Parted_BadTurns,
    is_NoTree_BadTurns := is_NoTree_BadTurns,
    is_NoTie_BadTurns := is_NoTie_BadTurns,
    is_NoSuch_BadTurns := is_NoSuch_BadTurns,
    is_NotSquare_BadTurns := is_NotSquare_BadTurns,
    is_Singular_BadTurns := is_Singular_BadTurns,
    is_BadRow_BadTurns := is_BadRow_BadTurns,
    is_BadTurns_BadTurns := is_BadTurns_BadTurns,
    is_NotFlat_BadTurns := is_NotFlat_BadTurns,
    is_BadText_BadTurns := is_BadText_BadTurns,
    is_NothingBack_BadTurns := is_NothingBack_BadTurns,
    is_BadWeb_NotFlat := is_BadWeb_NotFlat,
    is_BadSet_NotFlat := is_BadSet_NotFlat,
    is_Parted_NotFlat := is_Parted_NotFlat,
    is_NoTree_NotFlat := is_NoTree_NotFlat,
    is_NoTie_NotFlat := is_NoTie_NotFlat,
    is_NoSuch_NotFlat := is_NoSuch_NotFlat,
    is_NotSquare_NotFlat := is_NotSquare_NotFlat,
    is_Singular_NotFlat := is_Singular_NotFlat,
    is_BadRow_NotFlat := is_BadRow_NotFlat,
    is_BadTurns_NotFlat := is_BadTurns_NotFlat,
    is_NotFlat_NotFlat := is_NotFlat_NotFlat,
    is_BadText_NotFlat := is_BadText_NotFlat,
    is_NothingBack_NotFlat := is_NothingBack_NotFlat,
    is_BadWeb_BadText := is_BadWeb_BadText,
    is_BadSet_BadText := is_BadSet_BadText,
    is_Parted_BadText := is_Parted_BadText,
    is_NoTree_BadText := is_NoTree_BadText,
    is_NoTie_BadText := is_NoTie_BadText,
    is_NoSuch_BadText := is_NoSuch_BadText,
    is_NotSquare_BadText := is_NotSquare_BadText,
    is_Singular_BadText := is_Singular_BadText,
    is_BadRow_BadText := is_BadRow_BadText,
    is_BadTurns_BadText := is_BadTurns_BadText,
    is_NotFlat_BadText := is_NotFlat_BadText,
    is_BadText_BadText := is_BadText_BadText,
    is_NothingBack_BadText := is_NothingBack_BadText,
    is_BadWeb_NothingBack := is_BadWeb_NothingBack,
    is_BadSet_NothingBack := is_BadSet_NothingBack,
    is_Parted_NothingBack := is_Parted_NothingBack,
    is_NoTree_NothingBack := is_NoTree_NothingBack,
    is_NoTie_NothingBack := is_NoTie_NothingBack,
    is_NoSuch_NothingBack := is_NoSuch_NothingBack,
    is_NotSquare_NothingBack := is_NotSquare_NothingBack,
    is_Singular_NothingBack := is_Singular_NothingBack,
    is_BadRow_NothingBack := is_BadRow_NothingBack,
    is_BadTurns_NothingBack := is_BadTurns_NothingBack,
    is_NotFlat_NothingBack := is_NotFlat_NothingBack,
    is_BadText_NothingBack := is_BadText_NothingBack,
    is_NothingBack_NothingBack := is_NothingBack_NothingBack,
    is_BadWeb_ValueError := is_BadWeb_ValueError,
    is_BadSet_ValueError := is_BadSet_ValueError,
    is_Parted_ValueError := is_Parted_ValueError,
    is_NoTree_ValueError := is_NoTree_ValueError,
    is_NoTie_ValueError := is_NoTie_ValueError,
    is_NoSuch_ValueError := is_NoSuch_ValueError,
    is_NotSquare_ValueError := is_NotSquare_ValueError,
    is_Singular_ValueError := is_Singular_ValueError,
    is_BadRow_ValueError := is_BadRow_ValueError,
    is_BadTurns_ValueError := is_BadTurns_ValueError,
    is_NotFlat_ValueError := is_NotFlat_ValueError,
    is_BadText_ValueError := is_BadText_ValueError,
    is_NothingBack_ValueError := is_NothingBack_ValueError,
    m_Web := PySem.W.mg_of X G a_Web,
    cl_Web := ⟨pg_Web, hd_Web, po_Web, sa_Web⟩,
    na_Web_places := na_Web_places,
    na_Web_ties := na_Web_ties,
    mk_Web := ⟨mk_Web, n_Web_init, i_Web_init, kc_Web⟩,
    m_Desk := PySem.W.mg_of X G a_Desk,
    cl_Desk := ⟨pg_Desk, hd_Desk, po_Desk, sa_Desk⟩,
    na_Desk_stood := na_Desk_stood,
    mk_Desk := ⟨mk_Desk, n_Desk_init, i_Desk_init, kc_Desk⟩,
    F_look_at_table := fun_mk (st := s_look_at_table) l_look_at_table c_look_at_table k_look_at_table,
    b_look_at_table := (fun_mk (st := s_look_at_table) l_look_at_table c_look_at_table k_look_at_table).binds (ps := ["table"]) fun _ _ _ _ _ _ us hl => match us, hl with | [_], _ => rfl,
    m_look_at_table := PySem.W.mg_of X G n_look_at_table,
    k_look_at_table := k_look_at_table,
    F_first_row_with := fun_mk (st := s_first_row_with) l_first_row_with c_first_row_with k_first_row_with,
    b_first_row_with := (fun_mk (st := s_first_row_with) l_first_row_with c_first_row_with k_first_row_with).binds (ps := ["rows", "at"]) fun _ _ _ _ _ _ us hl => match us, hl with | [_, _], _ => rfl,
    m_first_row_with := PySem.W.mg_of X G n_first_row_with,
    k_first_row_with := k_first_row_with,
    F_cleared := fun_mk (st := s_cleared) l_cleared c_cleared k_cleared,
    b_cleared := (fun_mk (st := s_cleared) l_cleared c_cleared k_cleared).binds (ps := ["rows", "at", "ahead"]) fun _ _ _ _ _ _ us hl => match us, hl with | [_, _, _], _ => rfl,
    m_cleared := PySem.W.mg_of X G n_cleared,
    k_cleared := k_cleared,
    F_determinant := fun_mk (st := s_determinant) l_determinant c_determinant k_determinant,
    b_determinant := (fun_mk (st := s_determinant) l_determinant c_determinant k_determinant).binds (ps := ["table"]) fun _ _ _ _ _ _ us hl => match us, hl with | [_], _ => rfl,
    m_determinant := PySem.W.mg_of X G n_determinant,
    k_determinant := k_determinant,
    F_common_part := fun_mk (st := s_common_part) l_common_part c_common_part k_common_part,
    b_common_part := (fun_mk (st := s_common_part) l_common_part c_common_part k_common_part).binds (ps := ["one", "other"]) fun _ _ _ _ _ _ us hl => match us, hl with | [_, _], _ => rfl,
    m_common_part := PySem.W.mg_of X G n_common_part,
    k_common_part := k_common_part,
    F_as_fraction := fun_mk (st := s_as_fraction) l_as_fraction c_as_fraction k_as_fraction,
    b_as_fraction := (fun_mk (st := s_as_fraction) l_as_fraction c_as_fraction k_as_fraction).binds (ps := ["top", "bottom"]) fun _ _ _ _ _ _ us hl => match us, hl with | [_, _], _ => rfl,
    m_as_fraction := PySem.W.mg_of X G n_as_fraction,
    k_as_fraction := k_as_fraction,
    F_solved := fun_mk (st := s_solved) l_solved c_solved k_solved,
    b_solved := (fun_mk (st := s_solved) l_solved c_solved k_solved).binds (ps := ["table", "right"]) fun _ _ _ _ _ _ us hl => match us, hl with | [_, _], _ => rfl,
    m_solved := PySem.W.mg_of X G n_solved,
    k_solved := k_solved,
    F_Web_init := fun_mk (st := s_Web_init) l_Web_init c_Web_init k_Web_init,
    b_Web_init := (fun_mk (st := s_Web_init) l_Web_init c_Web_init k_Web_init).binds (ps := ["self", "places", "ties"]) fun _ _ _ _ _ _ us hl => match us, hl with | [_, _, _], _ => rfl,
    k_Web_init := k_Web_init,
    F_made_set := fun_mk (st := s_made_set) l_made_set c_made_set k_made_set,
    b_made_set := (fun_mk (st := s_made_set) l_made_set c_made_set k_made_set).binds (ps := ["web", "ties"]) fun _ _ _ _ _ _ us hl => match us, hl with | [_, _], _ => rfl,
    m_made_set := PySem.W.mg_of X G n_made_set,
    k_made_set := k_made_set,
    F_marks_over := fun_mk (st := s_marks_over) l_marks_over c_marks_over k_marks_over,
    b_marks_over := (fun_mk (st := s_marks_over) l_marks_over c_marks_over k_marks_over).binds (ps := ["web", "ties"]) fun _ _ _ _ _ _ us hl => match us, hl with | [_, _], _ => rfl,
    m_marks_over := PySem.W.mg_of X G n_marks_over,
    k_marks_over := k_marks_over,
    F_pieces_of := fun_mk (st := s_pieces_of) l_pieces_of c_pieces_of k_pieces_of,
    b_pieces_of := (fun_mk (st := s_pieces_of) l_pieces_of c_pieces_of k_pieces_of).binds (ps := ["web", "ties"]) fun _ _ _ _ _ _ us hl => match us, hl with | [_, _], _ => rfl,
    m_pieces_of := PySem.W.mg_of X G n_pieces_of,
    k_pieces_of := k_pieces_of,
    F_is_joined := fun_mk (st := s_is_joined) l_is_joined c_is_joined k_is_joined,
    b_is_joined := (fun_mk (st := s_is_joined) l_is_joined c_is_joined k_is_joined).binds (ps := ["web", "ties"]) fun _ _ _ _ _ _ us hl => match us, hl with | [_, _], _ => rfl,
    m_is_joined := PySem.W.mg_of X G n_is_joined,
    k_is_joined := k_is_joined,
    F_is_tree := fun_mk (st := s_is_tree) l_is_tree c_is_tree k_is_tree,
    b_is_tree := (fun_mk (st := s_is_tree) l_is_tree c_is_tree k_is_tree).binds (ps := ["web", "ties"]) fun _ _ _ _ _ _ us hl => match us, hl with | [_, _], _ => rfl,
    m_is_tree := PySem.W.mg_of X G n_is_tree,
    k_is_tree := k_is_tree,
    F_look_at_tree := fun_mk (st := s_look_at_tree) l_look_at_tree c_look_at_tree k_look_at_tree,
    b_look_at_tree := (fun_mk (st := s_look_at_tree) l_look_at_tree c_look_at_tree k_look_at_tree).binds (ps := ["web", "tree"]) fun _ _ _ _ _ _ us hl => match us, hl with | [_, _], _ => rfl,
    m_look_at_tree := PySem.W.mg_of X G n_look_at_tree,
    k_look_at_tree := k_look_at_tree,
    F_grown := fun_mk (st := s_grown) l_grown c_grown k_grown,
    b_grown := (fun_mk (st := s_grown) l_grown c_grown k_grown).binds (ps := ["web", "kept", "order"]) fun _ _ _ _ _ _ us hl => match us, hl with | [_, _, _], _ => rfl,
    m_grown := PySem.W.mg_of X G n_grown,
    k_grown := k_grown,
    F_least_tree := fun_mk (st := s_least_tree) l_least_tree c_least_tree k_least_tree,
    b_least_tree := (fun_mk (st := s_least_tree) l_least_tree c_least_tree k_least_tree).binds (ps := ["web"]) fun _ _ _ _ _ _ us hl => match us, hl with | [_], _ => rfl,
    m_least_tree := PySem.W.mg_of X G n_least_tree,
    k_least_tree := k_least_tree,
    F_without_tie := fun_mk (st := s_without_tie) l_without_tie c_without_tie k_without_tie,
    b_without_tie := (fun_mk (st := s_without_tie) l_without_tie c_without_tie k_without_tie).binds (ps := ["ties", "tie"]) fun _ _ _ _ _ _ us hl => match us, hl with | [_, _], _ => rfl,
    m_without_tie := PySem.W.mg_of X G n_without_tie,
    k_without_tie := k_without_tie,
    F_ring_of := fun_mk (st := s_ring_of) l_ring_of c_ring_of k_ring_of,
    b_ring_of := (fun_mk (st := s_ring_of) l_ring_of c_ring_of k_ring_of).binds (ps := ["web", "tree", "tie"]) fun _ _ _ _ _ _ us hl => match us, hl with | [_, _, _], _ => rfl,
    m_ring_of := PySem.W.mg_of X G n_ring_of,
    k_ring_of := k_ring_of,
    F_pulls := fun_mk (st := s_pulls) l_pulls c_pulls k_pulls,
    b_pulls := (fun_mk (st := s_pulls) l_pulls c_pulls k_pulls).binds (ps := ["count", "ties"]) fun _ _ _ _ _ _ us hl => match us, hl with | [_, _], _ => rfl,
    m_pulls := PySem.W.mg_of X G n_pulls,
    k_pulls := k_pulls,
    F_without_last := fun_mk (st := s_without_last) l_without_last c_without_last k_without_last,
    b_without_last := (fun_mk (st := s_without_last) l_without_last c_without_last k_without_last).binds (ps := ["table"]) fun _ _ _ _ _ _ us hl => match us, hl with | [_], _ => rfl,
    m_without_last := PySem.W.mg_of X G n_without_last,
    k_without_last := k_without_last,
    F_pull_table := fun_mk (st := s_pull_table) l_pull_table c_pull_table k_pull_table,
    b_pull_table := (fun_mk (st := s_pull_table) l_pull_table c_pull_table k_pull_table).binds (ps := ["web"]) fun _ _ _ _ _ _ us hl => match us, hl with | [_], _ => rfl,
    m_pull_table := PySem.W.mg_of X G n_pull_table,
    k_pull_table := k_pull_table,
    F_tree_count := fun_mk (st := s_tree_count) l_tree_count c_tree_count k_tree_count,
    b_tree_count := (fun_mk (st := s_tree_count) l_tree_count c_tree_count k_tree_count).binds (ps := ["web"]) fun _ _ _ _ _ _ us hl => match us, hl with | [_], _ => rfl,
    m_tree_count := PySem.W.mg_of X G n_tree_count,
    k_tree_count := k_tree_count,
    F_count_with := fun_mk (st := s_count_with) l_count_with c_count_with k_count_with,
    b_count_with := (fun_mk (st := s_count_with) l_count_with c_count_with k_count_with).binds (ps := ["web", "inside", "outside"]) fun _ _ _ _ _ _ us hl => match us, hl with | [_, _, _], _ => rfl,
    m_count_with := PySem.W.mg_of X G n_count_with,
    k_count_with := k_count_with,
    F_tree_at := fun_mk (st := s_tree_at) l_tree_at c_tree_at k_tree_at,
    b_tree_at := (fun_mk (st := s_tree_at) l_tree_at c_tree_at k_tree_at).binds (ps := ["web", "number"]) fun _ _ _ _ _ _ us hl => match us, hl with | [_, _], _ => rfl,
    m_tree_at := PySem.W.mg_of X G n_tree_at,
    k_tree_at := k_tree_at,
    F_number_written := fun_mk (st := s_number_written) l_number_written c_number_written k_number_written,
    b_number_written := (fun_mk (st := s_number_written) l_number_written c_number_written k_number_written).binds (ps := ["word"]) fun _ _ _ _ _ _ us hl => match us, hl with | [_], _ => rfl,
    m_number_written := PySem.W.mg_of X G n_number_written,
    k_number_written := k_number_written,
    F_numbers_behind := fun_mk (st := s_numbers_behind) l_numbers_behind c_numbers_behind k_numbers_behind,
    b_numbers_behind := (fun_mk (st := s_numbers_behind) l_numbers_behind c_numbers_behind k_numbers_behind).binds (ps := ["line", "word", "count"]) fun _ _ _ _ _ _ us hl => match us, hl with | [_, _, _], _ => rfl,
    m_numbers_behind := PySem.W.mg_of X G n_numbers_behind,
    k_numbers_behind := k_numbers_behind,
    F_read_web := fun_mk (st := s_read_web) l_read_web c_read_web k_read_web,
    b_read_web := (fun_mk (st := s_read_web) l_read_web c_read_web k_read_web).binds (ps := ["text"]) fun _ _ _ _ _ _ us hl => match us, hl with | [_], _ => rfl,
    m_read_web := PySem.W.mg_of X G n_read_web,
    k_read_web := k_read_web,
    F_Desk_init := fun_mk (st := s_Desk_init) l_Desk_init c_Desk_init k_Desk_init,
    b_Desk_init := (fun_mk (st := s_Desk_init) l_Desk_init c_Desk_init k_Desk_init).binds (ps := ["self", "text"]) fun _ _ _ _ _ _ us hl => match us, hl with | [_, _], _ => rfl,
    k_Desk_init := k_Desk_init,
    F_Desk_back := fun_mk (st := s_Desk_back) l_Desk_back c_Desk_back k_Desk_back,
    b_Desk_back := (fun_mk (st := s_Desk_back) l_Desk_back c_Desk_back k_Desk_back).binds (ps := ["self"]) fun _ _ _ _ _ _ us hl => match us, hl with | [_], _ => rfl,
    me_Desk_back := ⟨n_Desk_back, i_Desk_back, k_Desk_back⟩,
    k_Desk_back := k_Desk_back,
    F_place_from := fun_mk (st := s_place_from) l_place_from c_place_from k_place_from,
    b_place_from := (fun_mk (st := s_place_from) l_place_from c_place_from k_place_from).binds (ps := ["web", "dart"]) fun _ _ _ _ _ _ us hl => match us, hl with | [_, _], _ => rfl,
    m_place_from := PySem.W.mg_of X G n_place_from,
    k_place_from := k_place_from,
    F_look_at_turns := fun_mk (st := s_look_at_turns) l_look_at_turns c_look_at_turns k_look_at_turns,
    b_look_at_turns := (fun_mk (st := s_look_at_turns) l_look_at_turns c_look_at_turns k_look_at_turns).binds (ps := ["web", "turns"]) fun _ _ _ _ _ _ us hl => match us, hl with | [_, _], _ => rfl,
    m_look_at_turns := PySem.W.mg_of X G n_look_at_turns,
    k_look_at_turns := k_look_at_turns,
    F_darts_behind := fun_mk (st := s_darts_behind) l_darts_behind c_darts_behind k_darts_behind,
    b_darts_behind := (fun_mk (st := s_darts_behind) l_darts_behind c_darts_behind k_darts_behind).binds (ps := ["turns"]) fun _ _ _ _ _ _ us hl => match us, hl with | [_], _ => rfl,
    m_darts_behind := PySem.W.mg_of X G n_darts_behind,
    k_darts_behind := k_darts_behind,
    F_rounds_of := fun_mk (st := s_rounds_of) l_rounds_of c_rounds_of k_rounds_of,
    b_rounds_of := (fun_mk (st := s_rounds_of) l_rounds_of c_rounds_of k_rounds_of).binds (ps := ["web", "turns"]) fun _ _ _ _ _ _ us hl => match us, hl with | [_, _], _ => rfl,
    m_rounds_of := PySem.W.mg_of X G n_rounds_of,
    k_rounds_of := k_rounds_of,
    F_lies_flat := fun_mk (st := s_lies_flat) l_lies_flat c_lies_flat k_lies_flat,
    b_lies_flat := (fun_mk (st := s_lies_flat) l_lies_flat c_lies_flat k_lies_flat).binds (ps := ["web", "turns"]) fun _ _ _ _ _ _ us hl => match us, hl with | [_, _], _ => rfl,
    m_lies_flat := PySem.W.mg_of X G n_lies_flat,
    k_lies_flat := k_lies_flat,
    F_other_web := fun_mk (st := s_other_web) l_other_web c_other_web k_other_web,
    b_other_web := (fun_mk (st := s_other_web) l_other_web c_other_web k_other_web).binds (ps := ["web", "turns"]) fun _ _ _ _ _ _ us hl => match us, hl with | [_, _], _ => rfl,
    m_other_web := PySem.W.mg_of X G n_other_web,
    k_other_web := k_other_web,
    F_look_at_weights := fun_mk (st := s_look_at_weights) l_look_at_weights c_look_at_weights k_look_at_weights,
    b_look_at_weights := (fun_mk (st := s_look_at_weights) l_look_at_weights c_look_at_weights k_look_at_weights).binds (ps := ["web", "weights"]) fun _ _ _ _ _ _ us hl => match us, hl with | [_, _], _ => rfl,
    m_look_at_weights := PySem.W.mg_of X G n_look_at_weights,
    k_look_at_weights := k_look_at_weights,
    F_weighed_table := fun_mk (st := s_weighed_table) l_weighed_table c_weighed_table k_weighed_table,
    b_weighed_table := (fun_mk (st := s_weighed_table) l_weighed_table c_weighed_table k_weighed_table).binds (ps := ["web", "weights"]) fun _ _ _ _ _ _ us hl => match us, hl with | [_, _], _ => rfl,
    m_weighed_table := PySem.W.mg_of X G n_weighed_table,
    k_weighed_table := k_weighed_table,
    F_tree_sum := fun_mk (st := s_tree_sum) l_tree_sum c_tree_sum k_tree_sum,
    b_tree_sum := (fun_mk (st := s_tree_sum) l_tree_sum c_tree_sum k_tree_sum).binds (ps := ["web", "weights"]) fun _ _ _ _ _ _ us hl => match us, hl with | [_, _], _ => rfl,
    m_tree_sum := PySem.W.mg_of X G n_tree_sum,
    k_tree_sum := k_tree_sum,
    F_law_cell := fun_mk (st := s_law_cell) l_law_cell c_law_cell k_law_cell,
    b_law_cell := (fun_mk (st := s_law_cell) l_law_cell c_law_cell k_law_cell).binds (ps := ["script", "k"]) fun _ _ _ _ _ _ us hl => match us, hl with | [_, _], _ => rfl,
    m_law_cell := PySem.W.mg_of X G n_law_cell,
    k_law_cell := k_law_cell,
    F_law_first := fun_mk (st := s_law_first) l_law_first c_law_first k_law_first,
    b_law_first := (fun_mk (st := s_law_first) l_law_first c_law_first k_law_first).binds (ps := ["way", "far"]) fun _ _ _ _ _ _ us hl => match us, hl with | [_, _], _ => rfl,
    m_law_first := PySem.W.mg_of X G n_law_first,
    k_law_first := k_law_first,
    F_law_second := fun_mk (st := s_law_second) l_law_second c_law_second k_law_second,
    b_law_second := (fun_mk (st := s_law_second) l_law_second c_law_second k_law_second).binds (ps := ["way", "far"]) fun _ _ _ _ _ _ us hl => match us, hl with | [_, _], _ => rfl,
    m_law_second := PySem.W.mg_of X G n_law_second,
    k_law_second := k_law_second,
    F_law_takers := fun_mk (st := s_law_takers) l_law_takers c_law_takers k_law_takers,
    b_law_takers := (fun_mk (st := s_law_takers) l_law_takers c_law_takers k_law_takers).binds (ps := ["way", "far"]) fun _ _ _ _ _ _ us hl => match us, hl with | [_, _], _ => rfl,
    m_law_takers := PySem.W.mg_of X G n_law_takers,
    k_law_takers := k_law_takers,
    F_law_k82 := fun_mk (st := s_law_k82) l_law_k82 c_law_k82 k_law_k82,
    b_law_k82 := (fun_mk (st := s_law_k82) l_law_k82 c_law_k82 k_law_k82).binds (ps := ["script"]) fun _ _ _ _ _ _ us hl => match us, hl with | [_], _ => rfl,
    m_law_k82 := PySem.W.mg_of X G n_law_k82,
    k_law_k82 := k_law_k82,
    v_MOST_PLACES := PySem.W.mg_of X G v_MOST_PLACES,
    v_MOST_TIES := PySem.W.mg_of X G v_MOST_TIES,
    v_FIGURES := PySem.W.mg_of X G v_FIGURES,
    v_MOST_FIGURES := PySem.W.mg_of X G v_MOST_FIGURES,
    z_ValueError := PySem.W.mg_none_of X G z_ValueError,
    z_abs := PySem.W.mg_none_of X G z_abs,
    z_all := PySem.W.mg_none_of X G z_all,
    z_any := PySem.W.mg_none_of X G z_any,
    z_enumerate := PySem.W.mg_none_of X G z_enumerate,
    z_int := PySem.W.mg_none_of X G z_int,
    z_isinstance := PySem.W.mg_none_of X G z_isinstance,
    z_len := PySem.W.mg_none_of X G z_len,
    z_list := PySem.W.mg_none_of X G z_list,
    z_max := PySem.W.mg_none_of X G z_max,
    z_min := PySem.W.mg_none_of X G z_min,
    z_range := PySem.W.mg_none_of X G z_range,
    z_set := PySem.W.mg_none_of X G z_set,
    z_sorted := PySem.W.mg_none_of X G z_sorted,
    z_str := PySem.W.mg_none_of X G z_str,
    z_tuple := PySem.W.mg_none_of X G z_tuple,
    z_zip := PySem.W.mg_none_of X G z_zip }, PySem.W.mg_of X G n_law_k82, fun s v => .of_eq rfl⟩
def spLaw (K : PySem.W.Frag) : Sp := fun vs H Q _ => ∃ (a : Addr) (ns : List Int), vs = [.ref a] ∧ SqL K H a (ns.map V.int) ∧ ns.length ≤ 63 ∧ ∀ v H', v = .bl true → Q v H'
set_option maxHeartbeats 8000000 in
theorem law_ok (T : Tx K mg) : FnOk P w K mg base (L2.CX P w) 8 T.a_law_k82 T.d_law_k82 ["script"] (spLaw K) := by
  have G_look_at_table := ok_look_at_table (P := P) (w := w) (base := base) T
  have G_first_row_with := ok_first_row_with (P := P) (w := w) (base := base) T
  have G_cleared := ok_cleared (P := P) (w := w) (base := base) T
  have G_determinant := ok_determinant (P := P) (w := w) (base := base) T G_look_at_table G_first_row_with G_cleared
  have G_common_part := ok_common_part (P := P) (w := w) (base := base) T
  have G_as_fraction := ok_as_fraction (P := P) (w := w) (base := base) T G_common_part
  have G_solved := ok_solved (P := P) (w := w) (base := base) T G_look_at_table G_determinant G_as_fraction
  have G_Web_init := ok_Web_init (P := P) (w := w) (base := base) T
  have G_made_set := ok_made_set (P := P) (w := w) (base := base) T
  have G_marks_over := ok_marks_over (P := P) (w := w) (base := base) T
  have G_pieces_of := ok_pieces_of (P := P) (w := w) (base := base) T G_marks_over G_made_set
  have G_is_joined := ok_is_joined (P := P) (w := w) (base := base) T G_marks_over G_made_set
  have G_is_tree := ok_is_tree (P := P) (w := w) (base := base) T G_marks_over
  have G_look_at_tree := ok_look_at_tree (P := P) (w := w) (base := base) T G_is_tree
  have G_grown := ok_grown (P := P) (w := w) (base := base) T G_marks_over
  have G_least_tree := ok_least_tree (P := P) (w := w) (base := base) T G_grown
  have G_without_tie := ok_without_tie (P := P) (w := w) (base := base) T
  have G_ring_of := ok_ring_of (P := P) (w := w) (base := base) T G_look_at_tree G_marks_over G_without_tie
  have G_pulls := ok_pulls (P := P) (w := w) (base := base) T
  have G_without_last := ok_without_last (P := P) (w := w) (base := base) T
  have G_pull_table := ok_pull_table (P := P) (w := w) (base := base) T G_pulls
  have G_tree_count := ok_tree_count (P := P) (w := w) (base := base) T G_determinant G_without_last G_pull_table
  have G_count_with := ok_count_with (P := P) (w := w) (base := base) T G_made_set G_pieces_of G_determinant G_without_last G_pulls
  have G_tree_at := ok_tree_at (P := P) (w := w) (base := base) T G_tree_count G_count_with
  have G_number_written := ok_number_written (P := P) (w := w) (base := base) T
  have G_numbers_behind := ok_numbers_behind (P := P) (w := w) (base := base) T G_number_written
  have G_read_web := ok_read_web (P := P) (w := w) (base := base) T G_numbers_behind G_Web_init
  have G_Desk_init := ok_Desk_init (P := P) (w := w) (base := base) T G_read_web
  have G_Desk_back := ok_Desk_back (P := P) (w := w) (base := base) T
  have G_place_from := ok_place_from (P := P) (w := w) (base := base) T
  have G_look_at_turns := ok_look_at_turns (P := P) (w := w) (base := base) T G_place_from
  have G_darts_behind := ok_darts_behind (P := P) (w := w) (base := base) T
  have G_rounds_of := ok_rounds_of (P := P) (w := w) (base := base) T G_look_at_turns G_darts_behind
  have G_lies_flat := ok_lies_flat (P := P) (w := w) (base := base) T G_rounds_of G_is_joined
  have G_other_web := ok_other_web (P := P) (w := w) (base := base) T G_lies_flat G_rounds_of G_Web_init
  have G_look_at_weights := ok_look_at_weights (P := P) (w := w) (base := base) T
  have G_weighed_table := ok_weighed_table (P := P) (w := w) (base := base) T
  have G_tree_sum := ok_tree_sum (P := P) (w := w) (base := base) T G_look_at_weights G_determinant G_weighed_table
  have G_law_cell := ok_law_cell (P := P) (w := w) (base := base) T
  have G_law_first := ok_law_first (P := P) (w := w) (base := base) T G_Web_init G_made_set G_least_tree G_ring_of G_tree_at
  have G_law_second := ok_law_second (P := P) (w := w) (base := base) T G_Web_init G_determinant G_solved G_tree_sum G_rounds_of G_other_web G_read_web G_Desk_back G_Desk_init
  have G_law_takers := ok_law_takers (P := P) (w := w) (base := base) T G_law_first G_law_second
  have G_law_k82 := ok_law_k82 (P := P) (w := w) (base := base) T G_law_cell G_law_takers
  refine G_law_k82.imp fun vs H Q E q => ?_
  obtain ⟨a, ns, rfl, hS, hl, k⟩ := q
  have e := law_sp (K := K) (cls := T.cls) (g := g_law_k82) (H := H) (true_law_k82 ns hl) hS
  obtain ⟨F, ds, h1, h2, h3, h4⟩ := e
  refine ⟨F, ds, h1, h2, h3, ?_⟩
  cases eg : g_law_k82 ds with
  | ok d => rw [eg] at h4; exact fun v F' H' O' x y z => k v H' (h4 v F' H' O' x y z)
  | xc c => rw [eg] at h4; exact fun F' H' x => (h4 F' H' x).elim
  | bad => rw [eg] at h4; exact h4.elim
end
theorem walk {l : PySem.W.OpenLaw} {q : Program} {loose : List Str} {XP : (Str → Option Value) → Heap → Prop} {YP : World → Heap → Prop} {d : DefRec} {K : Params → PySem.W.Frag} (hn : l.most = some 63) (hdf : d.params.defaults = []) (hname : d.name = "law")
    (hY : ∀ (w : World) (h : Heap), YP w h → (K w.params).In h)
    (F : ∀ (w : World) (mg : Str → Option Value) (h : Heap), (K w.params).In h → h.Ns mainGlobals mg → ∃ T : Tx (K w.params) mg, mg "law" = some (.ref T.a_law_k82) ∧ ∀ (s : Shared) (v : Value), BindsTo s T.d_law_k82 ⟨[v], []⟩ [("script", v)]) :
    PySem.W.WalkO q loose XP YP l.row.toRowW d [] (fun f vs => PySem.call f vs) :=
  L2.walk_of (n := 63) (k := 8) (x := "script") (CX := fun w => L2.CX l.prog w) (sp := fun w => spLaw (K w.params)) hn (by decide) hdf ⟨rfl, by decide, by decide⟩ hY (fun w mg fa h KX G hmg => by
    obtain ⟨T, h1, h2⟩ := F w mg h KX G
    rw [hname, h1] at hmg
    cases hmg
    exact ⟨T.d_law_k82, h2, fun base _ _ => law_ok T⟩) (fun _ _ a ns hl _ hS => ⟨a, ns, rfl, hS, hl, fun _ _ h => h⟩) fun _ _ _ _ _ z => law_cx z
end Lw
open PySem PySem.W PyProof.Rows in
set_option maxRecDepth 100000 in
set_option maxHeartbeats 0 in
theorem PySem.Challenge.cw_spanrow_k82_refusals_stand_alone_holds : PySem.Challenge.rw_spanrow_k82_refusals_stand_alone.Holds := by
  w_on; o_law; k_head; (case hw => w_witness2)
  k_fill
  refine Lw.walk (l := PySem.Challenge.rw_spanrow_k82_refusals_stand_alone) rfl rfl rfl (fun w h Y => PySem.W.kIn_of Y) ?F
  case F =>
    intro w mg h KX G
    refine' Lw.all_mk KX G ?a_WebError ?x_WebError ?kx_WebError ?bx_WebError ?tx_WebError ?a_BadWeb ?x_BadWeb ?kx_BadWeb ?bx_BadWeb ?tx_BadWeb ?a_BadSet ?x_BadSet ?kx_BadSet ?bx_BadSet ?tx_BadSet ?a_Parted ?x_Parted ?kx_Parted ?bx_Parted ?tx_Parted ?a_NoTree ?x_NoTree ?kx_NoTree ?bx_NoTree ?tx_NoTree ?a_NoTie ?x_NoTie ?kx_NoTie ?bx_NoTie ?tx_NoTie ?a_NoSuch ?x_NoSuch ?kx_NoSuch ?bx_NoSuch ?tx_NoSuch ?a_NotSquare ?x_NotSquare ?kx_NotSquare ?bx_NotSquare ?tx_NotSquare ?a_Singular ?x_Singular ?kx_Singular ?bx_Singular ?tx_Singular ?a_BadRow ?x_BadRow ?kx_BadRow ?bx_BadRow ?tx_BadRow ?a_BadTurns ?x_BadTurns ?kx_BadTurns ?bx_BadTurns ?tx_BadTurns ?a_NotFlat ?x_NotFlat ?kx_NotFlat ?bx_NotFlat ?tx_NotFlat ?a_BadText ?x_BadText ?kx_BadText ?bx_BadText ?tx_BadText ?a_NothingBack ?x_NothingBack ?kx_NothingBack ?bx_NothingBack ?tx_NothingBack ?su_BadWeb_WebError ?su_BadSet_WebError ?su_Parted_WebError ?su_NoTree_WebError ?su_NoTie_WebError ?su_NoSuch_WebError ?su_NotSquare_WebError ?su_Singular_WebError ?su_BadRow_WebError ?su_BadTurns_WebError ?su_NotFlat_WebError ?su_BadText_WebError ?su_NothingBack_WebError ?hd_WebError ?e6 ?e7 ?e0_BadWeb ?e1_BadWeb ?e3_BadWeb ?e4_BadWeb ?e7_BadWeb ?e0_BadSet ?e1_BadSet ?e3_BadSet ?e4_BadSet ?e7_BadSet ?e0_Parted ?e1_Parted ?e3_Parted ?e4_Parted ?e7_Parted ?e0_NoTree ?e1_NoTree ?e3_NoTree ?e4_NoTree ?e7_NoTree ?e0_NoTie ?e1_NoTie ?e3_NoTie ?e4_NoTie ?e7_NoTie ?e0_NoSuch ?e1_NoSuch ?e3_NoSuch ?e4_NoSuch ?e7_NoSuch ?e0_NotSquare ?e1_NotSquare ?e3_NotSquare ?e4_NotSquare ?e7_NotSquare ?e0_Singular ?e1_Singular ?e3_Singular ?e4_Singular ?e7_Singular ?e0_BadRow ?e1_BadRow ?e3_BadRow ?e4_BadRow ?e7_BadRow ?e0_BadTurns ?e1_BadTurns ?e3_BadTurns ?e4_BadTurns ?e7_BadTurns ?e0_NotFlat ?e1_NotFlat ?e3_NotFlat ?e4_NotFlat ?e7_NotFlat ?e0_BadText ?e1_BadText ?e3_BadText ?e4_BadText ?e7_BadText ?e0_NothingBack ?e1_NothingBack ?e3_NothingBack ?e4_NothingBack ?e7_NothingBack ?is_BadWeb_BadWeb ?is_BadSet_BadWeb ?is_Parted_BadWeb ?is_NoTree_BadWeb ?is_NoTie_BadWeb ?is_NoSuch_BadWeb ?is_NotSquare_BadWeb ?is_Singular_BadWeb ?is_BadRow_BadWeb ?is_BadTurns_BadWeb ?is_NotFlat_BadWeb ?is_BadText_BadWeb ?is_NothingBack_BadWeb ?is_BadWeb_BadSet ?is_BadSet_BadSet ?is_Parted_BadSet ?is_NoTree_BadSet ?is_NoTie_BadSet ?is_NoSuch_BadSet ?is_NotSquare_BadSet ?is_Singular_BadSet ?is_BadRow_BadSet ?is_BadTurns_BadSet ?is_NotFlat_BadSet ?is_BadText_BadSet ?is_NothingBack_BadSet ?is_BadWeb_Parted ?is_BadSet_Parted ?is_Parted_Parted ?is_NoTree_Parted ?is_NoTie_Parted ?is_NoSuch_Parted ?is_NotSquare_Parted ?is_Singular_Parted ?is_BadRow_Parted ?is_BadTurns_Parted ?is_NotFlat_Parted ?is_BadText_Parted ?is_NothingBack_Parted ?is_BadWeb_NoTree ?is_BadSet_NoTree ?is_Parted_NoTree ?is_NoTree_NoTree ?is_NoTie_NoTree ?is_NoSuch_NoTree ?is_NotSquare_NoTree ?is_Singular_NoTree ?is_BadRow_NoTree ?is_BadTurns_NoTree ?is_NotFlat_NoTree ?is_BadText_NoTree ?is_NothingBack_NoTree ?is_BadWeb_NoTie ?is_BadSet_NoTie ?is_Parted_NoTie ?is_NoTree_NoTie ?is_NoTie_NoTie ?is_NoSuch_NoTie ?is_NotSquare_NoTie ?is_Singular_NoTie ?is_BadRow_NoTie ?is_BadTurns_NoTie ?is_NotFlat_NoTie ?is_BadText_NoTie ?is_NothingBack_NoTie ?is_BadWeb_NoSuch ?is_BadSet_NoSuch ?is_Parted_NoSuch ?is_NoTree_NoSuch ?is_NoTie_NoSuch ?is_NoSuch_NoSuch ?is_NotSquare_NoSuch ?is_Singular_NoSuch ?is_BadRow_NoSuch ?is_BadTurns_NoSuch ?is_NotFlat_NoSuch ?is_BadText_NoSuch ?is_NothingBack_NoSuch ?is_BadWeb_NotSquare ?is_BadSet_NotSquare ?is_Parted_NotSquare ?is_NoTree_NotSquare ?is_NoTie_NotSquare ?is_NoSuch_NotSquare ?is_NotSquare_NotSquare ?is_Singular_NotSquare ?is_BadRow_NotSquare ?is_BadTurns_NotSquare ?is_NotFlat_NotSquare ?is_BadText_NotSquare ?is_NothingBack_NotSquare ?is_BadWeb_Singular ?is_BadSet_Singular ?is_Parted_Singular ?is_NoTree_Singular ?is_NoTie_Singular ?is_NoSuch_Singular ?is_NotSquare_Singular ?is_Singular_Singular ?is_BadRow_Singular ?is_BadTurns_Singular ?is_NotFlat_Singular ?is_BadText_Singular ?is_NothingBack_Singular ?is_BadWeb_BadRow ?is_BadSet_BadRow ?is_Parted_BadRow ?is_NoTree_BadRow ?is_NoTie_BadRow ?is_NoSuch_BadRow ?is_NotSquare_BadRow ?is_Singular_BadRow ?is_BadRow_BadRow ?is_BadTurns_BadRow ?is_NotFlat_BadRow ?is_BadText_BadRow ?is_NothingBack_BadRow ?is_BadWeb_BadTurns ?is_BadSet_BadTurns ?is_Parted_BadTurns ?is_NoTree_BadTurns ?is_NoTie_BadTurns ?is_NoSuch_BadTurns ?is_NotSquare_BadTurns ?is_Singular_BadTurns ?is_BadRow_BadTurns ?is_BadTurns_BadTurns ?is_NotFlat_BadTurns ?is_BadText_BadTurns ?is_NothingBack_BadTurns ?is_BadWeb_NotFlat ?is_BadSet_NotFlat ?is_Parted_NotFlat ?is_NoTree_NotFlat ?is_NoTie_NotFlat ?is_NoSuch_NotFlat ?is_NotSquare_NotFlat ?is_Singular_NotFlat ?is_BadRow_NotFlat ?is_BadTurns_NotFlat ?is_NotFlat_NotFlat ?is_BadText_NotFlat ?is_NothingBack_NotFlat ?is_BadWeb_BadText ?is_BadSet_BadText ?is_Parted_BadText ?is_NoTree_BadText ?is_NoTie_BadText ?is_NoSuch_BadText ?is_NotSquare_BadText ?is_Singular_BadText ?is_BadRow_BadText ?is_BadTurns_BadText ?is_NotFlat_BadText ?is_BadText_BadText ?is_NothingBack_BadText ?is_BadWeb_NothingBack ?is_BadSet_NothingBack ?is_Parted_NothingBack ?is_NoTree_NothingBack ?is_NoTie_NothingBack ?is_NoSuch_NothingBack ?is_NotSquare_NothingBack ?is_Singular_NothingBack ?is_BadRow_NothingBack ?is_BadTurns_NothingBack ?is_NotFlat_NothingBack ?is_BadText_NothingBack ?is_NothingBack_NothingBack ?is_BadWeb_ValueError ?is_BadSet_ValueError ?is_Parted_ValueError ?is_NoTree_ValueError ?is_NoTie_ValueError ?is_NoSuch_ValueError ?is_NotSquare_ValueError ?is_Singular_ValueError ?is_BadRow_ValueError ?is_BadTurns_ValueError ?is_NotFlat_ValueError ?is_BadText_ValueError ?is_NothingBack_ValueError ?a_Web ?pg_Web ?hd_Web ?po_Web ?sa_Web ?mk_Web ?kc_Web ?na_Web_places ?na_Web_ties ?a_Desk ?pg_Desk ?hd_Desk ?po_Desk ?sa_Desk ?mk_Desk ?kc_Desk ?na_Desk_stood ?n_look_at_table ?l_look_at_table ?c_look_at_table ?k_look_at_table ?n_first_row_with ?l_first_row_with ?c_first_row_with ?k_first_row_with ?n_cleared ?l_cleared ?c_cleared ?k_cleared ?n_determinant ?l_determinant ?c_determinant ?k_determinant ?n_common_part ?l_common_part ?c_common_part ?k_common_part ?n_as_fraction ?l_as_fraction ?c_as_fraction ?k_as_fraction ?n_solved ?l_solved ?c_solved ?k_solved ?n_Web_init ?i_Web_init ?l_Web_init ?c_Web_init ?k_Web_init ?n_made_set ?l_made_set ?c_made_set ?k_made_set ?n_marks_over ?l_marks_over ?c_marks_over ?k_marks_over ?n_pieces_of ?l_pieces_of ?c_pieces_of ?k_pieces_of ?n_is_joined ?l_is_joined ?c_is_joined ?k_is_joined ?n_is_tree ?l_is_tree ?c_is_tree ?k_is_tree ?n_look_at_tree ?l_look_at_tree ?c_look_at_tree ?k_look_at_tree ?n_grown ?l_grown ?c_grown ?k_grown ?n_least_tree ?l_least_tree ?c_least_tree ?k_least_tree ?n_without_tie ?l_without_tie ?c_without_tie ?k_without_tie ?n_ring_of ?l_ring_of ?c_ring_of ?k_ring_of ?n_pulls ?l_pulls ?c_pulls ?k_pulls ?n_without_last ?l_without_last ?c_without_last ?k_without_last ?n_pull_table ?l_pull_table ?c_pull_table ?k_pull_table ?n_tree_count ?l_tree_count ?c_tree_count ?k_tree_count ?n_count_with ?l_count_with ?c_count_with ?k_count_with ?n_tree_at ?l_tree_at ?c_tree_at ?k_tree_at ?n_number_written ?l_number_written ?c_number_written ?k_number_written ?n_numbers_behind ?l_numbers_behind ?c_numbers_behind ?k_numbers_behind ?n_read_web ?l_read_web ?c_read_web ?k_read_web ?n_Desk_init ?i_Desk_init ?l_Desk_init ?c_Desk_init ?k_Desk_init ?n_Desk_back ?i_Desk_back ?l_Desk_back ?c_Desk_back ?k_Desk_back ?n_place_from ?l_place_from ?c_place_from ?k_place_from ?n_look_at_turns ?l_look_at_turns ?c_look_at_turns ?k_look_at_turns ?n_darts_behind ?l_darts_behind ?c_darts_behind ?k_darts_behind ?n_rounds_of ?l_rounds_of ?c_rounds_of ?k_rounds_of ?n_lies_flat ?l_lies_flat ?c_lies_flat ?k_lies_flat ?n_other_web ?l_other_web ?c_other_web ?k_other_web ?n_look_at_weights ?l_look_at_weights ?c_look_at_weights ?k_look_at_weights ?n_weighed_table ?l_weighed_table ?c_weighed_table ?k_weighed_table ?n_tree_sum ?l_tree_sum ?c_tree_sum ?k_tree_sum ?n_law_cell ?l_law_cell ?c_law_cell ?k_law_cell ?n_law_first ?l_law_first ?c_law_first ?k_law_first ?n_law_second ?l_law_second ?c_law_second ?k_law_second ?n_law_takers ?l_law_takers ?c_law_takers ?k_law_takers ?n_law_k82 ?l_law_k82 ?c_law_k82 ?k_law_k82 ?v_MOST_PLACES ?v_MOST_TIES ?v_FIGURES ?v_MOST_FIGURES ?z_ValueError ?z_abs ?z_all ?z_any ?z_enumerate ?z_int ?z_isinstance ?z_len ?z_list ?z_max ?z_min ?z_range ?z_set ?z_sorted ?z_str ?z_tuple ?z_zip
    (case a_WebError => k_is)
    (case x_WebError => k_exc)
    (case kx_WebError => k_is)
    (case bx_WebError => k_is)
    (case tx_WebError => k_is)
    (case a_BadWeb => k_is)
    (case x_BadWeb => k_exc)
    (case kx_BadWeb => k_is)
    (case bx_BadWeb => k_is)
    (case tx_BadWeb => k_is)
    (case a_BadSet => k_is)
    (case x_BadSet => k_exc)
    (case kx_BadSet => k_is)
    (case bx_BadSet => k_is)
    (case tx_BadSet => k_is)
    (case a_Parted => k_is)
    (case x_Parted => k_exc)
    (case kx_Parted => k_is)
    (case bx_Parted => k_is)
    (case tx_Parted => k_is)
    (case a_NoTree => k_is)
    (case x_NoTree => k_exc)
    (case kx_NoTree => k_is)
    (case bx_NoTree => k_is)
    (case tx_NoTree => k_is)
    (case a_NoTie => k_is)
    (case x_NoTie => k_exc)
    (case kx_NoTie => k_is)
    (case bx_NoTie => k_is)
    (case tx_NoTie => k_is)
    (case a_NoSuch => k_is)
    (case x_NoSuch => k_exc)
    (case kx_NoSuch => k_is)
    (case bx_NoSuch => k_is)
    (case tx_NoSuch => k_is)
    (case a_NotSquare => k_is)
    (case x_NotSquare => k_exc)
    (case kx_NotSquare => k_is)
    (case bx_NotSquare => k_is)
    (case tx_NotSquare => k_is)
    (case a_Singular => k_is)
    (case x_Singular => k_exc)
    (case kx_Singular => k_is)
    (case bx_Singular => k_is)
    (case tx_Singular => k_is)
    (case a_BadRow => k_is)
    (case x_BadRow => k_exc)
    (case kx_BadRow => k_is)
    (case bx_BadRow => k_is)
    (case tx_BadRow => k_is)
    (case a_BadTurns => k_is)
    (case x_BadTurns => k_exc)
    (case kx_BadTurns => k_is)
    (case bx_BadTurns => k_is)
    (case tx_BadTurns => k_is)
    (case a_NotFlat => k_is)
    (case x_NotFlat => k_exc)
    (case kx_NotFlat => k_is)
    (case bx_NotFlat => k_is)
    (case tx_NotFlat => k_is)
    (case a_BadText => k_is)
    (case x_BadText => k_exc)
    (case kx_BadText => k_is)
    (case bx_BadText => k_is)
    (case tx_BadText => k_is)
    (case a_NothingBack => k_is)
    (case x_NothingBack => k_exc)
    (case kx_NothingBack => k_is)
    (case bx_NothingBack => k_is)
    (case tx_NothingBack => k_is)
    (case su_BadWeb_WebError => k_is)
    (case su_BadSet_WebError => k_is)
    (case su_Parted_WebError => k_is)
    (case su_NoTree_WebError => k_is)
    (case su_NoTie_WebError => k_is)
    (case su_NoSuch_WebError => k_is)
    (case su_NotSquare_WebError => k_is)
    (case su_Singular_WebError => k_is)
    (case su_BadRow_WebError => k_is)
    (case su_BadTurns_WebError => k_is)
    (case su_NotFlat_WebError => k_is)
    (case su_BadText_WebError => k_is)
    (case su_NothingBack_WebError => k_is)
    (case hd_WebError => k_is)
    (case e6 => k_is)
    (case e7 => k_is)
    (case e0_BadWeb => k_is)
    (case e1_BadWeb => k_is)
    (case e3_BadWeb => k_is)
    (case e4_BadWeb => k_is)
    (case e7_BadWeb => k_is)
    (case e0_BadSet => k_is)
    (case e1_BadSet => k_is)
    (case e3_BadSet => k_is)
    (case e4_BadSet => k_is)
    (case e7_BadSet => k_is)
    (case e0_Parted => k_is)
    (case e1_Parted => k_is)
    (case e3_Parted => k_is)
    (case e4_Parted => k_is)
    (case e7_Parted => k_is)
    (case e0_NoTree => k_is)
    (case e1_NoTree => k_is)
    (case e3_NoTree => k_is)
    (case e4_NoTree => k_is)
    (case e7_NoTree => k_is)
    (case e0_NoTie => k_is)
    (case e1_NoTie => k_is)
    (case e3_NoTie => k_is)
    (case e4_NoTie => k_is)
    (case e7_NoTie => k_is)
    (case e0_NoSuch => k_is)
    (case e1_NoSuch => k_is)
    (case e3_NoSuch => k_is)
    (case e4_NoSuch => k_is)
    (case e7_NoSuch => k_is)
    (case e0_NotSquare => k_is)
    (case e1_NotSquare => k_is)
    (case e3_NotSquare => k_is)
    (case e4_NotSquare => k_is)
    (case e7_NotSquare => k_is)
    (case e0_Singular => k_is)
    (case e1_Singular => k_is)
    (case e3_Singular => k_is)
    (case e4_Singular => k_is)
    (case e7_Singular => k_is)
    (case e0_BadRow => k_is)
    (case e1_BadRow => k_is)
    (case e3_BadRow => k_is)
    (case e4_BadRow => k_is)
    (case e7_BadRow => k_is)
    (case e0_BadTurns => k_is)
    (case e1_BadTurns => k_is)
    (case e3_BadTurns => k_is)
    (case e4_BadTurns => k_is)
    (case e7_BadTurns => k_is)
    (case e0_NotFlat => k_is)
    (case e1_NotFlat => k_is)
    (case e3_NotFlat => k_is)
    (case e4_NotFlat => k_is)
    (case e7_NotFlat => k_is)
    (case e0_BadText => k_is)
    (case e1_BadText => k_is)
    (case e3_BadText => k_is)
    (case e4_BadText => k_is)
    (case e7_BadText => k_is)
    (case e0_NothingBack => k_is)
    (case e1_NothingBack => k_is)
    (case e3_NothingBack => k_is)
    (case e4_NothingBack => k_is)
    (case e7_NothingBack => k_is)
    (case is_BadWeb_BadWeb => kit_is)
    (case is_BadSet_BadWeb => kit_is)
    (case is_Parted_BadWeb => kit_is)
    (case is_NoTree_BadWeb => kit_is)
    (case is_NoTie_BadWeb => kit_is)
    (case is_NoSuch_BadWeb => kit_is)
    (case is_NotSquare_BadWeb => kit_is)
    (case is_Singular_BadWeb => kit_is)
    (case is_BadRow_BadWeb => kit_is)
    (case is_BadTurns_BadWeb => kit_is)
    (case is_NotFlat_BadWeb => kit_is)
    (case is_BadText_BadWeb => kit_is)
    (case is_NothingBack_BadWeb => kit_is)
    (case is_BadWeb_BadSet => kit_is)
    (case is_BadSet_BadSet => kit_is)
    (case is_Parted_BadSet => kit_is)
    (case is_NoTree_BadSet => kit_is)
    (case is_NoTie_BadSet => kit_is)
    (case is_NoSuch_BadSet => kit_is)
    (case is_NotSquare_BadSet => kit_is)
    (case is_Singular_BadSet => kit_is)
    (case is_BadRow_BadSet => kit_is)
    (case is_BadTurns_BadSet => kit_is)
    (case is_NotFlat_BadSet => kit_is)
    (case is_BadText_BadSet => kit_is)
    (case is_NothingBack_BadSet => kit_is)
    (case is_BadWeb_Parted => kit_is)
    (case is_BadSet_Parted => kit_is)
    (case is_Parted_Parted => kit_is)
    (case is_NoTree_Parted => kit_is)
    (case is_NoTie_Parted => kit_is)
    (case is_NoSuch_Parted => kit_is)
    (case is_NotSquare_Parted => kit_is)
    (case is_Singular_Parted => kit_is)
    (case is_BadRow_Parted => kit_is)
    (case is_BadTurns_Parted => kit_is)
    (case is_NotFlat_Parted => kit_is)
    (case is_BadText_Parted => kit_is)
    (case is_NothingBack_Parted => kit_is)
    (case is_BadWeb_NoTree => kit_is)
    (case is_BadSet_NoTree => kit_is)
    (case is_Parted_NoTree => kit_is)
    (case is_NoTree_NoTree => kit_is)
    (case is_NoTie_NoTree => kit_is)
    (case is_NoSuch_NoTree => kit_is)
    (case is_NotSquare_NoTree => kit_is)
    (case is_Singular_NoTree => kit_is)
    (case is_BadRow_NoTree => kit_is)
    (case is_BadTurns_NoTree => kit_is)
    (case is_NotFlat_NoTree => kit_is)
    (case is_BadText_NoTree => kit_is)
    (case is_NothingBack_NoTree => kit_is)
    (case is_BadWeb_NoTie => kit_is)
    (case is_BadSet_NoTie => kit_is)
    (case is_Parted_NoTie => kit_is)
    (case is_NoTree_NoTie => kit_is)
    (case is_NoTie_NoTie => kit_is)
    (case is_NoSuch_NoTie => kit_is)
    (case is_NotSquare_NoTie => kit_is)
    (case is_Singular_NoTie => kit_is)
    (case is_BadRow_NoTie => kit_is)
    (case is_BadTurns_NoTie => kit_is)
    (case is_NotFlat_NoTie => kit_is)
    (case is_BadText_NoTie => kit_is)
    (case is_NothingBack_NoTie => kit_is)
    (case is_BadWeb_NoSuch => kit_is)
    (case is_BadSet_NoSuch => kit_is)
    (case is_Parted_NoSuch => kit_is)
    (case is_NoTree_NoSuch => kit_is)
    (case is_NoTie_NoSuch => kit_is)
    (case is_NoSuch_NoSuch => kit_is)
    (case is_NotSquare_NoSuch => kit_is)
    (case is_Singular_NoSuch => kit_is)
    (case is_BadRow_NoSuch => kit_is)
    (case is_BadTurns_NoSuch => kit_is)
    (case is_NotFlat_NoSuch => kit_is)
    (case is_BadText_NoSuch => kit_is)
    (case is_NothingBack_NoSuch => kit_is)
    (case is_BadWeb_NotSquare => kit_is)
    (case is_BadSet_NotSquare => kit_is)
    (case is_Parted_NotSquare => kit_is)
    (case is_NoTree_NotSquare => kit_is)
    (case is_NoTie_NotSquare => kit_is)
    (case is_NoSuch_NotSquare => kit_is)
    (case is_NotSquare_NotSquare => kit_is)
    (case is_Singular_NotSquare => kit_is)
    (case is_BadRow_NotSquare => kit_is)
    (case is_BadTurns_NotSquare => kit_is)
    (case is_NotFlat_NotSquare => kit_is)
    (case is_BadText_NotSquare => kit_is)
    (case is_NothingBack_NotSquare => kit_is)
    (case is_BadWeb_Singular => kit_is)
    (case is_BadSet_Singular => kit_is)
    (case is_Parted_Singular => kit_is)
    (case is_NoTree_Singular => kit_is)
    (case is_NoTie_Singular => kit_is)
    (case is_NoSuch_Singular => kit_is)
    (case is_NotSquare_Singular => kit_is)
    (case is_Singular_Singular => kit_is)
    (case is_BadRow_Singular => kit_is)
    (case is_BadTurns_Singular => kit_is)
    (case is_NotFlat_Singular => kit_is)
    (case is_BadText_Singular => kit_is)
    (case is_NothingBack_Singular => kit_is)
    (case is_BadWeb_BadRow => kit_is)
    (case is_BadSet_BadRow => kit_is)
    (case is_Parted_BadRow => kit_is)
    (case is_NoTree_BadRow => kit_is)
    (case is_NoTie_BadRow => kit_is)
    (case is_NoSuch_BadRow => kit_is)
    (case is_NotSquare_BadRow => kit_is)
    (case is_Singular_BadRow => kit_is)
    (case is_BadRow_BadRow => kit_is)
    (case is_BadTurns_BadRow => kit_is)
    (case is_NotFlat_BadRow => kit_is)
    (case is_BadText_BadRow => kit_is)
    (case is_NothingBack_BadRow => kit_is)
    (case is_BadWeb_BadTurns => kit_is)
    (case is_BadSet_BadTurns => kit_is)
    (case is_Parted_BadTurns => kit_is)
    (case is_NoTree_BadTurns => kit_is)
    (case is_NoTie_BadTurns => kit_is)
    (case is_NoSuch_BadTurns => kit_is)
    (case is_NotSquare_BadTurns => kit_is)
    (case is_Singular_BadTurns => kit_is)
    (case is_BadRow_BadTurns => kit_is)
    (case is_BadTurns_BadTurns => kit_is)
    (case is_NotFlat_BadTurns => kit_is)
    (case is_BadText_BadTurns => kit_is)
    (case is_NothingBack_BadTurns => kit_is)
    (case is_BadWeb_NotFlat => kit_is)
    (case is_BadSet_NotFlat => kit_is)
    (case is_Parted_NotFlat => kit_is)
    (case is_NoTree_NotFlat => kit_is)
    (case is_NoTie_NotFlat => kit_is)
    (case is_NoSuch_NotFlat => kit_is)
    (case is_NotSquare_NotFlat => kit_is)
    (case is_Singular_NotFlat => kit_is)
    (case is_BadRow_NotFlat => kit_is)
    (case is_BadTurns_NotFlat => kit_is)
    (case is_NotFlat_NotFlat => kit_is)
    (case is_BadText_NotFlat => kit_is)
    (case is_NothingBack_NotFlat => kit_is)
    (case is_BadWeb_BadText => kit_is)
    (case is_BadSet_BadText => kit_is)
    (case is_Parted_BadText => kit_is)
    (case is_NoTree_BadText => kit_is)
    (case is_NoTie_BadText => kit_is)
    (case is_NoSuch_BadText => kit_is)
    (case is_NotSquare_BadText => kit_is)
    (case is_Singular_BadText => kit_is)
    (case is_BadRow_BadText => kit_is)
    (case is_BadTurns_BadText => kit_is)
    (case is_NotFlat_BadText => kit_is)
    (case is_BadText_BadText => kit_is)
    (case is_NothingBack_BadText => kit_is)
    (case is_BadWeb_NothingBack => kit_is)
    (case is_BadSet_NothingBack => kit_is)
    (case is_Parted_NothingBack => kit_is)
    (case is_NoTree_NothingBack => kit_is)
    (case is_NoTie_NothingBack => kit_is)
    (case is_NoSuch_NothingBack => kit_is)
    (case is_NotSquare_NothingBack => kit_is)
    (case is_Singular_NothingBack => kit_is)
    (case is_BadRow_NothingBack => kit_is)
    (case is_BadTurns_NothingBack => kit_is)
    (case is_NotFlat_NothingBack => kit_is)
    (case is_BadText_NothingBack => kit_is)
    (case is_NothingBack_NothingBack => kit_is)
    (case is_BadWeb_ValueError => kit_is)
    (case is_BadSet_ValueError => kit_is)
    (case is_Parted_ValueError => kit_is)
    (case is_NoTree_ValueError => kit_is)
    (case is_NoTie_ValueError => kit_is)
    (case is_NoSuch_ValueError => kit_is)
    (case is_NotSquare_ValueError => kit_is)
    (case is_Singular_ValueError => kit_is)
    (case is_BadRow_ValueError => kit_is)
    (case is_BadTurns_ValueError => kit_is)
    (case is_NotFlat_ValueError => kit_is)
    (case is_BadText_ValueError => kit_is)
    (case is_NothingBack_ValueError => kit_is)
    (case a_Web => k_is)
    (case pg_Web => k_is)
    (case hd_Web => k_is)
    (case po_Web => k_is)
    (case sa_Web => k_is)
    (case mk_Web => k_is)
    (case kc_Web => k_is)
    (case na_Web_places => k_is)
    (case na_Web_ties => k_is)
    (case a_Desk => k_is)
    (case pg_Desk => k_is)
    (case hd_Desk => k_is)
    (case po_Desk => k_is)
    (case sa_Desk => k_is)
    (case mk_Desk => k_is)
    (case kc_Desk => k_is)
    (case na_Desk_stood => k_is)
    (case n_look_at_table => k_is)
    (case l_look_at_table => k_is)
    (case c_look_at_table => k_is)
    (case k_look_at_table => k_is)
    (case n_first_row_with => k_is)
    (case l_first_row_with => k_is)
    (case c_first_row_with => k_is)
    (case k_first_row_with => k_is)
    (case n_cleared => k_is)
    (case l_cleared => k_is)
    (case c_cleared => k_is)
    (case k_cleared => k_is)
    (case n_determinant => k_is)
    (case l_determinant => k_is)
    (case c_determinant => k_is)
    (case k_determinant => k_is)
    (case n_common_part => k_is)
    (case l_common_part => k_is)
    (case c_common_part => k_is)
    (case k_common_part => k_is)
    (case n_as_fraction => k_is)
    (case l_as_fraction => k_is)
    (case c_as_fraction => k_is)
    (case k_as_fraction => k_is)
    (case n_solved => k_is)
    (case l_solved => k_is)
    (case c_solved => k_is)
    (case k_solved => k_is)
    (case n_Web_init => k_is)
    (case i_Web_init => k_is)
    (case l_Web_init => k_is)
    (case c_Web_init => k_is)
    (case k_Web_init => k_is)
    (case n_made_set => k_is)
    (case l_made_set => k_is)
    (case c_made_set => k_is)
    (case k_made_set => k_is)
    (case n_marks_over => k_is)
    (case l_marks_over => k_is)
    (case c_marks_over => k_is)
    (case k_marks_over => k_is)
    (case n_pieces_of => k_is)
    (case l_pieces_of => k_is)
    (case c_pieces_of => k_is)
    (case k_pieces_of => k_is)
    (case n_is_joined => k_is)
    (case l_is_joined => k_is)
    (case c_is_joined => k_is)
    (case k_is_joined => k_is)
    (case n_is_tree => k_is)
    (case l_is_tree => k_is)
    (case c_is_tree => k_is)
    (case k_is_tree => k_is)
    (case n_look_at_tree => k_is)
    (case l_look_at_tree => k_is)
    (case c_look_at_tree => k_is)
    (case k_look_at_tree => k_is)
    (case n_grown => k_is)
    (case l_grown => k_is)
    (case c_grown => k_is)
    (case k_grown => k_is)
    (case n_least_tree => k_is)
    (case l_least_tree => k_is)
    (case c_least_tree => k_is)
    (case k_least_tree => k_is)
    (case n_without_tie => k_is)
    (case l_without_tie => k_is)
    (case c_without_tie => k_is)
    (case k_without_tie => k_is)
    (case n_ring_of => k_is)
    (case l_ring_of => k_is)
    (case c_ring_of => k_is)
    (case k_ring_of => k_is)
    (case n_pulls => k_is)
    (case l_pulls => k_is)
    (case c_pulls => k_is)
    (case k_pulls => k_is)
    (case n_without_last => k_is)
    (case l_without_last => k_is)
    (case c_without_last => k_is)
    (case k_without_last => k_is)
    (case n_pull_table => k_is)
    (case l_pull_table => k_is)
    (case c_pull_table => k_is)
    (case k_pull_table => k_is)
    (case n_tree_count => k_is)
    (case l_tree_count => k_is)
    (case c_tree_count => k_is)
    (case k_tree_count => k_is)
    (case n_count_with => k_is)
    (case l_count_with => k_is)
    (case c_count_with => k_is)
    (case k_count_with => k_is)
    (case n_tree_at => k_is)
    (case l_tree_at => k_is)
    (case c_tree_at => k_is)
    (case k_tree_at => k_is)
    (case n_number_written => k_is)
    (case l_number_written => k_is)
    (case c_number_written => k_is)
    (case k_number_written => k_is)
    (case n_numbers_behind => k_is)
    (case l_numbers_behind => k_is)
    (case c_numbers_behind => k_is)
    (case k_numbers_behind => k_is)
    (case n_read_web => k_is)
    (case l_read_web => k_is)
    (case c_read_web => k_is)
    (case k_read_web => k_is)
    (case n_Desk_init => k_is)
    (case i_Desk_init => k_is)
    (case l_Desk_init => k_is)
    (case c_Desk_init => k_is)
    (case k_Desk_init => k_is)
    (case n_Desk_back => k_is)
    (case i_Desk_back => k_is)
    (case l_Desk_back => k_is)
    (case c_Desk_back => k_is)
    (case k_Desk_back => k_is)
    (case n_place_from => k_is)
    (case l_place_from => k_is)
    (case c_place_from => k_is)
    (case k_place_from => k_is)
    (case n_look_at_turns => k_is)
    (case l_look_at_turns => k_is)
    (case c_look_at_turns => k_is)
    (case k_look_at_turns => k_is)
    (case n_darts_behind => k_is)
    (case l_darts_behind => k_is)
    (case c_darts_behind => k_is)
    (case k_darts_behind => k_is)
    (case n_rounds_of => k_is)
    (case l_rounds_of => k_is)
    (case c_rounds_of => k_is)
    (case k_rounds_of => k_is)
    (case n_lies_flat => k_is)
    (case l_lies_flat => k_is)
    (case c_lies_flat => k_is)
    (case k_lies_flat => k_is)
    (case n_other_web => k_is)
    (case l_other_web => k_is)
    (case c_other_web => k_is)
    (case k_other_web => k_is)
    (case n_look_at_weights => k_is)
    (case l_look_at_weights => k_is)
    (case c_look_at_weights => k_is)
    (case k_look_at_weights => k_is)
    (case n_weighed_table => k_is)
    (case l_weighed_table => k_is)
    (case c_weighed_table => k_is)
    (case k_weighed_table => k_is)
    (case n_tree_sum => k_is)
    (case l_tree_sum => k_is)
    (case c_tree_sum => k_is)
    (case k_tree_sum => k_is)
    (case n_law_cell => k_is)
    (case l_law_cell => k_is)
    (case c_law_cell => k_is)
    (case k_law_cell => k_is)
    (case n_law_first => k_is)
    (case l_law_first => k_is)
    (case c_law_first => k_is)
    (case k_law_first => k_is)
    (case n_law_second => k_is)
    (case l_law_second => k_is)
    (case c_law_second => k_is)
    (case k_law_second => k_is)
    (case n_law_takers => k_is)
    (case l_law_takers => k_is)
    (case c_law_takers => k_is)
    (case k_law_takers => k_is)
    (case n_law_k82 => k_is)
    (case l_law_k82 => k_is)
    (case c_law_k82 => k_is)
    (case k_law_k82 => k_is)
    (case v_MOST_PLACES => k_is)
    (case v_MOST_TIES => k_is)
    (case v_FIGURES => k_is)
    (case v_MOST_FIGURES => k_is)
    (case z_ValueError => k_is)
    (case z_abs => k_is)
    (case z_all => k_is)
    (case z_any => k_is)
    (case z_enumerate => k_is)
    (case z_int => k_is)
    (case z_isinstance => k_is)
    (case z_len => k_is)
    (case z_list => k_is)
    (case z_max => k_is)
    (case z_min => k_is)
    (case z_range => k_is)
    (case z_set => k_is)
    (case z_sorted => k_is)
    (case z_str => k_is)
    (case z_tuple => k_is)
    (case z_zip => k_is)
