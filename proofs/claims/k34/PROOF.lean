import PyProof.Rows.All
import Wide.All
import OpenK.AllK
import Wide.FinOn
import HandS.ForMost
import HandS.ForExc
import HandS.TupAny
import HandS.Wide
import HandS.SortInts
import HandS.ExcIs
import HandS.ExcCtx
import HandS.TryOnly
import HandS.Rev
import HandS.RevRange
import HandS.WordsExc
import HandS.SetFor
import HandS.Strs
import HandS.Conv
import HandS.IsInst
import HandS.RevTup
import HandS.NamedTupSort
import HandS.SortRule
import HandS.Deep
import HandS.WideBits
import KE.DataMinMax
import HandS.Iter
import KE.GoesMore
import KE.SortData
import HandS.More
import HandS.Dict
import HandS.Zip
import KE.GoesZip
import KE.KTurns
import KE.KTupSum
import HandS.TupLe
import KE.KDictSum
import KE.DataFind
import HandS.WordsDict
import HandS.TupSets
import HandS.HotCalls
import HandS.EndBits
import KE.RegKIsAll
import PySem.Challenge.RW_spanrow_k34_no_trees_no_sets
set_option Elab.async false
set_option linter.all false
set_option maxRecDepth 100000
namespace L2
open PySem PySem.Spec PyProof.Rows
theorem Fun.okN {P : Program} {w : World} {K : PySem.W.Frag} {mg : Str → Option Value} {base : Heap} {x qual : Str} {st : Stmt} {f : Addr} {fd : FuncData} {N ps : List Str} {k : Nat} {sp : Sp} (F : Fun K x qual st f fd) (S : FnScope N ps (defScope st)) (len : ∀ vs H Q E, sp vs H Q E → vs.length = ps.length)
    (hbody : ∀ (cdv : Value) (A : Around) (outer : List PySem.Env) (s : Shared) (H : Hp) (vs : List V) (Q : VK) (E : XK), Room k (A.deeper (envOfC qual (defScope st) s.heap.objs.size f cdv)) → sp vs H Q E →
      ∃ t, PSs (cxOf (L2N.CX P w) P w K mg base N qual (defScope st) f cdv A outer s H E) (defBody st) t ∧ t { nx := fun _ H' => Q .non H', rt := Q } (start N vs) H) : FnOk P w K mg base (L2N.CX P w) (k + 1) f fd ps sp := by
  obtain ⟨oc, od, kV, doc, pm, an, cdv, ct, osl, rfl, lk, hcd⟩ := F.ex
  exact fn_of lk hcd S len fun A outer s H vs Q E hr hsp => hbody cdv A outer s H vs Q E hr hsp
end L2
namespace DL
open PySem L2

inductive D where
  | un | non | bl (b : Bool) | int (i : Int) | str (x : Str)
  | sc (xs : List D) | ls (xs : List D) | tp (xs : List D) | ob (c : Nat) (fs : List D)
  | ol (xs : List D) | bo (xs : List D)
  | od (ks : List Key) (xs : List D) | bd (ks : List Key) (xs : List D)
  | oo (o : Option Addr) (c : Nat) (fs : List D) | bb (c : Nat) (fs : List D)
  | rf (a : Addr)

abbrev Cls := Nat → Option (Addr × List Str)
abbrev Env := List D

inductive Res (α : Type) where
  | ok (a : α) | xc (c : Nat) | bad
inductive Out where
  | nx (g : Env) | rt (d : D) | bk (g : Env) | ct (g : Env) | xc (c : Nat) (g : Env) | bad

def excV (cls : Cls) (c : Nat) : Value := match cls c with
  | some (C, _) => .ref C
  | none => .none

mutual
inductive Rp (K : PySem.W.Frag) (cls : Cls) (F : Hp) : V → D → Prop
  | non : Rp K cls F .non .non
  | bl (b : Bool) : Rp K cls F (.bl b) (.bl b)
  | int (i : Int) : Rp K cls F (.int i) (.int i)
  | str (x : Str) : Rp K cls F (.str x) (.str x)
  | rf (a : Addr) : Rp K cls F (.ref a) (.rf a)
  | sc {a : Addr} {vs : List V} {ds : List D} : SqL K F a vs → Rps K cls F vs ds → Rp K cls F (.ref a) (.sc ds)
  | ls {a : Addr} {vs : List V} {ds : List D} : F a = some (.lst vs) → Rps K cls F vs ds → Rp K cls F (.ref a) (.ls ds)
  | tp {a : Addr} {vs : List V} {ds : List D} : SqT K F a vs → Rps K cls F vs ds → Rp K cls F (.ref a) (.tp ds)
  | ob {a C dx : Addr} {c : Nat} {ns : List Str} {vs : List V} {ds : List D} : cls c = some (C, ns) → F a = some (.ins C dx (ns.zip vs)) → vs.length ≤ ns.length → Rps K cls F vs ds → Rp K cls F (.ref a) (.ob c ds)
inductive Rps (K : PySem.W.Frag) (cls : Cls) (F : Hp) : List V → List D → Prop
  | nil : Rps K cls F [] []
  | cons {v : V} {d : D} {vs : List V} {ds : List D} : Rp K cls F v d → Rps K cls F vs ds → Rps K cls F (v :: vs) (d :: ds)
end

mutual
inductive Ow (K : PySem.W.Frag) (cls : Cls) (F H : Hp) : V → D → List Addr → Prop
  | sh {v : V} {d : D} : Rp K cls F v d → Ow K cls F H v d []
  | ol {a : Addr} {vs : List V} {ds : List D} {O : List Addr} : F a = none → H a = some (.lst vs) → a ∉ O → Ows K cls F H vs ds O → Ow K cls F H (.ref a) (.ol ds) (a :: O)
  | od {a : Addr} {ks : List Key} {vs : List V} {ds : List D} {O : List Addr} : F a = none → H a = some (.dK (ks.zip vs)) → ks.length = vs.length → a ∉ O → Ows K cls F H vs ds O → Ow K cls F H (.ref a) (.od ks ds) (a :: O)
  | oo {o : Option Addr} {a C dx : Addr} {c : Nat} {ns : List Str} {vs : List V} {ds : List D} {O : List Addr} : (∀ x, o = some x → x = a) → cls c = some (C, ns) → F a = none → H a = some (.ins C dx (ns.zip vs)) → vs.length ≤ ns.length → a ∉ O → Ows K cls F H vs ds O → Ow K cls F H (.ref a) (.oo o c ds) (a :: O)
inductive Ows (K : PySem.W.Frag) (cls : Cls) (F H : Hp) : List V → List D → List Addr → Prop
  | nil : Ows K cls F H [] [] []
  | cons {v : V} {d : D} {vs : List V} {ds : List D} {O1 O2 O : List Addr} : Ow K cls F H v d O1 → Ows K cls F H vs ds O2 → (∀ a ∈ O1, a ∉ O2) → O = O1 ++ O2 → Ows K cls F H (v :: vs) (d :: ds) O
end

mutual
inductive Bo (K : PySem.W.Frag) (cls : Cls) (F H : Hp) : V → D → Prop
  | sh {v : V} {d : D} : Rp K cls F v d → Bo K cls F H v d
  | bo {a : Addr} {vs : List V} {ds : List D} : H a = some (.lst vs) → Bos K cls F H vs ds → Bo K cls F H (.ref a) (.bo ds)
  | bd {a : Addr} {ks : List Key} {vs : List V} {ds : List D} : H a = some (.dK (ks.zip vs)) → ks.length = vs.length → Bos K cls F H vs ds → Bo K cls F H (.ref a) (.bd ks ds)
  | bb {a C dx : Addr} {c : Nat} {ns : List Str} {vs : List V} {ds : List D} : cls c = some (C, ns) → H a = some (.ins C dx (ns.zip vs)) → vs.length ≤ ns.length → Bos K cls F H vs ds → Bo K cls F H (.ref a) (.bb c ds)
inductive Bos (K : PySem.W.Frag) (cls : Cls) (F H : Hp) : List V → List D → Prop
  | nil : Bos K cls F H [] []
  | cons {v : V} {d : D} {vs : List V} {ds : List D} : Bo K cls F H v d → Bos K cls F H vs ds → Bos K cls F H (v :: vs) (d :: ds)
end

def Tm (K : PySem.W.Frag) (cls : Cls) (F H : Hp) (v : V) (d : D) (O : List Addr) : Prop := Ow K cls F H v d O ∨ (Bo K cls F H v d ∧ O = [])

inductive Sts (K : PySem.W.Frag) (cls : Cls) (F H : Hp) : St → Env → List Addr → Prop
  | nil : Sts K cls F H [] [] []
  | un {o : Option V} {σ : St} {g : Env} {O : List Addr} : Sts K cls F H σ g O → Sts K cls F H (o :: σ) (.un :: g) O
  | cons {v : V} {d : D} {σ : St} {g : Env} {O1 O2 O : List Addr} : Ow K cls F H v d O1 → Sts K cls F H σ g O2 → (∀ a ∈ O1, a ∉ O2) → O = O1 ++ O2 → Sts K cls F H (some v :: σ) (d :: g) O

def Fresh (H : Hp) (O : List Addr) : Prop := ∀ a ∈ O, H a = none

structure Ext (F H F' H' : Hp) : Prop where
  ff : Same F F'
  hh : Same H H'
  fh : Same F' H'
  ow : ∀ a, F a = none → H a ≠ none → F' a = none

structure SExt (F H : Hp) (O : List Addr) (F' H' : Hp) (O' : List Addr) : Prop where
  ff : Same F F'
  fh : Same F' H'
  fr : ∀ a o, H a = some o → a ∉ O → H' a = some o
  ow : ∀ a, F a = none → H a ≠ none → a ∉ O → F' a = none
  oo : ∀ a ∈ O', a ∈ O ∨ H a = none

section
variable {K : PySem.W.Frag} {cls : Cls} {F H F' H' F'' H'' : Hp} {O O' O'' : List Addr}

theorem Ext.refl (s : Same F H) : Ext F H F H := ⟨.refl F, .refl H, s, fun _ h _ => h⟩
theorem Ext.trans (x : Ext F H F' H') (y : Ext F' H' F'' H'') : Ext F H F'' H'' :=
  ⟨x.ff.trans y.ff, x.hh.trans y.hh, y.fh, fun a h1 h2 => y.ow a (x.ow a h1 h2) (fun e => by
    cases q : H a with
    | none => exact h2 q
    | some o => rw [x.hh a o q] at e; cases e)⟩
theorem Ext.some (x : Ext F H F' H') {a : Addr} (h : H a ≠ none) : H' a ≠ none := fun e => by
  cases q : H a with
  | none => exact h q
  | some o => rw [x.hh a o q] at e; cases e
theorem Ext.fresh (x : Ext F H F' H') (h : Fresh H' O) : Fresh H O := fun a ha => x.hh.free (h a ha)
theorem Fresh.mono (s : Same H H') (h : Fresh H' O) : Fresh H O := fun a ha => s.free (h a ha)
theorem Fresh.nil : Fresh H [] := fun _ h => nomatch h
theorem SExt.refl (s : Same F H) : SExt F H O F H O := ⟨.refl F, s, fun _ _ h _ => h, fun _ h _ _ => h, fun _ h => .inl h⟩
theorem SExt.trans (x : SExt F H O F' H' O') (y : SExt F' H' O' F'' H'' O'') : SExt F H O F'' H'' O'' := by
  have no : ∀ a o, H a = .some o → a ∉ O → a ∉ O' := fun a o h n h' => by
    rcases x.oo a h' with e | e
    · exact n e
    · rw [h] at e; cases e
  have ne : ∀ a, H a ≠ none → ∃ o, H a = .some o := fun a h => by
    cases q : H a with
    | none => exact (h q).elim
    | some o => exact ⟨o, rfl⟩
  refine ⟨x.ff.trans y.ff, y.fh, fun a o h n => y.fr a o (x.fr a o h n) (no a o h n), fun a h1 h2 n => ?_, fun a h => ?_⟩
  · obtain ⟨o, q⟩ := ne a h2
    exact y.ow a (x.ow a h1 h2 n) (by rw [x.fr a o q n]; exact fun e => nomatch e) (no a o q n)
  · rcases y.oo a h with e | e
    · exact x.oo a e
    · cases q : H a with
      | none => exact .inr rfl
      | some o =>
        by_cases n : a ∈ O
        · exact .inl n
        · rw [x.fr a o q n] at e; cases e
theorem Ext.sext (x : Ext F H F' H') (h : ∀ a ∈ O', a ∈ O ∨ H a = none) : SExt F H O F' H' O' := ⟨x.ff, x.fh, fun a o e _ => x.hh a o e, fun a h1 h2 _ => x.ow a h1 h2, h⟩
theorem SExt.ext (x : SExt F H [] F' H' O') : Ext F H F' H' := ⟨x.ff, fun a o e => x.fr a o e (by simp), x.fh, fun a h1 h2 => x.ow a h1 h2 (by simp)⟩

mutual
theorem Rp.mono (s : Same F F') : ∀ {v : V} {d : D}, Rp K cls F v d → Rp K cls F' v d
  | _, _, .non => .non
  | _, _, .bl b => .bl b
  | _, _, .int i => .int i
  | _, _, .str x => .str x
  | _, _, .rf x => .rf x
  | _, _, .sc h r => .sc (s.seq h) (Rps.mono s r)
  | _, _, .ls h r => .ls (s _ _ h) (Rps.mono s r)
  | _, _, .tp h r => .tp (by
      rcases h with (h | ⟨o, h⟩) | h
      · exact .inl (.inl (s _ _ h))
      · exact .inl (.inr ⟨o, s _ _ h⟩)
      · exact .inr h) (Rps.mono s r)
  | _, _, .ob c h l r => .ob c (s _ _ h) l (Rps.mono s r)
theorem Rps.mono (s : Same F F') : ∀ {v : List V} {d : List D}, Rps K cls F v d → Rps K cls F' v d
  | _, _, .nil => .nil
  | _, _, .cons h r => .cons (Rp.mono s h) (Rps.mono s r)
end
mutual
theorem Ow.frame (s : Same F F') : ∀ {v : V} {d : D} {O : List Addr}, Ow K cls F H v d O → (∀ a ∈ O, H' a = H a ∧ F' a = none) → Ow K cls F' H' v d O
  | _, _, _, .sh r, _ => .sh (r.mono s)
  | _, _, _, .ol h1 h2 h3 r, k => .ol (k _ (by simp)).2 ((k _ (by simp)).1.trans h2) h3 (Ows.frame s r fun a ha => k a (by simp [ha]))
  | _, _, _, .od h1 h2 hl h3 r, k => .od (k _ (by simp)).2 ((k _ (by simp)).1.trans h2) hl h3 (Ows.frame s r fun a ha => k a (by simp [ha]))
  | _, _, _, .oo ho hc h1 h2 hl h3 r, k => .oo ho hc (k _ (by simp)).2 ((k _ (by simp)).1.trans h2) hl h3 (Ows.frame s r fun a ha => k a (by simp [ha]))
theorem Ows.frame (s : Same F F') : ∀ {v : List V} {d : List D} {O : List Addr}, Ows K cls F H v d O → (∀ a ∈ O, H' a = H a ∧ F' a = none) → Ows K cls F' H' v d O
  | _, _, _, .nil, _ => .nil
  | _, _, _, .cons h r dj e, k => .cons (Ow.frame s h fun a ha => k a (by simp [e, ha])) (Ows.frame s r fun a ha => k a (by simp [e, ha])) dj e
end
mutual
theorem Ow.dom : ∀ {v : V} {d : D} {O : List Addr}, Ow K cls F H v d O → ∀ a ∈ O, F a = none ∧ H a ≠ none
  | _, _, _, .sh r, _, h => nomatch h
  | _, _, _, .ol h1 h2 h3 r, a, h => by
    rcases List.mem_cons.mp h with rfl | h
    · exact ⟨h1, by rw [h2]; exact fun e => nomatch e⟩
    · exact Ows.dom r a h
  | _, _, _, .od h1 h2 hl h3 r, a, h => by
    rcases List.mem_cons.mp h with rfl | h
    · exact ⟨h1, by rw [h2]; exact fun e => nomatch e⟩
    · exact Ows.dom r a h
  | _, _, _, .oo ho hc h1 h2 hl h3 r, a, h => by
    rcases List.mem_cons.mp h with rfl | h
    · exact ⟨h1, by rw [h2]; exact fun e => nomatch e⟩
    · exact Ows.dom r a h
theorem Ows.dom : ∀ {v : List V} {d : List D} {O : List Addr}, Ows K cls F H v d O → ∀ a ∈ O, F a = none ∧ H a ≠ none
  | _, _, _, .nil, _, h => nomatch h
  | _, _, _, .cons h r dj e, a, ha => by
    rw [e] at ha
    rcases List.mem_append.mp ha with q | q
    · exact Ow.dom h a q
    · exact Ows.dom r a q
end
theorem Ext.get (x : Ext F H F' H') {a : Addr} (h1 : F a = none) (h2 : H a ≠ none) : H' a = H a ∧ F' a = none := by
  refine ⟨?_, x.ow a h1 h2⟩
  cases q : H a with
  | none => exact (h2 q).elim
  | some o => exact x.hh a o q
theorem Ow.ext (x : Ext F H F' H') {v : V} {d : D} (h : Ow K cls F H v d O) : Ow K cls F' H' v d O :=
  h.frame x.ff fun a ha => x.get (h.dom a ha).1 (h.dom a ha).2
theorem Ows.ext (x : Ext F H F' H') {v : List V} {d : List D} (h : Ows K cls F H v d O) : Ows K cls F' H' v d O :=
  h.frame x.ff fun a ha => x.get (h.dom a ha).1 (h.dom a ha).2
mutual
theorem Bo.ext (x : Ext F H F' H') : ∀ {v : V} {d : D}, Bo K cls F H v d → Bo K cls F' H' v d
  | _, _, .sh r => .sh (r.mono x.ff)
  | _, _, .bo h r => .bo (x.hh _ _ h) (Bos.ext x r)
  | _, _, .bd h l r => .bd (x.hh _ _ h) l (Bos.ext x r)
  | _, _, .bb hc h l r => .bb hc (x.hh _ _ h) l (Bos.ext x r)
theorem Bos.ext (x : Ext F H F' H') : ∀ {v : List V} {d : List D}, Bos K cls F H v d → Bos K cls F' H' v d
  | _, _, .nil => .nil
  | _, _, .cons h r => .cons (Bo.ext x h) (Bos.ext x r)
end
theorem Tm.ext (x : Ext F H F' H') {v : V} {d : D} (h : Tm K cls F H v d O) : Tm K cls F' H' v d O := by
  rcases h with h | ⟨h, e⟩
  · exact .inl (h.ext x)
  · exact .inr ⟨h.ext x, e⟩
theorem Sts.dom : ∀ {σ : St} {g : Env} {O : List Addr}, Sts K cls F H σ g O → ∀ a ∈ O, F a = none ∧ H a ≠ none
  | _, _, _, .nil, _, h => nomatch h
  | _, _, _, .un r, a, h => r.dom a h
  | _, _, _, .cons h r dj e, a, ha => by
    rw [e] at ha
    rcases List.mem_append.mp ha with q | q
    · exact Ow.dom h a q
    · exact Sts.dom r a q
theorem Sts.frame (s : Same F F') : ∀ {σ : St} {g : Env} {O : List Addr}, Sts K cls F H σ g O → (∀ a ∈ O, H' a = H a ∧ F' a = none) → Sts K cls F' H' σ g O
  | _, _, _, .nil, _ => .nil
  | _, _, _, .un r, k => .un (r.frame s k)
  | _, _, _, .cons h r dj e, k => .cons (h.frame s fun a ha => k a (by simp [e, ha])) (r.frame s fun a ha => k a (by simp [e, ha])) dj e
theorem Sts.ext (x : Ext F H F' H') {σ : St} {g : Env} (h : Sts K cls F H σ g O) : Sts K cls F' H' σ g O :=
  h.frame x.ff fun a ha => x.get (h.dom a ha).1 (h.dom a ha).2
theorem Sts.len : ∀ {σ : St} {g : Env} {O : List Addr}, Sts K cls F H σ g O → σ.length = g.length
  | _, _, _, .nil => rfl
  | _, _, _, .un r => by simp [r.len]
  | _, _, _, .cons h r dj e => by simp [r.len]

theorem Sts.at : ∀ {σ : St} {g : Env} {O : List Addr} (i : Nat), Sts K cls F H σ g O → i < g.length → ∃ O1 : List Addr, (∀ a ∈ O1, a ∈ O) ∧
    (g[i]? = some .un ∧ O1 = [] ∨ ∃ v d, σ[i]? = some (some v) ∧ g[i]? = some d ∧ Ow K cls F H v d O1) ∧
    (∀ (F' H' : Hp) (v' : V) (d' : D) (O1' : List Addr), (∀ b ∈ O, b ∉ O1 → H' b = H b ∧ F' b = none) → Same F F' → Ow K cls F' H' v' d' O1' → (∀ a ∈ O1', a ∈ O → a ∈ O1) →
      ∃ O'', Sts K cls F' H' (σ.set i (some v')) (g.set i d') O'' ∧ ∀ a ∈ O'', a ∈ O ∨ a ∈ O1') ∧
    (∀ (F' H' : Hp) (o : Option V), (∀ b ∈ O, b ∉ O1 → H' b = H b ∧ F' b = none) → Same F F' →
      ∃ O'', Sts K cls F' H' (σ.set i o) (g.set i .un) O'' ∧ (∀ a ∈ O'', a ∈ O) ∧ ∀ a ∈ O'', a ∉ O1)
  | _, _, _, i, .nil, h => absurd h (Nat.not_lt_zero i)
  | _, _, _, 0, .un (o := o) (O := O) r, _ => by
    refine ⟨[], fun _ h => (nomatch h), .inl ⟨rfl, rfl⟩, fun F' H' v' d' O1' k s w dj => ⟨O1' ++ O, ?_, fun a ha => ?_⟩, fun F' H' o' k s => ⟨O, ?_, fun _ h => h, fun _ _ h => (nomatch h)⟩⟩
    · exact .cons w (r.frame s fun a ha => k a ha (by simp)) (fun a h1 h2 => (nomatch (dj a h1 h2))) rfl
    · rcases List.mem_append.mp ha with q | q
      · exact .inr q
      · exact .inl q
    · exact .un (r.frame s fun a ha => k a ha (by simp))
  | _, _, _, 0, .cons (v := v) (d := d) (O1 := O1) (O2 := O2) h r dj e, _ => by
    subst e
    refine ⟨O1, fun a h => List.mem_append_left _ h, .inr ⟨v, d, rfl, rfl, h⟩, fun F' H' v' d' O1' k s w dj' => ⟨O1' ++ O2, ?_, fun a ha => ?_⟩, fun F' H' o' k s => ⟨O2, ?_, fun a h => List.mem_append_right _ h, fun a h1 h2 => dj a h2 h1⟩⟩
    · refine .cons w (r.frame s fun a ha => k a (List.mem_append_right _ ha) fun q => dj a q ha) (fun a h1 h2 => ?_) rfl
      exact dj a (dj' a h1 (List.mem_append_right _ h2)) h2
    · rcases List.mem_append.mp ha with q | q
      · exact .inr q
      · exact .inl (List.mem_append_right _ q)
    · exact .un (r.frame s fun a ha => k a (List.mem_append_right _ ha) fun q => dj a q ha)
  | _, _, _, i + 1, .un (o := o) (O := O) r, hi => by
    obtain ⟨O1, h1, h2, h3, h4⟩ := r.at i (Nat.lt_of_succ_lt_succ hi)
    refine ⟨O1, h1, by simpa using h2, fun F' H' v' d' O1' k s w dj => ?_, fun F' H' o' k s => ?_⟩
    · obtain ⟨O'', q1, q2⟩ := h3 F' H' v' d' O1' k s w dj
      exact ⟨O'', .un q1, q2⟩
    · obtain ⟨O'', q1, q2⟩ := h4 F' H' o' k s
      exact ⟨O'', .un q1, q2⟩
  | _, _, _, i + 1, .cons (v := v) (d := d) (O1 := P1) (O2 := P2) h r dj e, hi => by
    subst e
    obtain ⟨O1, h1, h2, h3, h4⟩ := r.at i (Nat.lt_of_succ_lt_succ hi)
    have n1 : ∀ a ∈ P1, a ∉ O1 := fun a q q' => dj a q (h1 a q')
    refine ⟨O1, fun a q => List.mem_append_right _ (h1 a q), by simpa using h2, fun F' H' v' d' O1' k s w dj' => ?_, fun F' H' o' k s => ?_⟩
    · obtain ⟨O'', q1, q2⟩ := h3 F' H' v' d' O1' (fun b hb => k b (List.mem_append_right _ hb)) s w fun a q q' => dj' a q (List.mem_append_right _ q')
      refine ⟨P1 ++ O'', .cons (h.frame s fun a ha => k a (List.mem_append_left _ ha) (n1 a ha)) q1 (fun a ha hb => ?_) rfl, fun a ha => ?_⟩
      · rcases q2 a hb with z | z
        · exact dj a ha z
        · exact n1 a ha (dj' a z (List.mem_append_left _ ha))
      · rcases List.mem_append.mp ha with z | z
        · exact .inl (List.mem_append_left _ z)
        · rcases q2 a z with z | z
          · exact .inl (List.mem_append_right _ z)
          · exact .inr z
    · obtain ⟨O'', q1, q2, q3⟩ := h4 F' H' o' (fun b hb => k b (List.mem_append_right _ hb)) s
      refine ⟨P1 ++ O'', .cons (h.frame s fun a ha => k a (List.mem_append_left _ ha) (n1 a ha)) q1 (fun a ha hb => dj a ha (q2 a hb)) rfl, fun a ha => ?_, fun a ha hb => ?_⟩
      · rcases List.mem_append.mp ha with z | z
        · exact List.mem_append_left _ z
        · exact List.mem_append_right _ (q2 a z)
      · rcases List.mem_append.mp ha with z | z
        · exact n1 a z hb
        · exact q3 a z hb

mutual
/-- a value all of whose lists are shared from now on -/
def frz : D → D
  | .ol xs => .ls (frzs xs)
  | .oo _ c xs => .ob c (frzs xs)
  | d => d
def frzs : List D → List D
  | [] => []
  | d :: ds => frz d :: frzs ds
end
mutual
/-- how an owned value is read -/
def brw : D → D
  | .ol xs => .bo (brws xs)
  | .od ks xs => .bd ks (brws xs)
  | .oo _ c xs => .bb c (brws xs)
  | d => d
def brws : List D → List D
  | [] => []
  | d :: ds => brw d :: brws ds
end
mutual
/-- a borrowed value as plain data -/
def pln : D → D
  | .bo xs => .ls (plns xs)
  | .bb c xs => .ob c (plns xs)
  | d => d
def plns : List D → List D
  | [] => []
  | d :: ds => pln d :: plns ds
end
mutual
theorem Ow.brw (s : Same F H) : ∀ {v : V} {d : D} {O : List Addr}, Ow K cls F H v d O → Bo K cls F H v (brw d)
  | _, _, _, .sh r => by cases r <;> exact .sh (by first | assumption | constructor <;> assumption | constructor)
  | _, _, _, .ol h1 h2 h3 r => .bo h2 (Ows.brws s r)
  | _, _, _, .od h1 h2 hl h3 r => .bd h2 hl (Ows.brws s r)
  | _, _, _, .oo ho hc h1 h2 hl h3 r => .bb hc h2 hl (Ows.brws s r)
theorem Ows.brws (s : Same F H) : ∀ {v : List V} {d : List D} {O : List Addr}, Ows K cls F H v d O → Bos K cls F H v (brws d)
  | _, _, _, .nil => .nil
  | _, _, _, .cons h r _ _ => .cons (Ow.brw s h) (Ows.brws s r)
end
end
end DL

namespace DL
open PySem L2

def Res.bind {α β : Type} (r : Res α) (f : α → Res β) : Res β := match r with
  | .ok a => f a
  | .xc c => .xc c
  | .bad => .bad
@[simp] theorem Res.bind_ok {α β : Type} (a : α) (f : α → Res β) : (Res.ok a).bind f = f a := rfl
@[simp] theorem Res.bind_xc {α β : Type} (c : Nat) (f : α → Res β) : (Res.xc c : Res α).bind f = .xc c := rfl
@[simp] theorem Res.bind_bad {α β : Type} (f : α → Res β) : (Res.bad : Res α).bind f = .bad := rfl
def Res.of {α : Type} : Option α → Res α
  | some a => .ok a
  | none => .bad
@[simp] theorem Res.of_some {α : Type} (a : α) : Res.of (some a) = .ok a := rfl
@[simp] theorem Res.of_none {α : Type} : Res.of (none : Option α) = .bad := rfl

mutual
@[simp] def nod : D → Bool
  | .od _ _ => false
  | .ol xs => nods xs
  | .oo _ _ xs => nods xs
  | _ => true
@[simp] def nods : List D → Bool
  | [] => true
  | d :: ds => nod d && nods ds
end
section
variable {K : PySem.W.Frag} {cls : Cls} {F H F' H' F'' H'' : Hp} {O O' O'' : List Addr}
mutual
theorem Ow.freeze (s : Same F F') : ∀ {v : V} {d : D} {O : List Addr}, Ow K cls F H v d O → (∀ a ∈ O, F' a = H a) → nod d = true → Rp K cls F' v (frz d)
  | _, d, _, .sh r, _, _ => by
    have r' := r.mono s
    cases r <;> (simp only [frz]; exact r')
  | _, _, _, .ol (ds := ds) h1 h2 h3 r, k, n => by
    simp only [frz]
    exact .ls ((k _ (by simp)).trans h2) (Ows.freeze s r (fun a ha => k a (by simp [ha])) (by simpa using n))
  | _, _, _, .od h1 h2 hl h3 r, k, n => by simp at n
  | _, _, _, .oo (ds := ds) ho hc h1 h2 hl h3 r, k, n => by
    simp only [frz]
    exact .ob hc ((k _ (by simp)).trans h2) hl (Ows.freeze s r (fun a ha => k a (by simp [ha])) (by simpa using n))
theorem Ows.freeze (s : Same F F') : ∀ {v : List V} {d : List D} {O : List Addr}, Ows K cls F H v d O → (∀ a ∈ O, F' a = H a) → nods d = true → Rps K cls F' v (frzs d)
  | _, _, _, .nil, _, _ => .nil
  | _, _, _, .cons h r dj e, k, n => by
    simp only [nods, Bool.and_eq_true] at n
    simp only [frzs]
    exact .cons (Ow.freeze s h (fun a ha => k a (by simp [e, ha])) n.1) (Ows.freeze s r (fun a ha => k a (by simp [e, ha])) n.2)
end
def addF (F H : Hp) (O : List Addr) : Hp := fun a => if a ∈ O then H a else F a
theorem addF_ext {F0 H0 : Hp} (x : Ext F0 H0 F H) (f : Fresh H0 O) (n : ∀ a ∈ O, F a = none) : Ext F0 H0 (addF F H O) H := by
  have s1 : Same F (addF F H O) := fun a o e => by
    unfold addF
    split
    · rename_i q; rw [n a q] at e; cases e
    · exact e
  refine ⟨x.ff.trans s1, x.hh, fun a o e => ?_, fun a h1 h2 => ?_⟩
  · unfold addF at e
    split at e
    · exact e
    · exact x.fh a o e
  · unfold addF
    rw [if_neg (fun q => h2 (f a q))]
    exact x.ow a h1 h2
theorem addF_same (n : ∀ a ∈ O, F a = none) : Same F (addF F H O) := fun a o e => by
  unfold addF
  split
  · rename_i q; rw [n a q] at e; cases e
  · exact e
theorem addF_at : ∀ a ∈ O, addF F H O a = H a := fun a h => by unfold addF; rw [if_pos h]
theorem addF_no {a : Addr} (h : a ∉ O) : addF F H O a = F a := by unfold addF; rw [if_neg h]

def opd (d : D) : D := if nod d = true then frz d else brw d
theorem Rp.opd {v : V} {d : D} (r : Rp K cls F v d) : opd d = d := by cases r <;> rfl
theorem Bo.opd {v : V} {d : D} (r : Bo K cls F H v d) : opd d = d := by
  cases r with
  | sh r => exact r.opd
  | bo => rfl
  | bd => rfl
  | bb => rfl
@[simp] theorem opd_un : opd .un = .un := rfl
@[simp] theorem opd_non : opd .non = .non := rfl
@[simp] theorem opd_bl {b} : opd (.bl b) = .bl b := rfl
@[simp] theorem opd_int {b} : opd (.int b) = .int b := rfl
@[simp] theorem opd_str {b} : opd (.str b) = .str b := rfl
@[simp] theorem opd_sc {b} : opd (.sc b) = .sc b := rfl
@[simp] theorem opd_ls {b} : opd (.ls b) = .ls b := rfl
@[simp] theorem opd_tp {b} : opd (.tp b) = .tp b := rfl
@[simp] theorem opd_ob {c b} : opd (.ob c b) = .ob c b := rfl
@[simp] theorem opd_bo {b} : opd (.bo b) = .bo b := rfl
@[simp] theorem opd_bd {c b} : opd (.bd c b) = .bd c b := rfl
@[simp] theorem opd_od {c b} : opd (.od c b) = .bd c (brws b) := rfl
@[simp] theorem opd_rf {b} : opd (.rf b) = .rf b := rfl
@[simp] theorem opd_bb {c b} : opd (.bb c b) = .bb c b := rfl
@[simp] theorem opd_oo {o c b} : opd (.oo o c b) = if nods b = true then .ob c (frzs b) else .bb c (brws b) := rfl
@[simp] theorem opd_ol {b} : opd (.ol b) = if nods b = true then .ls (frzs b) else .bo (brws b) := by
  rfl
theorem Tm.operand {F0 H0 : Hp} {v : V} {d : D} (x : Ext F0 H0 F H) (f : Fresh H0 O) (t : Tm K cls F H v d O) : ∃ F', Ext F0 H0 F' H ∧ Same F F' ∧ (∀ a, a ∉ O → F' a = F a) ∧ Bo K cls F' H v (opd d) := by
  rcases t with t | ⟨t, e⟩
  · by_cases n : nod d = true
    · refine ⟨addF F H O, addF_ext x f fun a ha => (t.dom a ha).1, addF_same fun a ha => (t.dom a ha).1, fun a ha => addF_no ha, ?_⟩
      unfold DL.opd
      rw [if_pos n]
      exact .sh (t.freeze (addF_same fun a ha => (t.dom a ha).1) addF_at n)
    · refine ⟨F, x, .refl F, fun _ _ => rfl, ?_⟩
      unfold DL.opd
      rw [if_neg n]
      exact t.brw x.fh
  · refine ⟨F, x, .refl F, fun _ _ => rfl, ?_⟩
    rw [t.opd]
    exact t

@[simp] def kp : D → Res D
  | .bo _ => .bad
  | .bd _ _ => .bad
  | .bb _ _ => .bad
  | d => .ok d
theorem Tm.keep {v : V} {d d' : D} (t : Tm K cls F H v d O) (e : kp d = .ok d') : Ow K cls F H v d' O := by
  rcases t with t | ⟨t, rfl⟩
  · have : d' = d := by
      cases t with
      | sh r => cases r <;> (simp at e; exact e.symm)
      | ol => simp at e; exact e.symm
      | od => simp at e; exact e.symm
      | oo => simp at e; exact e.symm
    rw [this]; exact t
  · cases t with
    | sh r =>
      have : d' = d := by cases r <;> (simp at e; exact e.symm)
      rw [this]; exact .sh r
    | bo => simp at e
    | bd => simp at e
    | bb => simp at e

def PostE (K : PySem.W.Frag) (cls : Cls) (W : WX) (σ : St) (F H : Hp) (Q : VK) : Res D → Prop
  | .ok d => ∀ v F' H' O', Ext F H F' H' → Fresh H O' → Tm K cls F' H' v d O' → Q v H'
  | .xc c => ∀ F' H', Ext F H F' H' → W (excV cls c) none σ H'
  | .bad => False
def PostB (K : PySem.W.Frag) (cls : Cls) (W : WX) (σ : St) (F H : Hp) (Q : VK) : Res D → Prop
  | .ok d => ∀ v F' H', Ext F H F' H' → Bo K cls F' H' v d → Q v H'
  | .xc c => ∀ F' H', Ext F H F' H' → W (excV cls c) none σ H'
  | .bad => False
def PostO (K : PySem.W.Frag) (cls : Cls) (W : WX) (σ : St) (F H : Hp) (Q : VK) : Res D → Prop
  | .ok d => ∀ v F' H' O', Ext F H F' H' → Fresh H O' → Ow K cls F' H' v d O' → Q v H'
  | .xc c => ∀ F' H', Ext F H F' H' → W (excV cls c) none σ H'
  | .bad => False
def PostT (cls : Cls) (W : WX) (σ : St) (F H : Hp) (Q : Bool → Hp → Prop) : Res Bool → Prop
  | .ok b => ∀ F' H', Ext F H F' H' → Q b H'
  | .xc c => ∀ F' H', Ext F H F' H' → W (excV cls c) none σ H'
  | .bad => False
def PostA (K : PySem.W.Frag) (cls : Cls) (W : WX) (σ : St) (F H : Hp) (Q : List V → Hp → Prop) : Res (List D) → Prop
  | .ok d => ∀ v F' H', Ext F H F' H' → Bos K cls F' H' v d → Q v H'
  | .xc c => ∀ F' H', Ext F H F' H' → W (excV cls c) none σ H'
  | .bad => False
def PostAO (K : PySem.W.Frag) (cls : Cls) (W : WX) (σ : St) (F H : Hp) (Q : List V → Hp → Prop) : Res (List D) → Prop
  | .ok d => ∀ v F' H' O', Ext F H F' H' → Fresh H O' → Ows K cls F' H' v d O' → Q v H'
  | .xc c => ∀ F' H', Ext F H F' H' → W (excV cls c) none σ H'
  | .bad => False
def DE (K : PySem.W.Frag) (cls : Cls) (W : WX) (t : TE) (f : Env → Res D) : Prop :=
  ∀ σ F H g O Q, Same F H → Sts K cls F H σ g O → PostE K cls W σ F H Q (f g) → t σ H Q
def DB (K : PySem.W.Frag) (cls : Cls) (W : WX) (t : TE) (f : Env → Res D) : Prop :=
  ∀ σ F H g O Q, Same F H → Sts K cls F H σ g O → PostB K cls W σ F H Q (f g) → t σ H Q
def DO (K : PySem.W.Frag) (cls : Cls) (W : WX) (t : TE) (f : Env → Res D) : Prop :=
  ∀ σ F H g O Q, Same F H → Sts K cls F H σ g O → PostO K cls W σ F H Q (f g) → t σ H Q
def DT (K : PySem.W.Frag) (cls : Cls) (W : WX) (t : TT) (f : Env → Res Bool) : Prop :=
  ∀ σ F H g O Q, Same F H → Sts K cls F H σ g O → PostT cls W σ F H Q (f g) → t σ H Q
def DA (K : PySem.W.Frag) (cls : Cls) (W : WX) (t : TA) (f : Env → Res (List D)) : Prop :=
  ∀ σ F H g O Q, Same F H → Sts K cls F H σ g O → PostA K cls W σ F H Q (f g) → t σ H Q
def DAO (K : PySem.W.Frag) (cls : Cls) (W : WX) (t : TA) (f : Env → Res (List D)) : Prop :=
  ∀ σ F H g O Q, Same F H → Sts K cls F H σ g O → PostAO K cls W σ F H Q (f g) → t σ H Q

def bF (f : Env → Res D) : Env → Res D := fun g => (f g).bind fun d => .ok (opd d)
def oF (f : Env → Res D) : Env → Res D := fun g => (f g).bind kp
section
variable {f : Env → Res D} {g : Env}
theorem bF_ok {d : D} (e : f g = .ok d) : bF f g = .ok (opd d) := by unfold bF; rw [e]; rfl
theorem bF_xc {d : Nat} (e : f g = .xc d) : bF f g = .xc d := by unfold bF; rw [e]; rfl
theorem bF_bad (e : f g = .bad) : bF f g = .bad := by unfold bF; rw [e]; rfl
theorem oF_ok {d : D} (e : f g = .ok d) : oF f g = kp d := by unfold oF; rw [e]; rfl
theorem oF_xc {d : Nat} (e : f g = .xc d) : oF f g = .xc d := by unfold oF; rw [e]; rfl
theorem oF_bad (e : f g = .bad) : oF f g = .bad := by unfold oF; rw [e]; rfl
end
theorem kp_ok {d : D} : kp d = .ok d ∨ kp d = .bad := by cases d <;> simp
theorem DE.toB {W : WX} {t : TE} {f : Env → Res D} (h : DE K cls W t f) : DB K cls W t (bF f) := by
  intro σ F H g O Q s st p
  refine h σ F H g O Q s st ?_
  cases e : f g with
  | ok d =>
    rw [bF_ok e] at p
    intro v F' H' O' x fr tm
    obtain ⟨F2, x2, _, _, b⟩ := tm.operand x fr
    exact p v F2 H' x2 b
  | xc c => rw [bF_xc e] at p; exact p
  | bad => rw [bF_bad e] at p; exact p
theorem DE.toO {W : WX} {t : TE} {f : Env → Res D} (h : DE K cls W t f) : DO K cls W t (oF f) := by
  intro σ F H g O Q s st p
  refine h σ F H g O Q s st ?_
  cases e : f g with
  | ok d =>
    rw [oF_ok e] at p
    intro v F' H' O' x fr tm
    rcases kp_ok (d := d) with e2 | e2
    · rw [e2] at p; exact p v F' H' O' x fr (tm.keep e2)
    · rw [e2] at p; exact p.elim
  | xc c => rw [oF_xc e] at p; exact p
  | bad => rw [oF_bad e] at p; exact p

theorem PostE.mono {W : WX} {σ : St} {F H F1 H1 : Hp} {Q : VK} {r : Res D} (x : Ext F H F1 H1) (p : PostE K cls W σ F H Q r) : PostE K cls W σ F1 H1 Q r := by
  cases r with
  | ok d => exact fun v F' H' O' y fr tm => p v F' H' O' (x.trans y) (fr.mono x.hh) tm
  | xc c => exact fun F' H' y => p F' H' (x.trans y)
  | bad => exact p
theorem PostT.mono {W : WX} {σ : St} {F H F1 H1 : Hp} {Q : Bool → Hp → Prop} {r : Res Bool} (x : Ext F H F1 H1) (p : PostT cls W σ F H Q r) : PostT cls W σ F1 H1 Q r := by
  cases r with
  | ok d => exact fun F' H' y => p F' H' (x.trans y)
  | xc c => exact fun F' H' y => p F' H' (x.trans y)
  | bad => exact p
theorem PostA.mono {W : WX} {σ : St} {F H F1 H1 : Hp} {Q : List V → Hp → Prop} {r : Res (List D)} (x : Ext F H F1 H1) (p : PostA K cls W σ F H Q r) : PostA K cls W σ F1 H1 Q r := by
  cases r with
  | ok d => exact fun v F' H' y tm => p v F' H' (x.trans y) tm
  | xc c => exact fun F' H' y => p F' H' (x.trans y)
  | bad => exact p
theorem PostAO.mono {W : WX} {σ : St} {F H F1 H1 : Hp} {Q : List V → Hp → Prop} {r : Res (List D)} (x : Ext F H F1 H1) (p : PostAO K cls W σ F H Q r) : PostAO K cls W σ F1 H1 Q r := by
  cases r with
  | ok d => exact fun v F' H' O' y fr tm => p v F' H' O' (x.trans y) (fr.mono x.hh) tm
  | xc c => exact fun F' H' y => p F' H' (x.trans y)
  | bad => exact p

structure JE (X : Cx) (cls : Cls) (W : WX) (e : Expr) (f : Env → Res D) : Prop where
  ex : ∃ t, PE X e t ∧ DE X.K cls W t f
structure JT (X : Cx) (cls : Cls) (W : WX) (e : Expr) (f : Env → Res Bool) : Prop where
  ex : ∃ t, PT X e t ∧ DT X.K cls W t f
structure JW (X : Cx) (cls : Cls) (W : WX) (e : Expr) (f : Env → Res Bool) : Prop where
  ex : ∃ t, PW X e t ∧ DT X.K cls W t f
structure JA (X : Cx) (cls : Cls) (W : WX) (e : List Expr) (f : Env → Res (List D)) : Prop where
  ex : ∃ t, PA X e t ∧ DA X.K cls W t f
structure JAO (X : Cx) (cls : Cls) (W : WX) (e : List Expr) (f : Env → Res (List D)) : Prop where
  ex : ∃ t, PA X e t ∧ DAO X.K cls W t f
end

section
variable {X : Cx} {cls : Cls} {W : WX} {a b c : Expr} {es : List Expr} {fa fb fc : Env → Res D} {fs : Env → Res (List D)} {pos : Pos}
@[simp] def gv (g : Env) (i : Nat) : Res D := match g[i]? with
  | some .un => .bad
  | some d => .ok (brw d)
  | none => .bad
def eVar (i : Nat) : Env → Res D := fun g => gv g i
@[simp] theorem eVar_ (i : Nat) (g : Env) : eVar i g = gv g i := rfl
theorem de_var {K : PySem.W.Frag} (i : Nat) : DE K cls W (tVar i) (eVar i) := by
  intro σ F H g O Q s st p
  unfold eVar gv at p
  cases e : g[i]? with
  | none => rw [e] at p; exact p.elim
  | some d =>
    have hi : i < g.length := (List.getElem?_eq_some_iff.mp e).1
    obtain ⟨O1, h1, h2, _⟩ := st.at i hi
    rcases h2 with ⟨h2, _⟩ | ⟨v, d', h2, h3, ow⟩
    · rw [e] at h2; cases h2; rw [e] at p; exact p.elim
    · rw [e] at h3; cases h3
      refine ⟨v, h2, ?_⟩
      rw [e] at p
      have q : PostE K cls W σ F H Q (.ok (brw d)) := by
        cases d <;> first | exact p | exact p.elim
      exact q v F H [] (.refl s) Fresh.nil (.inr ⟨ow.brw s, rfl⟩)
theorem je_var (i : Nat) {x : Str} (hN : X.N[i]? = some x := by rfl) (hv : Vis X.env.scope x := by first | exact Or.inl rfl | exact Or.inr (Or.inl rfl) | exact Or.inr (Or.inr rfl)) (hd : (x == ("__debug__" : Str)) = false := by decide)
    (hcd : (x == ("__classdict__" : Str)) = false := by decide) : JE X cls W (.Name x pos) (eVar i) := ⟨_, pe_var hN hv hd hcd, de_var i⟩
def eC (d : D) : Env → Res D := fun _ => .ok d
@[simp] theorem eC_ (d : D) (g : Env) : eC d g = .ok d := rfl
theorem de_c {K : PySem.W.Frag} {v : V} {d : D} (h : ∀ F, Rp K cls F v d) : DE K cls W (tC v) (eC d) := by
  intro σ F H g O Q s st p
  exact p v F H [] (.refl s) Fresh.nil (.inl (.sh (h F)))
theorem je_int {i : Int} {j} : JE X cls W (.Constant (.int i) j pos) (eC (.int i)) := ⟨_, pe_int, de_c fun _ => .int i⟩
theorem je_bl {i : Bool} {j} : JE X cls W (.Constant (.bool i) j pos) (eC (.bl i)) := ⟨_, pe_bl, de_c fun _ => .bl i⟩
theorem je_non {j} : JE X cls W (.Constant .none j pos) (eC .non) := ⟨_, pe_non, de_c fun _ => .non⟩
theorem je_str {i : Str} {j} : JE X cls W (.Constant (.str i) j pos) (eC (.str i)) := ⟨_, pe_str, de_c fun _ => .str i⟩
theorem je_gint {x : Str} {i : Int} {t : Tok} (hm : X.mg x = some (.int i t)) (hg : Gl X x := by rfl) (hd : (x == ("__debug__" : Str)) = false := by decide) : JE X cls W (.Name x pos) (eC (.int i)) :=
  ⟨_, pe_glob (v := .int i) hg hm ⟨t, rfl⟩ hd, de_c fun _ => .int i⟩
def R2Ok (K : PySem.W.Frag) (cls : Cls) (r : R2) (op : D → D → Option D) : Prop :=
  ∀ F H x y a b d Q, Same F H → Bo K cls F H x a → Bo K cls F H y b → op a b = some d → (∀ v F' H' O', Ext F H F' H' → Fresh H O' → Tm K cls F' H' v d O' → Q v H') → r x y H Q
def eBin (op : D → D → Option D) (fa fb : Env → Res D) : Env → Res D := fun g => (fa g).bind fun a => (fb g).bind fun b => .of (op (opd a) (opd b))
@[simp] theorem eBin_ (op : D → D → Option D) (fa fb : Env → Res D) (g : Env) : eBin op fa fb g = (fa g).bind fun a => (fb g).bind fun b => .of (op (opd a) (opd b)) := rfl
theorem de_bin {K : PySem.W.Frag} {r : R2} {op : D → D → Option D} {ta tb : TE} (hr : R2Ok K cls r op) (ha : DE K cls W ta fa) (hb : DE K cls W tb fb) : DE K cls W (tOp r ta tb) (eBin op fa fb) := by
  intro σ F H g O Q s st p
  have e0 : eBin op fa fb g = (fa g).bind fun a => (fb g).bind fun b => .of (op (opd a) (opd b)) := rfl
  rw [e0] at p
  refine ha.toB σ F H g O _ s st ?_
  cases ea : fa g with
  | xc c => rw [ea] at p; rw [bF_xc ea]; exact p
  | bad => rw [ea] at p; exact p.elim
  | ok a =>
    rw [ea] at p
    rw [bF_ok ea]
    intro x F1 H1 x1 b1
    refine hb.toB σ F1 H1 g O _ x1.fh (st.ext x1) ?_
    simp only [Res.bind] at p
    cases eb : fb g with
    | xc c => rw [eb] at p; rw [bF_xc eb]; exact p.mono x1
    | bad => rw [eb] at p; exact p.elim
    | ok b =>
      rw [eb] at p
      rw [bF_ok eb]
      simp only [] at p
      intro y F2 H2 x2 b2
      cases eo : op (opd a) (opd b) with
      | none => rw [eo] at p; exact p.elim
      | some d =>
        rw [eo] at p
        exact hr F2 H2 x y _ _ d Q x2.fh (b1.ext x2) b2 eo fun v F' H' O' x3 fr tm => p v F' H' O' (x1.trans (x2.trans x3)) (fr.mono (x1.trans x2).hh) tm
theorem je_bin {o : Operator} {r : R2} {op : D → D → Option D} (ho : OpR X (binaryOp o) r) (hr : R2Ok X.K cls r op) (ha : JE X cls W a fa) (hb : JE X cls W b fb) : JE X cls W (.BinOp a o b pos) (eBin op fa fb) := by
  obtain ⟨ta, pa, da⟩ := ha.ex
  obtain ⟨tb, pb, db⟩ := hb.ex
  exact ⟨_, pe_op ho pa pb, de_bin hr da db⟩
def C2Ok (K : PySem.W.Frag) (cls : Cls) (r : R2) (op : D → D → Option Bool) : Prop :=
  ∀ F H x y a b d Q, Same F H → Bo K cls F H x a → Bo K cls F H y b → op a b = some d → Q (.bl d) H → r x y H Q
def tC2 (op : D → D → Option Bool) (fa fb : Env → Res D) : Env → Res Bool := fun g => (fa g).bind fun a => (fb g).bind fun b => .of (op (opd a) (opd b))
@[simp] theorem tC2_ (op : D → D → Option Bool) (fa fb : Env → Res D) (g : Env) : tC2 op fa fb g = (fa g).bind fun a => (fb g).bind fun b => .of (op (opd a) (opd b)) := rfl
def eB (f : Env → Res Bool) : Env → Res D := fun g => (f g).bind fun b => .ok (.bl b)
@[simp] theorem eB_ (f : Env → Res Bool) (g : Env) : eB f g = (f g).bind fun b => .ok (.bl b) := rfl
theorem de_c2 {K : PySem.W.Frag} {r : R2} {op : D → D → Option Bool} {ta tb : TE} (hr : C2Ok K cls r op) (ha : DE K cls W ta fa) (hb : DE K cls W tb fb) : DE K cls W (tOp r ta tb) (eB (tC2 op fa fb)) := by
  have h : R2Ok K cls r (fun a b => (op a b).map D.bl) := fun F H x y a b d Q s b1 b2 e q => by
    have e : (op a b).map D.bl = some d := e
    cases eo : op a b with
    | none => rw [eo] at e; cases e
    | some k =>
      rw [eo] at e
      cases e
      exact hr F H x y a b k Q s b1 b2 eo (q _ F H [] (.refl s) Fresh.nil (.inl (.sh (.bl k))))
  have q := de_bin (W := W) h ha hb
  have e : eBin (fun a b => (op a b).map D.bl) fa fb = eB (tC2 op fa fb) := by
    funext g
    unfold eBin eB tC2
    cases fa g with
    | ok a =>
      cases fb g with
      | ok b => simp only [Res.bind]; cases op (opd a) (opd b) <;> rfl
      | xc c => rfl
      | bad => rfl
    | xc c => rfl
    | bad => rfl
  rw [e] at q
  exact q
theorem dt_of {K : PySem.W.Frag} {t : TE} {f : Env → Res Bool} (h : DE K cls W t (eB f)) : DT K cls W (tTest t) f := by
  intro σ F H g O Q s st p
  refine h σ F H g O _ s st ?_
  unfold eB
  cases e : f g with
  | ok k =>
    rw [e] at p
    intro v F' H' O' x fr tm
    have : v = .bl k := by
      rcases tm with t | ⟨t, _⟩
      · cases t with
        | sh r => cases r; rfl
      · cases t with
        | sh r => cases r; rfl
    subst this
    exact ⟨k, rfl, p F' H' x⟩
  | xc c => rw [e] at p; exact p
  | bad => rw [e] at p; exact p
theorem je_cmp {o : CmpOp} {r : R2} {op : D → D → Option Bool} (ho : OpR X (compareOp o) r) (hr : C2Ok X.K cls r op) (ha : JE X cls W a fa) (hb : JE X cls W b fb) (hm : behindInMarks o b = false) : JE X cls W (.Compare a [o] [b] pos) (eB (tC2 op fa fb)) := by
  obtain ⟨ta, pa, da⟩ := ha.ex
  obtain ⟨tb, pb, db⟩ := hb.ex
  exact ⟨_, pe_cmpR ho pa pb hm, de_c2 hr da db⟩
theorem jt_cmp {o : CmpOp} {r : R2} {op : D → D → Option Bool} (ho : OpR X (compareOp o) r) (hr : C2Ok X.K cls r op) (ha : JE X cls W a fa) (hb : JE X cls W b fb) (hm : behindInMarks o b = false) : JT X cls W (.Compare a [o] [b] pos) (tC2 op fa fb) := by
  obtain ⟨ta, pa, da⟩ := ha.ex
  obtain ⟨tb, pb, db⟩ := hb.ex
  exact ⟨_, pt_cmpR ho pa pb hm, dt_of (de_c2 hr da db)⟩
end
end DL

namespace DL
open PySem L2
section
variable {K : PySem.W.Frag} {cls : Cls} {W : WX} {X : Cx} {a b c : Expr} {es : List Expr} {fa fb fc : Env → Res D} {ga gb : Env → Res Bool} {fs : Env → Res (List D)} {pos : Pos}
  {F H F1 H1 : Hp} {Q : VK} {σ : St}

def R1Ok (K : PySem.W.Frag) (cls : Cls) (r : V → Hp → VK → Prop) (op : D → Option D) : Prop :=
  ∀ F H x a d Q, Same F H → Bo K cls F H x a → op a = some d → (∀ v F' H' O', Ext F H F' H' → Fresh H O' → Tm K cls F' H' v d O' → Q v H') → r x H Q
def eUn (op : D → Option D) (fa : Env → Res D) : Env → Res D := fun g => (fa g).bind fun a => .of (op (opd a))
@[simp] theorem eUn_ (op : D → Option D) (fa : Env → Res D) (g : Env) : eUn op fa g = (fa g).bind fun a => .of (op (opd a)) := rfl
theorem de_un {r : V → Hp → VK → Prop} {op : D → Option D} {ta : TE} (hr : R1Ok K cls r op) (ha : DE K cls W ta fa) : DE K cls W (tUn r ta) (eUn op fa) := by
  intro σ F H g O Q s st p
  rw [eUn_] at p
  refine ha.toB σ F H g O _ s st ?_
  cases ea : fa g with
  | xc c => rw [ea] at p; rw [bF_xc ea]; exact p
  | bad => rw [ea] at p; exact p.elim
  | ok a =>
    rw [ea] at p
    rw [bF_ok ea]
    simp only [Res.bind] at p
    intro x F1 H1 x1 b1
    cases eo : op (opd a) with
    | none => rw [eo] at p; exact p.elim
    | some d =>
      rw [eo] at p
      exact hr F1 H1 x _ d Q x1.fh b1 eo fun v F' H' O' x3 fr tm => p v F' H' O' (x1.trans x3) (fr.mono x1.hh) tm
theorem je_un {o : UnaryOp} {r : V → Hp → VK → Prop} {op : D → Option D} (ho : UnR X (unaryOp o) r) (hr : R1Ok X.K cls r op) (ha : JE X cls W a fa) : JE X cls W (.UnaryOp o a pos) (eUn op fa) := by
  obtain ⟨ta, pa, da⟩ := ha.ex
  exact ⟨_, pe_un ho pa, de_un hr da⟩

def tru : D → Option Bool
  | .non => some false
  | .bl b => some b
  | .int i => some (i != 0)
  | .str y => if y.length ≤ 1000000 then some ((y.length : Int) != 0) else none
  | .sc xs => some (!xs.isEmpty)
  | .ls xs => some (!xs.isEmpty)
  | .bo xs => some (!xs.isEmpty)
  | .tp xs => some (!xs.isEmpty)
  | .bd ks xs => some (!ks.isEmpty)
  | _ => none
theorem Rps.empty {vs : List V} {ds : List D} (h : Rps K cls F vs ds) : (!vs.isEmpty) = !ds.isEmpty := by cases h <;> rfl
theorem Bos.empty {vs : List V} {ds : List D} (h : Bos K cls F H vs ds) : (!vs.isEmpty) = !ds.isEmpty := by cases h <;> rfl
theorem sameL {a : Addr} {xs : List V} (s : Same F H) (h : SqL K F a xs) : SqL K H a xs := s.seq h
theorem sameT {a : Addr} {xs : List V} (s : Same F H) (h : SqT K F a xs) : SqT K H a xs := by
  rcases h with (h | ⟨o, h⟩) | h
  · exact .inl (.inl (s _ _ h))
  · exact .inl (.inr ⟨o, s _ _ h⟩)
  · exact .inr h
theorem lim_line : (1000000 : Nat) < sizeLine := by rw [sizeLine_eq]; decide
theorem Bo.tru {v : V} {d : D} {k : Bool} (s : Same F H) (b : Bo K cls F H v d) (e : tru d = some k) : TruV K v H k := by
  cases b with
  | sh r =>
    cases r with
    | non => cases e; rfl
    | bl => cases e; rfl
    | int => cases e; rfl
    | str y =>
      have e : (if y.length ≤ 1000000 then some ((y.length : Int) != 0) else none) = some k := e
      split at e
      · rename_i hy
        cases e
        exact ⟨Nat.le_trans hy (Nat.le_of_lt lim_line), rfl⟩
      · cases e
    | sc h r => cases e; exact .inl ⟨_, sameL s h, r.empty.symm⟩
    | ls h r => cases e; exact .inl ⟨_, SqL.of (s _ _ h), r.empty.symm⟩
    | tp h r => cases e; exact .inr (.inl ⟨_, sameT s h, r.empty.symm⟩)
    | ob => cases e
    | rf => cases e
  | bo h r => cases e; exact .inl ⟨_, SqL.of h, r.empty.symm⟩
  | bd h l r =>
    cases e
    refine .inr (.inr ⟨_, h, ?_⟩)
    rename_i a ks vs ds
    cases ks <;> cases vs <;> first | rfl | (simp at l)
  | bb => cases e
def tTr (fa : Env → Res D) : Env → Res Bool := fun g => (fa g).bind fun a => .of (tru (opd a))
@[simp] theorem tTr_ (fa : Env → Res D) (g : Env) : tTr fa g = (fa g).bind fun a => .of (tru (opd a)) := rfl
theorem jt_truth (ha : JE X cls W a fa) (he : ∀ whole, isTrue a X.env whole = (do let v ← whole; standAt a.pos; holding [v] (truthy v)) := by intro _; rfl) : JT X cls W a (tTr fa) := by
  obtain ⟨ta, pa, da⟩ := ha.ex
  refine ⟨_, pt_truth pa he, ?_⟩
  intro σ F H g O Q s st p
  rw [tTr_] at p
  refine da.toB σ F H g O _ s st ?_
  cases ea : fa g with
  | xc c => rw [ea] at p; rw [bF_xc ea]; exact p
  | bad => rw [ea] at p; exact p.elim
  | ok a =>
    rw [ea] at p
    rw [bF_ok ea]
    simp only [Res.bind] at p
    intro x F1 H1 x1 b1
    cases eo : tru (opd a) with
    | none => rw [eo] at p; exact p.elim
    | some d =>
      rw [eo] at p
      exact ⟨d, b1.tru x1.fh eo, p F1 H1 x1⟩
def tAn (ga gb : Env → Res Bool) : Env → Res Bool := fun g => (ga g).bind fun k => if k = true then gb g else .ok false
def tOr_ (ga gb : Env → Res Bool) : Env → Res Bool := fun g => (ga g).bind fun k => if k = true then .ok true else gb g
def tNo (ga : Env → Res Bool) : Env → Res Bool := fun g => (ga g).bind fun k => .ok (!k)
@[simp] theorem tAn_ (ga gb : Env → Res Bool) (g : Env) : tAn ga gb g = (ga g).bind fun k => if k = true then gb g else .ok false := rfl
@[simp] theorem tOr__ (ga gb : Env → Res Bool) (g : Env) : tOr_ ga gb g = (ga g).bind fun k => if k = true then .ok true else gb g := rfl
@[simp] theorem tNo_ (ga : Env → Res Bool) (g : Env) : tNo ga g = (ga g).bind fun k => .ok (!k) := rfl
theorem DT.go {t : TT} (ha : DT K cls W t ga) {σ : St} {F H : Hp} {g : Env} {O : List Addr} {Q : Bool → Hp → Prop} (s : Same F H) (st : Sts K cls F H σ g O)
    (hx : ∀ c, ga g = .xc c → ∀ F' H', Ext F H F' H' → W (excV cls c) none σ H') (hb : ga g ≠ .bad) (hk : ∀ k, ga g = .ok k → ∀ F' H', Ext F H F' H' → Q k H') : t σ H Q := by
  refine ha σ F H g O Q s st ?_
  cases e : ga g with
  | ok k => exact hk k e
  | xc c => exact hx c e
  | bad => exact (hb e).elim
theorem dt_and {ta tb : TT} (ha : DT K cls W ta ga) (hb : DT K cls W tb gb) : DT K cls W (tAnd ta tb) (tAn ga gb) := by
  intro σ F H g O Q s st p
  rw [tAn_] at p
  refine ha.go s st (fun c e => by rw [e] at p; exact p) (fun e => by rw [e] at p; exact p) fun k e F1 H1 x => ?_
  rw [e] at p
  simp only [Res.bind] at p
  cases k with
  | true =>
    rw [if_pos rfl] at p
    rw [if_pos rfl]
    exact hb σ F1 H1 g O Q x.fh (st.ext x) (p.mono x)
  | false =>
    rw [if_neg (by decide)] at p
    rw [if_neg (by decide)]
    exact p F1 H1 x
theorem dt_or {ta tb : TT} (ha : DT K cls W ta ga) (hb : DT K cls W tb gb) : DT K cls W (tOr ta tb) (tOr_ ga gb) := by
  intro σ F H g O Q s st p
  rw [tOr__] at p
  refine ha.go s st (fun c e => by rw [e] at p; exact p) (fun e => by rw [e] at p; exact p) fun k e F1 H1 x => ?_
  rw [e] at p
  simp only [Res.bind] at p
  cases k with
  | true =>
    rw [if_pos rfl] at p
    rw [if_pos rfl]
    exact p F1 H1 x
  | false =>
    rw [if_neg (by decide)] at p
    rw [if_neg (by decide)]
    exact hb σ F1 H1 g O Q x.fh (st.ext x) (p.mono x)
theorem dt_not {ta : TT} (ha : DT K cls W ta ga) : DT K cls W (tNot ta) (tNo ga) := by
  intro σ F H g O Q s st p
  rw [tNo_] at p
  refine ha.go s st (fun c e => by rw [e] at p; exact p) (fun e => by rw [e] at p; exact p) fun k e F1 H1 x => ?_
  rw [e] at p
  exact p F1 H1 x
theorem jw_and1 (h : JT X cls W a ga) : JW X cls W (.BoolOp .And [a] pos) ga := by
  obtain ⟨ta, pa, da⟩ := h.ex
  exact ⟨_, pw_and1 pa, da⟩
theorem jw_or1 (h : JT X cls W a ga) : JW X cls W (.BoolOp .Or [a] pos) ga := by
  obtain ⟨ta, pa, da⟩ := h.ex
  exact ⟨_, pw_or1 pa, da⟩
theorem jw_and (h : JT X cls W a ga) (h2 : JW X cls W (.BoolOp .And (b :: es) pos) gb) : JW X cls W (.BoolOp .And (a :: b :: es) pos) (tAn ga gb) := by
  obtain ⟨ta, pa, da⟩ := h.ex
  obtain ⟨tb, pb, db⟩ := h2.ex
  exact ⟨_, pw_and pa pb, dt_and da db⟩
theorem jw_or (h : JT X cls W a ga) (h2 : JW X cls W (.BoolOp .Or (b :: es) pos) gb) : JW X cls W (.BoolOp .Or (a :: b :: es) pos) (tOr_ ga gb) := by
  obtain ⟨ta, pa, da⟩ := h.ex
  obtain ⟨tb, pb, db⟩ := h2.ex
  exact ⟨_, pw_or pa pb, dt_or da db⟩
theorem jt_w (h : JW X cls W a ga) : JT X cls W a ga := by
  obtain ⟨ta, pa, da⟩ := h.ex
  exact ⟨_, pa.pt, da⟩
theorem jt_not (h : JT X cls W a ga) : JT X cls W (.UnaryOp .Not a pos) (tNo ga) := by
  obtain ⟨ta, pa, da⟩ := h.ex
  exact ⟨_, pt_not pa, dt_not da⟩
theorem DE.goB {t : TE} (ha : DE K cls W t (eB ga)) {σ : St} {F H : Hp} {g : Env} {O : List Addr} {Q : VK} (s : Same F H) (st : Sts K cls F H σ g O)
    (hx : ∀ c, ga g = .xc c → ∀ F' H', Ext F H F' H' → W (excV cls c) none σ H') (hb : ga g ≠ .bad) (hk : ∀ k, ga g = .ok k → ∀ F' H', Ext F H F' H' → Q (.bl k) H') : t σ H Q := by
  refine ha σ F H g O Q s st ?_
  rw [eB_]
  cases e : ga g with
  | ok k =>
    intro v F' H' O' x fr tm
    have : v = .bl k := by
      rcases tm with t | ⟨t, _⟩
      · cases t with
        | sh r => cases r; rfl
      · cases t with
        | sh r => cases r; rfl
    subst this
    exact hk k e F' H' x
  | xc c => exact hx c e
  | bad => exact (hb e).elim
theorem PostE.bl {k : Bool} {g : Env} (p : PostE K cls W σ F H Q (.ok (.bl k))) (x : Ext F H F1 H1) : Q (.bl k) H1 := p _ F1 H1 [] x Fresh.nil (.inl (.sh (.bl k)))
theorem de_not {ta : TE} (ha : DE K cls W ta (eB ga)) : DE K cls W (tNotV ta) (eB (tNo ga)) := by
  intro σ F H g O Q s st p
  rw [eB_, tNo_] at p
  refine ha.goB s st (fun c e => by rw [e] at p; exact p) (fun e => by rw [e] at p; exact p) fun k e F1 H1 x => ?_
  rw [e] at p
  exact ⟨k, rfl, p _ F1 H1 [] x Fresh.nil (.inl (.sh (.bl (!k))))⟩
theorem je_not (h : JE X cls W a (eB ga)) : JE X cls W (.UnaryOp .Not a pos) (eB (tNo ga)) := by
  obtain ⟨ta, pa, da⟩ := h.ex
  exact ⟨_, pe_not pa, de_not da⟩
@[simp] def blv : D → Res Bool
  | .bl b => .ok b
  | _ => .bad
def tV (fa : Env → Res D) : Env → Res Bool := fun g => (fa g).bind blv
@[simp] theorem tV_ (fa : Env → Res D) (g : Env) : tV fa g = (fa g).bind blv := rfl
theorem je_tV (h : JE X cls W a fa) : JE X cls W a (eB (tV fa)) := by
  obtain ⟨ta, pa, da⟩ := h.ex
  refine ⟨ta, pa, ?_⟩
  intro σ F H g O Q s st p
  refine da σ F H g O Q s st ?_
  rw [eB_, tV_] at p
  cases e : fa g with
  | ok d =>
    rw [e] at p
    cases d <;> first | exact p | exact p.elim
  | xc c => rw [e] at p; exact p
  | bad => rw [e] at p; exact p
def eIf (ga : Env → Res Bool) (fa fb : Env → Res D) : Env → Res D := fun g => (ga g).bind fun k => if k = true then fa g else fb g
@[simp] theorem eIf_ (ga : Env → Res Bool) (fa fb : Env → Res D) (g : Env) : eIf ga fa fb g = (ga g).bind fun k => if k = true then fa g else fb g := rfl
theorem je_if (hc : JT X cls W c ga) (ha : JE X cls W a fa) (hb : JE X cls W b fb) : JE X cls W (.IfExp c a b pos) (eIf ga fa fb) := by
  obtain ⟨tc, pc, dc⟩ := hc.ex
  obtain ⟨ta, pa, da⟩ := ha.ex
  obtain ⟨tb, pb, db⟩ := hb.ex
  refine ⟨_, pe_ifExp pc pa pb, ?_⟩
  intro σ F H g O Q s st p
  rw [eIf_] at p
  refine dc.go s st (fun c e => by rw [e] at p; exact p) (fun e => by rw [e] at p; exact p) fun k e F1 H1 x => ?_
  rw [e] at p
  simp only [Res.bind] at p
  cases k with
  | true =>
    rw [if_pos rfl] at p
    rw [if_pos rfl]
    exact da σ F1 H1 g O Q x.fh (st.ext x) (p.mono x)
  | false =>
    rw [if_neg (by decide)] at p
    rw [if_neg (by decide)]
    exact db σ F1 H1 g O Q x.fh (st.ext x) (p.mono x)
def tCh (op op' : D → D → Option Bool) (fa fb fc : Env → Res D) : Env → Res Bool := fun g => (fa g).bind fun a => (fb g).bind fun b => (Res.of (op (opd a) (opd b))).bind fun k => if k = true then (fc g).bind fun c => .of (op' (opd b) (opd c)) else .ok false
@[simp] theorem tCh_ (op op' : D → D → Option Bool) (fa fb fc : Env → Res D) (g : Env) : tCh op op' fa fb fc g = (fa g).bind fun a => (fb g).bind fun b => (Res.of (op (opd a) (opd b))).bind fun k => if k = true then (fc g).bind fun c => .of (op' (opd b) (opd c)) else .ok false := rfl
theorem DE.go {t : TE} (ha : DE K cls W t fa) {σ : St} {F H : Hp} {g : Env} {O : List Addr} {Q : VK} (s : Same F H) (st : Sts K cls F H σ g O)
    (hx : ∀ c, fa g = .xc c → ∀ F' H', Ext F H F' H' → W (excV cls c) none σ H') (hb : fa g ≠ .bad) (hk : ∀ d, fa g = .ok d → ∀ v F' H', Ext F H F' H' → Bo K cls F' H' v (opd d) → Q v H') : t σ H Q := by
  refine ha.toB σ F H g O Q s st ?_
  cases e : fa g with
  | ok k => rw [bF_ok e]; exact hk k e
  | xc c => rw [bF_xc e]; exact hx c e
  | bad => exact (hb e).elim
theorem DE.goO {t : TE} (ha : DE K cls W t fa) {σ : St} {F H : Hp} {g : Env} {O : List Addr} {Q : VK} (s : Same F H) (st : Sts K cls F H σ g O)
    (hx : ∀ c, fa g = .xc c → ∀ F' H', Ext F H F' H' → W (excV cls c) none σ H') (hb : (fa g).bind kp ≠ .bad) (hk : ∀ d, (fa g).bind kp = .ok d → ∀ v F' H' O', Ext F H F' H' → Fresh H O' → Ow K cls F' H' v d O' → Q v H') : t σ H Q := by
  refine ha.toO σ F H g O Q s st ?_
  cases e : fa g with
  | ok k =>
    rw [oF_ok e]
    rw [e] at hb hk
    rcases kp_ok (d := k) with e2 | e2
    · rw [e2]; exact hk k e2
    · exact (hb e2).elim
  | xc c => rw [oF_xc e]; exact hx c e
  | bad => rw [e] at hb; exact (hb rfl).elim
theorem dt_chain {r r' : R2} {op op' : D → D → Option Bool} {ta tb tc : TE} (hr : C2Ok K cls r op) (hr' : C2Ok K cls r' op') (ha : DE K cls W ta fa) (hb : DE K cls W tb fb) (hc : DE K cls W tc fc) :
    DE K cls W (tChain r r' ta tb tc) (eB (tCh op op' fa fb fc)) := by
  intro σ F H g O Q s st p
  rw [eB_, tCh_] at p
  refine ha.go s st (fun c e => by rw [e] at p; exact p) (fun e => by rw [e] at p; exact p) fun da ea va F1 H1 x1 b1 => ?_
  rw [ea] at p
  simp only [Res.bind] at p
  refine hb.go x1.fh (st.ext x1) (fun c e F' H' x => by rw [e] at p; exact p F' H' (x1.trans x)) (fun e => by rw [e] at p; exact p) fun db eb vb F2 H2 x2 b2 => ?_
  rw [eb] at p
  simp only [] at p
  cases eo : op (opd da) (opd db) with
  | none => rw [eo] at p; exact p.elim
  | some k =>
    rw [eo] at p
    simp only [Res.of] at p
    refine hr F2 H2 va vb _ _ k _ x2.fh (b1.ext x2) b2 eo ⟨k, rfl, ?_⟩
    cases k with
    | true =>
      rw [if_pos rfl] at p
      rw [if_pos rfl]
      have x12 := x1.trans x2
      refine hc.go x2.fh ((st.ext x1).ext x2) (fun c e F' H' x => by rw [e] at p; exact p F' H' (x12.trans x)) (fun e => by rw [e] at p; exact p) fun dc ec vc F3 H3 x3 b3 => ?_
      rw [ec] at p
      simp only [] at p
      cases eo' : op' (opd db) (opd dc) with
      | none => rw [eo'] at p; exact p.elim
      | some k' =>
        rw [eo'] at p
        exact hr' F3 H3 vb vc _ _ k' _ x3.fh (b2.ext x3) b3 eo' (p _ F3 H3 [] (x12.trans x3) Fresh.nil (.inl (.sh (.bl k'))))
    | false =>
      rw [if_neg (by decide)] at p
      rw [if_neg (by decide)]
      exact p _ F2 H2 [] (x1.trans x2) Fresh.nil (.inl (.sh (.bl false)))
theorem jt_chain {o o' : CmpOp} {r r' : R2} {op op' : D → D → Option Bool} (ho : OpR X (compareOp o) r) (ho' : OpR X (compareOp o') r') (hr : C2Ok X.K cls r op) (hr' : C2Ok X.K cls r' op') (ha : JE X cls W a fa) (hb : JE X cls W b fb) (hc : JE X cls W c fc)
    (hm : lastMarks [o, o'] [b, c] = false := by with_unfolding_all rfl) : JT X cls W (.Compare a [o, o'] [b, c] pos) (tCh op op' fa fb fc) := by
  obtain ⟨ta, pa, da⟩ := ha.ex
  obtain ⟨tb, pb, db⟩ := hb.ex
  obtain ⟨tc, pc, dc⟩ := hc.ex
  exact ⟨_, pt_chain ho ho' pa pb pc hm, dt_of (dt_chain hr hr' da db dc)⟩
end
end DL

namespace DL
open PySem L2
def shd1 : D → Bool
  | .bo _ => false
  | .bd _ _ => false
  | .bb _ _ => false
  | _ => true
@[simp] theorem shd1_bo {b} : shd1 (.bo b) = false := rfl
@[simp] theorem shd1_bd {k b} : shd1 (.bd k b) = false := rfl
@[simp] theorem shd1_bb {k b} : shd1 (.bb k b) = false := rfl
@[simp] theorem shd1_un : shd1 .un = true := rfl
@[simp] theorem shd1_non : shd1 .non = true := rfl
@[simp] theorem shd1_bl {b} : shd1 (.bl b) = true := rfl
@[simp] theorem shd1_int {b} : shd1 (.int b) = true := rfl
@[simp] theorem shd1_str {b} : shd1 (.str b) = true := rfl
@[simp] theorem shd1_sc {b} : shd1 (.sc b) = true := rfl
@[simp] theorem shd1_ls {b} : shd1 (.ls b) = true := rfl
@[simp] theorem shd1_tp {b} : shd1 (.tp b) = true := rfl
@[simp] theorem shd1_ob {k b} : shd1 (.ob k b) = true := rfl
@[simp] theorem shd1_rf {b} : shd1 (.rf b) = true := rfl
def shd (l : List D) : Bool := l.all shd1
@[simp] theorem shd_nil : shd [] = true := rfl
@[simp] theorem shd_cons (d : D) (l : List D) : shd (d :: l) = (shd1 d && shd l) := rfl
@[simp] def lsv : D → Option (List D)
  | .ls xs => some xs
  | .bo xs => if shd xs = true then some xs else none
  | _ => none
@[simp] def sqL : D → Option (List D)
  | .ls xs => some xs
  | .sc xs => some xs
  | .bo xs => some xs
  | _ => none
@[simp] def sqK : D → Option (List D)
  | .ls xs => some xs
  | .sc xs => some xs
  | .bo xs => if shd xs = true then some xs else none
  | _ => none
@[simp] def intOf : D → Option Int
  | .int i => some i
  | _ => none
@[simp] def strOf : D → Option Str
  | .str i => some i
  | _ => none
@[simp] def blOf : D → Option Bool
  | .bl i => some i
  | _ => none
def intsOf : List D → Option (List Int)
  | [] => some []
  | d :: ds => match intOf d, intsOf ds with
    | some i, some is => some (i :: is)
    | _, _ => none
def strsOf : List D → Option (List Str)
  | [] => some []
  | d :: ds => match strOf d, strsOf ds with
    | some i, some is => some (i :: is)
    | _, _ => none
def blsOf : List D → Option (List Bool)
  | [] => some []
  | d :: ds => match blOf d, blsOf ds with
    | some i, some is => some (i :: is)
    | _, _ => none
theorem intsOf_eq : ∀ {ds : List D} {ns : List Int}, intsOf ds = some ns → ds = ns.map D.int
  | [], ns, h => by simp [intsOf] at h; subst h; rfl
  | d :: ds, ns, h => by
    unfold intsOf at h
    cases d <;> simp at h
    cases q : intsOf ds with
    | none => rw [q] at h; simp at h
    | some is => rw [q] at h; simp at h; subst h; rw [intsOf_eq q]; rfl
theorem strsOf_eq : ∀ {ds : List D} {ns : List Str}, strsOf ds = some ns → ds = ns.map D.str
  | [], ns, h => by simp [strsOf] at h; subst h; rfl
  | d :: ds, ns, h => by
    unfold strsOf at h
    cases d <;> simp at h
    cases q : strsOf ds with
    | none => rw [q] at h; simp at h
    | some is => rw [q] at h; simp at h; subst h; rw [strsOf_eq q]; rfl
theorem blsOf_eq : ∀ {ds : List D} {ns : List Bool}, blsOf ds = some ns → ds = ns.map D.bl
  | [], ns, h => by simp [blsOf] at h; subst h; rfl
  | d :: ds, ns, h => by
    unfold blsOf at h
    cases d <;> simp at h
    cases q : blsOf ds with
    | none => rw [q] at h; simp at h
    | some is => rw [q] at h; simp at h; subst h; rw [blsOf_eq q]; rfl
@[simp] theorem intsOf_map : ∀ ns : List Int, intsOf (ns.map D.int) = some ns
  | [] => rfl
  | n :: ns => by simp [intsOf, intsOf_map ns]
@[simp] theorem intsOf_nil : intsOf [] = some [] := rfl
@[simp] theorem intsOf_cons (i : Int) (ds : List D) : intsOf (.int i :: ds) = (intsOf ds).map (i :: ·) := by
  simp only [intsOf, intOf]; cases intsOf ds <;> rfl
@[simp] theorem strsOf_map : ∀ ns : List Str, strsOf (ns.map D.str) = some ns
  | [] => rfl
  | n :: ns => by simp [strsOf, strsOf_map ns]
@[simp] theorem strsOf_nil : strsOf [] = some [] := rfl
@[simp] theorem strsOf_cons (i : Str) (ds : List D) : strsOf (.str i :: ds) = (strsOf ds).map (i :: ·) := by
  simp only [strsOf, strOf]; cases strsOf ds <;> rfl
@[simp] theorem blsOf_map : ∀ ns : List Bool, blsOf (ns.map D.bl) = some ns
  | [] => rfl
  | n :: ns => by simp [blsOf, blsOf_map ns]
@[simp] theorem blsOf_nil : blsOf [] = some [] := rfl
@[simp] theorem blsOf_cons (i : Bool) (ds : List D) : blsOf (.bl i :: ds) = (blsOf ds).map (i :: ·) := by
  simp only [blsOf, blOf]; cases blsOf ds <;> rfl

section
variable {K : PySem.W.Frag} {cls : Cls} {W : WX} {X : Cx} {F H F' H' : Hp} {Q : VK} {σ : St}
theorem Rps.len {vs : List V} {ds : List D} (h : Rps K cls F vs ds) : vs.length = ds.length := by
  induction ds generalizing vs with
  | nil => cases h; rfl
  | cons d ds ih => cases h with | cons a b => simp [ih b]
theorem Bos.len {vs : List V} {ds : List D} (h : Bos K cls F H vs ds) : vs.length = ds.length := by
  induction ds generalizing vs with
  | nil => cases h; rfl
  | cons d ds ih => cases h with | cons a b => simp [ih b]
theorem Ows.len {vs : List V} {ds : List D} {O : List Addr} (h : Ows K cls F H vs ds O) : vs.length = ds.length := by
  induction ds generalizing vs O with
  | nil => cases h; rfl
  | cons d ds ih => cases h with | cons a b => simp [ih b]
theorem Rps.toBos {vs : List V} {ds : List D} (h : Rps K cls F vs ds) : Bos K cls F H vs ds := by
  induction ds generalizing vs with
  | nil => cases h; exact .nil
  | cons d ds ih => cases h with | cons a b => exact .cons (.sh a) (ih b)
theorem Rps.toOws {vs : List V} {ds : List D} (h : Rps K cls F vs ds) : Ows K cls F H vs ds [] := by
  induction ds generalizing vs with
  | nil => cases h; exact .nil
  | cons d ds ih => cases h with | cons a b => exact .cons (.sh a) (ih b) (fun _ q => (nomatch q)) rfl
theorem Bo.toRp {v : V} {d : D} (h : Bo K cls F H v d) (e : shd1 d = true) : Rp K cls F v d := by
  cases h with
  | sh r => exact r
  | bo => simp at e
  | bd => simp at e
  | bb => simp at e
theorem Bos.toRps {vs : List V} {ds : List D} (h : Bos K cls F H vs ds) (e : shd ds = true) : Rps K cls F vs ds := by
  induction ds generalizing vs with
  | nil => cases h; exact .nil
  | cons d ds ih =>
    cases h with
    | cons a b =>
      simp only [shd, List.all_cons, Bool.and_eq_true] at e
      exact .cons (a.toRp e.1) (ih b e.2)
theorem Bos.get : ∀ {vs : List V} {ds : List D} {i : Nat} {d : D}, Bos K cls F H vs ds → ds[i]? = some d → ∃ v, vs[i]? = some v ∧ Bo K cls F H v d
  | _, _, _, _, .nil, e => by simp at e
  | _, _, 0, _, .cons r _, e => by simp at e; subst e; exact ⟨_, rfl, r⟩
  | _, _, i + 1, _, .cons _ t, e => by
    obtain ⟨v, h1, h2⟩ := Bos.get (i := i) t (by simpa using e)
    exact ⟨v, by simpa using h1, h2⟩
theorem Rps.get : ∀ {vs : List V} {ds : List D} {i : Nat} {d : D}, Rps K cls F vs ds → ds[i]? = some d → ∃ v, vs[i]? = some v ∧ Rp K cls F v d
  | _, _, _, _, .nil, e => by simp at e
  | _, _, 0, _, .cons r _, e => by simp at e; subst e; exact ⟨_, rfl, r⟩
  | _, _, i + 1, _, .cons _ t, e => by
    obtain ⟨v, h1, h2⟩ := Rps.get (i := i) t (by simpa using e)
    exact ⟨v, by simpa using h1, h2⟩
theorem Rps.append : ∀ {vs ws : List V} {ds es : List D}, Rps K cls F vs ds → Rps K cls F ws es → Rps K cls F (vs ++ ws) (ds ++ es)
  | _, _, _, _, .nil, h => h
  | _, _, _, _, .cons a b, h => .cons a (b.append h)
theorem Rps.take : ∀ {vs : List V} {ds : List D} (n : Nat), Rps K cls F vs ds → Rps K cls F (vs.take n) (ds.take n)
  | _, _, 0, _ => by simp; exact .nil
  | _, _, n + 1, .nil => by simp; exact .nil
  | _, _, n + 1, .cons a b => .cons a (b.take n)
theorem Rps.drop : ∀ {vs : List V} {ds : List D} (n : Nat), Rps K cls F vs ds → Rps K cls F (vs.drop n) (ds.drop n)
  | _, _, 0, h => h
  | _, _, n + 1, .nil => by simp; exact .nil
  | _, _, n + 1, .cons a b => b.drop n
theorem Rps.reverse {vs : List V} {ds : List D} (h : Rps K cls F vs ds) : Rps K cls F vs.reverse ds.reverse := by
  induction ds generalizing vs with
  | nil => cases h; exact .nil
  | cons d ds ih =>
    cases h with
    | cons a b =>
      rw [List.reverse_cons, List.reverse_cons]
      exact (ih b).append (.cons a .nil)
theorem Rps.ints {vs : List V} : ∀ {ns : List Int}, Rps K cls F vs (ns.map D.int) → vs = ns.map V.int := by
  intro ns
  induction ns generalizing vs with
  | nil => intro h; cases h; rfl
  | cons n ns ih => intro h; cases h with | cons a b => cases a; rw [ih b]; rfl
theorem Bos.ints {vs : List V} : ∀ {ns : List Int}, Bos K cls F H vs (ns.map D.int) → vs = ns.map V.int := by
  intro ns
  induction ns generalizing vs with
  | nil => intro h; cases h; rfl
  | cons n ns ih => intro h; cases h with | cons a b => cases a with | sh a => cases a; rw [ih b]; rfl
theorem Bos.strs {vs : List V} : ∀ {ns : List Str}, Bos K cls F H vs (ns.map D.str) → vs = ns.map V.str := by
  intro ns
  induction ns generalizing vs with
  | nil => intro h; cases h; rfl
  | cons n ns ih => intro h; cases h with | cons a b => cases a with | sh a => cases a; rw [ih b]; rfl
theorem Bos.bls {vs : List V} : ∀ {ns : List Bool}, Bos K cls F H vs (ns.map D.bl) → vs = ns.map V.bl := by
  intro ns
  induction ns generalizing vs with
  | nil => intro h; cases h; rfl
  | cons n ns ih => intro h; cases h with | cons a b => cases a with | sh a => cases a; rw [ih b]; rfl
theorem rps_ints : ∀ {ns : List Int}, Rps K cls F (ns.map V.int) (ns.map D.int)
  | [] => .nil
  | n :: ns => .cons (.int n) rps_ints
theorem Bo.lsv {v : V} {d : D} {xs : List D} (s : Same F H) (b : Bo K cls F H v d) (e : lsv d = some xs) : ∃ a vs, v = .ref a ∧ H a = some (.lst vs) ∧ Rps K cls F vs xs := by
  cases b with
  | sh r => cases r <;> simp at e <;> (subst e; exact ⟨_, _, rfl, s _ _ (by assumption), by assumption⟩)
  | bo h r =>
    simp at e
    obtain ⟨e1, e2⟩ := e
    subst e2
    exact ⟨_, _, rfl, h, r.toRps (by simpa using e1)⟩
  | bd => simp at e
  | bb => simp at e
theorem Bo.sqL {v : V} {d : D} {xs : List D} (s : Same F H) (b : Bo K cls F H v d) (e : sqL d = some xs) : ∃ a vs, v = .ref a ∧ SqL K H a vs ∧ Bos K cls F H vs xs := by
  cases b with
  | sh r =>
    cases r <;> simp at e
    · subst e; exact ⟨_, _, rfl, s.seq (by assumption), Rps.toBos (by assumption)⟩
    · subst e; exact ⟨_, _, rfl, SqL.of (s _ _ (by assumption)), Rps.toBos (by assumption)⟩
  | bo h r => simp at e; subst e; exact ⟨_, _, rfl, SqL.of h, r⟩
  | bd => simp at e
  | bb => simp at e
theorem Bo.sqK {v : V} {d : D} {xs : List D} (s : Same F H) (b : Bo K cls F H v d) (e : sqK d = some xs) : ∃ a vs, v = .ref a ∧ SqL K H a vs ∧ Rps K cls F vs xs := by
  cases b with
  | sh r =>
    cases r <;> simp at e
    · subst e; exact ⟨_, _, rfl, s.seq (by assumption), by assumption⟩
    · subst e; exact ⟨_, _, rfl, SqL.of (s _ _ (by assumption)), by assumption⟩
  | bo h r =>
    simp at e
    obtain ⟨e1, e2⟩ := e
    subst e2
    exact ⟨_, _, rfl, SqL.of h, r.toRps (by simpa using e1)⟩
  | bd => simp at e
  | bb => simp at e
@[simp] def tpv : D → Option (List D)
  | .tp xs => some xs
  | _ => none
theorem Bo.tpv {v : V} {d : D} {xs : List D} (s : Same F H) (b : Bo K cls F H v d) (e : tpv d = some xs) : ∃ a vs, v = .ref a ∧ SqT K H a vs ∧ SqT K F a vs ∧ Rps K cls F vs xs := by
  cases b with
  | sh r => cases r <;> simp at e <;> (subst e; exact ⟨_, _, rfl, sameT s (by assumption), by assumption, by assumption⟩)
  | bo => simp at e
  | bd => simp at e
  | bb => simp at e
theorem Bo.int {v : V} {i : Int} (b : Bo K cls F H v (.int i)) : v = .int i := by cases b with | sh r => cases r; rfl
theorem Bo.str {v : V} {i : Str} (b : Bo K cls F H v (.str i)) : v = .str i := by cases b with | sh r => cases r; rfl
theorem Bo.bl {v : V} {i : Bool} (b : Bo K cls F H v (.bl i)) : v = .bl i := by cases b with | sh r => cases r; rfl
theorem Bo.non {v : V} (b : Bo K cls F H v .non) : v = .non := by cases b with | sh r => cases r; rfl

theorem upd_same' {a : Addr} {o : HO} (hn : H a = none) : Same H (upd H a o) := fun b u e => by rw [upd_ne (ne_of_none e hn)]; exact e
theorem Ext.own {a : Addr} {o : HO} (s : Same F H) (hn : H a = none) : Ext F H F (upd H a o) := ⟨.refl F, upd_same' hn, s.trans (upd_same' hn), fun _ h _ => h⟩
theorem Ext.put {a : Addr} {o : HO} (s : Same F H) (hn : H a = none) : Ext F H (upd F a o) (upd H a o) := by
  have hf : F a = none := by
    cases q : F a with
    | none => rfl
    | some u => rw [s a u q] at hn; cases hn
  refine ⟨upd_same' hf, upd_same' hn, fun b u e => ?_, fun b h1 h2 => ?_⟩
  · by_cases hb : b = a
    · subst hb; rw [upd_same] at e ⊢; exact e
    · rw [upd_ne hb] at e ⊢; exact s b u e
  · have hb : b ≠ a := fun z => h2 (by rw [z]; exact hn)
    rw [upd_ne hb]; exact h1
theorem ow_new {a : Addr} {vs : List V} {ds : List D} {O : List Addr} (s : Same F H) (hn : H a = none) (r : Ows K cls F H vs ds O) : Ow K cls F (upd H a (.lst vs)) (.ref a) (.ol ds) (a :: O) := by
  have hf : F a = none := by
    cases q : F a with
    | none => rfl
    | some u => rw [s a u q] at hn; cases hn
  have no : a ∉ O := fun q => (r.dom a q).2 hn
  exact .ol hf upd_same no (r.frame (.refl F) fun b hb => ⟨upd_ne fun z => no (z ▸ hb), (r.dom b hb).1⟩)
theorem fresh_new {a : Addr} (hn : H a = none) : Fresh H [a] := fun b hb => by simp at hb; subst hb; exact hn

@[simp] def mulOk (i j : Int) : Prop := ((-(2 ^ 64) < i ∧ i < 2 ^ 64) ∨ (-(2 ^ 64) < j ∧ j < 2 ^ 64)) ∨ i.natAbs.log2 + j.natAbs.log2 < 100000000
def divOk (j : Int) : Prop := j ≠ 0 ∧ (j.natAbs < 1073741824 ∨ j.natAbs.log2 < 9000)
instance (i j : Int) : Decidable (mulOk i j) := by unfold mulOk; infer_instance
instance (j : Int) : Decidable (divOk j) := by unfold divOk; infer_instance
instance (i j : Int) : Decidable (CPow i j) := by unfold CPow; infer_instance
def lim : Nat := 1000000
theorem lim_ok {n : Nat} (h : n ≤ lim) : n ≤ sizeLine := Nat.le_trans h (Nat.le_of_lt lim_line)
theorem lim_lt {n : Nat} (h : n < lim) : n < sizeLine := Nat.lt_trans h lim_line

def opAddL (a b : D) : Option D := match lsv a, lsv b with
    | some xs, some ys => if xs.length + ys.length ≤ lim then some (.ol (xs ++ ys)) else none
    | _, _ => none
def opAdd : D → D → Option D
  | .int i, .int j => some (.int (i + j))
  | .str x, .str y => if x.length + y.length ≤ lim then some (.str (x ++ y)) else none
  | .tp xs, .tp ys => if xs.length + ys.length ≤ lim then some (.tp (xs ++ ys)) else none
  | a, b => opAddL a b
def opSub : D → D → Option D
  | .int i, .int j => some (.int (i - j))
  | _, _ => none
def opMul : D → D → Option D
  | .int i, .int j => if mulOk i j then some (.int (i * j)) else none
  | a, .int k => match lsv a with
    | some xs => if k < 2 ^ 63 ∧ -(2 ^ 63) ≤ k ∧ xs.length * k.toNat ≤ lim then some (.ol (List.replicate k.toNat xs).flatten) else none
    | none => none
  | _, _ => none
def opDiv : D → D → Option D
  | .int i, .int j => if divOk j then some (.int (if 0 < j then i / j else i.fdiv j)) else none
  | _, _ => none
def opMod : D → D → Option D
  | .int i, .int j => if j ≠ 0 then some (.int (if 0 < j then i % j else i.fmod j)) else none
  | _, _ => none
def opPow : D → D → Option D
  | .int i, .int j => if CPow i j then some (.int (i ^ j.toNat)) else none
  | _, _ => none
def opNeg : D → Option D
  | .int i => some (.int (-i))
  | _ => none
def rAdd4 (K : PySem.W.Frag) : R2 := fun x y H Q => ((rI0 fun i j => .int (i + j)) x y H Q ∨ (∃ i j, x = .str i ∧ y = .str j ∧ i.length + j.length ≤ sizeLine ∧ Q (.str (i ++ j)) H)) ∨ (rCat x y H Q ∨ rCatA K x y H Q)
theorem op_add4 : OpR X (binaryOp .Add) (rAdd4 X.K) := (op_add.or op_add_str).or (op_cat.or op_catA)
theorem pi1 {v : V} {d : D} (s : Same F H) (r : Rp K cls F v d) (q : ∀ v F' H' O', Ext F H F' H' → Fresh H O' → Tm K cls F' H' v d O' → Q v H') : Q v H := q v F H [] (.refl s) Fresh.nil (.inl (.sh r))
theorem ok_add : R2Ok K cls (rAdd4 K) opAdd := by
  intro F H x y a b d Q s b1 b2 e q
  unfold opAdd at e
  split at e
  · cases e
    obtain rfl := b1.int
    obtain rfl := b2.int
    exact .inl (.inl ⟨_, _, rfl, rfl, pi1 s (.int _) q⟩)
  · split at e
    · rename_i h
      cases e
      obtain rfl := b1.str
      obtain rfl := b2.str
      exact .inl (.inr ⟨_, _, rfl, rfl, lim_ok h, pi1 s (.str _) q⟩)
    · cases e
  · rename_i xs ys
    split at e
    · rename_i h
      cases e
      obtain ⟨a1, vs, rfl, h1, f1, r1⟩ := b1.tpv s (xs := xs) rfl
      obtain ⟨a2, ws, rfl, h2, f2, r2⟩ := b2.tpv s (xs := ys) rfl
      have l1 := r1.len
      have l2 := r2.len
      refine .inr (.inr ⟨_, _, vs, ws, rfl, rfl, h1, h2, lim_ok (by rw [l1, l2]; exact h), fun e => ?_, fun e1 e2 => ?_, fun e1 e2 p hp => ?_⟩)
      · subst e
        cases r1
        exact pi1 s (.tp f2 r2) q
      · subst e2
        cases r2
        rw [List.append_nil] at q
        exact pi1 s (.tp f1 r1) q
      · exact q _ _ _ [] (Ext.put s hp) Fresh.nil (.inl (.sh (.tp (SqT.of upd_same) ((r1.append r2).mono (Ext.put s hp).ff))))
    · cases e
  · unfold opAddL at e
    split at e
    · rename_i xs ys q1 q2
      split at e
      · rename_i h
        cases e
        obtain ⟨a1, vs, rfl, h1, r1⟩ := b1.lsv s q1
        obtain ⟨a2, ws, rfl, h2, r2⟩ := b2.lsv s q2
        refine .inr (.inl ⟨_, _, _, _, rfl, rfl, h1, h2, lim_ok (by rw [r1.len, r2.len]; exact h), fun p hp => ?_⟩)
        exact q _ _ _ [p] (Ext.own s hp) (fresh_new hp) (.inl (ow_new s hp (r1.append r2).toOws))
      · cases e
    · cases e
theorem ok_sub : R2Ok K cls (rI0 fun i j => .int (i - j)) opSub := by
  intro F H x y a b d Q s b1 b2 e q
  unfold opSub at e
  split at e
  · cases e
    obtain rfl := b1.int
    obtain rfl := b2.int
    exact ⟨_, _, rfl, rfl, pi1 s (.int _) q⟩
  · cases e
theorem mulW_ok {a b : Int} (h : a.natAbs.log2 + b.natAbs.log2 < 100000000) : IntMulOk a b := by
  unfold IntMulOk Builtin.Int.intTooBig
  have h1 : ∀ z : Int, Builtin.Int.intBits z ≤ z.natAbs.log2 + 1 := fun z => by unfold Builtin.Int.intBits; split <;> omega
  have h3 := h1 a
  have h4 := h1 b
  have h5 := bitsLine_eq
  simp only [Bool.and_eq_true, decide_eq_true_eq]
  omega
theorem op_mulX : OpR X (binaryOp .Mult) (rI mulOk fun i j => .int (i * j)) := opI fun _ _ _ _ _ _ _ hc q => PyProof.Rows.mul_int q (by
  rcases hc with hc | hc
  · exact CMul.ok hc
  · exact mulW_ok hc)
theorem op_mul4 : OpR X (binaryOp .Mult) (fun x y H Q => (rI mulOk fun i j => .int (i * j)) x y H Q ∨ rRep x y H Q) := op_mulX.or op_rep
theorem Rps.rep {vs : List V} {ds : List D} (h : Rps K cls F vs ds) : ∀ k : Nat, Rps K cls F (List.replicate k vs).flatten (List.replicate k ds).flatten
  | 0 => by simp; exact .nil
  | k + 1 => by rw [List.replicate_succ, List.replicate_succ, List.flatten_cons, List.flatten_cons]; exact h.append (h.rep k)
theorem ok_mul : R2Ok K cls (fun x y H Q => (rI mulOk fun i j => .int (i * j)) x y H Q ∨ rRep x y H Q) opMul := by
  intro F H x y a b d Q s b1 b2 e q
  unfold opMul at e
  split at e
  · split at e
    · rename_i h
      cases e
      obtain rfl := b1.int
      obtain rfl := b2.int
      exact .inl ⟨_, _, rfl, rfl, h, pi1 s (.int _) q⟩
    · cases e
  · split at e
    · rename_i xs q1
      split at e
      · rename_i h
        cases e
        obtain rfl := b2.int
        obtain ⟨a1, vs, rfl, h1, r1⟩ := b1.lsv s q1
        refine .inr ⟨_, _, _, rfl, rfl, h1, h.2.1, h.1, lim_ok (by rw [r1.len]; exact h.2.2), fun p hp => ?_⟩
        exact q _ _ _ [p] (Ext.own s hp) (fresh_new hp) (.inl (ow_new s hp (r1.rep _).toOws))
      · cases e
    · cases e
  · cases e
theorem op_divX : OpR X (binaryOp .FloorDiv) (rI (fun _ j => divOk j) fun i j => .int (if 0 < j then i / j else i.fdiv j)) := opI fun i j _ _ _ _ _ hc q => by
  have e : (if 0 < j then i / j else i.fdiv j) = i.fdiv j := by
    split
    · rw [Int.fdiv_eq_ediv_of_nonneg i (by omega)]
    · rfl
  rw [e] at q
  rcases hc with ⟨h0, h | h⟩
  · exact PyProof.Rows.floordiv_int h0 q (.inl (PyProof.noPylong_small h))
  · exact PyProof.Rows.floordiv_int h0 q (.inl (PyProof.noPylong_of_log2 h))
theorem ok_div : R2Ok K cls (rI (fun _ j => divOk j) fun i j => .int (if 0 < j then i / j else i.fdiv j)) opDiv := by
  intro F H x y a b d Q s b1 b2 e q
  unfold opDiv at e
  split at e
  · rename_i i j
    by_cases h : divOk j
    · rw [if_pos h] at e
      cases e
      obtain rfl := b1.int
      obtain rfl := b2.int
      exact ⟨_, _, rfl, rfl, h, pi1 s (.int _) q⟩
    · rw [if_neg h] at e; cases e
  · cases e
theorem op_modX : OpR X (binaryOp .Mod) (rI (fun _ j => j ≠ 0) fun i j => .int (if 0 < j then i % j else i.fmod j)) := opI fun i j _ _ _ _ _ hc q => by
  have e : (if 0 < j then i % j else i.fmod j) = i.fmod j := by
    split
    · rw [Int.fmod_eq_emod_of_nonneg i (by omega)]
    · rfl
  rw [e] at q
  exact PyProof.Rows.mod_int' hc q
theorem ok_mod : R2Ok K cls (rI (fun _ j => j ≠ 0) fun i j => .int (if 0 < j then i % j else i.fmod j)) opMod := by
  intro F H x y a b d Q s b1 b2 e q
  unfold opMod at e
  split at e
  · rename_i i j
    by_cases h : j ≠ 0
    · rw [if_pos h] at e
      cases e
      obtain rfl := b1.int
      obtain rfl := b2.int
      exact ⟨_, _, rfl, rfl, h, pi1 s (.int _) q⟩
    · rw [if_neg h] at e; cases e
  · cases e
theorem ok_pow : R2Ok K cls (rI CPow fun i j => .int (i ^ j.toNat)) opPow := by
  intro F H x y a b d Q s b1 b2 e q
  unfold opPow at e
  split at e
  · rename_i i j
    by_cases h : CPow i j
    · rw [if_pos h] at e
      cases e
      obtain rfl := b1.int
      obtain rfl := b2.int
      exact ⟨_, _, rfl, rfl, h, pi1 s (.int _) q⟩
    · rw [if_neg h] at e; cases e
  · cases e
theorem ok_neg : R1Ok K cls (rU fun i => .int (-i)) opNeg := by
  intro F H x a d Q s b1 e q
  unfold opNeg at e
  split at e
  · cases e
    obtain rfl := b1.int
    exact ⟨_, rfl, pi1 s (.int _) q⟩
  · cases e

def cLt : D → D → Option Bool
  | .int i, .int j => some (decide (i < j))
  | _, _ => none
def cLe : D → D → Option Bool
  | .int i, .int j => some (decide (i ≤ j))
  | _, _ => none
def cGt : D → D → Option Bool
  | .int i, .int j => some (decide (j < i))
  | _, _ => none
def cGe : D → D → Option Bool
  | .int i, .int j => some (decide (j ≤ i))
  | _, _ => none
theorem ok_lt : C2Ok K cls (rI0 fun i j => .bl (decide (i < j))) cLt := by
  intro F H x y a b d Q s b1 b2 e q
  unfold cLt at e
  split at e
  · cases e
    obtain rfl := b1.int
    obtain rfl := b2.int
    exact ⟨_, _, rfl, rfl, q⟩
  · cases e
theorem ok_le : C2Ok K cls (rI0 fun i j => .bl (decide (i ≤ j))) cLe := by
  intro F H x y a b d Q s b1 b2 e q
  unfold cLe at e
  split at e
  · cases e
    obtain rfl := b1.int
    obtain rfl := b2.int
    exact ⟨_, _, rfl, rfl, q⟩
  · cases e
theorem ok_gt : C2Ok K cls (rI0 fun i j => .bl (decide (j < i))) cGt := by
  intro F H x y a b d Q s b1 b2 e q
  unfold cGt at e
  split at e
  · cases e
    obtain rfl := b1.int
    obtain rfl := b2.int
    exact ⟨_, _, rfl, rfl, q⟩
  · cases e
theorem ok_ge : C2Ok K cls (rI0 fun i j => .bl (decide (j ≤ i))) cGe := by
  intro F H x y a b d Q s b1 b2 e q
  unfold cGe at e
  split at e
  · cases e
    obtain rfl := b1.int
    obtain rfl := b2.int
    exact ⟨_, _, rfl, rfl, q⟩
  · cases e
mutual
def toPy : D → Option PyData
  | .non => some .none
  | .bl b => some (.bool b)
  | .int i => some (.int i)
  | .str x => some (.str x)
  | .sc xs => (toPys xs).map .list
  | .ls xs => (toPys xs).map .list
  | .bo xs => (toPys xs).map .list
  | .tp xs => (toPys xs).map .tuple
  | _ => none
def toPys : List D → Option (List PyData)
  | [] => some []
  | d :: ds => match toPy d, toPys ds with
    | some p, some ps => some (p :: ps)
    | _, _ => none
end
mutual
theorem Rp.dp (s : Same F H) : ∀ {v : V} {d : D} {p : PyData}, Rp K cls F v d → toPy d = some p → Dp K H v p
  | _, _, _, .non, e => by simp [toPy] at e; subst e; exact .non
  | _, _, _, .bl b, e => by simp [toPy] at e; subst e; exact .bl b
  | _, _, _, .int b, e => by simp [toPy] at e; subst e; exact .int b
  | _, _, _, .str b, e => by simp [toPy] at e; subst e; exact .str b
  | _, _, _, .sc (ds := ds) h r, e => by
    simp [toPy] at e
    obtain ⟨ps, e1, e2⟩ := e
    subst e2
    exact .lst (s.seq h) (Rps.dp s r e1)
  | _, _, _, .ls (ds := ds) h r, e => by
    simp [toPy] at e
    obtain ⟨ps, e1, e2⟩ := e
    subst e2
    exact .lst (SqL.of (s _ _ h)) (Rps.dp s r e1)
  | _, _, _, .tp (ds := ds) h r, e => by
    simp [toPy] at e
    obtain ⟨ps, e1, e2⟩ := e
    subst e2
    exact .tup (sameT s h) (Rps.dp s r e1)
  | _, _, _, .ob .., e => by simp [toPy] at e
theorem Rps.dp (s : Same F H) : ∀ {v : List V} {d : List D} {p : List PyData}, Rps K cls F v d → toPys d = some p → DpAll K H v p
  | _, _, _, .nil, e => by simp [toPys] at e; subst e; exact .nil
  | _, _, _, .cons (d := d) (ds := ds) a b, e => by
    unfold toPys at e
    cases q1 : toPy d with
    | none => rw [q1] at e; cases e
    | some p =>
      cases q2 : toPys ds with
      | none => rw [q1, q2] at e; cases e
      | some ps =>
        rw [q1, q2] at e
        cases e
        exact .cons (Rp.dp s a q1) (Rps.dp s b q2)
end
mutual
theorem Bo.dp (s : Same F H) : ∀ {v : V} {d : D} {p : PyData}, Bo K cls F H v d → toPy d = some p → Dp K H v p
  | _, _, _, .sh r, e => r.dp s e
  | _, _, _, .bo (ds := ds) h r, e => by
    simp [toPy] at e
    obtain ⟨ps, e1, e2⟩ := e
    subst e2
    exact .lst (SqL.of h) (Bos.dp s r e1)
  | _, _, _, .bd .., e => by simp [toPy] at e
theorem Bos.dp (s : Same F H) : ∀ {v : List V} {d : List D} {p : List PyData}, Bos K cls F H v d → toPys d = some p → DpAll K H v p
  | _, _, _, .nil, e => by simp [toPys] at e; subst e; exact .nil
  | _, _, _, .cons (d := d) (ds := ds) a b, e => by
    unfold toPys at e
    cases q1 : toPy d with
    | none => rw [q1] at e; cases e
    | some p =>
      cases q2 : toPys ds with
      | none => rw [q1, q2] at e; cases e
      | some ps =>
        rw [q1, q2] at e
        cases e
        exact .cons (Bo.dp s a q1) (Bos.dp s b q2)
end
def pyEq (a b : D) : Option Bool := match toPy a, toPy b with
  | some p, some q => if SeqAt.shaped p = true ∧ SeqAt.shaped q = true then some (PyData.eqv p q) else none
  | _, _ => none
def cEq : D → D → Option Bool
  | .int i, .int j => some (decide (i = j))
  | .str i, .str j => some (decide (i = j))
  | .bl i, .bl j => some (decide (i = j))
  | .non, .non => some true
  | .non, .int _ => some false
  | .int _, .non => some false
  | .int _, .str _ => some false
  | .str _, .int _ => some false
  | .non, .str _ => some false
  | .str _, .non => some false
  | a, b => pyEq a b
def cNe (a b : D) : Option Bool := (cEq a b).map (!·)
theorem cEq_ok {x y : V} {a b : D} {k : Bool} (s : Same F H) (b1 : Bo K cls F H x a) (b2 : Bo K cls F H y b) (e : cEq a b = some k) :
    (scal x y = true ∧ decide (x = y) = k) ∨ ∃ d e, Dp K H x d ∧ Dp K H y e ∧ SeqAt.shaped d = true ∧ SeqAt.shaped e = true ∧ PyData.eqv d e = k := by
  have py : ∀ {a b : D}, Bo K cls F H x a → Bo K cls F H y b → pyEq a b = some k → ∃ d e, Dp K H x d ∧ Dp K H y e ∧ SeqAt.shaped d = true ∧ SeqAt.shaped e = true ∧ PyData.eqv d e = k := fun {a b} b1 b2 e => by
    unfold pyEq at e
    split at e
    · rename_i p q h1 h2
      split at e
      · rename_i h
        cases e
        exact ⟨p, q, b1.dp s h1, b2.dp s h2, h.1, h.2, rfl⟩
      · cases e
    · cases e
  unfold cEq at e
  split at e
  · cases e; obtain rfl := b1.int; obtain rfl := b2.int; exact .inl ⟨rfl, by simp⟩
  · cases e; obtain rfl := b1.str; obtain rfl := b2.str; exact .inl ⟨rfl, by simp⟩
  · cases e; obtain rfl := b1.bl; obtain rfl := b2.bl; exact .inl ⟨rfl, by simp⟩
  · cases e; obtain rfl := b1.non; obtain rfl := b2.non; exact .inl ⟨rfl, by simp⟩
  · cases e; obtain rfl := b1.non; obtain rfl := b2.int; exact .inl ⟨rfl, by simp⟩
  · cases e; obtain rfl := b1.int; obtain rfl := b2.non; exact .inl ⟨rfl, by simp⟩
  · cases e; obtain rfl := b1.int; obtain rfl := b2.str; exact .inl ⟨rfl, by simp⟩
  · cases e; obtain rfl := b1.str; obtain rfl := b2.int; exact .inl ⟨rfl, by simp⟩
  · cases e; obtain rfl := b1.non; obtain rfl := b2.str; exact .inl ⟨rfl, by simp⟩
  · cases e; obtain rfl := b1.str; obtain rfl := b2.non; exact .inl ⟨rfl, by simp⟩
  · exact .inr (py b1 b2 e)
theorem ok_eq : C2Ok K cls (fun x y H Q => rEq x y H Q ∨ rEqD K x y H Q) cEq := by
  intro F H x y a b d Q s b1 b2 e q
  rcases cEq_ok s b1 b2 e with ⟨h1, h2⟩ | ⟨p, r, h1, h2, h3, h4, h5⟩
  · exact .inl ⟨h1, by rw [h2]; exact q⟩
  · exact .inr ⟨p, r, h1, h2, h3, h4, by rw [h5]; exact q⟩
theorem ok_ne : C2Ok K cls (fun x y H Q => rNe x y H Q ∨ rNeD K x y H Q) cNe := by
  intro F H x y a b d Q s b1 b2 e q
  unfold cNe at e
  cases e0 : cEq a b with
  | none => rw [e0] at e; cases e
  | some k =>
    rw [e0] at e
    cases e
    rcases cEq_ok s b1 b2 e0 with ⟨h1, h2⟩ | ⟨p, r, h1, h2, h3, h4, h5⟩
    · exact .inl ⟨h1, by rw [h2]; exact q⟩
    · exact .inr ⟨p, r, h1, h2, h3, h4, by rw [h5]; exact q⟩
theorem op_eq4 (hu : X.A.units + 64 < cLine) : OpR X (compareOp .Eq) (fun x y H Q => rEq x y H Q ∨ rEqD X.K x y H Q) := op_eq.or (op_eqD hu)
theorem op_ne4 (hu : X.A.units + 64 < cLine) : OpR X (compareOp .NotEq) (fun x y H Q => rNe x y H Q ∨ rNeD X.K x y H Q) := op_ne.or (op_neD hu)
def cIsN : D → D → Option Bool
  | .un, _ => none
  | a, .non => some (match a with | .non => true | _ => false)
  | _, _ => none
def cNotN (a b : D) : Option Bool := (cIsN a b).map (!·)
theorem cIsN_ok {x y : V} {a b : D} {k : Bool} (b1 : Bo K cls F H x a) (b2 : Bo K cls F H y b) (e : cIsN a b = some k) : y = .non ∧ decide (x = .non) = k := by
  unfold cIsN at e
  split at e
  · cases e
  · obtain rfl := b2.non
    refine ⟨rfl, ?_⟩
    cases e
    cases b1 with
    | sh r => cases r <;> simp
    | bo => simp
    | bd => simp
    | bb => simp
  · cases e
theorem ok_isN : C2Ok K cls (fun x y H Q => y = .non ∧ Q (.bl (decide (x = .non))) H) cIsN := by
  intro F H x y a b d Q s b1 b2 e q
  obtain ⟨h1, h2⟩ := cIsN_ok b1 b2 e
  exact ⟨h1, by rw [h2]; exact q⟩
end
end DL

namespace DL
open PySem L2
section
variable {K : PySem.W.Frag} {cls : Cls} {W : WX} {X : Cx} {F H F' H' : Hp} {Q : VK} {σ : St} {a b c e : Expr} {es : List Expr} {fa fb fc : Env → Res D} {ga gb : Env → Res Bool} {fs : Env → Res (List D)} {pos : Pos}

theorem inV_ints (i : Int) (ns : List Int) : inV (.int i) (ns.map V.int) = decide (i ∈ ns) := by
  induction ns with
  | nil => rfl
  | cons n ns ih =>
    unfold inV at ih ⊢
    rw [List.map_cons, List.any_cons, ih]
    have : eqV (.int n) (.int i) = decide (i = n) := by
      show (n == i) = decide (i = n)
      by_cases h : n = i
      · subst h; simp
      · have h' : ¬ i = n := fun q => h q.symm
        simp [h, h']
    rw [this, ← Bool.decide_or]
    simp
theorem inV_strs (i : Str) (ns : List Str) : inV (.str i) (ns.map V.str) = decide (i ∈ ns) := by
  induction ns with
  | nil => rfl
  | cons n ns ih =>
    unfold inV at ih ⊢
    rw [List.map_cons, List.any_cons, ih]
    have : eqV (.str n) (.str i) = decide (i = n) := by
      show (n == i) = decide (i = n)
      by_cases h : n = i
      · subst h; simp
      · have h' : ¬ i = n := fun q => h q.symm
        simp [h, h']
    rw [this, ← Bool.decide_or]
    simp
@[simp] def sqA : D → Option (List D)
  | .ls xs => some xs
  | .sc xs => some xs
  | .bo xs => some xs
  | .tp xs => some xs
  | _ => none
def cIn : D → D → Option Bool
  | .int i, s => match sqA s with
    | some xs => match intsOf xs with
      | some ns => some (decide (i ∈ ns))
      | none => none
    | none => none
  | .str i, s => match sqA s with
    | some xs => match strsOf xs with
      | some ns => some (decide (i ∈ ns))
      | none => none
    | none => none
  | _, _ => none
def cNIn (a b : D) : Option Bool := (cIn a b).map (!·)
theorem Bo.sqA {v : V} {d : D} {xs : List D} (s : Same F H) (b : Bo K cls F H v d) (e : sqA d = some xs) : ∃ a vs, v = .ref a ∧ (SqL K H a vs ∨ SqT K H a vs) ∧ Bos K cls F H vs xs := by
  cases d with
  | tp ys => obtain ⟨a, vs, e1, h1, h2, r⟩ := b.tpv s (xs := xs) (by simpa using e); exact ⟨a, vs, e1, .inr h1, r.toBos⟩
  | ls ys => obtain ⟨a, vs, e1, h1, r⟩ := b.sqL s (xs := xs) (by simpa using e); exact ⟨a, vs, e1, .inl h1, r⟩
  | sc ys => obtain ⟨a, vs, e1, h1, r⟩ := b.sqL s (xs := xs) (by simpa using e); exact ⟨a, vs, e1, .inl h1, r⟩
  | bo ys => obtain ⟨a, vs, e1, h1, r⟩ := b.sqL s (xs := xs) (by simpa using e); exact ⟨a, vs, e1, .inl h1, r⟩
  | _ => simp at e
theorem flat_ints (ns : List Int) : (ns.map V.int).all flatV = true := by
  induction ns with
  | nil => rfl
  | cons n ns ih => rw [List.map_cons, List.all_cons, ih]; rfl
theorem flat_strs (ns : List Str) : (ns.map V.str).all flatV = true := by
  induction ns with
  | nil => rfl
  | cons n ns ih => rw [List.map_cons, List.all_cons, ih]; rfl
theorem cIn_ok {x y : V} {a b : D} {k : Bool} (s : Same F H) (b1 : Bo K cls F H x a) (b2 : Bo K cls F H y b) (e : cIn a b = some k) :
    ∃ p xs, y = .ref p ∧ (SqL K H p xs ∨ SqT K H p xs) ∧ flatV x = true ∧ xs.all flatV = true ∧ inV x xs = k := by
  unfold cIn at e
  split at e
  · split at e
    · rename_i xs h1
      split at e
      · rename_i ns h2
        cases e
        obtain rfl := b1.int
        obtain ⟨p, vs, rfl, h3, r⟩ := b2.sqA s h1
        rw [intsOf_eq h2] at r
        rw [r.ints] at h3
        exact ⟨p, _, rfl, h3, rfl, flat_ints ns, inV_ints _ _⟩
      · cases e
    · cases e
  · split at e
    · rename_i xs h1
      split at e
      · rename_i ns h2
        cases e
        obtain rfl := b1.str
        obtain ⟨p, vs, rfl, h3, r⟩ := b2.sqA s h1
        rw [strsOf_eq h2] at r
        rw [r.strs] at h3
        exact ⟨p, _, rfl, h3, rfl, flat_strs ns, inV_strs _ _⟩
      · cases e
    · cases e
  · cases e
theorem ok_in : C2Ok K cls (rIn K false) cIn := by
  intro F H x y a b d Q s b1 b2 e q
  obtain ⟨p, xs, e1, h1, h2, h3, h4⟩ := cIn_ok s b1 b2 e
  exact ⟨p, xs, e1, h1, h2, h3, by rw [if_neg (by decide), h4]; exact q⟩
theorem ok_nin : C2Ok K cls (rIn K true) cNIn := by
  intro F H x y a b d Q s b1 b2 e q
  unfold cNIn at e
  cases e0 : cIn a b with
  | none => rw [e0] at e; cases e
  | some k =>
    rw [e0] at e
    cases e
    obtain ⟨p, xs, e1, h1, h2, h3, h4⟩ := cIn_ok s b1 b2 e0
    exact ⟨p, xs, e1, h1, h2, h3, by rw [if_pos rfl, h4]; exact q⟩

def opIx : D → D → Option D
  | .str z, .int i => if z.length ≤ lim then (atI z.cps.toList i).map fun c => .str ⟨#[c]⟩ else none
  | a, .int i => match sqA a with
    | some xs => atI xs i
    | none => none
  | _, _ => none
theorem atI_some {α : Type} {xs : List α} {i : Int} {d : α} (h : atI xs i = some d) : ∃ j, ixN xs.length i = some j ∧ xs[j]? = some d := by
  unfold atI at h
  cases q : ixN xs.length i with
  | none => rw [q] at h; cases h
  | some j => rw [q] at h; exact ⟨j, rfl, h⟩
theorem Bos.at {vs : List V} {ds : List D} {i : Int} {d : D} (h : Bos K cls F H vs ds) (e : atI ds i = some d) : ∃ v, atI vs i = some v ∧ Bo K cls F H v d := by
  obtain ⟨j, h1, h2⟩ := atI_some e
  obtain ⟨v, h3, h4⟩ := h.get h2
  refine ⟨v, ?_, h4⟩
  unfold atI
  rw [h.len, h1]
  exact h3
theorem ok_ix : R2Ok K cls (rIx K) opIx := by
  intro F H x y a b d Q s b1 b2 e q
  unfold opIx at e
  split at e
  · rename_i z i
    by_cases h : z.length ≤ lim
    · rw [if_pos h] at e
      obtain rfl := b1.str
      obtain rfl := b2.int
      cases e0 : atI z.cps.toList i with
      | none => rw [e0] at e; cases e
      | some c =>
        rw [e0] at e
        cases e
        exact .inr (.inr ⟨z, i, c, rfl, rfl, lim_ok h, e0, pi1 s (.str _) q⟩)
    · rw [if_neg h] at e; cases e
  · split at e
    · rename_i xs h1
      obtain rfl := b2.int
      obtain ⟨p, vs, rfl, h3, r⟩ := b1.sqA s h1
      obtain ⟨v, h4, h5⟩ := r.at e
      have q' : Q v H := q v F H [] (.refl s) Fresh.nil (.inr ⟨h5, rfl⟩)
      rcases h3 with h3 | h3
      · exact .inl ⟨p, vs, _, v, rfl, rfl, h3, h4, q'⟩
      · exact .inr (.inl ⟨p, vs, _, v, rfl, rfl, h3, h4, q'⟩)
    · cases e
  · cases e
theorem je_ix (ha : JE X cls W a fa) (hb : JE X cls W b fb) (hs : PlainIx b := by exact fun _ _ => rfl) : JE X cls W (.Subscript a b pos) (eBin opIx fa fb) := by
  obtain ⟨ta, pa, da⟩ := ha.ex
  obtain ⟨tb, pb, db⟩ := hb.ex
  exact ⟨_, pe_ix ix_seq pa pb hs, de_bin ok_ix da db⟩

def sIx (n d : Nat) : Option Int → Nat := HT.sIx n d
def cut {α : Type} (xs : List α) (lo hi : Option Int) : List α := (xs.drop (HT.sIx xs.length 0 lo)).take (HT.sIx xs.length xs.length hi - HT.sIx xs.length 0 lo)
def opSl (a : D) (lo hi : Option Int) : Option D := match a with
  | .tp xs => some (.tp (cut xs lo hi))
  | a => match sqK a with
    | some xs => some (.ol (cut xs lo hi))
    | none => none
def ePart (o : Option (Env → Res D)) : Env → Res (Option Int) := fun g => match o with
  | none => .ok none
  | some f => (f g).bind fun d => (Res.of (intOf (opd d))).bind fun i => .ok (some i)
@[simp] theorem ePart_none (g : Env) : ePart none g = .ok none := rfl
@[simp] theorem ePart_some (f : Env → Res D) (g : Env) : ePart (some f) g = (f g).bind fun d => (Res.of (intOf (opd d))).bind fun i => .ok (some i) := rfl
structure JP (X : Cx) (cls : Cls) (W : WX) (e : Option Expr) (f : Env → Res (Option Int)) : Prop where
  ex : ∃ t, PO X e t ∧ ∀ σ F H g O (Q : Option Int → Hp → Prop), Same F H → Sts X.K cls F H σ g O → (match f g with
    | .ok o => ∀ F' H', Ext F H F' H' → Q o H'
    | .xc c => ∀ F' H', Ext F H F' H' → W (excV cls c) none σ H'
    | .bad => False) → t σ H Q
theorem jp_none : JP X cls W none (ePart none) := ⟨_, po_none, fun σ F H g O Q s st p => p F H (.refl s)⟩
theorem jp_some (ha : JE X cls W a fa) : JP X cls W (some a) (ePart (some fa)) := by
  obtain ⟨ta, pa, da⟩ := ha.ex
  refine ⟨_, po_some pa, fun σ F H g O Q s st p => ?_⟩
  rw [ePart_some] at p
  refine da.go s st (fun c e => by rw [e] at p; exact p) (fun e => by rw [e] at p; exact p) fun d e v F' H' x b => ?_
  rw [e] at p
  simp only [Res.bind] at p
  cases e2 : intOf (opd d) with
  | none => rw [e2] at p; exact p.elim
  | some i =>
    rw [e2] at p
    have e3 : opd d = .int i := by
      cases e4 : opd d <;> rw [e4] at e2 <;> simp at e2
      rw [e2]
    rw [e3] at b
    exact ⟨i, b.int, p F' H' x⟩
def eSl (fa : Env → Res D) (lo hi : Env → Res (Option Int)) : Env → Res D := fun g => (fa g).bind fun a => (lo g).bind fun l => (hi g).bind fun h => .of (opSl (opd a) l h)
@[simp] theorem eSl_ (fa : Env → Res D) (lo hi : Env → Res (Option Int)) (g : Env) : eSl fa lo hi g = (fa g).bind fun a => (lo g).bind fun l => (hi g).bind fun h => .of (opSl (opd a) l h) := rfl
theorem Rps.cut {vs : List V} {ds : List D} (h : Rps K cls F vs ds) (lo hi : Option Int) : Rps K cls F (cutV vs lo hi) (cut ds lo hi) := by
  unfold cutV DL.cut
  rw [h.len]
  exact (h.drop _).take _
theorem cut_whole {α : Type} {xs : List α} {lo hi : Option Int} (h : HT.sIx xs.length 0 lo = 0 ∧ HT.sIx xs.length xs.length hi = xs.length) : cut xs lo hi = xs := by
  unfold cut
  rw [h.1, h.2]
  simp
theorem je_sl {lo hi : Option Expr} {fl fh : Env → Res (Option Int)} {p2 : Pos} (ha : JE X cls W a fa) (hl : JP X cls W lo fl) (hh : JP X cls W hi fh) : JE X cls W (.Subscript a (.Slice lo hi none p2) pos) (eSl fa fl fh) := by
  obtain ⟨ta, pa, da⟩ := ha.ex
  obtain ⟨tl, pl, dl⟩ := hl.ex
  obtain ⟨th, ph, dh⟩ := hh.ex
  refine ⟨_, pe_slice (sl_list.or sl_tupA) pa pl ph, ?_⟩
  intro σ F H g O Q s st p
  rw [eSl_] at p
  refine da.go s st (fun c e => by rw [e] at p; exact p) (fun e => by rw [e] at p; exact p) fun d e v F1 H1 x1 b1 => ?_
  rw [e] at p
  simp only [Res.bind] at p
  refine dl σ F1 H1 g O _ x1.fh (st.ext x1) ?_
  cases el : fl g with
  | bad => rw [el] at p; exact p.elim
  | xc c => rw [el] at p; exact fun F' H' x => p F' H' (x1.trans x)
  | ok l =>
    rw [el] at p
    simp only [] at p ⊢
    intro F2 H2 x2
    refine dh σ F2 H2 g O _ x2.fh ((st.ext x1).ext x2) ?_
    cases eh : fh g with
    | bad => rw [eh] at p; exact p.elim
    | xc c => rw [eh] at p; exact fun F' H' x => p F' H' ((x1.trans x2).trans x)
    | ok h =>
      rw [eh] at p
      simp only [] at p ⊢
      intro F3 H3 x3
      have x23 := x2.trans x3
      have x13 := x1.trans x23
      have b3 := b1.ext x23
      cases eo : opSl (opd d) l h with
      | none => rw [eo] at p; exact p.elim
      | some r =>
        rw [eo] at p
        have q : ∀ v F' H' O', Ext F3 H3 F' H' → Fresh H3 O' → Tm X.K cls F' H' v r O' → Q v H' := fun v F' H' O' y fr tm => p v F' H' O' (x13.trans y) (fr.mono x13.hh) tm
        unfold opSl at eo
        split at eo
        · rename_i xs ed
          cases eo
          rw [ed] at b3
          obtain ⟨a1, vs, rfl, h1, f1, r1⟩ := b3.tpv x3.fh (xs := xs) rfl
          refine .inr ⟨a1, vs, rfl, h1, fun w => ?_, fun w p hp => ?_⟩
          · rw [r1.len] at w
            exact q _ F3 H3 [] (.refl x3.fh) Fresh.nil (.inl (.sh (by rw [cut_whole w]; exact .tp f1 r1)))
          · exact q _ _ _ [] (Ext.put x3.fh hp) Fresh.nil (.inl (.sh (.tp (SqT.of upd_same) ((r1.cut l h).mono (Ext.put x3.fh hp).ff))))
        · split at eo
          · rename_i xs ek
            cases eo
            obtain ⟨a1, vs, rfl, h1, r1⟩ := b3.sqK x3.fh ek
            refine .inl ⟨a1, vs, rfl, h1, fun p hp => ?_⟩
            exact q _ _ _ [p] (Ext.own x3.fh hp) (fresh_new hp) (.inl (ow_new x3.fh hp (r1.cut l h).toOws))
          · cases eo

def aNil : Env → Res (List D) := fun _ => .ok []
def aCons (fa : Env → Res D) (fs : Env → Res (List D)) : Env → Res (List D) := fun g => (fa g).bind fun a => (fs g).bind fun r => .ok (opd a :: r)
def aConsO (fa : Env → Res D) (fs : Env → Res (List D)) : Env → Res (List D) := fun g => (fa g).bind fun a => (kp a).bind fun a => (fs g).bind fun r => .ok (a :: r)
@[simp] theorem aNil_ (g : Env) : aNil g = .ok [] := rfl
@[simp] theorem aCons_ (fa : Env → Res D) (fs : Env → Res (List D)) (g : Env) : aCons fa fs g = (fa g).bind fun a => (fs g).bind fun r => .ok (opd a :: r) := rfl
@[simp] theorem aConsO_ (fa : Env → Res D) (fs : Env → Res (List D)) (g : Env) : aConsO fa fs g = (fa g).bind fun a => (kp a).bind fun a => (fs g).bind fun r => .ok (a :: r) := rfl
theorem ja_nil : JA X cls W [] aNil := ⟨_, pa_nil, fun σ F H g O Q s st p => p [] F H (.refl s) .nil⟩
theorem jao_nil : JAO X cls W [] aNil := ⟨_, pa_nil, fun σ F H g O Q s st p => p [] F H [] (.refl s) Fresh.nil .nil⟩
theorem DA.go {t : TA} (ha : DA K cls W t fs) {σ : St} {F H : Hp} {g : Env} {O : List Addr} {Q : List V → Hp → Prop} (s : Same F H) (st : Sts K cls F H σ g O)
    (hx : ∀ c, fs g = .xc c → ∀ F' H', Ext F H F' H' → W (excV cls c) none σ H') (hb : fs g ≠ .bad) (hk : ∀ d, fs g = .ok d → ∀ v F' H', Ext F H F' H' → Bos K cls F' H' v d → Q v H') : t σ H Q := by
  refine ha σ F H g O Q s st ?_
  cases e : fs g with
  | ok k => exact hk k e
  | xc c => exact hx c e
  | bad => exact (hb e).elim
theorem DAO.go {t : TA} (ha : DAO K cls W t fs) {σ : St} {F H : Hp} {g : Env} {O : List Addr} {Q : List V → Hp → Prop} (s : Same F H) (st : Sts K cls F H σ g O)
    (hx : ∀ c, fs g = .xc c → ∀ F' H', Ext F H F' H' → W (excV cls c) none σ H') (hb : fs g ≠ .bad) (hk : ∀ d, fs g = .ok d → ∀ v F' H' O', Ext F H F' H' → Fresh H O' → Ows K cls F' H' v d O' → Q v H') : t σ H Q := by
  refine ha σ F H g O Q s st ?_
  cases e : fs g with
  | ok k => exact hk k e
  | xc c => exact hx c e
  | bad => exact (hb e).elim
theorem ja_cons (ha : JE X cls W a fa) (hr : JA X cls W es fs) (hs : starEach (a :: es) X.env = (false, eval a X.env) :: starEach es X.env := by rfl) : JA X cls W (a :: es) (aCons fa fs) := by
  obtain ⟨ta, pa, da⟩ := ha.ex
  obtain ⟨tr, pr, dr⟩ := hr.ex
  refine ⟨_, pa_cons pa pr hs, ?_⟩
  intro σ F H g O Q s st p
  rw [aCons_] at p
  refine da.go s st (fun c e => by rw [e] at p; exact p) (fun e => by rw [e] at p; exact p) fun d e v F1 H1 x1 b1 => ?_
  rw [e] at p
  simp only [Res.bind] at p
  refine dr.go x1.fh (st.ext x1) (fun c e F' H' x => by rw [e] at p; exact p F' H' (x1.trans x)) (fun e => by rw [e] at p; exact p) fun ds es vs F2 H2 x2 b2 => ?_
  rw [es] at p
  exact p _ F2 H2 (x1.trans x2) (.cons (b1.ext x2) b2)
theorem jao_cons (ha : JE X cls W a fa) (hr : JAO X cls W es fs) (hs : starEach (a :: es) X.env = (false, eval a X.env) :: starEach es X.env := by rfl) : JAO X cls W (a :: es) (aConsO fa fs) := by
  obtain ⟨ta, pa, da⟩ := ha.ex
  obtain ⟨tr, pr, dr⟩ := hr.ex
  refine ⟨_, pa_cons pa pr hs, ?_⟩
  intro σ F H g O Q s st p
  rw [aConsO_] at p
  refine da.goO s st (fun c e => by rw [e] at p; exact p) (fun e => ?_) fun d e v F1 H1 O1 x1 fr1 b1 => ?_
  · cases q : fa g with
    | ok d => rw [q] at e p; simp only [Res.bind] at e p; rw [e] at p; exact p
    | xc c => rw [q] at e; cases e
    | bad => rw [q] at p; exact p
  have p : PostAO X.K cls W σ F H Q ((fs g).bind fun r => .ok (d :: r)) := by
    cases q : fa g with
    | ok d => rw [q] at e p; simp only [Res.bind] at e p; rw [e] at p; exact p
    | xc c => rw [q] at e; cases e
    | bad => rw [q] at e; cases e
  refine dr.go x1.fh (st.ext x1) (fun c e F' H' x => by rw [e] at p; exact p F' H' (x1.trans x)) (fun e => by rw [e] at p; exact p) fun ds es vs F2 H2 O2 x2 fr2 b2 => ?_
  rw [es] at p
  refine p _ F2 H2 (O1 ++ O2) (x1.trans x2) (fun a ha => ?_) (.cons (b1.ext x2) b2 (fun a h1 h2 => ?_) rfl)
  · rcases List.mem_append.mp ha with q | q
    · exact fr1 a q
    · exact x1.hh.free (fr2 a q)
  · exact (b1.dom a h1).2 (fr2 a h2)
def eLst (fs : Env → Res (List D)) : Env → Res D := fun g => (fs g).bind fun ds => if ds.length ≤ lim then .ok (.ol ds) else .bad
def eTup (fs : Env → Res (List D)) : Env → Res D := fun g => (fs g).bind fun ds => if ds.length ≤ lim ∧ nods ds = true then .ok (.tp (frzs ds)) else .bad
@[simp] theorem eLst_ (fs : Env → Res (List D)) (g : Env) : eLst fs g = (fs g).bind fun ds => if ds.length ≤ lim then .ok (.ol ds) else .bad := rfl
@[simp] theorem eTup_ (fs : Env → Res (List D)) (g : Env) : eTup fs g = (fs g).bind fun ds => if ds.length ≤ lim ∧ nods ds = true then .ok (.tp (frzs ds)) else .bad := rfl
theorem je_lst (h : JAO X cls W es fs) : JE X cls W (.List es pos) (eLst fs) := by
  obtain ⟨ta, pa, da⟩ := h.ex
  refine ⟨_, pe_lst pa, ?_⟩
  intro σ F H g O Q s st p
  rw [eLst_] at p
  refine da.go s st (fun c e => by rw [e] at p; exact p) (fun e => by rw [e] at p; exact p) fun ds e vs F1 H1 O1 x1 fr1 b1 => ?_
  rw [e] at p
  simp only [Res.bind] at p
  split at p
  · rename_i hl
    refine ⟨lim_ok (by rw [b1.len]; exact hl), fun q hq => ?_⟩
    exact p _ _ _ (q :: O1) (x1.trans (Ext.own x1.fh hq)) (fun a ha => by
      rcases List.mem_cons.mp ha with rfl | ha
      · exact x1.hh.free hq
      · exact fr1 a ha) (.inl (ow_new x1.fh hq b1))
  · exact p.elim
theorem je_tup {k : Nat} (h : JAO X cls W es fs) : JE X cls W (.Tuple es k pos) (eTup fs) := by
  obtain ⟨ta, pa, da⟩ := h.ex
  refine ⟨_, pe_tup pa, ?_⟩
  intro σ F H g O Q s st p
  rw [eTup_] at p
  refine da.go s st (fun c e => by rw [e] at p; exact p) (fun e => by rw [e] at p; exact p) fun ds e vs F1 H1 O1 x1 fr1 b1 => ?_
  rw [e] at p
  simp only [Res.bind] at p
  split at p
  · rename_i hl
    refine ⟨lim_ok (by rw [b1.len]; exact hl.1), fun q hq => ?_⟩
    have no : ∀ a ∈ O1, F1 a = none := fun a ha => (b1.dom a ha).1
    have x2 := addF_ext x1 fr1 no
    have r2 := b1.freeze (addF_same no) addF_at hl.2
    exact p _ _ _ [] (x2.trans (Ext.put x2.fh hq)) Fresh.nil (.inl (.sh (.tp (SqT.of upd_same) (r2.mono (Ext.put x2.fh hq).ff))))
  · exact p.elim

def CaOk (K : PySem.W.Frag) (cls : Cls) (r : List V → Hp → VK → Prop) (op : List D → Option D) : Prop :=
  ∀ F H vs ds d Q, Same F H → Bos K cls F H vs ds → op ds = some d → (∀ v F' H' O', Ext F H F' H' → Fresh H O' → Tm K cls F' H' v d O' → Q v H') → r vs H Q
def eCall (op : List D → Option D) (fs : Env → Res (List D)) : Env → Res D := fun g => (fs g).bind fun ds => .of (op ds)
@[simp] theorem eCall_ (op : List D → Option D) (fs : Env → Res (List D)) (g : Env) : eCall op fs g = (fs g).bind fun ds => .of (op ds) := rfl
theorem de_call {r : List V → Hp → VK → Prop} {op : List D → Option D} {t : TA} (hr : CaOk K cls r op) (ha : DA K cls W t fs) : DE K cls W (tCB r t) (eCall op fs) := by
  intro σ F H g O Q s st p
  rw [eCall_] at p
  refine ha.go s st (fun c e => by rw [e] at p; exact p) (fun e => by rw [e] at p; exact p) fun ds e vs F1 H1 x1 b1 => ?_
  rw [e] at p
  simp only [Res.bind] at p
  cases eo : op ds with
  | none => rw [eo] at p; exact p.elim
  | some d =>
    rw [eo] at p
    exact hr F1 H1 vs ds d Q x1.fh b1 eo fun v F' H' O' y fr tm => p v F' H' O' (x1.trans y) (fr.mono x1.hh) tm
theorem je_callB {x : Str} {id : String} {p : Pos} {r : List V → Hp → VK → Prop} {op : List D → Option D} (hc : CallR X (.builtin id) r) (hr : CaOk X.K cls r op) (hm : X.mg x = none) (hv : bootBuiltins x = some (.builtin id)) (ha : JA X cls W (e :: es) fs)
    (hg : Gl X x := by rfl) (hn : x ≠ "__name__" := by decide) (hdb : (x == ("__debug__" : Str)) = false := by decide)
    (he : starEach (e :: es) X.env = (false, eval e X.env) :: starEach es X.env := by rfl) (hpl : (backTo pos (starEach es X.env)).any (·.1) = false := by rfl) : JE X cls W (.Call (.Name x p) (e :: es) [] pos) (eCall op fs) := by
  obtain ⟨ta, pa, da⟩ := ha.ex
  exact ⟨_, pe_callB hc hg hm hv pa hn hdb he hpl, de_call hr da⟩
theorem je_callTy {x : Str} {T : String} {p : Pos} {r : List V → Hp → VK → Prop} {op : List D → Option D} (hc : CallR X (.type T) r) (hr : CaOk X.K cls r op) (hm : X.mg x = none) (hv : bootBuiltins x = some (.type T)) (ha : JA X cls W (e :: es) fs)
    (hg : Gl X x := by rfl) (hn : x ≠ "__name__" := by decide) (hdb : (x == ("__debug__" : Str)) = false := by decide)
    (he : starEach (e :: es) X.env = (false, eval e X.env) :: starEach es X.env := by rfl) (hpl : (backTo pos (starEach es X.env)).any (·.1) = false := by rfl) : JE X cls W (.Call (.Name x p) (e :: es) [] pos) (eCall op fs) := by
  obtain ⟨ta, pa, da⟩ := ha.ex
  exact ⟨_, pe_callTy hc hg hm hv pa hn hdb he hpl, de_call hr da⟩
def caLen : List D → Option D
  | [.str z] => if z.length ≤ lim then some (.int z.length) else none
  | [d] => match sqA d with
    | some xs => some (.int xs.length)
    | none => match d with
      | .bd ks _ => none
      | _ => none
  | _ => none
theorem Bos.one {vs : List V} {d : D} (h : Bos K cls F H vs [d]) : ∃ v, vs = [v] ∧ Bo K cls F H v d := by
  cases h with | cons a b => cases b; exact ⟨_, rfl, a⟩
theorem Bos.two {vs : List V} {d d' : D} (h : Bos K cls F H vs [d, d']) : ∃ v v', vs = [v, v'] ∧ Bo K cls F H v d ∧ Bo K cls F H v' d' := by
  cases h with | cons a b => cases b with | cons a' b' => cases b'; exact ⟨_, _, rfl, a, a'⟩
theorem ok_len : CaOk K cls (fun xs H Q => ∃ x n, xs = [x] ∧ LenV K x H n ∧ Q (.int n) H) caLen := by
  intro F H vs ds d Q s b e q
  unfold caLen at e
  split at e
  · rename_i z
    by_cases h : z.length ≤ lim
    · rw [if_pos h] at e
      cases e
      obtain ⟨v, rfl, b1⟩ := b.one
      obtain rfl := b1.str
      exact ⟨_, _, rfl, ⟨lim_ok h, rfl⟩, pi1 s (.int _) q⟩
    · rw [if_neg h] at e; cases e
  · split at e
    · rename_i xs h1
      cases e
      obtain ⟨v, rfl, b1⟩ := b.one
      obtain ⟨p, vs, rfl, h3, r⟩ := b1.sqA s h1
      have q' : Q (.int (xs.length : Int)) H := pi1 s (.int _) q
      rw [← r.len] at q'
      rcases h3 with h3 | h3
      · exact ⟨_, vs.length, rfl, .inl ⟨vs, h3, rfl⟩, q'⟩
      · exact ⟨_, vs.length, rfl, .inr ⟨vs, h3, rfl⟩, q'⟩
    · split at e <;> cases e
  · cases e
def caMax2 : List D → Option D
  | [.int i, .int j] => some (.int (if j > i then j else i))
  | _ => none
def caMin2 : List D → Option D
  | [.int i, .int j] => some (.int (if j < i then j else i))
  | _ => none
theorem ok_max2 : CaOk K cls (fun xs H Q => ∃ i j, xs = [.int i, .int j] ∧ Q (.int (if j > i then j else i)) H) caMax2 := by
  intro F H vs ds d Q s b e q
  unfold caMax2 at e
  split at e
  · cases e
    obtain ⟨v, v', rfl, b1, b2⟩ := b.two
    obtain rfl := b1.int
    obtain rfl := b2.int
    exact ⟨_, _, rfl, pi1 s (.int _) q⟩
  · cases e
theorem ok_min2 : CaOk K cls (fun xs H Q => ∃ i j, xs = [.int i, .int j] ∧ Q (.int (if j < i then j else i)) H) caMin2 := by
  intro F H vs ds d Q s b e q
  unfold caMin2 at e
  split at e
  · cases e
    obtain ⟨v, v', rfl, b1, b2⟩ := b.two
    obtain rfl := b1.int
    obtain rfl := b2.int
    exact ⟨_, _, rfl, pi1 s (.int _) q⟩
  · cases e
def caAbs : List D → Option D
  | [.int i] => some (.int (if i < 0 then -i else i))
  | _ => none
def caInt : List D → Option D
  | [.int i] => some (.int i)
  | [.bl k] => some (.int (if k = true then 1 else 0))
  | _ => none
theorem ok_int : CaOk K cls (fun xs H Q => (∃ i, xs = [.int i] ∧ Q (.int i) H) ∨ ∃ k, xs = [.bl k] ∧ Q (.int (if k then 1 else 0)) H) caInt := by
  intro F H vs ds d Q s b e q
  unfold caInt at e
  split at e
  · cases e
    obtain ⟨v, rfl, b1⟩ := b.one
    obtain rfl := b1.int
    exact .inl ⟨_, rfl, pi1 s (.int _) q⟩
  · cases e
    obtain ⟨v, rfl, b1⟩ := b.one
    obtain rfl := b1.bl
    exact .inr ⟨_, rfl, pi1 s (.int _) q⟩
  · cases e
@[simp] def sqKA : D → Option (List D)
  | .tp xs => some xs
  | d => sqK d
theorem Bo.sqKA {v : V} {d : D} {xs : List D} (s : Same F H) (b : Bo K cls F H v d) (e : sqKA d = some xs) : ∃ a vs, v = .ref a ∧ (SqL K H a vs ∨ SqT K H a vs) ∧ Rps K cls F vs xs := by
  cases d with
  | tp ys => obtain ⟨a, vs, e1, h1, h2, r⟩ := b.tpv s (xs := xs) (by simpa using e); exact ⟨a, vs, e1, .inr h1, r⟩
  | ls ys => obtain ⟨a, vs, e1, h1, r⟩ := b.sqK s (xs := xs) (by simpa using e); exact ⟨a, vs, e1, .inl h1, r⟩
  | sc ys => obtain ⟨a, vs, e1, h1, r⟩ := b.sqK s (xs := xs) (by simpa using e); exact ⟨a, vs, e1, .inl h1, r⟩
  | bo ys => obtain ⟨a, vs, e1, h1, r⟩ := b.sqK s (xs := xs) (by simpa using e); exact ⟨a, vs, e1, .inl h1, r⟩
  | _ => simp at e
def caList : List D → Option D
  | [d] => (sqKA d).map .ol
  | _ => none
theorem ok_list : CaOk K cls (fun xs H Q => ∃ p ys, xs = [.ref p] ∧ (SqL K H p ys ∨ SqT K H p ys) ∧ ∀ l, H l = none → Q (.ref l) (upd H l (.lst ys))) caList := by
  intro F H vs ds d Q s b e q
  unfold caList at e
  split at e
  · rename_i d0
    cases h1 : sqKA d0 with
    | none => rw [h1] at e; cases e
    | some xs =>
      rw [h1] at e
      cases e
      obtain ⟨v, rfl, b1⟩ := b.one
      obtain ⟨p, ws, rfl, h2, r⟩ := b1.sqKA s h1
      exact ⟨p, ws, rfl, h2, fun l hl => q _ _ _ [l] (Ext.own s hl) (fresh_new hl) (.inl (ow_new s hl r.toOws))⟩
  · cases e
def caTuple : List D → Option D
  | [d] => (sqKA d).map .tp
  | _ => none
theorem ok_tuple : CaOk K cls (fun xs H Q => ∃ p ys, xs = [.ref p] ∧ ((SqL K H p ys ∧ ∀ l, H l = none → Q (.ref l) (upd H l (.tup ys))) ∨ (SqT K H p ys ∧ Q (.ref p) H))) caTuple := by
  intro F H vs ds d Q s b e q
  unfold caTuple at e
  split at e
  · rename_i d0
    cases h1 : sqKA d0 with
    | none => rw [h1] at e; cases e
    | some xs =>
      rw [h1] at e
      cases e
      obtain ⟨v, rfl, b1⟩ := b.one
      have lst : ∀ {a : Addr} {ws : List V}, SqL K H a ws → Rps K cls F ws xs → ∀ l, H l = none → Q (.ref l) (upd H l (.tup ws)) := fun {a ws} h r l hl =>
        q _ _ _ [] (Ext.put s hl) Fresh.nil (.inl (.sh (.tp (SqT.of upd_same) (r.mono (Ext.put s hl).ff))))
      cases d0 with
      | tp ys =>
        obtain ⟨a, ws, rfl, h2, h3, r⟩ := b1.tpv s (xs := xs) (by simpa using h1)
        exact ⟨a, ws, rfl, .inr ⟨h2, pi1 s (.tp h3 r) q⟩⟩
      | ls ys => obtain ⟨a, ws, rfl, h2, r⟩ := b1.sqK s (xs := xs) (by simpa using h1); exact ⟨a, ws, rfl, .inl ⟨h2, lst h2 r⟩⟩
      | sc ys => obtain ⟨a, ws, rfl, h2, r⟩ := b1.sqK s (xs := xs) (by simpa using h1); exact ⟨a, ws, rfl, .inl ⟨h2, lst h2 r⟩⟩
      | bo ys => obtain ⟨a, ws, rfl, h2, r⟩ := b1.sqK s (xs := xs) (by simpa using h1); exact ⟨a, ws, rfl, .inl ⟨h2, lst h2 r⟩⟩
      | _ => simp at h1
  · cases e
def caSum : List D → Option D
  | [d] => match sqL d with
    | some xs => (intsOf xs).map fun ns => .int ns.sum
    | none => none
  | _ => none
theorem Bo.sqI {v : V} {d : D} {xs : List D} {ns : List Int} (s : Same F H) (b : Bo K cls F H v d) (e : DL.sqL d = some xs) (e2 : intsOf xs = some ns) : ∃ a, v = .ref a ∧ L2.SqL K H a (ns.map V.int) := by
  obtain ⟨a, vs, e1, h, r⟩ := Bo.sqL s b e
  rw [intsOf_eq e2] at r
  rw [r.ints] at h
  exact ⟨a, e1, h⟩
def gst : List Int → Int
  | [] => 0
  | [x] => x
  | x :: xs => if gst xs > x then gst xs else x
def lst_ : List Int → Int
  | [] => 0
  | [x] => x
  | x :: xs => if lst_ xs < x then lst_ xs else x
theorem gst_spec : ∀ {ns : List Int}, ns ≠ [] → gst ns ∈ ns ∧ ∀ y ∈ ns, y ≤ gst ns
  | [], h => (h rfl).elim
  | [x], _ => by simp [gst]
  | x :: y :: r, _ => by
    obtain ⟨h1, h2⟩ := gst_spec (ns := y :: r) (by simp)
    have e : gst (x :: y :: r) = if gst (y :: r) > x then gst (y :: r) else x := rfl
    rw [e]
    split
    · refine ⟨List.mem_cons_of_mem _ h1, fun z hz => ?_⟩
      rcases List.mem_cons.mp hz with rfl | hz
      · omega
      · exact h2 z hz
    · refine ⟨List.mem_cons_self, fun z hz => ?_⟩
      rcases List.mem_cons.mp hz with rfl | hz
      · omega
      · have := h2 z hz; omega
def caMax : List D → Option D
  | [d] => match sqL d with
    | some xs => match intsOf xs with
      | some ns => if ns.isEmpty = true then none else some (.int (gst ns))
      | none => none
    | none => none
  | _ => none
def caMin : List D → Option D
  | [d] => match sqL d with
    | some xs => match intsOf xs with
      | some ns => if ns.isEmpty = true then none else some (.int (lst_ ns))
      | none => none
    | none => none
  | _ => none
theorem ok_max : CaOk K cls (rMax K) caMax := by
  intro F H vs ds d Q s b e q
  unfold caMax at e
  split at e
  · split at e
    · rename_i xs h1
      split at e
      · rename_i ns h2
        split at e
        · cases e
        · rename_i hne
          cases e
          obtain ⟨v, rfl, b1⟩ := b.one
          obtain ⟨a, rfl, h3⟩ := b1.sqI s h1 h2
          have hne' : ns ≠ [] := fun z => hne (by rw [z]; rfl)
          obtain ⟨g1, g2⟩ := gst_spec hne'
          refine ⟨a, ns, rfl, h3, List.length_pos_iff.mpr hne', fun m m1 m2 => ?_⟩
          have : m = gst ns := Int.le_antisymm (g2 m m1) (m2 _ g1)
          rw [this]
          exact pi1 s (.int _) q
      · cases e
    · cases e
  · cases e
def ins (x : Int) : List Int → List Int
  | [] => [x]
  | y :: r => if x ≤ y then x :: y :: r else y :: ins x r
def srt : List Int → List Int
  | [] => []
  | x :: r => ins x (srt r)
theorem ins_perm (x : Int) : ∀ l : List Int, (ins x l).Perm (x :: l)
  | [] => List.Perm.refl _
  | y :: r => by
    unfold ins
    split
    · exact List.Perm.refl _
    · exact ((ins_perm x r).cons y).trans (List.Perm.swap x y r)
theorem srt_perm : ∀ l : List Int, (srt l).Perm l
  | [] => List.Perm.refl _
  | x :: r => (ins_perm x _).trans ((srt_perm r).cons x)
theorem ins_sorted (x : Int) : ∀ {l : List Int}, l.Pairwise (· ≤ ·) → (ins x l).Pairwise (· ≤ ·)
  | [], _ => by simp [ins]
  | y :: r, h => by
    unfold ins
    obtain ⟨h1, h2⟩ := List.pairwise_cons.mp h
    split
    · rename_i hxy
      refine List.pairwise_cons.mpr ⟨fun z hz => ?_, h⟩
      rcases List.mem_cons.mp hz with rfl | hz
      · exact hxy
      · exact Int.le_trans hxy (h1 z hz)
    · rename_i hxy
      refine List.pairwise_cons.mpr ⟨fun z hz => ?_, ins_sorted x h2⟩
      rcases List.mem_cons.mp ((ins_perm x r).mem_iff.mp hz) with rfl | hz
      · omega
      · exact h1 z hz
theorem srt_sorted : ∀ l : List Int, (srt l).Pairwise (· ≤ ·)
  | [] => List.Pairwise.nil
  | x :: r => ins_sorted x (srt_sorted r)
theorem sorted_uniq : ∀ {l m : List Int}, l.Perm m → l.Pairwise (· ≤ ·) → m.Pairwise (· ≤ ·) → l = m
  | [], m, p, _, _ => (List.nil_perm.mp p).symm
  | x :: l, [], p, _, _ => absurd p.length_eq (by simp)
  | x :: l, y :: m, p, h1, h2 => by
    obtain ⟨a1, a2⟩ := List.pairwise_cons.mp h1
    obtain ⟨b1, b2⟩ := List.pairwise_cons.mp h2
    have e : x = y := by
      have hx : x ∈ y :: m := p.mem_iff.mp List.mem_cons_self
      have hy : y ∈ x :: l := p.mem_iff.mpr List.mem_cons_self
      rcases List.mem_cons.mp hx with q | q
      · exact q
      · rcases List.mem_cons.mp hy with q' | q'
        · exact q'.symm
        · exact Int.le_antisymm (a1 y q') (b1 x q)
    subst e
    rw [sorted_uniq (List.Perm.cons_inv p) a2 b2]
theorem srt_uniq {l m : List Int} (p : l.Perm m) (h : l.Pairwise (· ≤ ·)) : l = srt m := sorted_uniq (p.trans (srt_perm m).symm) h (srt_sorted m)
theorem srt_len (l : List Int) : (srt l).length = l.length := (srt_perm l).length_eq
def caSorted : List D → Option D
  | [d] => match sqL d with
    | some xs => (intsOf xs).map fun ns => .ol ((srt ns).map D.int)
    | none => none
  | _ => none
theorem ok_sorted : CaOk K cls (rSortedI K) caSorted := by
  intro F H vs ds d Q s b e q
  unfold caSorted at e
  split at e
  · split at e
    · rename_i xs h1
      cases h2 : intsOf xs with
      | none => rw [h2] at e; cases e
      | some ns =>
        rw [h2] at e
        cases e
        obtain ⟨v, rfl, b1⟩ := b.one
        obtain ⟨a, rfl, h3⟩ := b1.sqI s h1 h2
        refine ⟨a, ns, rfl, h3, fun ns' p pm pw hp => ?_⟩
        obtain rfl := srt_uniq pm pw
        exact q _ _ _ [p] (Ext.own s hp) (fresh_new hp) (.inl (ow_new s hp rps_ints.toOws))
    · cases e
  · cases e
def caAny : List D → Option D
  | [d] => match sqL d with
    | some xs => (blsOf xs).map fun ns => .bl (ns.any id)
    | none => none
  | _ => none
theorem ok_any : CaOk K cls (rAny K) caAny := by
  intro F H vs ds d Q s b e q
  unfold caAny at e
  split at e
  · split at e
    · rename_i xs h1
      cases h2 : blsOf xs with
      | none => rw [h2] at e; cases e
      | some ns =>
        rw [h2] at e
        cases e
        obtain ⟨v, rfl, b1⟩ := b.one
        obtain ⟨a, vs, rfl, h3, r⟩ := b1.sqL s h1
        rw [blsOf_eq h2] at r
        rw [r.bls] at h3
        exact ⟨a, ns, rfl, h3, pi1 s (.bl _) q⟩
    · cases e
  · cases e
end
end DL

namespace DL
open PySem L2
theorem set_self {α : Type} : ∀ {l : List α} {i : Nat} {a : α}, l[i]? = some a → l.set i a = l
  | [], _, _, h => by simp at h
  | x :: l, 0, a, h => by simp at h; subst h; rfl
  | x :: l, i + 1, a, h => by rw [List.set_cons_succ, set_self (by simpa using h)]
structure Cn (X : Cx) (W : WX) (k : Nat) : Prop where
  tk : L2N.Takes X W
  hp : PassesOwn (model X.prog X.w) X.A X.env X.xe
  calm : X.calm = true
  nd : X.N.Nodup
  hr : Room k X.A
theorem Cn.mono {X : Cx} {W : WX} {j k : Nat} (c : Cn X W k) (h : j ≤ k) : Cn X W j := ⟨c.tk, c.hp, c.calm, c.nd, c.hr.mono h⟩
theorem Cn.eq {X : Cx} {W : WX} {k : Nat} (c : Cn X W k) : X.A.units + 64 < cLine := c.hr.units
abbrev W0 : WX := fun _ _ _ _ => False
theorem Cn.blk {X : Cx} {W : WX} {k : Nat} (c : Cn X W k) {s : Shared} {H : Hp} {scope : Scope} {cenv : PySem.Env} {fp : List Addr} : Cn (X.blk s H scope cenv fp) W0 k :=
  ⟨(fun _ _ x => by obtain ⟨_, _, _, _, _, _, _, _, _, _, _, _, _, _, _, _, w⟩ := x; exact w.elim), PassesOwn.never, c.calm, c.nd, c.hr⟩

structure ClsOk (K : PySem.W.Frag) (cls : Cls) (c : Nat) (C : Addr) (ns : List Str) : Prop where
  e : cls c = some (C, ns)
  nd : ns.Nodup
  cl : L2.Cls K C
  na : ∀ f ∈ ns, NoAttr K C f
theorem lookup_zip : ∀ {ns : List Str} {vs : List V} {i : Nat} {f : Str} {v : V}, ns.Nodup → ns[i]? = some f → vs[i]? = some v → (ns.zip vs).lookup f = some v
  | [], _, _, _, _, _, h, _ => by simp at h
  | n :: ns, [], _, _, _, _, _, h => by simp at h
  | n :: ns, w :: vs, 0, f, v, nd, h1, h2 => by
    simp at h1 h2
    subst h1 h2
    simp [List.lookup]
  | n :: ns, w :: vs, i + 1, f, v, nd, h1, h2 => by
    obtain ⟨a1, a2⟩ := List.nodup_cons.mp nd
    have h1' : ns[i]? = some f := by simpa using h1
    have : ¬ f = n := fun e => a1 (e ▸ List.mem_of_getElem? h1')
    rw [List.zip_cons_cons, List.lookup]
    have e : (f == n) = false := by simpa using this
    rw [e]
    exact lookup_zip a2 h1' (by simpa using h2)
def opFld (c i : Nat) : D → Option D
  | .ob c' ds => if c' = c then ds[i]? else none
  | .bb c' ds => if c' = c then ds[i]? else none
  | _ => none
section
variable {K : PySem.W.Frag} {cls : Cls} {W : WX} {X : Cx} {F H F' H' F1 H1 : Hp} {O O1 : List Addr} {Q : VK} {σ : St} {a b e : Expr} {es : List Expr} {fa fb fc : Env → Res D} {ga gb : Env → Res Bool} {fs : Env → Res (List D)} {pos : Pos}
theorem Bo.fld {c i : Nat} {C : Addr} {ns : List Str} {f : Str} {v : V} {d r : D} (s : Same F H) (T : ClsOk K cls c C ns) (hi : ns[i]? = some f) (b : Bo K cls F H v d) (e : opFld c i d = some r) :
    ∃ a dx fs w, v = .ref a ∧ H a = some (.ins C dx fs) ∧ fs.lookup f = some w ∧ Bo K cls F H w r := by
  cases d with
  | ob c' ds =>
    have e2 : (if c' = c then ds[i]? else none) = some r := e
    split at e2
    · rename_i hc
      subst hc
      cases b with
      | sh rr =>
        cases rr with
        | ob he hF hl hr =>
          have := he.symm.trans T.e
          cases this
          obtain ⟨w, h1, h2⟩ := hr.get e2
          exact ⟨_, _, _, w, rfl, s _ _ hF, lookup_zip T.nd hi h1, .sh h2⟩
    · cases e2
  | bb c' ds =>
    have e2 : (if c' = c then ds[i]? else none) = some r := e
    split at e2
    · rename_i hc
      subst hc
      cases b with
      | sh rr => cases rr
      | bb he hF hl hr =>
        have := he.symm.trans T.e
        cases this
        obtain ⟨w, h1, h2⟩ := hr.get e2
        exact ⟨_, _, _, w, rfl, hF, lookup_zip T.nd hi h1, h2⟩
    · cases e2
  | _ => cases e
theorem je_fld {c i : Nat} {C : Addr} {ns : List Str} {f : Str} (T : ClsOk X.K cls c C ns) (hi : ns[i]? = some f) (ha : JE X cls W a fa) (hb : attributeBase a f X.env (eval a X.env) = eval a X.env := by rfl) : JE X cls W (.Attribute a f pos) (eUn (opFld c i) fa) := by
  obtain ⟨ta, pa, da⟩ := ha.ex
  refine ⟨_, pe_fld pa hb, ?_⟩
  intro σ F H g O Q s st p
  rw [eUn_] at p
  refine da.go s st (fun c e => by rw [e] at p; exact p) (fun e => by rw [e] at p; exact p) fun d e v F1 H1 x1 b1 => ?_
  rw [e] at p
  simp only [Res.bind] at p
  cases eo : opFld c i (opd d) with
  | none => rw [eo] at p; exact p.elim
  | some r =>
    rw [eo] at p
    obtain ⟨a, dx, fs, w, rfl, h1, h2, h3⟩ := b1.fld x1.fh T hi eo
    exact ⟨_, _, _, _, w, rfl, h1, T.cl, T.na f (List.mem_of_getElem? hi), h2, p w F1 H1 [] x1 Fresh.nil (.inr ⟨h3, rfl⟩)⟩

def spD (K : PySem.W.Frag) (cls : Cls) (n : Nat) (g : List D → Res D) : Sp := fun vs H Q E => ∃ F ds, Same F H ∧ Rps K cls F vs ds ∧ ds.length = n ∧
  match g ds with
  | .ok d => ∀ v F' H' O', Ext F H F' H' → Fresh H O' → Ow K cls F' H' v d O' → Q v H'
  | .xc c => ∀ F' H', Ext F H F' H' → E (excV cls c) none H'
  | .bad => False
mutual
/-- nothing but scalars, in new lists -/
@[simp] def flat : D → Bool
  | .non => true
  | .bl _ => true
  | .int _ => true
  | .str _ => true
  | .ol xs => flats xs
  | _ => false
@[simp] def flats : List D → Bool
  | [] => true
  | d :: ds => flat d && flats ds
end
mutual
@[simp] def plok : D → Bool
  | .bd _ _ => false
  | .bo xs => ploks xs
  | .bb _ xs => ploks xs
  | _ => true
@[simp] def ploks : List D → Bool
  | [] => true
  | d :: ds => plok d && ploks ds
end
mutual
theorem Bo.pln (s : Same F H) : ∀ {v : V} {d : D}, Bo K cls F H v d → plok d = true → Rp K cls H v (pln d)
  | _, _, .sh r, _ => by
    have r' := r.mono s
    cases r <;> exact r'
  | _, _, .bo h r, e => by
    simp only [DL.pln]
    exact .ls h (Bos.plns s r (by simpa using e))
  | _, _, .bb hc h l r, e => by
    simp only [DL.pln]
    exact .ob hc h l (Bos.plns s r (by simpa using e))
  | _, _, .bd .., e => by simp at e
theorem Bos.plns (s : Same F H) : ∀ {v : List V} {d : List D}, Bos K cls F H v d → ploks d = true → Rps K cls H v (plns d)
  | _, _, .nil, _ => .nil
  | _, _, .cons a b, e => by
    simp only [ploks, Bool.and_eq_true] at e
    simp only [DL.plns]
    exact .cons (Bo.pln s a e.1) (Bos.plns s b e.2)
end
mutual
theorem Ow.flat : ∀ {v : V} {d : D} {O : List Addr}, Ow K cls F' H' v d O → flat d = true → (∀ a ∈ O, F a = none) → Ow K cls F H' v d O
  | _, _, _, .sh r, e, _ => by
    cases r with
    | non => exact .sh .non
    | bl b => exact .sh (.bl b)
    | int b => exact .sh (.int b)
    | str b => exact .sh (.str b)
    | _ => simp at e
  | _, _, _, .ol h1 h2 h3 r, e, k => .ol (k _ (by simp)) h2 h3 (Ows.flats r (by simpa using e) fun a ha => k a (by simp [ha]))
  | _, _, _, .od .., e, _ => by simp at e
  | _, _, _, .oo .., e, _ => by simp at e
theorem Ows.flats : ∀ {v : List V} {d : List D} {O : List Addr}, Ows K cls F' H' v d O → flats d = true → (∀ a ∈ O, F a = none) → Ows K cls F H' v d O
  | _, _, _, .nil, _, _ => .nil
  | _, _, _, .cons a b dj q, e, k => by
    simp only [DL.flats, Bool.and_eq_true] at e
    exact .cons (Ow.flat a e.1 fun x hx => k x (by simp [q, hx])) (Ows.flats b e.2 fun x hx => k x (by simp [q, hx])) dj q
end
def calD (g : List D → Res D) (ds : List D) : Res D :=
  if shd ds = true then g ds
  else if ploks ds = true then (g (plns ds)).bind fun d => if flat d = true then .ok d else .bad
  else .bad
def eOwn (g : List D → Res D) (fs : Env → Res (List D)) : Env → Res D := fun e => (fs e).bind fun ds => calD g ds
@[simp] theorem eOwn_ (g : List D → Res D) (fs : Env → Res (List D)) (e : Env) : eOwn g fs e = (fs e).bind fun ds => calD g ds := rfl
theorem plns_len : ∀ ds : List D, (plns ds).length = ds.length
  | [] => rfl
  | d :: ds => by simp [plns, plns_len ds]
theorem spD_call {n : Nat} {g : List D → Res D} {vs : List V} {ds : List D} {E : XK} (s : Same F H) (b : Bos K cls F H vs ds) (hn : ds.length = n)
    (p : match calD g ds with
      | .ok d => ∀ v F' H' O', Ext F H F' H' → Fresh H O' → Ow K cls F' H' v d O' → Q v H'
      | .xc c => ∀ F' H', Ext F H F' H' → E (excV cls c) none H'
      | .bad => False) : spD K cls n g vs H Q E := by
  unfold calD at p
  by_cases h1 : shd ds = true
  · rw [if_pos h1] at p
    exact ⟨F, ds, s, b.toRps h1, hn, p⟩
  · rw [if_neg h1] at p
    by_cases h2 : ploks ds = true
    · rw [if_pos h2] at p
      refine ⟨H, plns ds, .refl H, b.plns s h2, by rw [plns_len]; exact hn, ?_⟩
      have up : ∀ {F' H'}, Ext H H F' H' → Ext F H F H' := fun x => ⟨.refl F, x.hh, s.trans x.hh, fun _ h _ => h⟩
      cases e : g (plns ds) with
      | ok d =>
        rw [e] at p
        simp only [Res.bind] at p ⊢
        by_cases h3 : flat d = true
        · rw [if_pos h3] at p
          intro v F' H' O' x fr ow
          refine p v F H' O' (up x) fr (ow.flat h3 fun a ha => ?_)
          cases q : F a with
          | none => rfl
          | some o => have := fr a ha; rw [s a o q] at this; cases this
        · rw [if_neg h3] at p; exact p.elim
      | xc c =>
        rw [e] at p
        exact fun F' H' x => p F H' (up x)
      | bad => rw [e] at p; exact p.elim
    · rw [if_neg h2] at p; exact p.elim
theorem je_own {x : Str} {f : Addr} {fd : FuncData} {ps : List Str} {k n : Nat} {g : List D → Res D} {p : Pos} (c : Cn X W k) (G : FnOk X.prog X.w X.K X.mg X.base (L2N.CX X.prog X.w) k f fd ps (spD X.K cls n g))
    (hm : X.mg x = some (.ref f)) (hk : PySem.W.keepIn X.K (.ref f) = true) (hb : Binds X.K fd ps []) (ha : JA X cls W (e :: es) fs) (hn : ∀ g ds, fs g = .ok ds → ds.length = n) (hg : Gl X x := by rfl)
    (hdb : (x == ("__debug__" : Str)) = false := by decide) (he : starEach (e :: es) X.env = (false, eval e X.env) :: starEach es X.env := by rfl) (hpl : (backTo pos (starEach es X.env)).any (·.1) = false := by rfl) :
    JE X cls W (.Call (.Name x p) (e :: es) [] pos) (eOwn g fs) := by
  obtain ⟨ta, pa, da⟩ := ha.ex
  refine ⟨_, pe_callS G c.hr hg hm hk hb (fun σ => L2N.passAt c.tk σ) pa hdb he hpl, ?_⟩
  intro σ F H env O Q s st p
  rw [eOwn_] at p
  refine da.go s st (fun c e => by rw [e] at p; exact p) (fun e => by rw [e] at p; exact p) fun ds e vs F1 H1 x1 b1 => ?_
  rw [e] at p
  simp only [Res.bind] at p
  refine spD_call x1.fh b1 (hn env ds e) ?_
  cases eo : calD g ds with
  | ok d => rw [eo] at p; exact fun v F' H' O' y fr ow => p v F' H' O' (x1.trans y) (fr.mono x1.hh) (.inl ow)
  | xc c => rw [eo] at p; exact fun F' H' y => p F' H' (x1.trans y)
  | bad => rw [eo] at p; exact p
theorem an_len {g : Env} {ds : List D} {n : Nat} (h : ∀ g ds, fs g = .ok ds → ds.length = n) (e : aCons fa fs g = .ok ds) : ds.length = n + 1 := by
  rw [aCons_] at e
  cases q1 : fa g with
  | ok d =>
    rw [q1] at e
    simp only [Res.bind] at e
    cases q2 : fs g with
    | ok r => rw [q2] at e; cases e; simp [h g r q2]
    | xc c => rw [q2] at e; cases e
    | bad => rw [q2] at e; cases e
  | xc c => rw [q1] at e; cases e
  | bad => rw [q1] at e; cases e
theorem al0 : ∀ g ds, aNil g = .ok ds → ds.length = 0 := fun g ds e => by cases e; rfl
theorem alS {n : Nat} (h : ∀ g ds, fs g = .ok ds → ds.length = n) : ∀ g ds, aCons fa fs g = .ok ds → ds.length = n + 1 := fun g ds e => an_len h e

def PostS (K : PySem.W.Frag) (cls : Cls) (W : WX) (D : Ends) (F H : Hp) (O : List Addr) : Out → Prop
  | .nx g => ∀ σ' F' H' O', SExt F H O F' H' O' → Sts K cls F' H' σ' g O' → D.nx σ' H'
  | .rt d => ∀ v F' H' O', SExt F H O F' H' O' → Ow K cls F' H' v d O' → D.rt v H'
  | .bk g => ∀ σ' F' H' O', SExt F H O F' H' O' → Sts K cls F' H' σ' g O' → D.bk σ' H'
  | .ct g => ∀ σ' F' H' O', SExt F H O F' H' O' → Sts K cls F' H' σ' g O' → D.ct σ' H'
  | .xc c g => ∀ σ' F' H' O', SExt F H O F' H' O' → Sts K cls F' H' σ' g O' → W (excV cls c) none σ' H'
  | .bad => False
def DS (K : PySem.W.Frag) (cls : Cls) (W : WX) (t : TS) (f : Env → Out) : Prop :=
  ∀ D σ F H g O, Same F H → Sts K cls F H σ g O → PostS K cls W D F H O (f g) → t D σ H
structure JS (X : Cx) (cls : Cls) (W : WX) (st : Stmt) (f : Env → Out) : Prop where
  ex : ∃ t, PS X st t ∧ DS X.K cls W t f
structure JSs (X : Cx) (cls : Cls) (W : WX) (st : List Stmt) (f : Env → Out) : Prop where
  ex : ∃ t, PSs X st t ∧ DS X.K cls W t f
theorem PostS.mono {D : Ends} {r : Out} (x : SExt F H O F1 H1 O1) (p : PostS K cls W D F H O r) : PostS K cls W D F1 H1 O1 r := by
  cases r with
  | nx g => exact fun σ' F' H' O' y => p σ' F' H' O' (x.trans y)
  | rt d => exact fun v F' H' O' y => p v F' H' O' (x.trans y)
  | bk g => exact fun σ' F' H' O' y => p σ' F' H' O' (x.trans y)
  | ct g => exact fun σ' F' H' O' y => p σ' F' H' O' (x.trans y)
  | xc c g => exact fun σ' F' H' O' y => p σ' F' H' O' (x.trans y)
  | bad => exact p
def Res.st {α : Type} (r : Res α) (g : Env) (f : α → Out) : Out := match r with
  | .ok a => f a
  | .xc c => .xc c g
  | .bad => .bad
@[simp] theorem Res.st_ok {α : Type} (a : α) (g : Env) (f : α → Out) : (Res.ok a).st g f = f a := rfl
@[simp] theorem Res.st_xc {α : Type} (c : Nat) (g : Env) (f : α → Out) : (Res.xc c : Res α).st g f = .xc c g := rfl
@[simp] theorem Res.st_bad {α : Type} (g : Env) (f : α → Out) : (Res.bad : Res α).st g f = .bad := rfl
theorem xc_st {D : Ends} {c : Nat} {g : Env} (st : Sts K cls F H σ g O) (p : PostS K cls W D F H O (.xc c g)) : ∀ F' H', Ext F H F' H' → W (excV cls c) none σ H' :=
  fun F' H' x => p σ F' H' O (x.sext fun a h => .inl h) (st.ext x)
def sSeq (f u : Env → Out) : Env → Out := fun g => match f g with
  | .nx g' => u g'
  | o => o
@[simp] theorem sSeq_ (f u : Env → Out) (g : Env) : sSeq f u g = match f g with
  | .nx g' => u g'
  | o => o := rfl
def sNil : Env → Out := fun g => .nx g
@[simp] theorem sNil_ (g : Env) : sNil g = .nx g := rfl
theorem ds_seq {t u : TS} {f1 f2 : Env → Out} (h1 : DS K cls W t f1) (h2 : DS K cls W u f2) : DS K cls W (tSeq t u) (sSeq f1 f2) := by
  intro D σ F H g O s st p
  rw [sSeq_] at p
  refine h1 _ σ F H g O s st ?_
  cases e : f1 g with
  | nx g' => rw [e] at p; exact fun σ' F' H' O' x st' => h2 D σ' F' H' g' O' x.fh st' (PostS.mono x p)
  | rt d => rw [e] at p; exact p
  | bk g' => rw [e] at p; exact p
  | ct g' => rw [e] at p; exact p
  | xc c g' => rw [e] at p; exact p
  | bad => rw [e] at p; exact p
theorem jss_nil : JSs X cls W [] sNil := ⟨_, pss_nil, fun D σ F H g O s st p => p σ F H O (.refl s) st⟩
theorem jss_cons {st : Stmt} {sts : List Stmt} {f1 f2 : Env → Out} (h1 : JS X cls W st f1) (h2 : JSs X cls W sts f2) : JSs X cls W (st :: sts) (sSeq f1 f2) := by
  obtain ⟨t, p, d⟩ := h1.ex
  obtain ⟨u, q, d'⟩ := h2.ex
  exact ⟨_, pss_cons p q, ds_seq d d'⟩
theorem jss_one {st : Stmt} {f1 : Env → Out} (h1 : JS X cls W st f1) : JSs X cls W [st] f1 := by
  obtain ⟨t, p, d⟩ := h1.ex
  exact ⟨_, pss_one p, d⟩
def sNever : Env → Out := fun _ => .bad
@[simp] theorem sNever_ (g : Env) : sNever g = .bad := rfl
theorem jss_never {st : List Stmt} : JSs X cls W st sNever := ⟨_, pss_never, fun _ _ _ _ _ _ _ _ p => p⟩
def sBreak : Env → Out := fun g => .bk g
@[simp] theorem sBreak_ (g : Env) : sBreak g = .bk g := rfl
def sCont : Env → Out := fun g => .ct g
@[simp] theorem sCont_ (g : Env) : sCont g = .ct g := rfl
def sIf (c : Env → Res Bool) (f1 f2 : Env → Out) : Env → Out := fun g => (c g).st g fun k => if k = true then f1 g else f2 g
@[simp] theorem sIf_ (c : Env → Res Bool) (f1 f2 : Env → Out) (g : Env) : sIf c f1 f2 g = (c g).st g fun k => if k = true then f1 g else f2 g := rfl
theorem js_if {c : Expr} {s1 s2 : List Stmt} {f1 f2 : Env → Out} (hc : JT X cls W c ga) (h1 : JSs X cls W s1 f1) (h2 : JSs X cls W s2 f2) : JS X cls W (.If c s1 s2 pos) (sIf ga f1 f2) := by
  obtain ⟨tc, pc, dc⟩ := hc.ex
  obtain ⟨t1, p1, d1⟩ := h1.ex
  obtain ⟨t2, p2, d2⟩ := h2.ex
  refine ⟨_, ps_if pc p1 p2, ?_⟩
  intro D σ F H g O s st p
  rw [sIf_] at p
  refine dc.go s st (fun c e => by rw [e] at p; exact xc_st st p) (fun e => by rw [e] at p; exact p) fun k e F1 H1 x => ?_
  rw [e, Res.st_ok] at p
  have x' : SExt F H O F1 H1 O := x.sext fun a h => .inl h
  cases k with
  | true =>
    rw [if_pos rfl] at p
    rw [if_pos rfl]
    exact d1 D σ F1 H1 g O x.fh (st.ext x) (p.mono x')
  | false =>
    rw [if_neg (by decide)] at p
    rw [if_neg (by decide)]
    exact d2 D σ F1 H1 g O x.fh (st.ext x) (p.mono x')
theorem DE.goS {t : TE} (ha : DE K cls W t fa) {σ : St} {F H : Hp} {g : Env} {O : List Addr} {Q : VK} {Dn : Ends} {f : D → Out} (s : Same F H) (st : Sts K cls F H σ g O)
    (p : PostS K cls W Dn F H O (((fa g).bind kp).st g f)) (hk : ∀ d, (fa g).bind kp = .ok d → PostS K cls W Dn F H O (f d) → ∀ v F' H' O', Ext F H F' H' → Fresh H O' → Ow K cls F' H' v d O' → Q v H') : t σ H Q := by
  refine ha.goO s st (fun c e => ?_) (fun e => by rw [e] at p; exact p) fun d e => ?_
  · have e' : (fa g).bind kp = .xc c := by rw [e]; rfl
    rw [e'] at p
    exact xc_st st p
  · rw [e] at p
    exact hk d e p
def sAsg (i : Nat) (fa : Env → Res D) : Env → Out := fun g => ((fa g).bind kp).st g fun d => .nx (g.set i d)
@[simp] theorem sAsg_ (i : Nat) (fa : Env → Res D) (g : Env) : sAsg i fa g = ((fa g).bind kp).st g fun d => .nx (g.set i d) := rfl
def sAsgF (i : Nat) (fa : Env → Res D) : Env → Out := fun g => ((fa g).bind kp).st g fun d => if nod d = true then .nx (g.set i (frz d)) else .bad
@[simp] theorem sAsgF_ (i : Nat) (fa : Env → Res D) (g : Env) : sAsgF i fa g = ((fa g).bind kp).st g fun d => if nod d = true then .nx (g.set i (frz d)) else .bad := rfl
theorem Sts.put {i : Nat} {v : V} {d : D} {g : Env} {Od : List Addr} (st : Sts K cls F H σ g O) (x : Ext F H F' H') (fr : Fresh H Od) (w : Ow K cls F' H' v d Od) :
    ∃ O'', Sts K cls F' H' (σ.set i (some v)) (g.set i d) O'' ∧ SExt F H O F' H' O'' := by
  have ne : ∀ a ∈ O, H a ≠ none := fun a ha => (st.dom a ha).2
  by_cases hi : i < g.length
  · obtain ⟨O1, h1, h2, h3, h4⟩ := st.at i hi
    obtain ⟨O'', q1, q2⟩ := h3 F' H' v d Od (fun b hb _ => x.get (st.dom b hb).1 (ne b hb)) x.ff w (fun a h1 h2 => absurd (fr a h1) (ne a h2))
    exact ⟨O'', q1, x.sext fun a ha => (q2 a ha).imp id (fr a)⟩
  · have hl := st.len
    rw [List.set_eq_of_length_le (by omega), List.set_eq_of_length_le (by omega)]
    exact ⟨O, st.ext x, x.sext fun a h => .inl h⟩
theorem Sts.putS {i : Nat} {v : V} {d : D} {g : Env} (s : Same F H) (st : Sts K cls F H σ g O) (w : Rp K cls F v d) :
    ∃ O'', Sts K cls F H (σ.set i (some v)) (g.set i d) O'' ∧ SExt F H O F H O'' := st.put (.refl s) Fresh.nil (.sh w)
theorem ds_asg {t : TE} {i : Nat} (ha : DE K cls W t fa) : DS K cls W (tAsg t (gName i)) (sAsg i fa) := by
  intro D σ F H g O s st p
  refine ha.goS s st p fun d e p v F1 H1 O1 x fr w => ?_
  obtain ⟨O'', q1, q2⟩ := st.put (i := i) x fr w
  exact p _ F1 H1 O'' q2 q1
theorem ds_asgF {t : TE} {i : Nat} (ha : DE K cls W t fa) : DS K cls W (tAsg t (gName i)) (sAsgF i fa) := by
  intro D σ F H g O s st p
  refine ha.goS s st p fun d e p v F1 H1 O1 x fr w => ?_
  split at p
  · rename_i n
    have no : ∀ a ∈ O1, F1 a = none := fun a ha => (w.dom a ha).1
    have x2 := addF_ext x fr no
    obtain ⟨O'', q1, q2⟩ := st.put (i := i) x2 Fresh.nil (.sh (w.freeze (addF_same no) addF_at n))
    exact p _ _ H1 O'' q2 q1
  · exact p.elim
theorem js_set {i : Nat} {x : Str} {pos' : Pos} {k : Nat} (c : Cn X W k) (hi : X.N[i]? = some x) (hx : Loc X.env.scope x) (ha : JE X cls W a fa) (hs : swapsWith a (some (.Name x pos')) pos.line X.env = pure false := by rfl)
    (hf : X.fn x = true ∨ X.env.scope.names.lookup x = some .local := by first | exact .inl rfl | exact .inr rfl) : JS X cls W (.Assign [.Name x pos'] a pos) (sAsg i fa) := by
  obtain ⟨t, p, d⟩ := ha.ex
  exact ⟨_, ps_set c.nd hi hx p hs hf, ds_asg d⟩
theorem js_setF {i : Nat} {x : Str} {pos' : Pos} {k : Nat} (c : Cn X W k) (hi : X.N[i]? = some x) (hx : Loc X.env.scope x) (ha : JE X cls W a fa) (hs : swapsWith a (some (.Name x pos')) pos.line X.env = pure false := by rfl)
    (hf : X.fn x = true ∨ X.env.scope.names.lookup x = some .local := by first | exact .inl rfl | exact .inr rfl) : JS X cls W (.Assign [.Name x pos'] a pos) (sAsgF i fa) := by
  obtain ⟨t, p, d⟩ := ha.ex
  exact ⟨_, ps_set c.nd hi hx p hs hf, ds_asgF d⟩
def sRet (fa : Env → Res D) : Env → Out := fun g => ((fa g).bind kp).st g .rt
@[simp] theorem sRet_ (fa : Env → Res D) (g : Env) : sRet fa g = ((fa g).bind kp).st g .rt := rfl
theorem js_ret (ha : JE X cls W a fa) : JS X cls W (.Return (some a) pos) (sRet fa) := by
  obtain ⟨t, p, d⟩ := ha.ex
  refine ⟨_, ps_ret p, ?_⟩
  intro D σ F H g O s st p
  exact d.goS s st p fun d e p v F1 H1 O1 x fr w => p v F1 H1 O1 (x.sext fun a h => .inr (fr a h)) w
def sRetV (i : Nat) : Env → Out := fun g => match g[i]? with
  | some .un => .bad
  | some d => .rt d
  | none => .bad
@[simp] theorem sRetV_ (i : Nat) (g : Env) : sRetV i g = match g[i]? with
  | some .un => .bad
  | some d => .rt d
  | none => .bad := rfl
theorem js_retV (i : Nat) {x : Str} {pos' : Pos} (hN : X.N[i]? = some x := by rfl) (hv : Vis X.env.scope x := by first | exact Or.inl rfl | exact Or.inr (Or.inl rfl) | exact Or.inr (Or.inr rfl)) (hd : (x == ("__debug__" : Str)) = false := by decide)
    (hcd : (x == ("__classdict__" : Str)) = false := by decide) : JS X cls W (.Return (some (.Name x pos')) pos) (sRetV i) := by
  refine ⟨_, ps_ret (pe_var hN hv hd hcd), ?_⟩
  intro D σ F H g O s st p
  rw [sRetV_] at p
  cases e : g[i]? with
  | none => rw [e] at p; exact p.elim
  | some d =>
    have hi : i < g.length := (List.getElem?_eq_some_iff.mp e).1
    obtain ⟨O1, h1, h2, _⟩ := st.at i hi
    rcases h2 with ⟨h2, _⟩ | ⟨v, d', h2, h3, ow⟩
    · rw [e] at h2; cases h2; rw [e] at p; exact p.elim
    · rw [e] at h3; cases h3
      rw [e] at p
      have q : PostS X.K cls W D F H O (.rt d) := by cases d <;> first | exact p | exact p.elim
      exact ⟨v, h2, q v F H O1 ⟨.refl F, s, fun _ _ h _ => h, fun _ h _ _ => h, fun a ha => .inl (h1 a ha)⟩ ow⟩
def sRetN : Env → Out := fun _ => .rt .non
@[simp] theorem sRetN_ (g : Env) : sRetN g = .rt .non := rfl
def sExp (fa : Env → Res D) : Env → Out := fun g => (fa g).st g fun _ => .nx g
@[simp] theorem sExp_ (fa : Env → Res D) (g : Env) : sExp fa g = (fa g).st g fun _ => .nx g := rfl
theorem js_exp (ha : JE X cls W a fa) (hs : swapsWith a none pos.line X.env = pure false := by rfl) : JS X cls W (.Expr a pos) (sExp fa) := by
  obtain ⟨t, p, d⟩ := ha.ex
  refine ⟨_, ps_expr p hs, ?_⟩
  intro D σ F H g O s st p
  rw [sExp_] at p
  exact d.go s st (fun c e => by rw [e] at p; exact xc_st st p) (fun e => by rw [e] at p; exact p) fun d e v F1 H1 x b => by
    rw [e] at p
    exact p σ F1 H1 O (x.sext fun a h => .inl h) (st.ext x)
def frzAt (g : Env) (i : Nat) : Env := match g[i]? with
  | some d => if nod d = true then g.set i (frz d) else g
  | none => g
def sFrz (i : Nat) (f : Env → Out) : Env → Out := fun g => f (frzAt g i)
@[simp] theorem sFrz_ (i : Nat) (f : Env → Out) (g : Env) : sFrz i f g = f (frzAt g i) := rfl
theorem Sts.frzAt (s : Same F H) {g : Env} (i : Nat) (st : Sts K cls F H σ g O) : ∃ F' O', SExt F H O F' H O' ∧ Sts K cls F' H σ (frzAt g i) O' := by
  unfold DL.frzAt
  cases e : g[i]? with
  | none => exact ⟨F, O, .refl s, st⟩
  | some d =>
    simp only []
    by_cases n : nod d = true
    · rw [if_pos n]
      have hi : i < g.length := (List.getElem?_eq_some_iff.mp e).1
      obtain ⟨O1, h1, h2, h3, h4⟩ := st.at i hi
      rcases h2 with ⟨h2, _⟩ | ⟨v, d', h2, h3', ow⟩
      · rw [e] at h2; cases h2
        rw [show frz .un = .un from rfl, set_self e]
        exact ⟨F, O, .refl s, st⟩
      · rw [e] at h3'; cases h3'
        have no : ∀ a ∈ O1, F a = none := fun a ha => (ow.dom a ha).1
        obtain ⟨O'', q1, q2⟩ := h3 (addF F H O1) H v (frz d) [] (fun b hb hn => ⟨rfl, by rw [addF_no hn]; exact (st.dom b hb).1⟩) (addF_same no) (.sh (ow.freeze (addF_same no) addF_at n)) (fun _ h => nomatch h)
        rw [set_self h2] at q1
        refine ⟨_, O'', ⟨addF_same no, fun a o e => ?_, fun _ _ h _ => h, fun a ha hb hc => ?_, fun a ha => .inl ((q2 a ha).resolve_right (fun h => nomatch h))⟩, q1⟩
        · unfold addF at e
          split at e
          · exact e
          · exact s a o e
        · rw [addF_no fun q => hc (h1 a q)]; exact ha
    · rw [if_neg n]; exact ⟨F, O, .refl s, st⟩
theorem ds_frz {t : TS} {f : Env → Out} {i : Nat} (h : DS K cls W t f) : DS K cls W t (sFrz i f) := by
  intro D σ F H g O s st p
  obtain ⟨F', O', x, st'⟩ := st.frzAt s i
  exact h D σ F' H (frzAt g i) O' x.fh st' (p.mono x)
theorem js_frz {st : Stmt} {f : Env → Out} (i : Nat) (h : JS X cls W st f) : JS X cls W st (sFrz i f) := by
  obtain ⟨t, p, d⟩ := h.ex
  exact ⟨t, p, ds_frz d⟩
end
end DL

namespace DL
open PySem L2
theorem wipe_set {σ : St} {i : Nat} {o : Option V} : ∀ {vs : List Nat}, wipe (σ.set i o) vs = if i ∈ vs then wipe σ vs else (wipe σ vs).set i o
  | [] => by simp [wipe]
  | v :: vs => by
    unfold wipe
    rw [wipe_set (vs := vs)]
    by_cases h : i = v
    · subst h
      simp only [List.mem_cons, true_or, if_true]
      split
      · rfl
      · rw [List.set_set]
    · by_cases h2 : i ∈ vs
      · simp [h2]
      · have : ¬ i ∈ v :: vs := by simp [h, h2]
        rw [if_neg this, if_neg h2, List.set_comm _ _ h]
theorem wipe_in {σ : St} {i : Nat} {o : Option V} {vs : List Nat} (h : i ∈ vs) : wipe (σ.set i o) vs = wipe σ vs := by rw [wipe_set, if_pos h]
theorem wipe_wipe {σ : St} : ∀ {us vs : List Nat}, (∀ i ∈ us, i ∈ vs) → wipe (wipe σ us) vs = wipe σ vs
  | [], _, _ => rfl
  | u :: us, vs, h => by
    show wipe ((wipe σ us).set u none) vs = _
    rw [wipe_in (h u (by simp))]
    exact wipe_wipe fun i hi => h i (by simp [hi])
def wipeG (g : Env) : List Nat → Env
  | [] => g
  | v :: vs => (wipeG g vs).set v .un
@[simp] theorem wipeG_nil (g : Env) : wipeG g [] = g := rfl
@[simp] theorem wipeG_cons (g : Env) (v : Nat) (vs : List Nat) : wipeG g (v :: vs) = (wipeG g vs).set v .un := rfl
section
variable {K : PySem.W.Frag} {cls : Cls} {W : WX} {X : Cx} {F H F' H' F1 H1 : Hp} {O O1 : List Addr} {Q : VK} {σ : St} {a b e tg iter : Expr} {es : List Expr} {fa fb fc : Env → Res D} {ga gb : Env → Res Bool} {fs : Env → Res (List D)} {pos : Pos}
theorem Sts.wipe (s : Same F H) {g : Env} (st : Sts K cls F H σ g O) : ∀ vs : List Nat, ∃ O', Sts K cls F H (wipe σ vs) (wipeG g vs) O' ∧ ∀ a ∈ O', a ∈ O
  | [] => ⟨O, st, fun _ h => h⟩
  | v :: vs => by
    obtain ⟨O', st', h'⟩ := st.wipe s vs
    by_cases hi : v < (wipeG g vs).length
    · obtain ⟨O1, h1, h2, h3, h4⟩ := st'.at v hi
      obtain ⟨O'', q1, q2, _⟩ := h4 F H none (fun b hb _ => ⟨rfl, (st'.dom b hb).1⟩) (.refl F)
      exact ⟨O'', q1, fun a ha => h' a (q2 a ha)⟩
    · have hl := st'.len
      refine ⟨O', ?_, h'⟩
      show Sts K cls F H ((L2.wipe σ vs).set v none) ((wipeG g vs).set v .un) O'
      rw [List.set_eq_of_length_le (by omega), List.set_eq_of_length_le (by omega)]
      exact st'

def DG (K : PySem.W.Frag) (cls : Cls) (t : TG) (f : D → Env → Option Env) (ss : List Nat) : Prop :=
  ∀ v d σ F H g O g' Q, Same F H → Sts K cls F H σ g O → Rp K cls F v d → f d g = some g' →
    (∀ σ' O', SExt F H O F H O' → Sts K cls F H σ' g' O' → (∀ vs : List Nat, (∀ i ∈ ss, i ∈ vs) → wipe σ' vs = wipe σ vs) → Q σ' H) → t v σ H Q
def DGs (K : PySem.W.Frag) (cls : Cls) (t : TGs) (f : List D → Env → Option Env) (ss : List Nat) : Prop :=
  ∀ v d σ F H g O g' Q, Same F H → Sts K cls F H σ g O → Rps K cls F v d → f d g = some g' →
    (∀ σ' O', SExt F H O F H O' → Sts K cls F H σ' g' O' → (∀ vs : List Nat, (∀ i ∈ ss, i ∈ vs) → wipe σ' vs = wipe σ vs) → Q σ' H) → t v σ H Q
structure JG (X : Cx) (cls : Cls) (e : Expr) (f : D → Env → Option Env) (ss : List Nat) : Prop where
  ex : ∃ t, PG X e t ∧ DG X.K cls t f ss
structure JGs (X : Cx) (cls : Cls) (e : List Expr) (f : List D → Env → Option Env) (ss : List Nat) : Prop where
  ex : ∃ t, PGs X e t ∧ DGs X.K cls t f ss
def gtN (i : Nat) : D → Env → Option Env := fun d g => some (g.set i d)
@[simp] theorem gtN_ (i : Nat) (d : D) (g : Env) : gtN i d g = some (g.set i d) := rfl
def gtNil : List D → Env → Option Env := fun ds g => match ds with | [] => some g | _ => none
@[simp] theorem gtNil_nil (g : Env) : gtNil [] g = some g := rfl
def gtCons (f : D → Env → Option Env) (fs : List D → Env → Option Env) : List D → Env → Option Env := fun ds g => match ds with
  | d :: r => match f d g with
    | some g1 => fs r g1
    | none => none
  | [] => none
@[simp] theorem gtCons_cons (f : D → Env → Option Env) (fs : List D → Env → Option Env) (d : D) (r : List D) (g : Env) : gtCons f fs (d :: r) g = match f d g with
    | some g1 => fs r g1
    | none => none := rfl
def gtT (n : Nat) (fs : List D → Env → Option Env) : D → Env → Option Env := fun d g => match d with
  | .tp ds => if ds.length = n then fs ds g else none
  | .ls ds => if ds.length = n then fs ds g else none
  | _ => none
@[simp] theorem gtT_tp (n : Nat) (fs : List D → Env → Option Env) (ds : List D) (g : Env) : gtT n fs (.tp ds) g = if ds.length = n then fs ds g else none := rfl
@[simp] theorem gtT_ls (n : Nat) (fs : List D → Env → Option Env) (ds : List D) (g : Env) : gtT n fs (.ls ds) g = if ds.length = n then fs ds g else none := rfl
theorem jg_name {i : Nat} {x : Str} (hN : X.N.Nodup) (hi : X.N[i]? = some x) (hx : Loc X.env.scope x) (hf : X.fn x = true ∨ X.env.scope.names.lookup x = some .local := by first | exact .inl rfl | exact .inr rfl) : JG X cls (.Name x pos) (gtN i) [i] := by
  refine ⟨_, pg_name hN hi hx hf, ?_⟩
  intro v d σ F H g O g' Q s st r e k
  cases e
  obtain ⟨O', q1, q2⟩ := st.putS (i := i) s r
  exact k _ O' q2 q1 fun vs h => wipe_in (h i (by simp))
theorem jgs_nil : JGs X cls [] gtNil [] := by
  refine ⟨_, pgs_nil, ?_⟩
  intro v d σ F H g O g' Q s st r e k
  cases r with
  | nil => cases e; exact ⟨rfl, k σ O (.refl s) st fun _ _ => rfl⟩
  | cons => cases e
theorem jgs_cons {f : D → Env → Option Env} {fs : List D → Env → Option Env} {ss us : List Nat} (h1 : JG X cls e f ss) (h2 : JGs X cls es fs us) (hs : (assignEach (e :: es) X.env).map (·.2) = assign e X.env :: (assignEach es X.env).map (·.2) := by rfl) :
    JGs X cls (e :: es) (gtCons f fs) (ss ++ us) := by
  obtain ⟨t, p, d⟩ := h1.ex
  obtain ⟨u, q, d'⟩ := h2.ex
  refine ⟨_, pgs_cons p q hs, ?_⟩
  intro v ds σ F H g O g' Q s st r e k
  cases r with
  | nil => cases e
  | cons r1 r2 =>
    rename_i v1 d1 vs1 ds1
    rw [gtCons_cons] at e
    cases e1 : f d1 g with
    | none => rw [e1] at e; cases e
    | some g1 =>
      rw [e1] at e
      refine ⟨v1, vs1, rfl, d v1 d1 σ F H g O g1 _ s st r1 e1 fun σ1 O1 x1 st1 w1 => ?_⟩
      refine d' vs1 ds1 σ1 F H g1 O1 g' _ s st1 r2 e fun σ2 O2 x2 st2 w2 => ?_
      exact k σ2 O2 (x1.trans x2) st2 fun vs h => (w2 vs fun i hi => h i (List.mem_append_right _ hi)).trans (w1 vs fun i hi => h i (List.mem_append_left _ hi))
theorem pg_or {t u : TG} (h : PG X tg t) (h' : PG X tg u) : PG X tg (fun v σ H Q => t v σ H Q ∨ u v σ H Q) :=
  ⟨fun pins s σ H v uu Q I r q => q.elim (h.run pins s σ H v uu Q I r) (h'.run pins s σ H v uu Q I r)⟩
theorem jg_tup {kk n : Nat} {fs : List D → Env → Option Env} {ss : List Nat} (hc : X.calm = true) (h : JGs X cls es fs ss)
    (hn : (assignEach es X.env).length = n := by rfl) (hst : (assignEach es X.env).findIdx? (·.1) = none := by rfl) : JG X cls (.Tuple es kk pos) (gtT n fs) ss := by
  obtain ⟨t, p, d⟩ := h.ex
  refine ⟨_, pg_or (pg_tup hc p hn hst) (pg_lst hc p hn hst), ?_⟩
  intro v dd σ F H g O g' Q s st r e k
  cases r with
  | tp hT hr =>
    rw [gtT_tp] at e
    split at e
    · rename_i hl
      exact .inl ⟨_, _, rfl, sameT s hT, by rw [hr.len]; exact hl, d _ _ σ F H g O g' Q s st hr e k⟩
    · cases e
  | ls hT hr =>
    rw [gtT_ls] at e
    split at e
    · rename_i hl
      exact .inr ⟨_, _, rfl, SqL.of (s _ _ hT), by rw [hr.len]; exact hl, d _ _ σ F H g O g' Q s st hr e k⟩
    · cases e
  | _ => cases e
def sAsgT (tg : D → Env → Option Env) (fa : Env → Res D) : Env → Out := fun g => ((fa g).bind kp).st g fun d => if nod d = true then match tg (frz d) g with
  | some g' => .nx g'
  | none => .bad else .bad
@[simp] theorem sAsgT_ (tg : D → Env → Option Env) (fa : Env → Res D) (g : Env) : sAsgT tg fa g = ((fa g).bind kp).st g fun d => if nod d = true then match tg (frz d) g with
  | some g' => .nx g'
  | none => .bad else .bad := rfl
theorem js_asgT {ft : D → Env → Option Env} {ss : List Nat} (ha : JE X cls W a fa) (hg : JG X cls tg ft ss) (hs : swapsWithSole [tg] a pos.line X.env = pure false := by rfl) (hw : swappedStores [tg] a X.env = pure none := by rfl)
    (h1 : (assignEach [tg] X.env).map (·.2) = [assign tg X.env] := by rfl) : JS X cls W (.Assign [tg] a pos) (sAsgT ft fa) := by
  obtain ⟨t, p, d⟩ := ha.ex
  obtain ⟨u, q, d'⟩ := hg.ex
  refine ⟨_, ps_asg p q hs hw h1, ?_⟩
  intro D σ F H g O s st p
  rw [sAsgT_] at p
  refine d.goS s st p fun dd e p v F1 H1 O1 x fr w => ?_
  split at p
  · rename_i n
    have no : ∀ a ∈ O1, F1 a = none := fun a ha => (w.dom a ha).1
    have x2 := addF_ext x fr no
    have r := w.freeze (addF_same no) addF_at n
    cases eo : ft (frz dd) g with
    | none => rw [eo] at p; exact p.elim
    | some g' =>
      rw [eo] at p
      refine d' v (frz dd) σ _ H1 g O g' _ x2.fh (st.ext x2) r eo fun σ' O' y st' _ => ?_
      exact p σ' _ H1 O' ((x2.sext fun a h => .inl h).trans y) st'
  · exact p.elim
def sPar (i j : Nat) (fs : Env → Res (List D)) : Env → Out := fun g => (fs g).st g fun ds => if nods ds = true then match frzs ds with
  | [d, d'] => .nx ((g.set i d).set j d')
  | _ => .bad else .bad
@[simp] theorem sPar_ (i j : Nat) (fs : Env → Res (List D)) (g : Env) : sPar i j fs g = (fs g).st g fun ds => if nods ds = true then match frzs ds with
  | [d, d'] => .nx ((g.set i d).set j d')
  | _ => .bad else .bad := rfl
end
end DL

namespace DL
open PySem L2
section
variable {K : PySem.W.Frag} {cls : Cls} {W : WX} {X : Cx} {F H F' H' F1 H1 : Hp} {O O1 : List Addr} {Q : VK} {σ : St} {a b e tg iter : Expr} {es : List Expr} {fa fb fc : Env → Res D} {ga gb : Env → Res Bool} {fs : Env → Res (List D)} {pos : Pos}
structure Feeds (K : PySem.W.Frag) (cls : Cls) (F : Hp) (J : It) (ds : List D) : Prop where
  go : ∀ i d, ds[i]? = some d → ∀ F' H', Same F F' → Same F' H' → J.go i H' ∧ ∀ x H'', J.yld i H' x H'' → ∃ F'', Ext F' H' F'' H'' ∧ Rp K cls F'' x d
  stop : ∀ F' H', Same F F' → Same F' H' → J.stop ds.length H'
def PostI (K : PySem.W.Frag) (cls : Cls) (W : WX) (σ : St) (F H : Hp) (R : It → Hp → Prop) : Res (List D) → Prop
  | .ok ds => ∀ J F' H', Ext F H F' H' → Feeds K cls F' J ds → R J H'
  | .xc c => ∀ F' H', Ext F H F' H' → W (excV cls c) none σ H'
  | .bad => False
def DI (K : PySem.W.Frag) (cls : Cls) (W : WX) (wi : TI) (f : Env → Res (List D)) : Prop :=
  ∀ σ F H g O (R : It → Hp → Prop), Same F H → Sts K cls F H σ g O → PostI K cls W σ F H R (f g) → wi σ H R
structure JI (X : Cx) (cls : Cls) (W : WX) (tg e : Expr) (f : Env → Res (List D)) : Prop where
  ex : ∃ wi, PI X tg e wi ∧ DI X.K cls W wi f
theorem pi_or {w1 w2 : TI} (h1 : PI X tg iter w1) (h2 : PI X tg iter w2) : PI X tg iter (fun σ H R => w1 σ H R ∨ w2 σ H R) :=
  ⟨fun pins s σ H R I q => q.elim (h1.run pins s σ H R I) (h2.run pins s σ H R I)⟩
theorem feeds_list {a : Addr} {vs : List V} {ds : List D} (h : SqL K F a vs) (r : Rps K cls F vs ds) : Feeds K cls F (Itl K a) ds where
  go := fun i d e F' H' s1 s2 => by
    obtain ⟨v, h1, h2⟩ := r.get e
    have h' : SqL K H' a vs := (s1.trans s2).seq h
    refine ⟨⟨vs, v, h', h1⟩, fun x H'' y => ?_⟩
    obtain ⟨e1, y⟩ := y
    subst e1
    have := y vs h'
    rw [h1] at this
    cases this
    exact ⟨F', .refl s2, h2.mono s1⟩
  stop := fun F' H' s1 s2 => ⟨vs, (s1.trans s2).seq h, by rw [r.len]; exact Nat.le_refl _⟩
theorem feeds_tup {a : Addr} {vs : List V} {ds : List D} (h : SqT K F a vs) (r : Rps K cls F vs ds) : Feeds K cls F (Itt K a) ds where
  go := fun i d e F' H' s1 s2 => by
    obtain ⟨v, h1, h2⟩ := r.get e
    have h' : SqT K H' a vs := sameT (s1.trans s2) h
    refine ⟨⟨vs, v, h', h1⟩, fun x H'' y => ?_⟩
    obtain ⟨e1, y⟩ := y
    subst e1
    have := y vs h'
    rw [h1] at this
    cases this
    exact ⟨F', .refl s2, h2.mono s1⟩
  stop := fun F' H' s1 s2 => ⟨vs, sameT (s1.trans s2) h, by rw [r.len]; exact Nat.le_refl _⟩
@[simp] def lsS : D → Option (List D)
  | .ls xs => some xs
  | .sc xs => some xs
  | _ => none
theorem Bo.lsS {v : V} {d : D} {xs : List D} (b : Bo K cls F H v d) (e : lsS d = some xs) : ∃ a vs, v = .ref a ∧ SqL K F a vs ∧ Rps K cls F vs xs := by
  cases b with
  | sh r =>
    cases r <;> simp at e
    · subst e; exact ⟨_, _, rfl, by assumption, by assumption⟩
    · subst e; exact ⟨_, _, rfl, SqL.of (by assumption), by assumption⟩
  | bo => simp at e
  | bd => simp at e
  | bb => simp at e
@[simp] def sqS : D → Option (List D)
  | .ls xs => some xs
  | .sc xs => some xs
  | .tp xs => some xs
  | _ => none
def iSeq (fa : Env → Res D) : Env → Res (List D) := fun g => (fa g).bind fun a => .of (sqS (opd a))
@[simp] theorem iSeq_ (fa : Env → Res D) (g : Env) : iSeq fa g = (fa g).bind fun a => .of (sqS (opd a)) := rfl
theorem ji_seq (ha : JE X cls W iter fa) : JI X cls W tg iter (iSeq fa) := by
  obtain ⟨t, p, d⟩ := ha.ex
  refine ⟨_, pi_or (pi_list p) (pi_tup p), ?_⟩
  intro σ F H g O R s st p
  rw [iSeq_] at p
  cases ea : fa g with
  | xc c =>
    rw [ea] at p
    exact .inl (d.go s st (fun c e => by rw [ea] at e; cases e; exact p) (fun e => by rw [ea] at e; cases e) fun d e => by rw [ea] at e; cases e)
  | bad => rw [ea] at p; exact p.elim
  | ok dd =>
    rw [ea] at p
    simp only [Res.bind] at p
    have side : (∃ xs, lsS (opd dd) = some xs ∧ sqS (opd dd) = some xs) ∨ (∃ xs, tpv (opd dd) = some xs ∧ sqS (opd dd) = some xs) ∨ sqS (opd dd) = none := by
      cases opd dd <;> simp
    rcases side with ⟨xs, e1, e2⟩ | ⟨xs, e1, e2⟩ | e2
    · rw [e2] at p
      refine .inl (d.go s st (fun c e => by rw [ea] at e; cases e) (fun e => by rw [ea] at e; cases e) fun d e v F1 H1 x b => ?_)
      rw [ea] at e; cases e
      obtain ⟨a, vs, rfl, h, r⟩ := b.lsS e1
      exact ⟨a, rfl, ⟨vs, x.fh.seq h⟩, p _ F1 H1 x (feeds_list h r)⟩
    · rw [e2] at p
      refine .inr (d.go s st (fun c e => by rw [ea] at e; cases e) (fun e => by rw [ea] at e; cases e) fun d e v F1 H1 x b => ?_)
      rw [ea] at e; cases e
      obtain ⟨a, vs, rfl, h, h', r⟩ := b.tpv x.fh e1
      exact ⟨a, rfl, ⟨vs, h⟩, p _ F1 H1 x (feeds_tup h' r)⟩
    · rw [e2] at p; exact p.elim
def rng (lo : Int) (n : Nat) : List D := (List.range n).map fun i : Nat => D.int (lo + (i : Int))
theorem rng_len (lo : Int) (n : Nat) : (rng lo n).length = n := by unfold rng; simp
theorem rng_get {lo : Int} {n i : Nat} {d : D} (h : (rng lo n)[i]? = some d) : i < n ∧ d = .int (lo + (i : Int)) := by
  unfold rng at h
  rw [List.getElem?_map] at h
  by_cases hi : i < n
  · rw [List.getElem?_range hi] at h
    cases h
    exact ⟨hi, rfl⟩
  · rw [List.getElem?_eq_none (by simpa using hi)] at h; cases h
theorem feeds_rng (lo : Int) (n : Nat) : Feeds K cls F (Itr lo n) (rng lo n) where
  go := fun i d e F' H' s1 s2 => by
    obtain ⟨h1, rfl⟩ := rng_get e
    refine ⟨h1, fun x H'' y => ?_⟩
    obtain ⟨e1, e2⟩ := y
    subst e1 e2
    exact ⟨F', .refl s2, .int _⟩
  stop := fun F' H' s1 s2 => by rw [rng_len]; exact Nat.le_refl _
def rgOk (i : Int) : Prop := i.natAbs ≤ 1000000000
theorem rgOk.lo {i : Int} (h : rgOk i) : -(2 ^ 62) ≤ i := by unfold rgOk at h; omega
theorem rgOk.hi {i : Int} (h : rgOk i) : i < 2 ^ 62 := by unfold rgOk at h; omega
instance (i : Int) : Decidable (rgOk i) := by unfold rgOk; infer_instance
theorem rgOk_of {i : Int} (h : -1000000000 ≤ i) (h' : i ≤ 1000000000) : rgOk i := by unfold rgOk; omega
def iRg1 (fs : Env → Res (List D)) : Env → Res (List D) := fun g => (fs g).bind fun ds => match ds with
  | [.int j] => if rgOk j then .ok (rng 0 j.toNat) else .bad
  | _ => .bad
def iRg2 (fs : Env → Res (List D)) : Env → Res (List D) := fun g => (fs g).bind fun ds => match ds with
  | [.int i, .int j] => if rgOk i ∧ rgOk j then .ok (rng i (j - i).toNat) else .bad
  | _ => .bad
@[simp] theorem iRg1_ (fs : Env → Res (List D)) (g : Env) : iRg1 fs g = (fs g).bind fun ds => match ds with
  | [.int j] => if rgOk j then .ok (rng 0 j.toNat) else .bad
  | _ => .bad := rfl
@[simp] theorem iRg2_ (fs : Env → Res (List D)) (g : Env) : iRg2 fs g = (fs g).bind fun ds => match ds with
  | [.int i, .int j] => if rgOk i ∧ rgOk j then .ok (rng i (j - i).toNat) else .bad
  | _ => .bad := rfl
theorem ji_rg1 {p : Pos} (hm : X.mg "range" = none) (ha : JA X cls W [a] fs) (hg : Gl X "range" := by rfl) (hs : starEach [a] X.env = [(false, eval a X.env)] := by rfl) : JI X cls W tg (.Call (.Name "range" p) [a] [] pos) (iRg1 fs) := by
  obtain ⟨t, p, d⟩ := ha.ex
  refine ⟨_, pi_range1 hg hm p hs, ?_⟩
  intro σ F H g O R s st p
  rw [iRg1_] at p
  refine d.go s st (fun c e => by rw [e] at p; exact p) (fun e => by rw [e] at p; exact p) fun ds e vs F1 H1 x b => ?_
  rw [e] at p
  simp only [Res.bind] at p
  split at p
  · rename_i j
    split at p
    · rename_i hj
      obtain ⟨v, rfl, b1⟩ := b.one
      obtain rfl := b1.int
      exact ⟨j, rfl, hj.lo, hj.hi, p _ F1 H1 x (feeds_rng 0 j.toNat)⟩
    · exact p.elim
  · exact p.elim
theorem ji_rg2 {p : Pos} (hm : X.mg "range" = none) (ha : JA X cls W [a, b] fs) (hg : Gl X "range" := by rfl) (hs : starEach [a, b] X.env = [(false, eval a X.env), (false, eval b X.env)] := by rfl) (hs2 : starEach [b] X.env = [(false, eval b X.env)] := by rfl) :
    JI X cls W tg (.Call (.Name "range" p) [a, b] [] pos) (iRg2 fs) := by
  obtain ⟨t, p, d⟩ := ha.ex
  refine ⟨_, pi_range2 hg hm p hs hs2, ?_⟩
  intro σ F H g O R s st p
  rw [iRg2_] at p
  refine d.go s st (fun c e => by rw [e] at p; exact p) (fun e => by rw [e] at p; exact p) fun ds e vs F1 H1 x b => ?_
  rw [e] at p
  simp only [Res.bind] at p
  split at p
  · rename_i i j
    split at p
    · rename_i hj
      obtain ⟨v, v', rfl, b1, b2⟩ := b.two
      obtain rfl := b1.int
      obtain rfl := b2.int
      exact ⟨i, j, rfl, ⟨hj.1.lo, hj.1.hi, hj.2.lo, hj.2.hi⟩, p _ F1 H1 x (feeds_rng i _)⟩
    · exact p.elim
  · exact p.elim
def enm (i : Nat) : List D → List D
  | [] => []
  | d :: ds => .tp [.int (i : Int), d] :: enm (i + 1) ds
theorem enm_len : ∀ (ds : List D) (i : Nat), (enm i ds).length = ds.length
  | [], _ => rfl
  | d :: ds, i => by simp [enm, enm_len ds]
theorem enm_get : ∀ {ds : List D} {j i : Nat} {d : D}, (enm j ds)[i]? = some d → ∃ e, ds[i]? = some e ∧ d = .tp [.int ((j + i : Nat) : Int), e]
  | [], _, _, _, h => by simp [enm] at h
  | d :: ds, j, 0, _, h => by simp [enm] at h; exact ⟨d, rfl, by simp [← h]⟩
  | d :: ds, j, i + 1, d2, h => by
    have h' : (enm (j + 1) ds)[i]? = some d2 := by simpa [enm] using h
    obtain ⟨e, h1, h2⟩ := enm_get h'
    exact ⟨e, by simpa using h1, by rw [h2, show j + 1 + i = j + (i + 1) by omega]⟩
theorem feeds_enum {a : Addr} {vs : List V} {ds : List D} (h : SqL K F a vs) (r : Rps K cls F vs ds) : Feeds K cls F (Ite K a) (enm 0 ds) where
  go := fun i d e F' H' s1 s2 => by
    obtain ⟨d', e1, rfl⟩ := enm_get e
    obtain ⟨v, h1, h2⟩ := r.get e1
    have h' : SqL K H' a vs := (s1.trans s2).seq h
    refine ⟨⟨vs, v, h', h1⟩, fun x H'' y => ?_⟩
    obtain ⟨T, w, e1, e2, e3, y⟩ := y
    subst e1 e3
    have := y vs h'
    rw [h1] at this
    cases this
    have px := Ext.put (o := .tup [.int ((0 + i : Nat) : Int), v]) s2 e2
    rw [Nat.zero_add] at px ⊢
    exact ⟨_, px, .tp (SqT.of upd_same) (.cons (.int _) (.cons (h2.mono (s1.trans px.ff)) .nil))⟩
  stop := fun F' H' s1 s2 => ⟨vs, (s1.trans s2).seq h, by rw [enm_len, r.len]; exact Nat.le_refl _⟩
def iEnm (fs : Env → Res (List D)) : Env → Res (List D) := fun g => (fs g).bind fun ds => match ds with
  | [d] => (Res.of (lsS d)).bind fun xs => .ok (enm 0 xs)
  | _ => .bad
@[simp] theorem iEnm_ (fs : Env → Res (List D)) (g : Env) : iEnm fs g = (fs g).bind fun ds => match ds with
  | [d] => (Res.of (lsS d)).bind fun xs => .ok (enm 0 xs)
  | _ => .bad := rfl
theorem ji_enm {p tpos : Pos} {elts : List Expr} {kk : Nat} (hm : X.mg "enumerate" = none) (ha : JA X cls W [a] fs) (hg : Gl X "enumerate" := by rfl) (hs : starEach [a] X.env = [(false, eval a X.env)] := by rfl) :
    JI X cls W (.Tuple elts kk tpos) (.Call (.Name "enumerate" p) [a] [] pos) (iEnm fs) := by
  obtain ⟨t, p, d⟩ := ha.ex
  refine ⟨_, pi_enum hg hm p hs, ?_⟩
  intro σ F H g O R s st p
  rw [iEnm_] at p
  refine d.go s st (fun c e => by rw [e] at p; exact p) (fun e => by rw [e] at p; exact p) fun ds e vs F1 H1 x b => ?_
  rw [e] at p
  simp only [Res.bind] at p
  split at p
  · rename_i d1
    cases e1 : lsS d1 with
    | none => rw [e1] at p; exact p.elim
    | some xs =>
      rw [e1] at p
      simp only [Res.of] at p
      obtain ⟨v, rfl, b1⟩ := b.one
      obtain ⟨a, vs, rfl, h, r⟩ := b1.lsS e1
      exact ⟨a, vs, rfl, x.fh.seq h, p _ F1 H1 x (feeds_enum h r)⟩
  · exact p.elim
def zipD : List D → List D → List D
  | a :: xs, b :: ys => .tp [a, b] :: zipD xs ys
  | _, _ => []
def iZp (fs : Env → Res (List D)) : Env → Res (List D) := fun g => (fs g).bind fun ds => match ds with
  | [d, e] => (Res.of (lsS d)).bind fun xs => (Res.of (lsS e)).bind fun ys => .ok (zipD xs ys)
  | _ => .bad
@[simp] theorem iZp_ (fs : Env → Res (List D)) (g : Env) : iZp fs g = (fs g).bind fun ds => match ds with
  | [d, e] => (Res.of (lsS d)).bind fun xs => (Res.of (lsS e)).bind fun ys => .ok (zipD xs ys)
  | _ => .bad := rfl
def forL (tg : D → Env → Option Env) (b : Env → Out) : List D → Env → Out
  | [], g => .nx g
  | d :: ds, g => match tg d g with
    | none => .bad
    | some g1 => match b g1 with
      | .nx g' => forL tg b ds g'
      | .ct g' => forL tg b ds g'
      | .bk g' => .nx g'
      | o => o
@[simp] theorem forL_nil (tg : D → Env → Option Env) (b : Env → Out) (g : Env) : forL tg b [] g = .nx g := rfl
theorem forL_cons (tg : D → Env → Option Env) (b : Env → Out) (d : D) (ds : List D) (g : Env) : forL tg b (d :: ds) g = match tg d g with
    | none => .bad
    | some g1 => match b g1 with
      | .nx g' => forL tg b ds g'
      | .ct g' => forL tg b ds g'
      | .bk g' => .nx g'
      | o => o := rfl
def sFor (fi : Env → Res (List D)) (tg : D → Env → Option Env) (b : Env → Out) : Env → Out := fun g => (fi g).st g fun ds => forL tg b ds g
@[simp] theorem sFor_ (fi : Env → Res (List D)) (tg : D → Env → Option Env) (b : Env → Out) (g : Env) : sFor fi tg b g = (fi g).st g fun ds => forL tg b ds g := rfl
theorem ds_for {wi : TI} {t : TG} {tb : TS} {ft : D → Env → Option Env} {fbo : Env → Out} {ss : List Nat} (hi : DI K cls W wi fs) (hg : DG K cls t ft ss) (hb : DS K cls W tb fbo) : DS K cls W (tFor wi t tb) (sFor fs ft fbo) := by
  intro D σ F H g O s st p
  rw [sFor_] at p
  refine hi σ F H g O _ s st ?_
  cases e : fs g with
  | bad => rw [e] at p; exact p
  | xc c => rw [e] at p; exact xc_st st p
  | ok ds =>
    rw [e, Res.st_ok] at p
    intro J F1 H1 x1 fd
    have x1' : SExt F H O F1 H1 O := x1.sext fun a h => .inl h
    refine ⟨fun i m σ2 H2 => m = ds.length - i ∧ i ≤ ds.length ∧ ∃ F2 g2 O2, SExt F1 H1 O F2 H2 O2 ∧ Sts K cls F2 H2 σ2 g2 O2 ∧ PostS K cls W D F1 H1 O (forL ft fbo (ds.drop i) g2),
      ⟨ds.length, rfl, Nat.zero_le _, F1, g, O, .refl x1.fh, st.ext x1, by rw [List.drop_zero]; exact p.mono x1'⟩, ?_⟩
    rintro i m σ2 H2 ⟨rfl, hi, F2, g2, O2, x2, st2, p2⟩
    by_cases hlt : i < ds.length
    · have ed : ds.drop i = ds[i] :: ds.drop (i + 1) := List.drop_eq_getElem_cons hlt
      rw [ed, forL_cons] at p2
      obtain ⟨g0, y0⟩ := fd.go i ds[i] (by simp [hlt]) F2 H2 x2.ff x2.fh
      have nxt : ∀ {g' : Env} {F3 H3 O3 : _} {σ3 : St}, SExt F1 H1 O F3 H3 O3 → Sts K cls F3 H3 σ3 g' O3 → PostS K cls W D F1 H1 O (forL ft fbo (ds.drop (i + 1)) g') →
          ∃ m', m' < ds.length - i ∧ m' = ds.length - (i + 1) ∧ i + 1 ≤ ds.length ∧ ∃ F2 g2 O2, SExt F1 H1 O F2 H3 O2 ∧ Sts K cls F2 H3 σ3 g2 O2 ∧ PostS K cls W D F1 H1 O (forL ft fbo (ds.drop (i + 1)) g2) :=
        fun {g' F3 H3 O3 σ3} x st' q => ⟨ds.length - (i + 1), by omega, rfl, hlt, F3, g', O3, x, st', q⟩
      refine .inr ⟨g0, fun σ3 H3 => ∃ F3 g' O3, SExt F1 H1 O F3 H3 O3 ∧ Sts K cls F3 H3 σ3 g' O3 ∧ PostS K cls W D F1 H1 O (forL ft fbo (ds.drop (i + 1)) g'), fun σ3 H3 ⟨F3, g', O3, x, st', q⟩ => nxt x st' q, fun v H3 yv => ?_⟩
      obtain ⟨F3, x3, rv⟩ := y0 v H3 yv
      cases et : ft ds[i] g2 with
      | none => rw [et] at p2; exact p2.elim
      | some g3 =>
        rw [et] at p2
        simp only [] at p2
        refine hg v ds[i] σ2 F3 H3 g2 O2 g3 _ x3.fh (st2.ext x3) rv et fun σ4 O4 x4 st4 _ => ?_
        have x34 : SExt F1 H1 O F3 H3 O4 := x2.trans ((x3.sext fun a h => .inl h).trans x4)
        refine hb _ σ4 F3 H3 g3 O4 x3.fh st4 ?_
        cases eb : fbo g3 with
        | nx g' => rw [eb] at p2; exact fun σ5 F5 H5 O5 x5 st5 => ⟨F5, g', O5, x34.trans x5, st5, p2⟩
        | ct g' => rw [eb] at p2; exact fun σ5 F5 H5 O5 x5 st5 => ⟨F5, g', O5, x34.trans x5, st5, p2⟩
        | bk g' => rw [eb] at p2; exact fun σ5 F5 H5 O5 x5 st5 => p2 σ5 F5 H5 O5 (x34.trans x5) st5
        | rt d => rw [eb] at p2; exact fun v F5 H5 O5 x5 w => p2 v F5 H5 O5 (x34.trans x5) w
        | xc c g' => rw [eb] at p2; exact fun σ5 F5 H5 O5 x5 st5 => p2 σ5 F5 H5 O5 (x34.trans x5) st5
        | bad => rw [eb] at p2; exact p2
    · have ei : i = ds.length := by omega
      subst ei
      rw [List.drop_length] at p2
      exact .inl ⟨fd.stop F2 H2 x2.ff x2.fh, p2 σ2 F2 H2 O2 x2 st2⟩
theorem js_for {body : List Stmt} {ft : D → Env → Option Env} {fbo : Env → Out} {ss : List Nat} {k : Nat} (c : Cn X W k) (hi : JI X cls W tg iter fs) (hg : JG X cls tg ft ss) (hb : JSs X cls W body fbo)
    (hs : ∀ x, foldedSetIterable iter X.env x = pure x := by intro _; rfl) : JS X cls W (.For tg iter body [] pos) (sFor fs ft fbo) := by
  obtain ⟨wi, p, d⟩ := hi.ex
  obtain ⟨t, q, d'⟩ := hg.ex
  obtain ⟨tb, r, d''⟩ := hb.ex
  exact ⟨_, ps_for c.hp c.calm p q r hs, ds_for d d' d''⟩

def whileN (c : Env → Res Bool) (b : Env → Out) : Nat → Env → Out
  | 0, _ => .bad
  | n + 1, g => (c g).st g fun k => if k = true then match b g with
      | .nx g' => whileN c b n g'
      | .ct g' => whileN c b n g'
      | .bk g' => .nx g'
      | o => o
    else .nx g
def fuel : Nat := 1000000000
def sWhile (c : Env → Res Bool) (b : Env → Out) : Env → Out := fun g => whileN c b fuel g
@[simp] theorem sWhile_ (c : Env → Res Bool) (b : Env → Out) (g : Env) : sWhile c b g = whileN c b fuel g := rfl
def lcL (tg : D → Env → Option Env) (tt : Env → Res Bool) (te : Env → Res D) (g : Env) : List D → Res (List D)
  | [] => .ok []
  | d :: ds => match tg d g with
    | none => .bad
    | some g1 => (tt g1).bind fun b => if b = true then ((te g1).bind kp).bind fun y => (lcL tg tt te g ds).bind fun r => .ok (y :: r) else lcL tg tt te g ds
@[simp] theorem lcL_nil (tg : D → Env → Option Env) (tt : Env → Res Bool) (te : Env → Res D) (g : Env) : lcL tg tt te g [] = .ok [] := rfl
theorem lcL_cons (tg : D → Env → Option Env) (tt : Env → Res Bool) (te : Env → Res D) (g : Env) (d : D) (ds : List D) : lcL tg tt te g (d :: ds) = match tg d g with
    | none => .bad
    | some g1 => (tt g1).bind fun b => if b = true then ((te g1).bind kp).bind fun y => (lcL tg tt te g ds).bind fun r => .ok (y :: r) else lcL tg tt te g ds := rfl
def eLc (fi : Env → Res (List D)) (own : List Nat) (tg : D → Env → Option Env) (tt : Env → Res Bool) (te : Env → Res D) : Env → Res D := fun g => (fi g).bind fun ds => if ds.length ≤ lim then
  match lcL tg tt te (wipeG g own) ds with
  | .ok r => .ok (.ol r)
  | _ => .bad
  else .bad
@[simp] theorem eLc_ (fi : Env → Res (List D)) (own : List Nat) (tg : D → Env → Option Env) (tt : Env → Res Bool) (te : Env → Res D) (g : Env) : eLc fi own tg tt te g = (fi g).bind fun ds => if ds.length ≤ lim then
  match lcL tg tt te (wipeG g own) ds with
  | .ok r => .ok (.ol r)
  | _ => .bad
  else .bad := rfl
def tYesG : Env → Res Bool := fun _ => .ok true
@[simp] theorem tYesG_ (g : Env) : tYesG g = .ok true := rfl
theorem Ows.snoc {vs : List V} {ds : List D} {O1 O2 : List Addr} {v : V} {d : D} (h : Ows K cls F H vs ds O1) (w : Ow K cls F H v d O2) (dj : ∀ a ∈ O1, a ∉ O2) : Ows K cls F H (vs ++ [v]) (ds ++ [d]) (O1 ++ O2) := by
  induction ds generalizing vs O1 with
  | nil => cases h; exact .cons w .nil (fun _ _ q => nomatch q) (by simp)
  | cons d' ds ih =>
    cases h with
    | cons a b dj' e =>
      subst e
      refine .cons a (ih b fun x hx => dj x (List.mem_append_right _ hx)) (fun x h1 h2 => ?_) (by simp)
      rcases List.mem_append.mp h2 with q | q
      · exact dj' x h1 q
      · exact dj x (List.mem_append_left _ h1) q
theorem de_lc {wi : TI} {t : TG} {tt : TT} {te : TE} {ft : D → Env → Option Env} {gt : Env → Res Bool} {fe : Env → Res D} {ss own : List Nat} (hi : DI K cls W wi fs) (hg : DG K cls t ft ss) (ht : DT K cls W0 tt gt) (he : DE K cls W0 te fe) (hss : ∀ i ∈ ss, i ∈ own) :
    DE K cls W (tLc wi t tt te own) (eLc fs own ft gt fe) := by
  intro σ F H g O Q s st p
  rw [eLc_] at p
  refine hi σ F H g O _ s st ?_
  cases e : fs g with
  | bad => rw [e] at p; exact p
  | xc c => rw [e] at p; exact p
  | ok ds =>
    rw [e] at p
    simp only [Res.bind] at p
    intro J F1 H1 x1 fd A hA
    by_cases hlen : ds.length ≤ lim
    · rw [if_pos hlen] at p
      -- the env within the block
      obtain ⟨Ow1, stw, hw⟩ := (st.ext x1).wipe x1.fh own
      have fA : F1 A = none := by
        cases q : F1 A with
        | none => rfl
        | some u => rw [x1.fh A u q] at hA; cases hA
      have sA : Same H1 (upd H1 A (.lst [])) := upd_same' hA
      let Inv := fun (i : Nat) (H2 : Hp) => ∃ F2 acc es' O2, Ext F1 H1 F2 H2 ∧ H2 A = some (.lst acc) ∧ F2 A = none ∧ A ∉ O2 ∧ Fresh H1 O2 ∧ Ows K cls F2 H2 acc es' O2 ∧ es'.length ≤ i ∧
        ∃ r, lcL ft gt fe (wipeG g own) (ds.drop i) = .ok r ∧ lcL ft gt fe (wipeG g own) ds = .ok (es' ++ r)
      cases er : lcL ft gt fe (wipeG g own) ds with
      | bad => rw [er] at p; exact p.elim
      | xc c => rw [er] at p; exact p.elim
      | ok r0 =>
        rw [er] at p
        simp only [] at p
        refine ⟨fun i m H2 => m = ds.length - i ∧ i ≤ ds.length ∧ Inv i H2, ⟨ds.length, rfl, Nat.zero_le _, F1, [], [], [], Ext.own x1.fh hA, upd_same, fA, by simp, Fresh.nil, .nil, Nat.zero_le _, r0, by rw [List.drop_zero]; exact er, by simpa using er⟩, ?_⟩
        rintro i m H2 ⟨rfl, hi, F2, acc, es', O2, x2, h2, f2, n2, fr2, w2, hl2, r, e1, e2⟩
        by_cases hlt : i < ds.length
        · have ed : ds.drop i = ds[i] :: ds.drop (i + 1) := List.drop_eq_getElem_cons hlt
          rw [ed, lcL_cons] at e1
          obtain ⟨g0, y0⟩ := fd.go i ds[i] (by simp [hlt]) F2 H2 x2.ff x2.fh
          refine .inr ⟨g0, fun H3 => Inv (i + 1) H3, fun H3 q => ⟨ds.length - (i + 1), by omega, rfl, hlt, q⟩, fun v H3 yv => ?_⟩
          obtain ⟨F3, x3, rv⟩ := y0 v H3 yv
          cases et : ft ds[i] (wipeG g own) with
          | none => rw [et] at e1; cases e1
          | some g3 =>
            rw [et] at e1
            simp only [] at e1
            have stw3 := (stw.ext x2).ext x3
            refine hg v ds[i] _ F3 H3 (wipeG g own) Ow1 g3 _ x3.fh stw3 rv et fun σ4 O4 x4 st4 w4 => ⟨?_, ?_⟩
            · exact (w4 own hss).trans (wipe_wipe fun _ h => h)
            · have h3 : H3 A = some (.lst acc) := x3.hh _ _ h2
              have f3 : F3 A = none := x3.ow A f2 (by rw [h2]; exact fun e => nomatch e)
              refine ht σ4 F3 H3 g3 O4 _ x3.fh st4 ?_
              cases eb : gt g3 with
              | bad => rw [eb] at e1; cases e1
              | xc c => rw [eb] at e1; cases e1
              | ok b =>
                rw [eb, Res.bind_ok] at e1
                intro F5 H5 x5
                have h5 : H5 A = some (.lst acc) := x5.hh _ _ h3
                have f5 : F5 A = none := x5.ow A f3 (by rw [h3]; exact fun e => nomatch e)
                have x25 := x2.trans (x3.trans x5)
                cases b with
                | false =>
                  rw [if_neg (by decide)] at e1
                  rw [if_neg (by decide)]
                  exact ⟨F5, acc, es', O2, x25, h5, f5, n2, fr2, (w2.ext x3).ext x5, Nat.le_succ_of_le hl2, r, e1, e2⟩
                | true =>
                  rw [if_pos rfl] at e1
                  rw [if_pos rfl]
                  refine he.goO x5.fh (st4.ext x5) (fun c e => by rw [e] at e1; cases e1) (fun e => by rw [e] at e1; cases e1) fun d e v F6 H6 O6 x6 fr6 w6 => ?_
                  rw [e, Res.bind_ok] at e1
                  cases er2 : lcL ft gt fe (wipeG g own) (ds.drop (i + 1)) with
                  | bad => rw [er2] at e1; cases e1
                  | xc c => rw [er2] at e1; cases e1
                  | ok r2 =>
                    rw [er2] at e1
                    cases e1
                    have h6 : H6 A = some (.lst acc) := x6.hh _ _ h5
                    have f6 : F6 A = none := x6.ow A f5 (by rw [h5]; exact fun e => nomatch e)
                    have x26 := x25.trans x6
                    have n6 : A ∉ O6 := fun q => by have := fr6 A q; rw [h5] at this; cases this
                    refine ⟨acc, h6, ?_, F6, acc ++ [v], es' ++ [d], O2 ++ O6, ?_, upd_same, f6, ?_, ?_, ?_, by simp; omega, r2, er2, by rw [e2]; simp⟩
                    · rw [w2.len]; exact lim_lt (by omega)
                    · exact ⟨x26.ff, fun b o q => by rw [upd_ne (ne_of_none q hA)]; exact x26.hh b o q, fun b o q => by
                        rw [upd_ne (fun z => by rw [z, f6] at q; cases q)]; exact x26.fh b o q, x26.ow⟩
                    · intro q
                      rcases List.mem_append.mp q with q | q
                      · exact n2 q
                      · exact n6 q
                    · intro a ha
                      rcases List.mem_append.mp ha with q | q
                      · exact fr2 a q
                      · exact (x25.hh).free (fr6 a q)
                    · have w2' := ((w2.ext x3).ext x5).ext x6
                      have dj : ∀ a ∈ O2, a ∉ O6 := fun a h1 h2 => ((((w2.ext x3).ext x5).dom a h1).2) (fr6 a h2)
                      refine (w2'.snoc w6 dj).frame (.refl F6) fun a ha => ⟨upd_ne fun z => ?_, ((w2'.snoc w6 dj).dom a ha).1⟩
                      rcases List.mem_append.mp ha with q | q
                      · exact n2 (z ▸ q)
                      · exact n6 (z ▸ q)
        · have ei : i = ds.length := by omega
          subst ei
          rw [List.drop_length] at e1
          cases e1
          rw [List.append_nil, er] at e2
          cases e2
          refine .inl ⟨fd.stop F2 H2 x2.ff x2.fh, p _ F2 H2 (A :: O2) (x1.trans x2) (fun a ha => ?_) (.inl (.ol f2 h2 n2 w2))⟩
          rcases List.mem_cons.mp ha with rfl | ha
          · exact x1.hh.free hA
          · exact x1.hh.free (fr2 a ha)
    · rw [if_neg hlen] at p; exact p.elim
structure JTs (X : Cx) (cls : Cls) (W : WX) (e : List Expr) (f : Env → Res Bool) : Prop where
  ex : ∃ t, PTs X e t ∧ DT X.K cls W t f
theorem jts_nil : JTs X cls W [] tYesG := ⟨_, pts_nil, fun σ F H g O Q s st p => p F H (.refl s)⟩
theorem jts_one (h : JT X cls W a ga) : JTs X cls W [a] ga := by
  obtain ⟨t, p, d⟩ := h.ex
  exact ⟨_, pts_one p, d⟩
end
end DL

namespace DL
open PySem L2
section
variable {K : PySem.W.Frag} {cls : Cls} {W : WX} {X : Cx} {F H F' H' F1 H1 : Hp} {O O1 : List Addr} {Q : VK} {σ : St} {a b e tg iter elt : Expr} {es : List Expr} {fa fb fc : Env → Res D} {ga gb : Env → Res Bool} {fs : Env → Res (List D)} {pos : Pos}
def cE (K : PySem.W.Frag) (cls : Cls) (W : WX) (f : Env → Res D) : TE := fun σ H Q => ∃ F g O, Same F H ∧ Sts K cls F H σ g O ∧ PostE K cls W σ F H Q (f g)
def cT (K : PySem.W.Frag) (cls : Cls) (W : WX) (f : Env → Res Bool) : TT := fun σ H Q => ∃ F g O, Same F H ∧ Sts K cls F H σ g O ∧ PostT cls W σ F H Q (f g)
def cG (K : PySem.W.Frag) (cls : Cls) (f : D → Env → Option Env) (ss : List Nat) : TG := fun v σ H Q => ∃ d F g O g', Same F H ∧ Sts K cls F H σ g O ∧ Rp K cls F v d ∧ f d g = some g' ∧
  (∀ σ' O', SExt F H O F H O' → Sts K cls F H σ' g' O' → (∀ vs : List Nat, (∀ i ∈ ss, i ∈ vs) → wipe σ' vs = wipe σ vs) → Q σ' H)
def cS (K : PySem.W.Frag) (cls : Cls) (f : Env → Out) (W : WX) : TS := fun D σ H => ∃ F g O, Same F H ∧ Sts K cls F H σ g O ∧ PostS K cls W D F H O (f g)
theorem de_cE {f : Env → Res D} : DE K cls W (cE K cls W f) f := fun σ F H g O Q s st p => ⟨F, g, O, s, st, p⟩
theorem dt_cT {f : Env → Res Bool} : DT K cls W (cT K cls W f) f := fun σ F H g O Q s st p => ⟨F, g, O, s, st, p⟩
theorem dg_cG {f : D → Env → Option Env} {ss : List Nat} : DG K cls (cG K cls f ss) f ss := fun v d σ F H g O g' Q s st r e k => ⟨d, F, g, O, g', s, st, r, e, k⟩
theorem JE.canon {f : Env → Res D} (h : JE X cls W e f) : PE X e (cE X.K cls W f) := by
  obtain ⟨t, p, d⟩ := h.ex
  exact ⟨fun pins s σ H Q I ⟨F, g, O, sm, st, q⟩ => p.run pins s σ H Q I (d σ F H g O Q sm st q)⟩
theorem JTs.canon {f : Env → Res Bool} (h : JTs X cls W es f) : PTs X es (cT X.K cls W f) := by
  obtain ⟨t, p, d⟩ := h.ex
  exact ⟨fun pins s σ H Q I ⟨F, g, O, sm, st, q⟩ => p.run pins s σ H Q I (d σ F H g O Q sm st q)⟩
theorem JG.canon {f : D → Env → Option Env} {ss : List Nat} (h : JG X cls e f ss) : PG X e (cG X.K cls f ss) := by
  obtain ⟨t, p, d⟩ := h.ex
  exact ⟨fun pins s σ H v u Q I r ⟨dd, F, g, O, g', sm, st, rr, ee, q⟩ => p.run pins s σ H v u Q I r (d v dd σ F H g O g' Q sm st rr ee q)⟩
theorem JSs.canon {st : List Stmt} {f : Env → Out} (h : JSs X cls W st f) : PSs X st (cS X.K cls f W) := by
  obtain ⟨t, p, d⟩ := h.ex
  exact ⟨fun pins s σ H D I ⟨F, g, O, sm, st, q⟩ => p.run pins s σ H D I (d D σ F H g O sm st q)⟩

theorem je_lc {ifs : List Expr} {scope : Scope} {ft : D → Env → Option Env} {gt : Env → Res Bool} {fe : Env → Res D} {ss : List Nat} {k : Nat} (own : List (Str × Nat)) (c : Cn X W k) (hi : JI X cls W tg iter fs) (ok : BlkOk X.N X.env.scope scope own)
    (hg : ∀ (s : Shared) (H : Hp) (C : Addr) (cl : List (Str × Addr)) (fp : List Addr), JG (X.blk s H scope (compEnvC scope cl C X.env) fp) cls tg ft ss)
    (ht : ∀ (s : Shared) (H : Hp) (C : Addr) (cl : List (Str × Addr)) (fp : List Addr), Cn (X.blk s H scope (compEnvC scope cl C X.env) fp) W0 k → JTs (X.blk s H scope (compEnvC scope cl C X.env) fp) cls W0 ifs gt)
    (he : ∀ (s : Shared) (H : Hp) (C : Addr) (cl : List (Str × Addr)) (fp : List Addr), Cn (X.blk s H scope (compEnvC scope cl C X.env) fp) W0 k → JE (X.blk s H scope (compEnvC scope cl C X.env) fp) cls W0 elt fe)
    (hss : ∀ i ∈ ss, i ∈ own.map (·.2)) (hs : ∀ x, foldedSetIterable iter X.env x = pure x := by intro _; rfl) :
    JE X cls W (.ListComp elt [⟨tg, iter, ifs, 0⟩] scope pos) (eLc fs (own.map (·.2)) ft gt fe) := by
  obtain ⟨wi, p, d⟩ := hi.ex
  exact ⟨_, pe_lc (own := own) c.calm c.nd p ok (fun s H C cl fp => (hg s H C cl fp).canon) (fun s H C cl fp => (ht s H C cl fp c.blk).canon) (fun s H C cl fp => (he s H C cl fp c.blk).canon) hs, de_lc d dg_cG dt_cT de_cE hss⟩
theorem js_setLc {i : Nat} {y : Str} {py spos : Pos} {ifs : List Expr} {scope : Scope} {ft : D → Env → Option Env} {gt : Env → Res Bool} {fe : Env → Res D} {ss : List Nat} {k : Nat} (own : List (Str × Nat)) (c : Cn X W k) (hy : X.N[i]? = some y) (hyl : X.env.scope.names.lookup y = some .local)
    (hsw : swapsWith (.ListComp elt [⟨tg, iter, ifs, 0⟩] scope pos) (some (.Name y py)) spos.line X.env = pure true) (hi : JI X cls W tg iter fs) (ok : BlkOk X.N X.env.scope scope own)
    (hg : ∀ (s : Shared) (H : Hp) (C : Addr) (cl : List (Str × Addr)) (fp : List Addr), JG (X.blk s H scope (compEnvC scope cl C X.env) fp) cls tg ft ss)
    (ht : ∀ (s : Shared) (H : Hp) (C : Addr) (cl : List (Str × Addr)) (fp : List Addr), Cn (X.blk s H scope (compEnvC scope cl C X.env) fp) W0 k → JTs (X.blk s H scope (compEnvC scope cl C X.env) fp) cls W0 ifs gt)
    (he : ∀ (s : Shared) (H : Hp) (C : Addr) (cl : List (Str × Addr)) (fp : List Addr), Cn (X.blk s H scope (compEnvC scope cl C X.env) fp) W0 k → JE (X.blk s H scope (compEnvC scope cl C X.env) fp) cls W0 elt fe)
    (hss : ∀ i ∈ ss, i ∈ own.map (·.2)) (hs : ∀ x, foldedSetIterable iter X.env x = pure x := by intro _; rfl) :
    JS X cls W (.Assign [.Name y py] (.ListComp elt [⟨tg, iter, ifs, 0⟩] scope pos) spos) (sAsg i (eLc fs (own.map (·.2)) ft gt fe)) := by
  obtain ⟨wi, p, d⟩ := hi.ex
  exact ⟨_, ps_setLc (own := own) c.calm c.nd hy hyl hsw p ok (fun s H C cl fp => (hg s H C cl fp).canon) (fun s H C cl fp => (ht s H C cl fp c.blk).canon) (fun s H C cl fp => (he s H C cl fp c.blk).canon) hs, ds_asg (de_lc d dg_cG dt_cT de_cE hss)⟩
theorem js_setLcF {i : Nat} {y : Str} {py spos : Pos} {ifs : List Expr} {scope : Scope} {ft : D → Env → Option Env} {gt : Env → Res Bool} {fe : Env → Res D} {ss : List Nat} {k : Nat} (own : List (Str × Nat)) (c : Cn X W k) (hy : X.N[i]? = some y) (hyl : X.env.scope.names.lookup y = some .local)
    (hsw : swapsWith (.ListComp elt [⟨tg, iter, ifs, 0⟩] scope pos) (some (.Name y py)) spos.line X.env = pure true) (hi : JI X cls W tg iter fs) (ok : BlkOk X.N X.env.scope scope own)
    (hg : ∀ (s : Shared) (H : Hp) (C : Addr) (cl : List (Str × Addr)) (fp : List Addr), JG (X.blk s H scope (compEnvC scope cl C X.env) fp) cls tg ft ss)
    (ht : ∀ (s : Shared) (H : Hp) (C : Addr) (cl : List (Str × Addr)) (fp : List Addr), Cn (X.blk s H scope (compEnvC scope cl C X.env) fp) W0 k → JTs (X.blk s H scope (compEnvC scope cl C X.env) fp) cls W0 ifs gt)
    (he : ∀ (s : Shared) (H : Hp) (C : Addr) (cl : List (Str × Addr)) (fp : List Addr), Cn (X.blk s H scope (compEnvC scope cl C X.env) fp) W0 k → JE (X.blk s H scope (compEnvC scope cl C X.env) fp) cls W0 elt fe)
    (hss : ∀ i ∈ ss, i ∈ own.map (·.2)) (hs : ∀ x, foldedSetIterable iter X.env x = pure x := by intro _; rfl) :
    JS X cls W (.Assign [.Name y py] (.ListComp elt [⟨tg, iter, ifs, 0⟩] scope pos) spos) (sAsgF i (eLc fs (own.map (·.2)) ft gt fe)) := by
  obtain ⟨wi, p, d⟩ := hi.ex
  exact ⟨_, ps_setLc (own := own) c.calm c.nd hy hyl hsw p ok (fun s H C cl fp => (hg s H C cl fp).canon) (fun s H C cl fp => (ht s H C cl fp c.blk).canon) (fun s H C cl fp => (he s H C cl fp c.blk).canon) hs, ds_asgF (de_lc d dg_cG dt_cT de_cE hss)⟩

theorem Sts.lst {g : Env} {i : Nat} {xs : List D} (st : Sts K cls F H σ g O) (e : g[i]? = some (.ol xs)) : ∃ p vs O1, σ[i]? = some (some (.ref p)) ∧ H p = some (.lst vs) ∧ F p = none ∧ p ∉ O1 ∧ Ows K cls F H vs xs O1 ∧ p ∈ O ∧ (∀ a ∈ O1, a ∈ O) ∧
    ∀ (F' H' : Hp) (ws : List V) (ys : List D) (O2 : List Addr), Ext F H F' H' → Ows K cls F' H' ws ys O2 → p ∉ O2 → (∀ a ∈ O2, a ∈ O1 ∨ H a = none) →
      ∃ O'', Sts K cls F' (upd H' p (.lst ws)) σ (g.set i (.ol ys)) O'' ∧ SExt F H O F' (upd H' p (.lst ws)) O'' := by
  obtain ⟨P, h1, h2, h3, _⟩ := st.at i (List.getElem?_eq_some_iff.mp e).1
  rcases h2 with ⟨h2, _⟩ | ⟨v, d, h2, h2', ow⟩
  · rw [e] at h2; cases h2
  · rw [e] at h2'; cases h2'
    cases ow with
    | sh r => cases r
    | @ol p vs _ O1 f1 f2 f3 f4 =>
      refine ⟨p, vs, O1, h2, f2, f1, f3, f4, h1 _ (by simp), fun a ha => h1 a (by simp [ha]), fun F' H' ws ys O2 x w n k => ?_⟩
      have hp : F' p = none := x.ow p f1 (by rw [f2]; exact fun e => nomatch e)
      have up : ∀ b, b ≠ p → upd H' p (.lst ws) b = H' b := fun b hb => upd_ne hb
      obtain ⟨O'', q1, q2⟩ := h3 F' (upd H' p (.lst ws)) (.ref p) (.ol ys) (p :: O2) (fun b hb hn => by
          obtain ⟨e1, e2⟩ := x.get (st.dom b hb).1 (st.dom b hb).2
          exact ⟨(up b fun z => hn (by simp [z])).trans e1, e2⟩) x.ff
        (.ol hp upd_same n (w.frame (.refl F') fun a ha => ⟨up a fun z => n (z ▸ ha), (w.dom a ha).1⟩)) (fun a ha hO => by
          rcases List.mem_cons.mp ha with rfl | ha
          · simp
          · rcases k a ha with z | z
            · simp [z]
            · exact absurd z (st.dom a hO).2)
      rw [set_self h2] at q1
      refine ⟨O'', q1, x.ff, fun b o q => ?_, fun b o q hn => ?_, fun b h1 h2 _ => x.ow b h1 h2, fun b hb => ?_⟩
      · rw [up b fun z => by rw [z, hp] at q; cases q]; exact x.fh b o q
      · rw [up b fun z => hn (z ▸ h1 p (by simp))]; exact x.hh b o q
      · rcases q2 b hb with z | z
        · exact .inl z
        · rcases List.mem_cons.mp z with rfl | z
          · exact .inl (h1 _ (by simp))
          · exact (k b z).imp (fun z => h1 b (by simp [z])) id
def sApp (i : Nat) (fa : Env → Res D) : Env → Out := fun g => match g[i]? with
  | some (.ol xs) => ((fa g).bind kp).st g fun d => if xs.length < lim then .nx (g.set i (.ol (xs ++ [d]))) else .bad
  | _ => .bad
@[simp] theorem sApp_ (i : Nat) (fa : Env → Res D) (g : Env) : sApp i fa g = match g[i]? with
  | some (.ol xs) => ((fa g).bind kp).st g fun d => if xs.length < lim then .nx (g.set i (.ol (xs ++ [d]))) else .bad
  | _ => .bad := rfl
theorem js_app {i : Nat} {x : Str} {npos apos cpos : Pos} (hN : X.N[i]? = some x) (hv : Vis X.env.scope x) (ha : JE X cls W a fa) (hd : (x == ("__debug__" : Str)) = false := by decide) (hcd : (x == ("__classdict__" : Str)) = false := by decide)
    (hbase : attributeBase (.Name x npos) "append" X.env (eval (.Name x npos) X.env) = eval (.Name x npos) X.env := by rfl)
    (hfew : ((backTo cpos (starEach (a :: []) X.env)).all (fun x => !x.1) && (backToKw cpos (keywordEach [] X.env)).all (fun x => x.1.isSome)
      && decide ((a :: []).length + ([] : List Keyword).length + (if ([] : List Keyword).isEmpty then 0 else 1) < 30)) = true := by rfl)
    (hline : (apos.endLine == cpos.line) = true := by rfl) (hs : starEach (a :: []) X.env = (false, eval a X.env) :: starEach [] X.env := by rfl) (hplain : (backTo cpos (starEach [] X.env)).any (·.1) = false := by rfl)
    (hsw : swapsWith (.Call (.Attribute (.Name x npos) "append" apos) [a] [] cpos) none pos.line X.env = pure false := by rfl) :
    JS X cls W (.Expr (.Call (.Attribute (.Name x npos) "append" apos) [a] [] cpos) pos) (sApp i fa) := by
  obtain ⟨t, p, d⟩ := ha.ex
  refine ⟨_, ps_expr (pe_bm PySem.F.plainAttrs_list PySem.F.slot_list_append PySem.F.type_list_append mt_append (pe_var hN hv hd hcd) (pa_cons p pa_nil hs) hbase hfew hline hs hplain) hsw, ?_⟩
  intro D σ F H g O s st p
  rw [sApp_] at p
  split at p
  · rename_i xs eg
    obtain ⟨q, vs, O1, h1, h2, h2', h3, h4, h5, h6, h7⟩ := st.lst eg
    refine ⟨.ref q, h1, .inl ⟨rfl, vs, SqL.of h2⟩, ?_⟩
    refine d.goS s st p fun dd e p v F1 H1 O2 x fr w => ?_
    split at p
    · rename_i hl
      refine ⟨q, vs, v, rfl, rfl, x.hh _ _ h2, by rw [h4.len]; exact lim_lt hl, ?_⟩
      obtain ⟨O'', z1, z2⟩ := h7 F1 H1 (vs ++ [v]) (xs ++ [dd]) (O1 ++ O2) x ((h4.ext x).snoc w fun a q1 q2 => (h4.dom a q1).2 (fr a q2)) (fun z => by
          rcases List.mem_append.mp z with z | z
          · exact h3 z
          · have := fr q z; rw [h2] at this; cases this) (fun a z => (List.mem_append.mp z).imp id (fr a))
      exact p σ F1 _ O'' z2 z1
    · exact p.elim
  · exact p.elim
theorem Ows.set : ∀ {vs : List V} {ds : List D} {O1 O2 : List Addr} {v : V} {d : D} (j : Nat), Ows K cls F H vs ds O1 → Ow K cls F H v d O2 → (∀ a ∈ O1, a ∉ O2) → ∃ O3, Ows K cls F H (vs.set j v) (ds.set j d) O3 ∧ ∀ a ∈ O3, a ∈ O1 ∨ a ∈ O2
  | _, _, _, O2, _, _, _, .nil, _, _ => ⟨[], .nil, fun _ h => nomatch h⟩
  | _, _, _, O2, _, _, 0, .cons (O1 := P1) (O2 := P2) a b dj e, w, n => by
    subst e
    refine ⟨O2 ++ P2, .cons w b (fun x h1 h2 => n x (List.mem_append_right _ h2) h1) rfl, fun x hx => ?_⟩
    rcases List.mem_append.mp hx with z | z
    · exact .inr z
    · exact .inl (List.mem_append_right _ z)
  | _, _, _, O2, _, _, j + 1, .cons (O1 := P1) (O2 := P2) a b dj e, w, n => by
    subst e
    obtain ⟨O3, h1, h2⟩ := b.set j w fun x hx => n x (List.mem_append_right _ hx)
    refine ⟨P1 ++ O3, .cons a h1 (fun x q1 q2 => ?_) rfl, fun x hx => ?_⟩
    · rcases h2 x q2 with z | z
      · exact dj x q1 z
      · exact n x (List.mem_append_left _ q1) z
    · rcases List.mem_append.mp hx with z | z
      · exact .inl (List.mem_append_left _ z)
      · exact (h2 x z).imp (fun z => List.mem_append_right _ z) id
def sSet (i : Nat) (fk fa : Env → Res D) : Env → Out := fun g => ((fa g).bind kp).st g fun d => match g[i]? with
  | some (.ol xs) => (fk g).st g fun k => match opd k with
    | .int k => match ixN xs.length k with
      | some j => .nx (g.set i (.ol (xs.set j d)))
      | none => .bad
    | _ => .bad
  | _ => .bad
@[simp] theorem sSet_ (i : Nat) (fk fa : Env → Res D) (g : Env) : sSet i fk fa g = ((fa g).bind kp).st g fun d => match g[i]? with
  | some (.ol xs) => (fk g).st g fun k => match opd k with
    | .int k => match ixN xs.length k with
      | some j => .nx (g.set i (.ol (xs.set j d)))
      | none => .bad
    | _ => .bad
  | _ => .bad := rfl
theorem js_setIx {i : Nat} {x : Str} {npos spos : Pos} {fk : Env → Res D} (hN : X.N[i]? = some x) (hv : Vis X.env.scope x) (ha : JE X cls W a fa) (hk : JE X cls W b fk) (hd : (x == ("__debug__" : Str)) = false := by decide) (hcd : (x == ("__classdict__" : Str)) = false := by decide)
    (hs : swapsWithSole [.Subscript (.Name x npos) b spos] a pos.line X.env = pure false := by rfl) (hw : swappedStores [.Subscript (.Name x npos) b spos] a X.env = pure none := by rfl)
    (h1 : (assignEach [.Subscript (.Name x npos) b spos] X.env).map (·.2) = [assign (.Subscript (.Name x npos) b spos) X.env] := by rfl)
    (hass : ∀ v, assign (.Subscript (.Name x npos) b spos) X.env v = (do
      let ov ← holding [v] (eval (.Name x npos) X.env)
      let iv ← holding [v, ov] (eval b X.env)
      standAt spos
      holding [v, ov, iv] (setItem ov iv v)
      release [v, ov, iv] []) := by intro _; rfl) : JS X cls W (.Assign [.Subscript (.Name x npos) b spos] a pos) (sSet i fk fa) := by
  obtain ⟨t, p, d⟩ := ha.ex
  obtain ⟨t2, p2, d2⟩ := hk.ex
  refine ⟨_, ps_asg p (pg_sub (pe_var hN hv hd hcd) p2 set_list hass) hs hw h1, ?_⟩
  intro D σ F H g O s st p
  rw [sSet_] at p
  refine d.goS s st p fun dd e p v F1 H1 O2 x fr w => ?_
  split at p
  · rename_i xs eg
    obtain ⟨q, vs, O1, h1, h2, h2', h3, h4, h5, h6, h7⟩ := st.lst eg
    refine ⟨.ref q, h1, ?_⟩
    refine d2.go x.fh (st.ext x) (fun c e F' H' y => by rw [e] at p; exact p σ F' H' O ((x.trans y).sext fun a h => .inl h) (st.ext (x.trans y))) (fun e => by rw [e] at p; exact p) fun kd e kv F3 H3 x3 b3 => ?_
    rw [e, Res.st_ok] at p
    split at p
    · rename_i k ek
      split at p
      · rename_i j ej
        rw [ek] at b3
        obtain rfl := b3.int
        have x13 := x.trans x3
        refine ⟨q, vs, k, j, rfl, rfl, x13.hh _ _ h2, by rw [h4.len]; exact ej, ?_⟩
        obtain ⟨O3, w3, n3⟩ := (h4.ext x13).set j (w.ext x3) fun a q1 q2 => (h4.dom a q1).2 (fr a q2)
        obtain ⟨O'', z1, z2⟩ := h7 F3 H3 (vs.set j v) (xs.set j dd) O3 x13 w3 (fun z => by
          rcases n3 _ z with z | z
          · exact h3 z
          · have := fr q z; rw [h2] at this; cases this) (fun a z => (n3 a z).imp id (fr a))
        exact p σ F3 _ O'' z2 z1
      · exact p.elim
    · exact p.elim
  · exact p.elim
def sAug (op : Int → Int → Int) (i : Nat) (fa : Env → Res D) : Env → Out := fun g => match g[i]? with
  | some (.int a) => (fa g).st g fun d => match opd d with
    | .int b => .nx (g.set i (.int (op a b)))
    | _ => .bad
  | _ => .bad
@[simp] theorem sAug_ (op : Int → Int → Int) (i : Nat) (fa : Env → Res D) (g : Env) : sAug op i fa g = match g[i]? with
  | some (.int a) => (fa g).st g fun d => match opd d with
    | .int b => .nx (g.set i (.int (op a b)))
    | _ => .bad
  | _ => .bad := rfl
end
end DL

namespace DL
open PySem L2
section
variable {K : PySem.W.Frag} {cls : Cls} {W : WX} {X : Cx} {F H F' H' F1 H1 : Hp} {O O1 : List Addr} {Q : VK} {σ : St} {a b e tg iter elt : Expr} {es : List Expr} {fa fb fc : Env → Res D} {ga gb : Env → Res Bool} {fs : Env → Res (List D)} {pos : Pos}
structure ExOk (K : PySem.W.Frag) (mg : Str → Option Value) (cls : Cls) (c : Nat) (x : Str) (C : Addr) : Prop where
  e : cls c = some (C, [])
  g : mg x = some (.ref C)
  x : PySem.W.excIn K C [.type "ValueError", .type "Exception", .type "BaseException", .type "object"] "ValueError.__new__" = true
  k : PySem.W.keepIn K (.ref C) = true
  b : PySem.W.subIn K (.ref C) (.type "BaseException") = some true
  t : PySem.W.typeIn K (.ref C) = some (.type "type")
theorem ExOk.v {mg : Str → Option Value} {c : Nat} {x : Str} {C : Addr} (h : ExOk K mg cls c x C) : excV cls c = .ref C := by unfold excV; rw [h.e]
def sRaise (c : Nat) : Env → Out := fun g => .xc c g
@[simp] theorem sRaise_ (c : Nat) (g : Env) : sRaise c g = .xc c g := rfl
theorem js_raise {c k : Nat} {x m : Str} {C : Addr} {j : Nat} {p p2 pos2 : Pos} (n : Cn X W k) (h : ExOk X.K X.mg cls c x C) (hg : Gl X x := by rfl) (hdb : (x == ("__debug__" : Str)) = false := by decide) :
    JS X cls W (.Raise (some (.Call (.Name x p) [.Constant (.str m) j p2] [] pos)) none pos2) (sRaise c) := by
  refine ⟨_, L2N.ps_raise n.calm n.tk (L2N.pmk_own PySem.F.excBase_ValueError h.x h.g h.k (raises_own h.b h.t) hg hdb), ?_⟩
  intro D σ F H g O s st p
  have q := p σ F H O (.refl s) st
  rw [h.v] at q
  exact q

def runF (f : Env → Out) (n : Nat) (ds : List D) : Res D := match f (ds ++ List.replicate (n - ds.length) .un) with
  | .rt d => .ok d
  | .nx _ => .ok .non
  | .xc c _ => .xc c
  | _ => .bad
theorem sts_start {vs : List V} {ds : List D} (h : Rps K cls F vs ds) (n : Nat) : Sts K cls F H (vs.map some ++ List.replicate n none) (ds ++ List.replicate n .un) [] := by
  induction ds generalizing vs with
  | nil =>
    cases h
    simp only [List.map_nil, List.nil_append]
    induction n with
    | zero => exact .nil
    | succ n ih => rw [List.replicate_succ, List.replicate_succ]; exact .un ih
  | cons d ds ih =>
    cases h with
    | cons a b => exact .cons (.sh a) (ih b) (fun _ q => nomatch q) rfl
theorem fnD_ok {P : Program} {w : World} {mg : Str → Option Value} {base : Heap} {x qual : Str} {st : Stmt} {f : Addr} {fd : FuncData} {N ps : List Str} {k n : Nat} {g : List D → Res D} {fb : Env → Out}
    (Fn : Fun K x qual st f fd) (S : FnScope N ps (defScope st)) (hn : ps.length = n)
    (hbody : ∀ (cdv : Value) (A : Around) (outer : List PySem.Env) (s : Shared) (H : Hp) (E : XK), Cn (cxOf (L2N.CX P w) P w K mg base N qual (defScope st) f cdv A outer s H E) (fun c d _ H => E c d H) k →
      JSs (cxOf (L2N.CX P w) P w K mg base N qual (defScope st) f cdv A outer s H E) cls (fun c d _ H => E c d H) (defBody st) fb)
    (heq : ∀ ds, ds.length = n → g ds = .bad ∨ runF fb N.length ds = g ds) : FnOk P w K mg base (L2N.CX P w) (k + 1) f fd ps (spD K cls n g) := by
  refine Fn.okN S (fun vs H Q E h => ?_) (fun cdv A outer s H vs Q E hr h => ?_)
  · obtain ⟨F, ds, _, r, h1, _⟩ := h
    rw [r.len, h1, hn]
  · obtain ⟨F, ds, sm, r, hl, h⟩ := h
    obtain ⟨t, p, d⟩ := (hbody cdv A outer s H E ⟨L2N.takes_of rfl rfl rfl rfl, passes_of rfl, rfl, S.nd, hr⟩).ex
    refine ⟨t, p, d _ _ F H (ds ++ List.replicate (N.length - ds.length) .un) [] sm ?_ ?_⟩
    · unfold L2.start
      rw [r.len]
      exact sts_start r _
    · rcases heq ds hl with e | e
      · rw [e] at h; exact h.elim
      · rw [← e] at h
        unfold runF at h
        cases q : fb (ds ++ List.replicate (N.length - ds.length) .un) with
        | nx g' => rw [q] at h; exact fun σ' F' H' O' x st' => h .non F' H' [] x.ext Fresh.nil (.sh .non)
        | rt d => rw [q] at h; exact fun v F' H' O' x w => h v F' H' O' x.ext (fun a ha => (x.oo a ha).resolve_left (by simp)) w
        | xc c g' => rw [q] at h; exact fun σ' F' H' O' x st' => h F' H' x.ext
        | bk g' => rw [q] at h; exact h.elim
        | ct g' => rw [q] at h; exact h.elim
        | bad => rw [q] at h; exact h.elim

def spI (K : PySem.W.Frag) (cls : Cls) (c n : Nat) (g : List D → Res (List D)) : Sp := fun vs H Q E => ∃ F x C dx ns vs' ds, vs = .ref x :: vs' ∧ cls c = some (C, ns) ∧ Same F H ∧ F x = none ∧ H x = some (.ins C dx []) ∧ Rps K cls F vs' ds ∧ ds.length = n ∧
  match g ds with
  | .ok fs => ∀ F' H' O', SExt F H [x] F' H' O' → Ow K cls F' H' (.ref x) (.oo none c fs) O' → Q .non H'
  | .xc e => ∀ F' H' O', SExt F H [x] F' H' O' → E (excV cls e) none H'
  | .bad => False
def outI (c : Nat) (x : Addr) : Out → Res (List D)
  | .nx g => match (g : List D)[0]? with
    | some (D.oo (some y) c' fs) => if c' = c ∧ y = x then .ok fs else .bad
    | _ => .bad
  | .xc e _ => .xc e
  | _ => .bad
def runI (f : Env → Out) (c n : Nat) (x : Addr) (ds : List D) : Res (List D) := outI c x (f (.oo (some x) c [] :: ds ++ List.replicate (n - (ds.length + 1)) .un))
theorem fnI_ok {P : Program} {w : World} {mg : Str → Option Value} {base : Heap} {x qual : Str} {st : Stmt} {f : Addr} {fd : FuncData} {N ps : List Str} {k n c : Nat} {g : List D → Res (List D)} {fb : Env → Out}
    (Fn : Fun K x qual st f fd) (S : FnScope N ps (defScope st)) (hn : ps.length = n + 1)
    (hbody : ∀ (cdv : Value) (A : Around) (outer : List PySem.Env) (s : Shared) (H : Hp) (E : XK), Cn (cxOf (L2N.CX P w) P w K mg base N qual (defScope st) f cdv A outer s H E) (fun c d _ H => E c d H) k →
      JSs (cxOf (L2N.CX P w) P w K mg base N qual (defScope st) f cdv A outer s H E) cls (fun c d _ H => E c d H) (defBody st) fb)
    (heq : ∀ ds x, ds.length = n → g ds = .bad ∨ runI fb c N.length x ds = g ds) : FnOk P w K mg base (L2N.CX P w) (k + 1) f fd ps (spI K cls c n g) := by
  refine Fn.okN S (fun vs H Q E h => ?_) (fun cdv A outer s H vs Q E hr h => ?_)
  · obtain ⟨F, x, C, dx, ns, vs', ds, rfl, _, _, _, _, r, h1, _⟩ := h
    rw [List.length_cons, r.len, h1, hn]
  · obtain ⟨F, x, C, dx, ns, vs', ds, rfl, hc, sm, fx, hx, r, hl, h⟩ := h
    obtain ⟨t, p, d⟩ := (hbody cdv A outer s H E ⟨L2N.takes_of rfl rfl rfl rfl, passes_of rfl, rfl, S.nd, hr⟩).ex
    have s0 : Sts K cls F H (L2.start N (V.ref x :: vs')) (.oo (some x) c [] :: ds ++ List.replicate (N.length - (ds.length + 1)) .un) [x] := by
      unfold L2.start
      rw [List.length_cons, r.len, List.map_cons, List.cons_append, List.cons_append]
      exact .cons (O1 := [x]) (O2 := []) (.oo (fun y e => by cases e; rfl) hc fx (by simpa using hx) (Nat.zero_le _) (by simp) .nil) (sts_start r _) (fun a _ h => nomatch h) rfl
    refine ⟨t, p, d _ _ F H _ [x] sm s0 ?_⟩
    rcases heq ds x hl with e | e
    · rw [e] at h; exact h.elim
    · rw [← e] at h
      unfold runI at h
      cases q : fb (.oo (some x) c [] :: ds ++ List.replicate (N.length - (ds.length + 1)) .un) with
      | nx g' =>
        rw [q] at h
        intro σ' F' H' O' y st'
        unfold outI at h
        simp only [] at h
        split at h
        · rename_i fs eo
          split at eo
          · rename_i y' c' fs' eg
            split at eo
            · rename_i hcc
              cases eo
              obtain ⟨rfl, rfl⟩ := hcc
              obtain ⟨P, h1, h2, _⟩ := st'.at 0 (List.getElem?_eq_some_iff.mp eg).1
              rcases h2 with ⟨h2, _⟩ | ⟨v, d2, h2, h2', ow⟩
              · rw [eg] at h2; cases h2
              · rw [eg] at h2'; cases h2'
                cases ow with
                | sh r => cases r
                | oo ho hc h1' h2o hl h3 r =>
                  have := ho _ rfl
                  subst this
                  exact h F' H' _ ⟨y.ff, y.fh, y.fr, y.ow, fun a ha => y.oo a (h1 a ha)⟩ (.oo (fun _ e => nomatch e) hc h1' h2o hl h3 r)
            · cases eo
          · cases eo
        · rename_i e' eo
          split at eo
          · split at eo <;> cases eo
          · cases eo
        · exact h.elim
      | xc e g' => rw [q] at h; exact fun σ' F' H' O' y st' => h F' H' O' y
      | rt d => rw [q] at h; exact h.elim
      | bk g' => rw [q] at h; exact h.elim
      | ct g' => rw [q] at h; exact h.elim
      | bad => rw [q] at h; exact h.elim

theorem putF_new : ∀ {ns : List Str} {vs : List V} {f : Str} {y : V}, ns.Nodup → vs.length ≤ ns.length → ns[vs.length]? = some f → putF f y (ns.zip vs) = ns.zip (vs ++ [y])
  | [], vs, f, y, _, hl, h => by simp at h
  | n :: ns, [], f, y, _, _, h => by
    simp at h
    subst h
    simp [putF]
  | n :: ns, v :: vs, f, y, nd, hl, h => by
    obtain ⟨a1, a2⟩ := List.nodup_cons.mp nd
    have h' : ns[vs.length]? = some f := by simpa using h
    have ne : ¬ n = f := fun e => a1 (e ▸ List.mem_of_getElem? h')
    rw [List.zip_cons_cons, List.cons_append, List.zip_cons_cons]
    show (if n = f then (n, y) :: ns.zip vs else (n, v) :: putF f y (ns.zip vs)) = _
    rw [if_neg ne, putF_new a2 (by simpa using hl) h']
def sFld (i c j : Nat) (fa : Env → Res D) : Env → Out := fun g => ((fa g).bind kp).st g fun d => match (g : List D)[i]? with
  | some (D.oo o c' ds) => if c' = c ∧ ds.length = j then .nx (g.set i (.oo o c (ds ++ [d]))) else .bad
  | _ => .bad
@[simp] theorem sFld_ (i c j : Nat) (fa : Env → Res D) (g : Env) : sFld i c j fa g = ((fa g).bind kp).st g fun d => match (g : List D)[i]? with
  | some (D.oo o c' ds) => if c' = c ∧ ds.length = j then .nx (g.set i (.oo o c (ds ++ [d]))) else .bad
  | _ => .bad := rfl
theorem js_fld {i c j : Nat} {C : Addr} {ns : List Str} {f x : Str} {npos pos' : Pos} (T : ClsOk X.K cls c C ns) (hj : ns[j]? = some f) (hj9 : j < 1000) (hN : X.N[i]? = some x) (hv : Vis X.env.scope x) (ha : JE X cls W a fa)
    (hd : (x == ("__debug__" : Str)) = false := by decide) (hcd : (x == ("__classdict__" : Str)) = false := by decide)
    (hs : swapsWith a (some (.Attribute (.Name x npos) f pos')) pos.line X.env = pure false := by rfl) : JS X cls W (.Assign [.Attribute (.Name x npos) f pos'] a pos) (sFld i c j fa) := by
  obtain ⟨t, p, d⟩ := ha.ex
  refine ⟨_, ps_fld (pe_var hN hv hd hcd) p hs, ?_⟩
  intro D σ F H g O s st p
  rw [sFld_] at p
  refine d.goS s st p fun dd e p v F1 H1 O2 xx fr w => ?_
  split at p
  · rename_i o c' ds eg
    split at p
    · rename_i hc
      obtain ⟨hc1, hc2⟩ := hc
      subst hc1
      obtain ⟨P, h1, h2, h3, _⟩ := st.at i (List.getElem?_eq_some_iff.mp eg).1
      rcases h2 with ⟨h2, _⟩ | ⟨v0, d0, h2, h2', ow⟩
      · rw [eg] at h2; cases h2
      · rw [eg] at h2'; cases h2'
        cases ow with
        | sh r => cases r
        | @oo _ q C' dx _ ns' vs _ O1 ho hcl f1 f2 hl f3 f4 =>
          have := hcl.symm.trans T.e
          cases this
          have hlen : vs.length = ds.length := f4.len
          have hf : F1 q = none := xx.ow q f1 (by rw [f2]; exact fun e => nomatch e)
          have hq : H1 q = some (.ins C dx (ns.zip vs)) := xx.hh _ _ f2
          refine ⟨.ref q, h2, q, C, dx, ns.zip vs, rfl, hq, T.cl, T.na f (List.mem_of_getElem? hj), ?_, ?_⟩
          · rw [List.length_zip]; omega
          · rw [putF_new T.nd hl (by rw [hlen, hc2]; exact hj)]
            have dj : ∀ a ∈ O1, a ∉ O2 := fun a q1 q2 => (f4.dom a q1).2 (fr a q2)
            have nq : q ∉ O1 ++ O2 := fun z => by
              rcases List.mem_append.mp z with z | z
              · exact f3 z
              · have := fr q z; rw [f2] at this; cases this
            have wv := (f4.ext xx).snoc w dj
            have hle : (vs ++ [v]).length ≤ ns.length := by
              have := (List.getElem?_eq_some_iff.mp hj).1
              rw [List.length_append, List.length_singleton]; omega
            have up : ∀ b, b ≠ q → upd H1 q (.ins C dx (ns.zip (vs ++ [v]))) b = H1 b := fun b hb => upd_ne hb
            obtain ⟨O'', q1, q2⟩ := h3 F1 (upd H1 q (.ins C dx (ns.zip (vs ++ [v])))) (.ref q) (.oo o c' (ds ++ [dd])) (q :: (O1 ++ O2)) (fun b hb hn => by
                obtain ⟨e1, e2⟩ := xx.get (st.dom b hb).1 (st.dom b hb).2
                exact ⟨(up b fun z => hn (by simp [z])).trans e1, e2⟩) xx.ff
              (.oo ho hcl hf upd_same hle nq (wv.frame (.refl F1) fun a ha => ⟨up a fun z => nq (z ▸ ha), (wv.dom a ha).1⟩)) (fun a ha hO => by
                rcases List.mem_cons.mp ha with rfl | ha
                · simp
                · rcases List.mem_append.mp ha with z | z
                  · simp [z]
                  · exact absurd (fr a z) (st.dom a hO).2)
            rw [set_self h2] at q1
            refine p σ F1 _ O'' ⟨xx.ff, fun b o e => ?_, fun b o e hn => ?_, fun b h1 h2 _ => xx.ow b h1 h2, fun b hb => ?_⟩ q1
            · rw [up b fun z => by rw [z, hf] at e; cases e]; exact xx.fh b o e
            · rw [up b fun z => hn (z ▸ h1 q (by simp))]; exact xx.hh b o e
            · rcases q2 b hb with z | z
              · exact .inl z
              · rcases List.mem_cons.mp z with rfl | z
                · exact .inl (h1 _ (by simp))
                · rcases List.mem_append.mp z with z | z
                  · exact .inl (h1 b (by simp [z]))
                  · exact .inr (fr b z)
    · exact p.elim
  · exact p.elim

theorem run_makeS {k : Nat} {f C : Addr} {fd : FuncData} {ps : List Str} {sp : Sp} {E : XK} {pins : List (Addr × Obj)} {s : Shared} {us : List Value} {vs : List V} {CXx : CXT} (M : Mk X.K C f) (G : FnOk X.prog X.w X.K X.mg X.base CXx k f fd ps sp) (hr : Room (k + 1) X.A) (hb : Binds X.K fd ps [])
    (hx : PassesAt CXx X σ E) (hx2 : ∀ H' s' e s'', Inv X pins σ H s → Inv X pins σ H' s' → CXx X.stack H' s' E e s'' → X.xe e s'') (I : Inv X pins σ H s) (r : Vals vs us)
    (h : ∀ x dx, H x = none → H dx = none → dx ≠ x → sp (.ref x :: vs) (upd (upd H dx (.own x)) x (.ins C dx [])) (fun v H2 => v = .non ∧ Q (.ref x) H2) E) :
    wpAny (model X.prog X.w) X.A (call (.ref C) us) (EP X pins σ Q) X.xe s := by
  have hq := h (s.heap.objs.size + 1) s.heap.objs.size (I.hok.fresh (Nat.le_succ _)) (I.hok.fresh (Nat.le_refl _)) (Nat.ne_of_lt (Nat.lt_succ_self _))
  have I2 := Inv.made (C := C) I
  have r2 : Vals (V.ref (s.heap.objs.size + 1) :: vs) (Value.ref (s.heap.objs.size + 1) :: us) := .cons rfl r
  have hl : (Value.ref (s.heap.objs.size + 1) :: us ++ []).length = ps.length := by
    have e := r2.length
    rw [G.len _ _ _ _ hq] at e
    rw [List.append_nil]
    exact e.symm
  refine wpAny_call (make_map (f := f) I.kIn M.makes M.init (beq_iff_eq.mp M.fn) (codeAny_mono (G.run _ X.stack _ _ ⟨Value.ref (s.heap.objs.size + 1) :: us, []⟩ (Value.ref (s.heap.objs.size + 1) :: us) _ _ E (hr.make C us [])
    (I2.env0.make C us []) (by have := hb _ (Value.ref (s.heap.objs.size + 1) :: us) I2.kIn hl; rw [List.append_nil] at this; exact this) r2 hq) fun r s' hq' => ?_))
  cases r with
  | error e => exact hx2 _ _ e s' I I2 hq'
  | ok fl =>
    cases fl with
    | ret u =>
      obtain ⟨v, H', I3, rv, ev, q3⟩ := I2.after hq'
      subst ev
      exact ⟨rv, ⟨V.ref (s.heap.objs.size + 1), H', I3, rfl, q3⟩⟩
    | next => exact False.elim hq'
    | brk => exact False.elim hq'
    | cont => exact False.elim hq'
def tMakeS (C : Addr) (sp : Sp) (E : St → XK) (t : TA) : TE := fun σ H Q => t σ H fun vs H1 => ∀ x dx, H1 x = none → H1 dx = none → dx ≠ x →
  sp (.ref x :: vs) (upd (upd H1 dx (.own x)) x (.ins C dx [])) (fun v H2 => v = .non ∧ Q (.ref x) H2) (E σ)
theorem pe_makeS {k : Nat} {f C : Addr} {fd : FuncData} {ps : List Str} {sp : Sp} {x : Str} {p : Pos} {t : TA} (M : Mk X.K C f) (G : FnOk X.prog X.w X.K X.mg X.base (L2N.CX X.prog X.w) k f fd ps sp) (hr : Room (k + 1) X.A) (hg : Gl X x) (hm : X.mg x = some (.ref C)) (hb : Binds X.K fd ps [])
    (tk : L2N.Takes X W) (ha : PA X (e :: es) t) (hdb : (x == ("__debug__" : Str)) = false := by decide) (he : starEach (e :: es) X.env = (false, eval e X.env) :: starEach es X.env := by rfl) (hpl : (backTo pos (starEach es X.env)).any (·.1) = false := by rfl) :
    PE X (.Call (.Name x p) (e :: es) [] pos) (tMakeS C sp (fun σ => WE W σ) t) := by
  refine ⟨fun pins s σ H Q I h => ?_⟩
  refine wpAny_Call_Name_kw (ld_glob I hg hm ?_ hdb)
  refine PySem.W.callWith_K (h₀ := X.base) I.ok.mod.kin M.kp (thn (ha.run pos pins s σ H _ I h) fun us s1 ⟨vs, H1, I1, r, q⟩ => ⟨I1.kIn, ?_⟩) he hpl
  exact run_makeS M G hr hb (L2N.passAt tk σ) (fun H' s' e s'' _ I2 c => L2N.passAt tk σ pins H' s' e s'' I2 c) I1 r q
def eMkF (c : Nat) (g : List D → Res (List D)) (fs : Env → Res (List D)) : Env → Res D := fun e => (fs e).bind fun ds => if shd ds = true then (g ds).bind fun fl => if nods fl = true then .ok (.ob c (frzs fl)) else .bad else .bad
@[simp] theorem eMkF_ (c : Nat) (g : List D → Res (List D)) (fs : Env → Res (List D)) (e : Env) : eMkF c g fs e = (fs e).bind fun ds => if shd ds = true then (g ds).bind fun fl => if nods fl = true then .ok (.ob c (frzs fl)) else .bad else .bad := rfl
theorem je_make {k c n : Nat} {f C : Addr} {fd : FuncData} {ps ns : List Str} {g : List D → Res (List D)} {x : Str} {p : Pos} (cn : Cn X W (k + 1)) (hcl : cls c = some (C, ns)) (M : Mk X.K C f) (G : FnOk X.prog X.w X.K X.mg X.base (L2N.CX X.prog X.w) k f fd ps (spI X.K cls c n g))
    (hm : X.mg x = some (.ref C)) (hb : Binds X.K fd ps []) (ha : JA X cls W (e :: es) fs) (hn : ∀ g ds, fs g = .ok ds → ds.length = n) (hg : Gl X x := by rfl)
    (hdb : (x == ("__debug__" : Str)) = false := by decide) (he : starEach (e :: es) X.env = (false, eval e X.env) :: starEach es X.env := by rfl) (hpl : (backTo pos (starEach es X.env)).any (·.1) = false := by rfl) :
    JE X cls W (.Call (.Name x p) (e :: es) [] pos) (eMkF c g fs) := by
  obtain ⟨ta, pa, da⟩ := ha.ex
  refine ⟨_, pe_makeS M G cn.hr hg hm hb cn.tk pa hdb he hpl, ?_⟩
  intro σ F H env O Q s st p
  rw [eMkF_] at p
  refine da.go s st (fun c e => by rw [e] at p; exact p) (fun e => by rw [e] at p; exact p) fun ds e vs F1 H1 x1 b1 => ?_
  rw [e, Res.bind_ok] at p
  split at p
  · rename_i hsh
    intro x dx hx hdx hne
    have r1 := b1.toRps hsh
    have nF : ∀ {a : Addr}, H1 a = none → F1 a = none := fun {a} h => by
      cases q : F1 a with
      | none => rfl
      | some u => rw [x1.fh a u q] at h; cases h
    have sF : Same F1 (upd (upd H1 dx (.own x)) x (.ins C dx [])) := fun b o q => by
      rw [upd_ne (fun z => by rw [z, nF hx] at q; cases q), upd_ne (fun z => by rw [z, nF hdx] at q; cases q)]
      exact x1.fh b o q
    have sH : Same H1 (upd (upd H1 dx (.own x)) x (.ins C dx [])) := fun b o q => by
      rw [upd_ne (ne_of_none q hx), upd_ne (ne_of_none q hdx)]
      exact q
    refine ⟨F1, x, C, dx, ns, vs, ds, rfl, hcl, sF, nF hx, upd_same, r1, hn env ds e, ?_⟩
    have ext : ∀ {F' H' O'}, SExt F1 (upd (upd H1 dx (.own x)) x (.ins C dx [])) [x] F' H' O' → Ext F H F' H' := fun {F' H' O'} y =>
      ⟨x1.ff.trans y.ff, fun b o q => by
        have q1 := x1.hh b o q
        exact y.fr b o (sH b o q1) (by simp; exact ne_of_none q1 hx), y.fh, fun b h1 h2 => by
        have h3 := x1.ow b h1 h2
        have h4 : H1 b ≠ none := x1.some h2
        have h5 : b ≠ x := fun z => h4 (z ▸ hx)
        refine y.ow b h3 ?_ (by simp; exact h5)
        cases q : H1 b with
        | none => exact (h4 q).elim
        | some o => rw [sH b o q]; exact fun e => nomatch e⟩
    cases eg : g ds with
    | bad => rw [eg] at p; exact p.elim
    | xc e => rw [eg] at p; exact fun F' H' O' y => p F' H' (ext y)
    | ok fl =>
      rw [eg, Res.bind_ok] at p
      intro F' H' O' y w
      refine ⟨rfl, ?_⟩
      split at p
      · rename_i n
        have fr : Fresh H O' := fun a ha => by
          rcases y.oo a ha with z | z
          · simp at z; subst z; exact x1.hh.free hx
          · exact x1.hh.free (sH.free z)
        have no : ∀ a ∈ O', F' a = none := fun a ha => (w.dom a ha).1
        have z := w.freeze (addF_same no) addF_at (show nod (.oo none c fl) = true from n)
        exact p _ _ H' [] (addF_ext (ext y) fr no) Fresh.nil (.inl (.sh z))
      · exact p.elim
  · exact p.elim

def unO (i : Nat) : Out → Out
  | .nx g => .nx (g.set i .un)
  | .bk g => .bk (g.set i .un)
  | .ct g => .ct (g.set i .un)
  | .rt d => .rt d
  | .xc _ _ => .bad
  | .bad => .bad
def sTry (fb : Env → Out) (fh : Nat → Env → Out) : Env → Out := fun g => match fb g with
  | .xc c g' => fh c g'
  | o => o
@[simp] theorem sTry_ (fb : Env → Out) (fh : Nat → Env → Out) (g : Env) : sTry fb fh g = match fb g with
  | .xc c g' => fh c g'
  | o => o := rfl
theorem Sts.unset (s : Same F H) {g : Env} (st : Sts K cls F H σ g O) (i : Nat) : ∃ O', Sts K cls F H (σ.set i none) (g.set i .un) O' ∧ ∀ a ∈ O', a ∈ O := st.wipe s [i]
theorem js_try {i k : Nat} {n x : Str} {C : Addr} {body suite : List Stmt} {b0 : Stmt} {np pos' : Pos} {fbo : Env → Out} {fs : Nat → Addr → Env → Out} {fh : Nat → Env → Out} (cn : Cn X W k) (hs : X.stack = X.env :: X.outer) (hf : X.env.frame = some X.env.locals) (hi : X.N[i]? = some n) (hln : X.env.kindOf n = some .local)
    (hx : X.mg x = some (.ref C)) (hcatch : ∀ c g, fh c g ≠ .bad → PySem.W.exmOne X.K (excV cls c) (.ref C) = some true)
    (hb : ∀ (W : WX) (pn : List (Addr × Obj)) (xe : Value → Shared → Prop), Cn (X.tr pn xe) W k → JSs (X.tr pn xe) cls W body fbo)
    (hsu : ∀ (c : Nat) (a : Addr) (oe : Obj) (pn : List (Addr × Obj)), L2N.Zn (excV cls c) none oe → (∃ vs, oe.data = .fields vs) → JSs (X.suite a ((a, oe) :: pn)) cls W0 (b0 :: suite) (fs c a))
    (heq : ∀ c a g, fh c g = .bad ∨ unO i (fs c a (g.set i (.rf a))) = fh c g) (hg : Gl X x := by rfl) (hdb : (x == ("__debug__" : Str)) = false := by decide) :
    JS X cls W (.Try body [.ExceptHandler (some (.Name x np)) (some n) (b0 :: suite) pos'] [] [] pos) (sTry fbo fh) := by
  refine ⟨_, L2N.ps_try_as (i := i) (tb := fun W => cS X.K cls fbo W) (ts := fun a c d D σ H => ∃ ci, c = excV cls ci ∧ d = none ∧ cS X.K cls (fs ci a) W0 D σ H) (Wout := W) hs hf cn.nd hi hln ⟨hg, hdb, .inl hx⟩ cn.tk
    (fun W' pn xe tk hp => (hb W' pn xe ⟨tk, hp, cn.calm, cn.nd, cn.hr⟩).canon) (fun a oe c d pn hz hd => ?_), ?_⟩
  · refine ⟨fun pins s σ H D I q => ?_⟩
    obtain ⟨ci, rfl, rfl, q⟩ := q
    exact (hsu ci a oe pn hz hd).canon.run pins s σ H D I q
  · intro D σ F H g O s st p
    rw [sTry_] at p
    refine ⟨F, g, O, s, st, ?_⟩
    cases eb : fbo g with
    | nx g' => rw [eb] at p; exact p
    | rt d => rw [eb] at p; exact p
    | bk g' => rw [eb] at p; exact p
    | ct g' => rw [eb] at p; exact p
    | bad => rw [eb] at p; exact p
    | xc c g' =>
      rw [eb] at p
      have p : PostS X.K cls W D F H O (fh c g') := p
      have nb : fh c g' ≠ .bad := fun z => by rw [z] at p; exact p
      intro σ' F' H' O' y st'
      refine ⟨true, hcatch c g' nb, fun _ a ha => ⟨c, rfl, rfl, ?_⟩, fun q => nomatch q⟩
      have e : unO i (fs c a (g'.set i (.rf a))) = fh c g' := (heq c a g').resolve_left nb
      obtain ⟨O2, z1, z2⟩ := st'.putS (i := i) y.fh (.rf a)
      refine ⟨F', g'.set i (.rf a), O2, y.fh, z1, ?_⟩
      rw [← e] at p
      have y2 := y.trans z2
      cases es : fs c a (g'.set i (.rf a)) with
      | nx g2 =>
        rw [es] at p
        intro σ3 F3 H3 O3 y3 st3
        obtain ⟨O4, w1, w2⟩ := st3.unset y3.fh i
        exact p _ F3 H3 O4 ((y2.trans y3).trans ⟨.refl F3, y3.fh, fun _ _ h _ => h, fun _ h _ _ => h, fun a ha => .inl (w2 a ha)⟩) w1
      | bk g2 =>
        rw [es] at p
        intro σ3 F3 H3 O3 y3 st3
        obtain ⟨O4, w1, w2⟩ := st3.unset y3.fh i
        exact p _ F3 H3 O4 ((y2.trans y3).trans ⟨.refl F3, y3.fh, fun _ _ h _ => h, fun _ h _ _ => h, fun a ha => .inl (w2 a ha)⟩) w1
      | ct g2 =>
        rw [es] at p
        intro σ3 F3 H3 O3 y3 st3
        obtain ⟨O4, w1, w2⟩ := st3.unset y3.fh i
        exact p _ F3 H3 O4 ((y2.trans y3).trans ⟨.refl F3, y3.fh, fun _ _ h _ => h, fun _ h _ _ => h, fun a ha => .inl (w2 a ha)⟩) w1
      | rt d => rw [es] at p; exact fun v F3 H3 O3 y3 w => p v F3 H3 O3 (y2.trans y3) w
      | xc c2 g2 => rw [es] at p; exact p.elim
      | bad => rw [es] at p; exact p.elim
def eIs (i : Nat) (a : Addr) (b : Bool) : Env → Res D := fun g => match (g : List D)[i]? with
  | some (D.rf a') => if a' = a then .ok (.bl b) else .bad
  | _ => .bad
@[simp] theorem eIs_ (i : Nat) (a : Addr) (b : Bool) (g : Env) : eIs i a b g = match (g : List D)[i]? with
  | some (D.rf a') => if a' = a then .ok (.bl b) else .bad
  | _ => .bad := rfl
theorem je_is {ad D1 : Addr} {oe : Obj} {pn : List (Addr × Obj)} {i : Nat} {n : Str} {bb : Bool} {p p1 : Pos} {ec : Expr} {cv : V} {cu : Value} (C : ExcC X.K D1) (hz : L2N.Zn (.ref D1) none oe) (hf : ∃ vs, oe.data = .fields vs) (hm : X.mg "isinstance" = none)
    (hN : X.N[i]? = some n) (hv : Vis X.env.scope n) (hd : (n == ("__debug__" : Str)) = false := by decide) (hcd : (n == ("__classdict__" : Str)) = false := by decide)
    (hc : PE (X.suite ad ((ad, oe) :: pn)) ec (tC cv)) (hcv : ∀ u, RelV cv u → u = cu) (hk : PySem.W.kitOne X.K (.ref D1) cu = some bb) (hg : Gl X "isinstance" := by rfl)
    (he : starEach [.Name n p1, ec] X.env = (false, eval (.Name n p1) X.env) :: starEach [ec] X.env := by rfl) (he2 : starEach [ec] X.env = (false, eval ec X.env) :: starEach [] X.env := by rfl) (hpl : (backTo pos (starEach [ec] X.env)).any (·.1) = false := by rfl) :
    JE (X.suite ad ((ad, oe) :: pn)) cls W0 (.Call (.Name "isinstance" p) [.Name n p1, ec] [] pos) (eIs i ad bb) := by
  refine ⟨_, pe_callB (call_isE C hz.zc hf) hg hm (by decide +kernel) (pa_cons (pe_var hN hv hd hcd) (pa_cons hc pa_nil he2) he) (by decide) (by decide) he hpl, ?_⟩
  intro σ F H g O Q s st p
  rw [eIs_] at p
  split at p
  · rename_i a' eg
    split at p
    · rename_i ea
      subst ea
      obtain ⟨P, _, h2, _⟩ := st.at i (List.getElem?_eq_some_iff.mp eg).1
      rcases h2 with ⟨h2, _⟩ | ⟨v, d, h2, h2', ow⟩
      · rw [eg] at h2; cases h2
      · rw [eg] at h2'; cases h2'
        cases ow with
        | sh r =>
          cases r
          exact ⟨_, h2, cv, cu, bb, rfl, hcv, hk, p _ F H [] (.refl s) Fresh.nil (.inl (.sh (.bl bb)))⟩
    · exact p.elim
  · exact p.elim
end
end DL

namespace DL
open PySem L2
section
variable {K : PySem.W.Frag} {cls : Cls} {W : WX} {X : Cx} {F H F' H' F1 H1 : Hp} {O O1 : List Addr} {Q : VK} {σ : St} {a b e tg iter elt : Expr} {es : List Expr} {fa fb fc : Env → Res D} {ga gb : Env → Res Bool} {fs : Env → Res (List D)} {pos : Pos}
theorem js_setFN {i : Nat} {x : Str} {pos' : Pos} (nd : X.N.Nodup) (hi : X.N[i]? = some x) (hx : Loc X.env.scope x) (ha : JE X cls W a fa) (hs : swapsWith a (some (.Name x pos')) pos.line X.env = pure false := by rfl)
    (hf : X.fn x = true ∨ X.env.scope.names.lookup x = some .local := by first | exact .inl rfl | exact .inr rfl) : JS X cls W (.Assign [.Name x pos'] a pos) (sAsgF i fa) := by
  obtain ⟨t, p, d⟩ := ha.ex
  exact ⟨_, ps_set nd hi hx p hs hf, ds_asgF d⟩
end
theorem law_sp {K : PySem.W.Frag} {cls : Cls} {g : List D → Res D} {H : Hp} {a : Addr} {ns : List Int} (h : g [.sc (ns.map D.int)] = .ok (.bl true)) (hS : SqL K H a (ns.map V.int)) :
    spD K cls 1 g [.ref a] H (fun v _ => v = .bl true) fun _ _ _ => False := by
  refine ⟨H, [.sc (ns.map D.int)], .refl H, .cons (.sc hS rps_ints) .nil, rfl, ?_⟩
  rw [h]
  intro v F' H' O' _ _ w
  cases w with
  | sh r => cases r; rfl
theorem law_cx {P : Program} {w : World} {H : Hp} {s : Shared} {e : Value} {s' : Shared} (h : L2N.CX P w [] H s (fun _ _ _ => False) e s') : False := by
  obtain ⟨_, _, _, _, _, _, _, _, _, _, _, _, z⟩ := h
  exact z
end DL

namespace DL
open PySem L2
@[simp] theorem brw_un : brw .un = .un := rfl
@[simp] theorem brw_non : brw .non = .non := rfl
@[simp] theorem brw_bl {b} : brw (.bl b) = .bl b := rfl
@[simp] theorem brw_int {b} : brw (.int b) = .int b := rfl
@[simp] theorem brw_str {b} : brw (.str b) = .str b := rfl
@[simp] theorem brw_sc {b} : brw (.sc b) = .sc b := rfl
@[simp] theorem brw_ls {b} : brw (.ls b) = .ls b := rfl
@[simp] theorem brw_tp {b} : brw (.tp b) = .tp b := rfl
@[simp] theorem brw_ob {c b} : brw (.ob c b) = .ob c b := rfl
@[simp] theorem brw_ol {b} : brw (.ol b) = .bo (brws b) := rfl
@[simp] theorem brw_od {k b} : brw (.od k b) = .bd k (brws b) := rfl
@[simp] theorem brw_oo {o c b} : brw (.oo o c b) = .bb c (brws b) := rfl
@[simp] theorem brw_rf {b} : brw (.rf b) = .rf b := rfl
@[simp] theorem brws_nil : brws [] = [] := rfl
@[simp] theorem brws_cons {d ds} : brws (d :: ds) = brw d :: brws ds := rfl
@[simp] theorem frz_un : frz .un = .un := rfl
@[simp] theorem frz_non : frz .non = .non := rfl
@[simp] theorem frz_bl {b} : frz (.bl b) = .bl b := rfl
@[simp] theorem frz_int {b} : frz (.int b) = .int b := rfl
@[simp] theorem frz_str {b} : frz (.str b) = .str b := rfl
@[simp] theorem frz_sc {b} : frz (.sc b) = .sc b := rfl
@[simp] theorem frz_ls {b} : frz (.ls b) = .ls b := rfl
@[simp] theorem frz_tp {b} : frz (.tp b) = .tp b := rfl
@[simp] theorem frz_ob {c b} : frz (.ob c b) = .ob c b := rfl
@[simp] theorem frz_ol {b} : frz (.ol b) = .ls (frzs b) := rfl
@[simp] theorem frz_oo {o c b} : frz (.oo o c b) = .ob c (frzs b) := rfl
@[simp] theorem frz_od {k b} : frz (.od k b) = .od k b := rfl
@[simp] theorem frzs_nil : frzs [] = [] := rfl
@[simp] theorem frzs_cons {d ds} : frzs (d :: ds) = frz d :: frzs ds := rfl
@[simp] theorem pln_bo {b} : pln (.bo b) = .ls (plns b) := rfl
@[simp] theorem pln_int {b} : pln (.int b) = .int b := rfl
@[simp] theorem pln_ls {b} : pln (.ls b) = .ls b := rfl
@[simp] theorem pln_sc {b} : pln (.sc b) = .sc b := rfl
@[simp] theorem pln_tp {b} : pln (.tp b) = .tp b := rfl
@[simp] theorem pln_bl {b} : pln (.bl b) = .bl b := rfl
@[simp] theorem pln_str {b} : pln (.str b) = .str b := rfl
@[simp] theorem pln_non : pln .non = .non := rfl
@[simp] theorem pln_ob {c b} : pln (.ob c b) = .ob c b := rfl
@[simp] theorem plns_nil : plns [] = [] := rfl
@[simp] theorem plns_cons {d ds} : plns (d :: ds) = pln d :: plns ds := rfl
def dull : D → Prop := fun d => brw d = d ∧ frz d = d ∧ pln d = d ∧ nod d = true ∧ shd1 d = true ∧ plok d = true
theorem dulls {α : Type} {f : α → D} (h : ∀ a, dull (f a)) : ∀ l : List α, brws (l.map f) = l.map f ∧ frzs (l.map f) = l.map f ∧ plns (l.map f) = l.map f ∧ nods (l.map f) = true ∧ shd (l.map f) = true ∧ ploks (l.map f) = true
  | [] => ⟨rfl, rfl, rfl, rfl, rfl, rfl⟩
  | a :: l => by
    obtain ⟨h1, h2, h3, h4, h5, h6⟩ := dulls h l
    obtain ⟨k1, k2, k3, k4, k5, k6⟩ := h a
    refine ⟨?_, ?_, ?_, ?_, ?_, ?_⟩
    · simp [h1, k1]
    · simp [h2, k2]
    · simp [h3, k3]
    · simp [h4, k4]
    · simp [h5, k5]
    · simp [h6, k6]
theorem dull_int (i : Int) : dull (.int i) := ⟨rfl, rfl, rfl, rfl, rfl, rfl⟩
@[simp] def dP (p : Int × Int) : D := .tp [.int p.1, .int p.2]
theorem dull_P (p : Int × Int) : dull (dP p) := ⟨rfl, rfl, rfl, rfl, rfl, rfl⟩
def dT (l : List Int) : D := .tp (l.map D.int)
theorem dull_T (l : List Int) : dull (dT l) := ⟨rfl, rfl, rfl, rfl, rfl, rfl⟩
section
variable (l : List Int)
@[simp] theorem brws_I : brws (l.map D.int) = l.map D.int := (dulls dull_int l).1
@[simp] theorem frzs_I : frzs (l.map D.int) = l.map D.int := (dulls dull_int l).2.1
@[simp] theorem plns_I : plns (l.map D.int) = l.map D.int := (dulls dull_int l).2.2.1
@[simp] theorem nods_I : nods (l.map D.int) = true := (dulls dull_int l).2.2.2.1
@[simp] theorem shd_I : shd (l.map D.int) = true := (dulls dull_int l).2.2.2.2.1
@[simp] theorem ploks_I : ploks (l.map D.int) = true := (dulls dull_int l).2.2.2.2.2
@[simp] theorem flats_I : flats (l.map D.int) = true := by
  induction l with
  | nil => rfl
  | cons a l ih => simp [ih]
end
section
variable (l : List (Int × Int))
@[simp] theorem brws_P : brws (l.map dP) = l.map dP := (dulls dull_P l).1
@[simp] theorem frzs_P : frzs (l.map dP) = l.map dP := (dulls dull_P l).2.1
@[simp] theorem plns_P : plns (l.map dP) = l.map dP := (dulls dull_P l).2.2.1
@[simp] theorem nods_P : nods (l.map dP) = true := (dulls dull_P l).2.2.2.1
@[simp] theorem shd_P : shd (l.map dP) = true := (dulls dull_P l).2.2.2.2.1
@[simp] theorem ploks_P : ploks (l.map dP) = true := (dulls dull_P l).2.2.2.2.2
end
@[simp] theorem atI_map {α β : Type} (f : α → β) (l : List α) (i : Int) : atI (l.map f) i = (atI l i).map f := by
  unfold atI
  rw [List.length_map]
  cases ixN l.length i with
  | none => rfl
  | some j => simp
theorem atI_of {α : Type} {l : List α} {i : Int} (h0 : 0 ≤ i) (h1 : i < l.length) : ∃ a, atI l i = some a ∧ l[i.toNat]? = some a := by
  have h : i.toNat < l.length := by omega
  refine ⟨l[i.toNat], ?_, by simp [h]⟩
  unfold atI ixN
  rw [if_pos h0, if_pos h1]
  simp [h]
theorem atI_natG {α : Type} {l : List α} {j : Nat} {i : Int} (e : i = (j : Int)) (h : j < l.length) : atI l i = l[j]? := by
  subst e
  unfold atI ixN
  rw [if_pos (by omega), if_pos (by omega)]
  simp
theorem ixN_nat {n : Nat} {i : Int} (h0 : 0 ≤ i) (h1 : i < n) : ixN n i = some i.toNat := by
  unfold ixN
  rw [if_pos h0, if_pos h1]
theorem forL_inv {tg : D → Env → Option Env} {b : Env → Out} (P : Nat → Env → Prop) : ∀ (ds : List D) (g : Env) (j : Nat), P j g →
    (∀ i d g, ds[i]? = some d → P (j + i) g → ∃ g1 g', tg d g = some g1 ∧ (b g1 = .nx g' ∨ b g1 = .ct g') ∧ P (j + i + 1) g') → ∃ g', forL tg b ds g = .nx g' ∧ P (j + ds.length) g'
  | [], g, j, h0, _ => ⟨g, rfl, h0⟩
  | d :: ds, g, j, h0, hs => by
    obtain ⟨g1, g', e1, e2, h1⟩ := hs 0 d g rfl h0
    obtain ⟨g2, e3, h2⟩ := forL_inv P ds g' (j + 1) h1 fun i d' g e h => by
      have := hs (i + 1) d' g (by simpa using e) (by rw [show j + (i + 1) = j + 1 + i by omega]; exact h)
      rw [show j + (i + 1) + 1 = j + 1 + i + 1 by omega] at this
      exact this
    refine ⟨g2, ?_, by rw [List.length_cons, show j + (ds.length + 1) = j + 1 + ds.length by omega]; exact h2⟩
    rw [forL_cons, e1]
    rcases e2 with e2 | e2 <;> (simp only [e2]; exact e3)
theorem for_rng {tg : D → Env → Option Env} {b : Env → Out} (P : Nat → Env → Prop) {lo : Int} {n : Nat} {g : Env} (h0 : P 0 g)
    (hs : ∀ i g, i < n → P i g → ∃ g1 g', tg (.int (lo + i)) g = some g1 ∧ (b g1 = .nx g' ∨ b g1 = .ct g') ∧ P (i + 1) g') : ∃ g', forL tg b (rng lo n) g = .nx g' ∧ P n g' := by
  obtain ⟨g', e, h⟩ := forL_inv (tg := tg) (b := b) P (rng lo n) g 0 h0 fun i d g e h => by
    obtain ⟨h1, rfl⟩ := rng_get e
    rw [Nat.zero_add] at h ⊢
    exact hs i g h1 h
  rw [rng_len, Nat.zero_add] at h
  exact ⟨g', e, h⟩
end DL

namespace DL
open PySem L2
def e60 : Int := 10 ^ 60
@[simp] theorem e60_pos : 0 < e60 := by decide
section
variable {a b i j : Int} {x y : Str} {xs ys : List D} {k l : Bool} {d e : D} {ks : List Key} {c n : Nat}
@[simp] theorem caLen_sc : caLen [.sc xs] = some (.int xs.length) := rfl
@[simp] theorem caLen_ls : caLen [.ls xs] = some (.int xs.length) := rfl
@[simp] theorem caLen_bo : caLen [.bo xs] = some (.int xs.length) := rfl
@[simp] theorem caLen_tp : caLen [.tp xs] = some (.int xs.length) := rfl
@[simp] theorem opIx_sc : opIx (.sc xs) (.int i) = atI xs i := rfl
@[simp] theorem opIx_ls : opIx (.ls xs) (.int i) = atI xs i := rfl
@[simp] theorem opIx_bo : opIx (.bo xs) (.int i) = atI xs i := rfl
@[simp] theorem opIx_tp : opIx (.tp xs) (.int i) = atI xs i := rfl
@[simp] theorem atI_two0 {α : Type} {p q : α} : atI [p, q] 0 = some p := rfl
@[simp] theorem atI_two1 {α : Type} {p q : α} : atI [p, q] 1 = some q := rfl
theorem opPow_eq : opPow (.int i) (.int j) = if CPow i j then some (.int (i ^ j.toNat)) else none := rfl
theorem opMod_eq : opMod (.int i) (.int j) = if j ≠ 0 then some (.int (if 0 < j then i % j else i.fmod j)) else none := rfl
theorem opDiv_eq : opDiv (.int i) (.int j) = if divOk j then some (.int (if 0 < j then i / j else i.fdiv j)) else none := rfl
theorem opMul_eq : opMul (.int i) (.int j) = if mulOk i j then some (.int (i * j)) else none := rfl
theorem opMul_ls : opMul (.ls xs) (.int i) = if i < 2 ^ 63 ∧ -(2 ^ 63) ≤ i ∧ xs.length * i.toNat ≤ lim then some (.ol (List.replicate i.toNat xs).flatten) else none := rfl
theorem caMax2_eq : caMax2 [.int a, .int b] = some (.int (if b > a then b else a)) := rfl
theorem caMin2_eq : caMin2 [.int a, .int b] = some (.int (if b < a then b else a)) := rfl
theorem caAbs_eq : caAbs [.int a] = some (.int (if a < 0 then -a else a)) := rfl
@[simp] theorem opPow_c : opPow (.int 10) (.int 60) = some (.int e60) := by
  rw [opPow_eq, if_pos (by unfold CPow; decide)]
  rfl
@[simp] theorem opMod_pos (h : 0 < b) : opMod (.int a) (.int b) = some (.int (a % b)) := by
  rw [opMod_eq, if_pos (by omega), if_pos h]
theorem divOk_small (h0 : b ≠ 0) (h : b.natAbs < 1073741824) : divOk b := ⟨h0, .inl h⟩
@[simp] theorem opDiv_pos (h : 0 < b) (h' : b < 1073741824) : opDiv (.int a) (.int b) = some (.int (a / b)) := by
  rw [opDiv_eq, if_pos (divOk_small (by omega) (by omega)), if_pos h]
@[simp] theorem opMul_l (h : -18446744073709551616 < a) (h' : a < 18446744073709551616) : opMul (.int a) (.int b) = some (.int (a * b)) := by
  rw [opMul_eq, if_pos (.inl (.inl ⟨by omega, by omega⟩))]
@[simp] theorem opMul_r (h : -18446744073709551616 < b) (h' : b < 18446744073709551616) : opMul (.int a) (.int b) = some (.int (a * b)) := by
  rw [opMul_eq, if_pos (.inl (.inr ⟨by omega, by omega⟩))]
@[simp] theorem opAdd_int : opAdd (.int a) (.int b) = some (.int (a + b)) := rfl
@[simp] theorem opSub_int : opSub (.int a) (.int b) = some (.int (a - b)) := rfl
@[simp] theorem opNeg_int : opNeg (.int a) = some (.int (-a)) := rfl
@[simp] theorem opAdd_tp (h : xs.length + ys.length ≤ lim) : opAdd (.tp xs) (.tp ys) = some (.tp (xs ++ ys)) := if_pos h
@[simp] theorem opAdd_ll (h : xs.length + ys.length ≤ lim) : opAdd (.ls xs) (.ls ys) = some (.ol (xs ++ ys)) := if_pos h
theorem opAdd_lst {d e : D} (h1 : lsv d = some xs) (h2 : lsv e = some ys) (h : xs.length + ys.length ≤ lim) : opAdd d e = some (.ol (xs ++ ys)) := by
  have e1 : opAdd d e = opAddL d e := by cases d <;> first | rfl | cases h1
  rw [e1]
  unfold opAddL
  rw [h1, h2]
  exact if_pos h
@[simp] theorem opAdd_lb (h2 : shd ys = true) (h : xs.length + ys.length ≤ lim) : opAdd (.ls xs) (.bo ys) = some (.ol (xs ++ ys)) := opAdd_lst rfl (by simp [h2]) h
@[simp] theorem opAdd_bl (h2 : shd xs = true) (h : xs.length + ys.length ≤ lim) : opAdd (.bo xs) (.ls ys) = some (.ol (xs ++ ys)) := opAdd_lst (by simp [h2]) rfl h
@[simp] theorem opAdd_bb (h1 : shd xs = true) (h2 : shd ys = true) (h : xs.length + ys.length ≤ lim) : opAdd (.bo xs) (.bo ys) = some (.ol (xs ++ ys)) := opAdd_lst (by simp [h1]) (by simp [h2]) h
@[simp] theorem opAdd_str (h : x.length + y.length ≤ lim) : opAdd (.str x) (.str y) = some (.str (x ++ y)) := if_pos h
@[simp] theorem opMul_rep (h : 0 ≤ a) (h' : a ≤ 100000) (h2 : xs.length ≤ 10) : opMul (.ls xs) (.int a) = some (.ol (List.replicate a.toNat xs).flatten) := by
  have : xs.length * a.toNat ≤ lim := by
    unfold lim
    have h1 : a.toNat ≤ 100000 := by omega
    exact Nat.le_trans (Nat.mul_le_mul h2 h1) (by decide)
  rw [opMul_ls, if_pos ⟨by omega, by omega, this⟩]
@[simp] theorem cLt_int : cLt (.int a) (.int b) = some (decide (a < b)) := rfl
@[simp] theorem cLe_int : cLe (.int a) (.int b) = some (decide (a ≤ b)) := rfl
@[simp] theorem cGt_int : cGt (.int a) (.int b) = some (decide (b < a)) := rfl
@[simp] theorem cGe_int : cGe (.int a) (.int b) = some (decide (b ≤ a)) := rfl
@[simp] theorem cEq_int : cEq (.int a) (.int b) = some (decide (a = b)) := rfl
@[simp] theorem cEq_str : cEq (.str x) (.str y) = some (decide (x = y)) := rfl
@[simp] theorem cEq_bl : cEq (.bl k) (.bl l) = some (decide (k = l)) := rfl
@[simp] theorem cNe_int : cNe (.int a) (.int b) = some (!decide (a = b)) := rfl
@[simp] theorem cNe_str : cNe (.str x) (.str y) = some (!decide (x = y)) := rfl
@[simp] theorem cNe_bl : cNe (.bl k) (.bl l) = some (!decide (k = l)) := rfl
@[simp] theorem cIsN_non : cIsN .non .non = some true := rfl
@[simp] theorem cIsN_int : cIsN (.int a) .non = some false := rfl
@[simp] theorem cIsN_tp : cIsN (.tp xs) .non = some false := rfl
@[simp] theorem cIsN_ls : cIsN (.ls xs) .non = some false := rfl
@[simp] theorem cIsN_bo : cIsN (.bo xs) .non = some false := rfl
@[simp] theorem cIsN_ob : cIsN (.ob c xs) .non = some false := rfl
@[simp] theorem cIsN_str : cIsN (.str x) .non = some false := rfl
@[simp] theorem cNotN_non : cNotN .non .non = some false := rfl
@[simp] theorem cNotN_int : cNotN (.int a) .non = some true := rfl
@[simp] theorem cNotN_tp : cNotN (.tp xs) .non = some true := rfl
@[simp] theorem cNotN_ls : cNotN (.ls xs) .non = some true := rfl
@[simp] theorem cNotN_ob : cNotN (.ob c xs) .non = some true := rfl
@[simp] theorem caMax2_int : caMax2 [.int a, .int b] = some (.int (max a b)) := by
  rw [caMax2_eq, show (if b > a then b else a) = max a b by split <;> omega]
@[simp] theorem caMin2_int : caMin2 [.int a, .int b] = some (.int (min a b)) := by
  rw [caMin2_eq, show (if b < a then b else a) = min a b by split <;> omega]
@[simp] theorem caAbs_int : caAbs [.int a] = some (.int (a.natAbs : Int)) := by
  rw [caAbs_eq, show (if a < 0 then -a else a) = (a.natAbs : Int) by split <;> omega]
@[simp] theorem caInt_int : caInt [.int a] = some (.int a) := rfl
@[simp] theorem caInt_bl : caInt [.bl k] = some (.int (if k = true then 1 else 0)) := rfl
@[simp] theorem caList_ls : caList [.ls xs] = some (.ol xs) := rfl
@[simp] theorem caList_sc : caList [.sc xs] = some (.ol xs) := rfl
@[simp] theorem caList_tp : caList [.tp xs] = some (.ol xs) := rfl
@[simp] theorem caList_bo (h : shd xs = true) : caList [.bo xs] = some (.ol xs) := by simp [caList, h]
@[simp] theorem caTuple_ls : caTuple [.ls xs] = some (.tp xs) := rfl
@[simp] theorem caTuple_sc : caTuple [.sc xs] = some (.tp xs) := rfl
@[simp] theorem caTuple_tp : caTuple [.tp xs] = some (.tp xs) := rfl
@[simp] theorem caTuple_bo (h : shd xs = true) : caTuple [.bo xs] = some (.tp xs) := by simp [caTuple, h]
variable {ns : List Int}
@[simp] theorem caSum_ls : caSum [.ls (ns.map D.int)] = some (.int ns.sum) := by simp [caSum]
@[simp] theorem caSum_bo : caSum [.bo (ns.map D.int)] = some (.int ns.sum) := by simp [caSum]
@[simp] theorem caSum_sc : caSum [.sc (ns.map D.int)] = some (.int ns.sum) := by simp [caSum]
@[simp] theorem caSorted_ls : caSorted [.ls (ns.map D.int)] = some (.ol ((srt ns).map D.int)) := by simp [caSorted]
@[simp] theorem caSorted_bo : caSorted [.bo (ns.map D.int)] = some (.ol ((srt ns).map D.int)) := by simp [caSorted]
@[simp] theorem opSl_tp {lo hi : Option Int} : opSl (.tp xs) lo hi = some (.tp (cut xs lo hi)) := rfl
@[simp] theorem opSl_ls {lo hi : Option Int} : opSl (.ls xs) lo hi = some (.ol (cut xs lo hi)) := rfl
@[simp] theorem opSl_sc {lo hi : Option Int} : opSl (.sc xs) lo hi = some (.ol (cut xs lo hi)) := rfl
@[simp] theorem opSl_bo {lo hi : Option Int} (h : shd xs = true) : opSl (.bo xs) lo hi = some (.ol (cut xs lo hi)) := by simp [opSl, h]
@[simp] theorem cut_map {α β : Type} (f : α → β) (l : List α) (lo hi : Option Int) : cut (l.map f) lo hi = (cut l lo hi).map f := by
  unfold cut
  simp
@[simp] theorem tru_bl : tru (.bl k) = some k := rfl
@[simp] theorem tru_int : tru (.int a) = some (a != 0) := rfl
@[simp] theorem tru_non : tru .non = some false := rfl
@[simp] theorem tru_ls : tru (.ls xs) = some (!xs.isEmpty) := rfl
@[simp] theorem tru_bo : tru (.bo xs) = some (!xs.isEmpty) := rfl
@[simp] theorem tru_tp : tru (.tp xs) = some (!xs.isEmpty) := rfl
@[simp] theorem cIn_ls : cIn (.int a) (.ls (ns.map D.int)) = some (decide (a ∈ ns)) := by simp [cIn]
@[simp] theorem cIn_tp : cIn (.int a) (.tp (ns.map D.int)) = some (decide (a ∈ ns)) := by simp [cIn]
@[simp] theorem cIn_bo : cIn (.int a) (.bo (ns.map D.int)) = some (decide (a ∈ ns)) := by simp [cIn]
@[simp] theorem cNIn_ls : cNIn (.int a) (.ls (ns.map D.int)) = some (!decide (a ∈ ns)) := by simp [cNIn]
@[simp] theorem cNIn_tp : cNIn (.int a) (.tp (ns.map D.int)) = some (!decide (a ∈ ns)) := by simp [cNIn]
@[simp] theorem cNIn_bo : cNIn (.int a) (.bo (ns.map D.int)) = some (!decide (a ∈ ns)) := by simp [cNIn]
@[simp] theorem opFld_ob : opFld c n (.ob c xs) = xs[n]? := if_pos rfl
@[simp] theorem opFld_bb : opFld c n (.bb c xs) = xs[n]? := if_pos rfl
@[simp] theorem calD_shd {g : List D → Res D} (h : shd xs = true) : calD g xs = g xs := if_pos h
end
end DL

namespace DL
open PySem L2
theorem for_rngN {s : Nat} {b : Env → Out} (P : Nat → Env → Prop) {lo : Int} {n : Nat} {g : Env} (h0 : P 0 g)
    (hs : ∀ (i : Nat) g, i < n → P i g → ∃ g', (b (g.set s (.int (lo + i))) = .nx g' ∨ b (g.set s (.int (lo + i))) = .ct g') ∧ P (i + 1) g') : ∃ g', forL (gtN s) b (rng lo n) g = .nx g' ∧ P n g' :=
  for_rng P h0 fun i g hi h => by
    obtain ⟨g', e, h'⟩ := hs i g hi h
    exact ⟨_, g', rfl, e, h'⟩
theorem lcL_map {α : Type} {tg : D → Env → Option Env} {te : Env → Res D} {g : Env} {f h : α → D} : ∀ (l : List α), (∀ a ∈ l, ∃ g1, tg (f a) g = some g1 ∧ (te g1).bind kp = .ok (h a)) → lcL tg tYesG te g (l.map f) = .ok (l.map h)
  | [], _ => rfl
  | a :: l, k => by
    obtain ⟨g1, e1, e2⟩ := k a (by simp)
    rw [List.map_cons, lcL_cons, e1]
    simp only [tYesG_, Res.bind_ok, if_true]
    rw [e2, lcL_map l fun b hb => k b (by simp [hb])]
    rfl
theorem lcL_mapN {α : Type} {s : Nat} {te : Env → Res D} {g : Env} {f h : α → D} (l : List α) (k : ∀ a ∈ l, (te (g.set s (f a))).bind kp = .ok (h a)) : lcL (gtN s) tYesG te g (l.map f) = .ok (l.map h) :=
  lcL_map l fun a ha => ⟨_, rfl, k a ha⟩
theorem lcL_filter {α : Type} {tg : D → Env → Option Env} {tt : Env → Res Bool} {te : Env → Res D} {g : Env} {f h : α → D} {p : α → Bool} : ∀ (l : List α), (∀ a ∈ l, ∃ g1, tg (f a) g = some g1 ∧ tt g1 = .ok (p a) ∧ (p a = true → (te g1).bind kp = .ok (h a))) → lcL tg tt te g (l.map f) = .ok ((l.filter p).map h)
  | [], _ => rfl
  | a :: l, k => by
    obtain ⟨g1, e1, e2, e3⟩ := k a (by simp)
    have ih := lcL_filter (h := h) l fun b hb => k b (by simp [hb])
    rw [List.map_cons, lcL_cons, e1]
    simp only [e2, Res.bind_ok]
    cases hp : p a with
    | true => rw [if_pos rfl, e3 hp, ih, List.filter_cons_of_pos hp]; rfl
    | false => rw [if_neg (by decide), ih, List.filter_cons_of_neg (by simp [hp])]
theorem lcL_filterN {α : Type} {s : Nat} {tt : Env → Res Bool} {te : Env → Res D} {g : Env} {f h : α → D} {p : α → Bool} (l : List α) (k : ∀ a ∈ l, tt (g.set s (f a)) = .ok (p a) ∧ (p a = true → (te (g.set s (f a))).bind kp = .ok (h a))) : lcL (gtN s) tt te g (l.map f) = .ok ((l.filter p).map h) :=
  lcL_filter l fun a ha => ⟨_, rfl, (k a ha).1, (k a ha).2⟩
theorem map_int {α : Type} (h : α → Int) (l : List α) : l.map (fun a => D.int (h a)) = (l.map h).map D.int := by simp
theorem cut_from {α : Type} (l : List α) (i : Int) (h : 0 ≤ i) : cut l (some i) none = l.drop i.toNat := by
  unfold cut
  obtain ⟨n, rfl⟩ := Int.eq_ofNat_of_zero_le h
  rw [HT.sIx_nat, HT.sIx_none]
  simp only [Int.toNat_natCast]
  by_cases hn : n ≤ l.length
  · rw [Nat.min_eq_left hn, List.take_of_length_le (by simp)]
  · rw [Nat.min_eq_right (by omega), List.drop_length, List.drop_eq_nil_of_le (by omega)]; simp
theorem cut_to {α : Type} (l : List α) (i : Int) (h : 0 ≤ i) : cut l none (some i) = l.take i.toNat := by
  unfold cut
  obtain ⟨n, rfl⟩ := Int.eq_ofNat_of_zero_le h
  rw [HT.sIx_nat, HT.sIx_none]
  simp only [Int.toNat_natCast, List.drop_zero, Nat.sub_zero]
  by_cases hn : n ≤ l.length
  · rw [Nat.min_eq_left hn]
  · rw [Nat.min_eq_right (by omega), List.take_of_length_le (Nat.le_refl _), List.take_of_length_le (by omega)]
theorem rng_map (lo : Int) (n : Nat) : rng lo n = ((List.range n).map fun i : Nat => lo + (i : Int)).map D.int := by unfold rng; simp
theorem lim_eq : lim = 1000000 := rfl
@[simp] theorem lim_0 : 0 ≤ lim := by decide
@[simp] theorem lim_1 : 1 ≤ lim := by decide
@[simp] theorem lim_2 : 2 ≤ lim := by decide
@[simp] theorem lim_3 : 3 ≤ lim := by decide
@[simp] theorem lim_4 : 4 ≤ lim := by decide
@[simp] theorem lim_5 : 5 ≤ lim := by decide
@[simp] theorem lim_6 : 6 ≤ lim := by decide
@[simp] theorem lim_7 : 7 ≤ lim := by decide
@[simp] theorem lim_8 : 8 ≤ lim := by decide
@[simp] theorem lim_9 : 9 ≤ lim := by decide
@[simp] theorem lim_10 : 10 ≤ lim := by decide
@[simp] theorem lim_11 : 11 ≤ lim := by decide
@[simp] theorem lim_12 : 12 ≤ lim := by decide
@[simp] theorem lim_13 : 13 ≤ lim := by decide
@[simp] theorem lim_14 : 14 ≤ lim := by decide
@[simp] theorem lim_15 : 15 ≤ lim := by decide
@[simp] theorem lim_16 : 16 ≤ lim := by decide
@[simp] theorem lim_17 : 17 ≤ lim := by decide
@[simp] theorem lim_18 : 18 ≤ lim := by decide
@[simp] theorem lim_19 : 19 ≤ lim := by decide
@[simp] theorem lim_20 : 20 ≤ lim := by decide
end DL

namespace DL
open PySem L2
noncomputable def mirI (f : Env → Out) (c n : Nat) : List D → Res (List D) := fun ds => by
  classical exact if h : ∃ r, ∀ x, runI f c n x ds = r then h.choose else .bad
theorem mirI_eq {f : Env → Out} {c n : Nat} {ds : List D} {r : Res (List D)} (h : ∀ x, runI f c n x ds = r) : mirI f c n ds = r := by
  unfold mirI
  rw [dif_pos ⟨r, h⟩]
  have := (Exists.choose_spec (⟨r, h⟩ : ∃ r, ∀ x, runI f c n x ds = r)) 0
  rw [← this, h 0]
theorem mirI_ok {f : Env → Out} {c n k : Nat} : ∀ ds x, ds.length = k → mirI f c n ds = .bad ∨ runI f c n x ds = mirI f c n ds := by
  intro ds x _
  by_cases h : ∃ r, ∀ x, runI f c n x ds = r
  · right
    obtain ⟨r, h⟩ := h
    rw [mirI_eq h, h x]
  · left
    unfold mirI
    rw [dif_neg h]
end DL

namespace DL
open PySem L2
def Enc {α : Type} [DecidableEq α] (f : α → D) (n : Nat) : Prop := ∃ p : α → PyData, (∀ a, toPy (f a) = some (p a) ∧ (p a).canLay0 = true ∧ (p a).depth ≤ n) ∧ ∀ a b, PyData.eqv (p a) (p b) = decide (a = b)
section
variable {α : Type} [DecidableEq α] {f : α → D} {n : Nat}
theorem toPys_map {f : α → D} {p : α → PyData} (h : ∀ a, toPy (f a) = some (p a)) : ∀ l : List α, toPys (l.map f) = some (l.map p)
  | [] => by simp [toPys]
  | a :: l => by simp [toPys, h a, toPys_map h l]
theorem eqvAll_map {p : α → PyData} (h : ∀ a b, PyData.eqv (p a) (p b) = decide (a = b)) : ∀ l m : List α, PyData.eqvAll (l.map p) (m.map p) = decide (l = m)
  | [], [] => by simp [PyData.eqvAll]
  | [], _ :: _ => by simp [PyData.eqvAll]
  | _ :: _, [] => by simp [PyData.eqvAll]
  | a :: l, b :: m => by
    simp only [List.map_cons, PyData.eqvAll, h a b, eqvAll_map h l m]
    by_cases e : a = b <;> by_cases e' : l = m <;> simp [e, e']
theorem lay_map {p : α → PyData} (h : ∀ a, (p a).canLay0 = true) : ∀ l : List α, PyData.canLayAll0 (l.map p) = true
  | [] => by simp [PyData.canLayAll0]
  | a :: l => by simp [PyData.canLayAll0, h a, lay_map h l]
theorem dep_map {p : α → PyData} (h : ∀ a, (p a).depth ≤ n) : ∀ l : List α, PyData.depthAll (l.map p) ≤ n
  | [] => by simp [PyData.depthAll]
  | a :: l => by
    simp only [List.map_cons, PyData.depthAll]
    exact Nat.max_le.mpr ⟨h a, dep_map h l⟩
theorem enc_int : Enc D.int 0 := ⟨.int, fun a => ⟨by simp [toPy], by simp [PyData.canLay0], by simp [PyData.depth]⟩, fun a b => by simp only [PyData.eqv]; by_cases e : a = b <;> simp [e]⟩
theorem enc_bl : Enc D.bl 0 := ⟨.bool, fun a => ⟨by simp [toPy], by simp [PyData.canLay0], by simp [PyData.depth]⟩, fun a b => by simp only [PyData.eqv]; by_cases e : a = b <;> simp [e]⟩
theorem Enc.ls (h : Enc f n) : Enc (fun l : List α => D.ls (l.map f)) (n + 1) := by
  obtain ⟨p, h1, h2⟩ := h
  refine ⟨fun l => .list (l.map p), fun l => ⟨by simp [toPy, toPys_map fun a => (h1 a).1], ?_, ?_⟩, fun l m => ?_⟩
  · simp [PyData.canLay0, lay_map fun a => (h1 a).2.1]
  · have := dep_map (fun a => (h1 a).2.2) l
    simp only [PyData.depth]; omega
  · simp only [PyData.eqv]; exact eqvAll_map h2 l m
theorem Enc.tp (h : Enc f n) : Enc (fun l : List α => D.tp (l.map f)) (n + 1) := by
  obtain ⟨p, h1, h2⟩ := h
  refine ⟨fun l => .tuple (l.map p), fun l => ⟨by simp [toPy, toPys_map fun a => (h1 a).1], ?_, ?_⟩, fun l m => ?_⟩
  · simp [PyData.canLay0, lay_map fun a => (h1 a).2.1]
  · have := dep_map (fun a => (h1 a).2.2) l
    simp only [PyData.depth]; omega
  · simp only [PyData.eqv]; exact eqvAll_map h2 l m
theorem Enc.pair {β : Type} [DecidableEq β] {g : β → D} (h : Enc f n) (h' : Enc g n) : Enc (fun x : α × β => D.tp [f x.1, g x.2]) (n + 1) := by
  obtain ⟨p, h1, h2⟩ := h
  obtain ⟨q, h3, h4⟩ := h'
  refine ⟨fun x => .tuple [p x.1, q x.2], fun x => ⟨by simp [toPy, toPys, h1 x.1, h3 x.2], ?_, ?_⟩, fun x y => ?_⟩
  · simp [PyData.canLay0, PyData.canLayAll0, h1 x.1, h3 x.2]
  · have a := (h1 x.1).2.2
    have b := (h3 x.2).2.2
    simp only [PyData.depth, PyData.depthAll]; omega
  · simp only [PyData.eqv, PyData.eqvAll, h2, h4]
    obtain ⟨x1, x2⟩ := x
    obtain ⟨y1, y2⟩ := y
    by_cases e : x1 = y1 <;> by_cases e' : x2 = y2 <;> simp [e, e']
theorem Enc.eq (h : Enc f n) (hn : n ≤ 64) (a b : α) : pyEq (f a) (f b) = some (decide (a = b)) := by
  obtain ⟨p, h1, h2⟩ := h
  have s : ∀ a, SeqAt.shaped (p a) = true := fun a => by
    have := (h1 a).2.2
    simp only [SeqAt.shaped, (h1 a).2.1, Bool.true_and, decide_eq_true_eq]; omega
  simp [pyEq, (h1 a).1, (h1 b).1, s, h2]
end
theorem toPy_bo {xs : List D} : toPy (.bo xs) = toPy (.ls xs) := by simp [toPy]
theorem pyEq_bl {xs ys : List D} : pyEq (.bo xs) (.ls ys) = pyEq (.ls xs) (.ls ys) := by simp [pyEq, toPy_bo]
theorem pyEq_lb {xs ys : List D} : pyEq (.ls xs) (.bo ys) = pyEq (.ls xs) (.ls ys) := by simp [pyEq, toPy_bo]
theorem pyEq_bb {xs ys : List D} : pyEq (.bo xs) (.bo ys) = pyEq (.ls xs) (.ls ys) := by simp [pyEq, toPy_bo]
@[simp] theorem cEq_ll {xs ys : List D} : cEq (.ls xs) (.ls ys) = pyEq (.ls xs) (.ls ys) := rfl
@[simp] theorem cEq_lbo {xs ys : List D} : cEq (.ls xs) (.bo ys) = pyEq (.ls xs) (.ls ys) := pyEq_lb
@[simp] theorem cEq_bol {xs ys : List D} : cEq (.bo xs) (.ls ys) = pyEq (.ls xs) (.ls ys) := pyEq_bl
@[simp] theorem cEq_bobo {xs ys : List D} : cEq (.bo xs) (.bo ys) = pyEq (.ls xs) (.ls ys) := pyEq_bb
@[simp] theorem cEq_tt {xs ys : List D} : cEq (.tp xs) (.tp ys) = pyEq (.tp xs) (.tp ys) := rfl
@[simp] theorem cNe_eq {a b : D} : cNe a b = (cEq a b).map (!·) := rfl
@[simp] theorem pyEq_lsI {xs ys : List Int} : pyEq (.ls (xs.map D.int)) (.ls (ys.map D.int)) = some (decide (xs = ys)) := enc_int.ls.eq (by omega) xs ys
@[simp] theorem pyEq_tpI {xs ys : List Int} : pyEq (.tp (xs.map D.int)) (.tp (ys.map D.int)) = some (decide (xs = ys)) := enc_int.tp.eq (by omega) xs ys
theorem enc_P : Enc dP 1 := enc_int.pair enc_int
@[simp] theorem pyEq_lsP {xs ys : List (Int × Int)} : pyEq (.ls (xs.map dP)) (.ls (ys.map dP)) = some (decide (xs = ys)) := enc_P.ls.eq (by omega) xs ys
@[simp] theorem pyEq_tpP {xs ys : List (Int × Int)} : pyEq (.tp (xs.map dP)) (.tp (ys.map dP)) = some (decide (xs = ys)) := enc_P.tp.eq (by omega) xs ys
@[simp] theorem pyEq_lsB {xs ys : List Bool} : pyEq (.ls (xs.map D.bl)) (.ls (ys.map D.bl)) = some (decide (xs = ys)) := enc_bl.ls.eq (by omega) xs ys
@[simp] theorem pyEq_tpB {xs ys : List Bool} : pyEq (.tp (xs.map D.bl)) (.tp (ys.map D.bl)) = some (decide (xs = ys)) := enc_bl.tp.eq (by omega) xs ys
@[simp] theorem pyEq_bbb {a b c d e f : Bool} : pyEq (.ls [.bl a, .bl b, .bl c]) (.ls [.bl d, .bl e, .bl f]) = some (decide ([a, b, c] = [d, e, f])) := pyEq_lsB (xs := [a, b, c]) (ys := [d, e, f])
@[simp] theorem pyEq_bb2 {a b d e : Bool} : pyEq (.ls [.bl a, .bl b]) (.ls [.bl d, .bl e]) = some (decide ([a, b] = [d, e])) := pyEq_lsB (xs := [a, b]) (ys := [d, e])
@[simp] theorem pyEq_nn : pyEq (.ls []) (.ls []) = some true := pyEq_lsI (xs := []) (ys := [])
@[simp] theorem pyEq_bn {a b c : Bool} : pyEq (.ls [.bl a, .bl b, .bl c]) (.ls []) = some false := by rw [show (.ls [.bl a, .bl b, .bl c] : D) = .ls ([a, b, c].map D.bl) from rfl, show (.ls [] : D) = .ls (([] : List Bool).map D.bl) from rfl, pyEq_lsB]; rfl
@[simp] theorem pyEq_nb {a b c : Bool} : pyEq (.ls []) (.ls [.bl a, .bl b, .bl c]) = some false := by rw [show (.ls [.bl a, .bl b, .bl c] : D) = .ls ([a, b, c].map D.bl) from rfl, show (.ls [] : D) = .ls (([] : List Bool).map D.bl) from rfl, pyEq_lsB]; rfl
end DL

namespace DL
open PySem L2
section
variable {xs ys : List D}
@[simp] theorem nods_append : nods (xs ++ ys) = (nods xs && nods ys) := by induction xs <;> simp [*, Bool.and_assoc]
@[simp] theorem frzs_append : frzs (xs ++ ys) = frzs xs ++ frzs ys := by induction xs <;> simp [*]
@[simp] theorem brws_append : brws (xs ++ ys) = brws xs ++ brws ys := by induction xs <;> simp [*]
@[simp] theorem plns_append : plns (xs ++ ys) = plns xs ++ plns ys := by induction xs <;> simp [*]
@[simp] theorem shd_append : shd (xs ++ ys) = (shd xs && shd ys) := by induction xs <;> simp [*, Bool.and_assoc]
@[simp] theorem ploks_append : ploks (xs ++ ys) = (ploks xs && ploks ys) := by induction xs <;> simp [*, Bool.and_assoc]
@[simp] theorem flats_append : flats (xs ++ ys) = (flats xs && flats ys) := by induction xs <;> simp [*, Bool.and_assoc]
end
theorem rng_succ (lo : Int) (n : Nat) : rng lo (n + 1) = .int lo :: rng (lo + 1) n := by
  unfold rng
  rw [List.range_succ_eq_map, List.map_cons, List.map_map]
  congr 1
  · simp
  · refine List.map_congr_left fun a _ => ?_
    simp; omega
theorem rng_zero (lo : Int) : rng lo 0 = [] := rfl
end DL

namespace DL
open PySem PySem.Spec PyProof.Rows L2
section
variable {P : Program} {w : World} {A : Around} {E : Value → Shared → Prop} {s : Shared}
set_option maxHeartbeats 3200000 in
theorem call_set_listR {l : Addr} {items : Array Value} (ns : List Int) {Q : Value → Shared → Prop} (hh : A.handled = none) (hl : s.heap.IsList l items) (hit : IntsAre items.toList ns) (hb : ns.length + 1 < scanBound)
    (h : ∀ (h' : Heap) (tk c : Nat), SetR w h' s.heap.objs.size (fun j => decide (j ∈ ns)) c → c ≤ ns.length → (∀ b o, s.heap.get? b = some o → h'.get? b = some o) → Q (.ref s.heap.objs.size) { s with heap := h', toks := tk }) :
    wpAny (model P w) A (call (.type "set") [.ref l]) Q E s := by
  have hisz : items.size = ns.length := by
    have q := IntsAre.length hit
    rwa [Array.length_toList] at q
  obtain ⟨c, tl, hmro⟩ := F.called_set.mro
  have hmade := F.called_set.made
  have hsub := F.called_set.sub
  refine wpAny_call (codeAny_of_tree (wpAny_pure ⟨Code.quiet_builtin _ (by decide +kernel), codeAny_builtin F.entry_type_call ?_⟩))
  rw [Around.under_plain (weight_type_call_type "set" [.ref l] []) rfl]
  have h1 := F.called_set.notType
  have h2 := F.called_set.canCreate
  have hct := F.typeCall_set_1 (.ref l)
  repeat (any_goals (first | assumption | wp_step))
  generalize hO : ({ cls := .type "set", dict := none, data := .set #[] 0 (.fresh 0 0 (!w.params.followText "set-order")) } : Obj) = O
  refine codeAny_mono (code_set_led1 (.ref l) (E := E) (Q₁ := fun obj s₁ => obj = .ref s.heap.objs.size ∧ s₁ = { s with heap := s.heap.push O }) ⟨rfl, by rw [hO]⟩) fun r s₁ hr => ?_
  cases r with
  | error e => exact hr
  | ok fl =>
    cases fl with
    | ret obj =>
      obtain ⟨rfl, rfl⟩ := hr
      have hS : (s.heap.push O).get? s.heap.objs.size = some O := Heap.get?_push_size _ (by rw [← hO]; rfl)
      have hT : Shared.TypeIs { s with heap := s.heap.push O } (.ref s.heap.objs.size) "set" := ⟨_, hS, by rw [← hO]⟩
      have hli := F.called_set.init.lookup
      have hbi := F.called_set.init.bind (.ref s.heap.objs.size)
      repeat (any_goals (first | assumption | wp_step))
      refine codeAny_mono (codeAny_call_builtin (R := wants (fun r s₂ => r = .none ∧ ∃ h' tk c, s₂ = { s with heap := h', toks := tk } ∧ SetR w h' s.heap.objs.size (fun j => decide (j ∈ ns)) c ∧ c ≤ ns.length ∧
          (∀ b o, s.heap.get? b = some o → h'.get? b = some o)) E) F.called_set.init.plain F.entry_set_init (check_set_init_1 hT ?_)) fun r₂ s₂ hr₂ => ?_
      · have hlS : l < s.heap.objs.size := by
          obtain ⟨o, ho, _⟩ := hl
          exact Heap.lt_size ho
        have hl1 : (s.heap.push O).IsList l items := hl.push _
        obtain ⟨ol, hol', hcl, nl, hdl⟩ := hl1
        obtain ⟨ocls, odict, odata, oslots⟩ := ol
        simp only at hcl hdl
        subst hcl; subst hdl
        have hl2 : (s.heap.push O).IsList l items := ⟨_, hol', rfl, nl, rfl⟩
        have hsls := F.sub_list_set
        have hslf := F.sub_list_frozenset
        have hne : (Value.type "list" == Value.type "dict") = false := by decide
        have hneI : l ≠ (s.heap.push O).objs.size := by rw [Heap.size_push]; exact Nat.ne_of_lt (Nat.lt_succ_of_lt hlS)
        have hSf : s.heap.objs.size ∉ [(s.heap.push O).objs.size, l] := by
          rw [Heap.size_push]; simp only [List.mem_cons, List.not_mem_nil, or_false, not_or]
          exact ⟨Nat.ne_of_lt (Nat.lt_succ_self _), Nat.ne_of_gt hlS⟩
        subst hO
        unfold Builtin.«set.__init__» noKeywords Builtin.Frozenset.updateFrom
        generalize hPI : pyIter = PI
        wp_walk
        subst hPI
        refine wpAny_pyIter_list hl2 ?_
        refine wpAny_bind (wpAny_runValue ?_)
        have hval : ∀ (i : Nat) (v : Value), items[i]? = some v → ∃ k t, ns[i]? = some k ∧ v = .int k t := fun i v hv => by
          have hi : i < ns.length := by rw [← hisz]; exact (Array.getElem?_eq_some_iff.mp hv).1
          obtain ⟨t, e⟩ := PyProof.Rows.IntsAre.int_at hit i v (by rw [Array.getElem?_toList]; exact hv)
          exact ⟨ns[i], t, List.getElem?_eq_getElem hi, by rw [e, List.getD_eq_getElem?_getD, List.getElem?_eq_getElem hi] <;> rfl⟩
        refine set_update_ints ((Walks.list (by simp [hh]) _ l hneI items).toS) s.heap.objs.size hSf ns hisz hb hval (items.size - 0) 0 _ (by omega) (Nat.zero_le _)
          ⟨⟨_, Heap.get?_push_size _ rfl, rfl, rfl⟩, (hl2.push _)⟩ ⟨0, Nat.le_refl 0, setR_new_at (Heap.get?_push_of_some _ hS)⟩ fun s' c' hm hc' hS' => ?_
        obtain ⟨h', g2, d', tk', os'⟩ := s'
        have eg : g2 = s.gens := hm.gens
        have ed : d' = s.drawn := hm.drawn
        have eo : os' = s.os := hm.os
        subst eg; subst ed; subst eo
        refine wpAny_pure ?_
        rw [hisz] at hc'
        refine wpAny_pure ⟨rfl, h', tk', c', rfl, hS', hc', fun b o e => ?_⟩
        have hb0 : b < s.heap.objs.size := Heap.lt_size e
        refine hm.heap b o ?_ (Heap.get?_push_of_some _ (Heap.get?_push_of_some _ e))
        simp only [List.mem_cons, List.not_mem_nil, or_false, not_or, Heap.size_push]
        exact ⟨Nat.ne_of_lt hb0, Nat.ne_of_lt (Nat.lt_succ_of_lt hb0)⟩
      · cases r₂ with
        | error e => exact hr₂
        | ok fl₂ =>
          cases fl₂ with
          | ret r =>
            obtain ⟨rfl, h', tk, c', rfl, hS', hc', hk'⟩ := hr₂
            repeat (any_goals (first | assumption | wp_step))
            exact h _ _ _ hS' hc' hk'
          | _ => exact hr₂.elim
    | _ => exact hr.elim
end
end DL

namespace DL
open PySem PySem.Spec PyProof.Rows L2
section
variable {X : Cx} {cls : Cls} {W : WX} {K : PySem.W.Frag} {F H F' H' : Hp}
theorem rgV_ints (a b : Int) : rgV a b = ((List.range (b - a).toNat).map fun i : Nat => a + (i : Int)).map V.int := by unfold rgV; simp
def eLR1 (fa : Env → Res D) : Env → Res D := fun g => (fa g).bind fun d => match opd d with
  | .int n => if rgOk n ∧ n ≤ 1000000 then .ok (.ol (rng 0 n.toNat)) else .bad
  | _ => .bad
theorem je_lr1 {a : Expr} {p p2 pos q : Pos} {fa : Env → Res D} (c : Cn X W k) (hm : X.mg "list" = none) (hm2 : X.mg "range" = none) (ha : JE X cls W a fa)
    (hg : Gl X "list" := by rfl) (hg2 : Gl X "range" := by rfl) (na : starEach [a] X.env = (false, eval a X.env) :: starEach [] X.env := by rfl)
    (na2 : starEach [.Call (.Name "range" p2) [a] [] q] X.env = (false, eval (.Call (.Name "range" p2) [a] [] q) X.env) :: starEach [] X.env := by rfl) :
    JE X cls W (.Call (.Name "list" p) [.Call (.Name "range" p2) [a] [] q] [] pos) (eLR1 fa) := by
  obtain ⟨ta, pa, da⟩ := ha.ex
  refine ⟨_, pe_listRg c.calm hg hm (prg_1 hg2 hm2 pa na) na2, ?_⟩
  intro σ F H g O Q s st p
  unfold eLR1 at p
  refine da.go s st (fun c e => by rw [e] at p; exact p) (fun e => by rw [e] at p; exact p) fun d e v F1 H1 x1 b1 => ?_
  rw [e] at p
  simp only [Res.bind] at p
  cases eo : opd d with
  | int n =>
    rw [eo] at p b1
    simp only at p
    split at p
    · rename_i hn
      obtain rfl := b1.int
      refine ⟨n, rfl, ⟨by omega, by omega, hn.1.lo, hn.1.hi, by omega⟩, fun q hq => ?_⟩
      · refine p (.ref q) _ _ [q] (x1.trans (Ext.own x1.fh hq)) ((fresh_new hq).mono x1.hh) (.inl ?_)
        rw [rgV_ints, rng_map]
        rw [show (n - 0).toNat = n.toNat by omega]
        exact ow_new x1.fh hq rps_ints.toOws
    · exact p.elim
  | _ => rw [eo] at p; exact p.elim
end
end DL

namespace DL
open PySem PySem.Spec PyProof.Rows L2
section
variable {X : Cx} {cls : Cls} {W : WX} {K : PySem.W.Frag} {F H F' H' : Hp}
def eLR2 (fa fb : Env → Res D) : Env → Res D := fun g => (fa g).bind fun d => (fb g).bind fun e => match opd d, opd e with
  | .int i, .int j => if (rgOk i ∧ rgOk j) ∧ (j - i).toNat ≤ 1000000 then .ok (.ol (rng i (j - i).toNat)) else .bad
  | _, _ => .bad
def tyD : D → Option String
  | .non => some "NoneType"
  | .bl _ => some "bool"
  | .int _ => some "int"
  | .str _ => some "str"
  | .ls _ => some "list"
  | .bo _ => some "list"
  | .tp _ => some "tuple"
  | _ => none
def isTy (U T : String) : Option Bool := if U = T then some true else match U, T with
  | "int", "bool" => some false
  | "tuple", "bool" => some false
  | "list", "bool" => some false
  | "str", "bool" => some false
  | "NoneType", "bool" => some false
  | "bool", "int" => some true
  | "tuple", "int" => some false
  | "list", "int" => some false
  | "str", "int" => some false
  | "NoneType", "int" => some false
  | "tuple", "list" => some false
  | "int", "list" => some false
  | "list", "tuple" => some false
  | "int", "tuple" => some false
  | "NoneType", "tuple" => some false
  | "NoneType", "list" => some false
  | _, _ => none
def eIsT (T : String) (fa : Env → Res D) : Env → Res D := fun g => (fa g).bind fun d => match tyD (opd d) with
  | some U => match isTy U T with
    | some b => .ok (.bl b)
    | none => .bad
  | none => .bad
end
end DL

namespace DL
open PySem PySem.Spec PyProof.Rows L2
def insU (x : Int) : List Int → List Int
  | [] => [x]
  | y :: l => if x < y then x :: y :: l else if x = y then y :: l else y :: insU x l
def sset : List Int → List Int
  | [] => []
  | x :: l => insU x (sset l)
theorem insU_mem (x k : Int) : ∀ l : List Int, k ∈ insU x l ↔ k = x ∨ k ∈ l
  | [] => by simp [insU]
  | y :: l => by
    unfold insU
    split
    · simp
    · split
      · rename_i h; subst h; simp
      · simp only [List.mem_cons, insU_mem x k l]
        constructor
        · rintro (h | h | h) <;> simp [h]
        · rintro (h | h | h) <;> simp [h]
theorem insU_rise (x : Int) : ∀ l : List Int, l.Pairwise (· < ·) → (insU x l).Pairwise (· < ·)
  | [], _ => by simp [insU]
  | y :: l, h => by
    obtain ⟨h1, h2⟩ := List.pairwise_cons.mp h
    unfold insU
    split
    · rename_i hx
      exact List.pairwise_cons.mpr ⟨fun k hk => by rcases List.mem_cons.mp hk with rfl | hk; exact hx; exact Int.lt_trans hx (h1 k hk), h⟩
    · split
      · exact h
      · rename_i n1 n2
        refine List.pairwise_cons.mpr ⟨fun k hk => ?_, insU_rise x l h2⟩
        rcases (insU_mem x k l).mp hk with rfl | hk
        · omega
        · exact h1 k hk
theorem sset_mem (k : Int) : ∀ l : List Int, k ∈ sset l ↔ k ∈ l
  | [] => Iff.rfl
  | x :: l => by simp only [sset, insU_mem, sset_mem k l, List.mem_cons]
theorem sset_rise : ∀ l : List Int, (sset l).Pairwise (· < ·)
  | [] => .nil
  | x :: l => insU_rise x _ (sset_rise l)
theorem rise_uniq : ∀ {l m : List Int}, l.Pairwise (· < ·) → m.Pairwise (· < ·) → (∀ k, k ∈ l ↔ k ∈ m) → l = m
  | [], [], _, _, _ => rfl
  | [], y :: m, _, _, h => absurd ((h y).mpr (List.mem_cons_self ..)) (by simp)
  | x :: l, [], _, _, h => absurd ((h x).mp (List.mem_cons_self ..)) (by simp)
  | x :: l, y :: m, a, b, h => by
    obtain ⟨a1, a2⟩ := List.pairwise_cons.mp a
    obtain ⟨b1, b2⟩ := List.pairwise_cons.mp b
    have e : x = y := by
      rcases List.mem_cons.mp ((h x).mp (List.mem_cons_self ..)) with e | e
      · exact e
      · rcases List.mem_cons.mp ((h y).mpr (List.mem_cons_self ..)) with e' | e'
        · exact e'.symm
        · have := a1 y e'; have := b1 x e; omega
    subst e
    congr 1
    refine rise_uniq a2 b2 fun k => ⟨fun hk => ?_, fun hk => ?_⟩
    · rcases List.mem_cons.mp ((h k).mp (List.mem_cons_of_mem _ hk)) with e | e
      · have := a1 k hk; omega
      · exact e
    · rcases List.mem_cons.mp ((h k).mpr (List.mem_cons_of_mem _ hk)) with e | e
      · have := b1 k hk; omega
      · exact e
theorem rise_nodup {l : List Int} (h : l.Pairwise (· < ·)) : l.Nodup := h.imp fun h e => by omega
section
variable {X : Cx} {cls : Cls} {W : WX} {K : PySem.W.Frag} {F H F' H' : Hp}
theorem setR_len {w : World} {h : Heap} {a : Addr} {ns : List Int} {c : Nat} (R : SetR w h a (fun j => decide (j ∈ ns)) c) : c = (sset ns).length := by
  obtain ⟨o, es, ep, t, ho, hex, hd, g, nd, hm, hb, hf, hn, hr, hl⟩ := R
  have p : (es.toList.map keyOf).Perm (sset ns) := (List.perm_ext_iff_of_nodup nd (rise_nodup (sset_rise ns))).mpr fun k => by
    rw [sset_mem]
    have := hm k
    simpa using this.symm
  rw [← p.length_eq, List.length_map, Array.length_toList]
  exact hn.symm
def rSetIL (K : PySem.W.Frag) (w : World) : List V → Hp → VK → Prop := fun vs H Q => ∃ (l : Addr) (ns : List Int), vs = [.ref l] ∧ SqL K H l (ns.map V.int) ∧ ns.length ≤ 4000 ∧ ∀ p, H p = none → Q (.ref p) (upd H p (SetO w p (fun j => decide (j ∈ ns)) (sset ns).length))
theorem cr_setIL (hc : X.calm = true) : CallR X (.type "set") (rSetIL X.K X.w) := by
  intro pins s σ H vs us Q I r h
  obtain ⟨l, ns, rfl, hq, hz, q⟩ := h
  rw [Vals.ref1 r]
  obtain ⟨its, r, pl, _⟩ := I.list hq
  refine call_set_listR ns (I.ok.hd hc) pl.isList (by simpa using r.ints) (by unfold scanBound; omega) fun h' tk c hS hc' hk => ?_
  have e := setR_len hS
  subst e
  exact ⟨.ref s.heap.objs.size, upd H s.heap.objs.size (SetO X.w s.heap.objs.size (fun j => decide (j ∈ ns)) (sset ns).length), I.laid (t' := tk) hk (Nat.le_refl _) (setO_new hS), rfl, q _ (I.hok.fresh (Nat.le_refl _))⟩
def tLenS (K : PySem.W.Frag) (ta : TE) : TE := fun σ H Q => ta σ H fun x H1 => ∃ (l : Addr) (ns : List Int), x = V.ref l ∧ SqL K H1 l (ns.map V.int) ∧ ns.length ≤ 4000 ∧ Q (.int (sset ns).length) H1
theorem pe_lenS {a : Expr} {ta : TE} {p p2 q pos : Pos} (hc : X.calm = true) (hg : Gl X "len") (hm : X.mg "len" = none) (hg2 : Gl X "set") (hm2 : X.mg "set" = none) (ha : PE X a ta)
    (na : starEach [a] X.env = (false, eval a X.env) :: starEach [] X.env := by rfl) : PE X (.Call (.Name "len" p) [.Call (.Name "set" p2) [a] [] q] [] pos) (tLenS X.K ta) := by
  refine ⟨fun pins s σ H Q I h => ?_⟩
  refine Call_ (ld_blt I hg hm PySem.boot_len ?_)
  refine PyProof.Rows.callWith_builtin1 (PyProof.Rows.args_cons ?_ rfl) rfl rfl
  refine Call_ (ld_blt I hg2 hm2 PyProof.Rows.boot_set ?_)
  refine PyProof.Rows.callWith_type1 (PyProof.Rows.args_cons (thn (ha.run pins s σ H _ I h) fun v s1 ⟨x, H1, I1, r1, q1⟩ => PyProof.Rows.args_nil ?_) na) na rfl
  obtain ⟨l, ns, rfl, hq, h1, q1⟩ := q1
  cases r1
  obtain ⟨its, r, pl, _⟩ := I1.list hq
  refine call_set_listR ns (I1.ok.hd hc) pl.isList (by simpa using r.ints) (by unfold scanBound; omega) fun h' tk c hS hc' hk => ?_
  have e := setR_len hS
  obtain ⟨o, es, ep, t, ho, hex, hd, g, nd, hm, hb, hf, hn, hr, hl⟩ := hS
  refine PyProof.Rows.args_nil ?_
  have I2 : Inv X pins σ H1 { s1 with heap := h', toks := tk } := I1.kept hk
  exact call_len_set ho hex hd hf (by rw [hn] <;> omega) ⟨.int (sset ns).length, H1, I2.tok _, ⟨_, by rw [hn, e]⟩, q1⟩
def lsI (d : D) : Option (List Int) := match sqL (opd d) with
  | some xs => intsOf xs
  | none => none
theorem lsI_ok {v : V} {d : D} {ns : List Int} (s : Same F H) (b : Bo K cls F H v (opd d)) (e : lsI d = some ns) : ∃ a, v = .ref a ∧ SqL K H a (ns.map V.int) := by
  unfold lsI at e
  cases h1 : sqL (opd d) with
  | none => rw [h1] at e; cases e
  | some xs => rw [h1] at e; exact b.sqI s h1 e
@[simp] theorem lsI_ls (ns : List Int) : lsI (.ls (ns.map D.int)) = some ns := by simp [lsI]
@[simp] theorem lsI_bo (ns : List Int) : lsI (.bo (ns.map D.int)) = some ns := by simp [lsI]
@[simp] theorem lsI_ol (ns : List Int) : lsI (.ol (ns.map D.int)) = some ns := by simp [lsI]
def eLenSet (fa : Env → Res D) : Env → Res D := fun g => (fa g).bind fun d => match lsI d with
  | some ns => if ns.length ≤ 4000 then .ok (.int (sset ns).length) else .bad
  | none => .bad
def eSortedSet (fa : Env → Res D) : Env → Res D := fun g => (fa g).bind fun d => match lsI d with
  | some ns => if ns.length < 64 then .ok (.ol ((sset ns).map D.int)) else .bad
  | none => .bad
theorem je_lenset {a : Expr} {p p2 q pos : Pos} {fa : Env → Res D} (c : Cn X W k) (hm : X.mg "len" = none) (hm2 : X.mg "set" = none) (ha : JE X cls W a fa) (hg : Gl X "len" := by rfl) (hg2 : Gl X "set" := by rfl)
    (na : starEach [a] X.env = (false, eval a X.env) :: starEach [] X.env := by rfl) : JE X cls W (.Call (.Name "len" p) [.Call (.Name "set" p2) [a] [] q] [] pos) (eLenSet fa) := by
  obtain ⟨ta, pa, da⟩ := ha.ex
  refine ⟨_, pe_lenS c.calm hg hm hg2 hm2 pa na, ?_⟩
  intro σ F H g O Q s st p
  unfold eLenSet at p
  refine da.go s st (fun c e => by rw [e] at p; exact p) (fun e => by rw [e] at p; exact p) fun d e v F1 H1 x1 b1 => ?_
  rw [e] at p
  simp only [Res.bind] at p
  cases eo : lsI d with
  | none => rw [eo] at p; exact p.elim
  | some ns =>
    rw [eo] at p
    simp only at p
    split at p
    · rename_i hz
      obtain ⟨l, rfl, h⟩ := lsI_ok x1.fh b1 eo
      exact ⟨l, ns, rfl, h, hz, p _ F1 H1 [] x1 Fresh.nil (.inl (.sh (.int _)))⟩
    · exact p.elim
theorem je_sortedset {a : Expr} {p p2 q pos : Pos} {fa : Env → Res D} (c : Cn X W k) (hm : X.mg "sorted" = none) (hm2 : X.mg "set" = none) (ha : JE X cls W a fa) (hg : Gl X "sorted" := by rfl) (hg2 : Gl X "set" := by rfl)
    (na : starEach [a] X.env = (false, eval a X.env) :: starEach [] X.env := by rfl)
    (na2 : starEach [.Call (.Name "set" p2) [a] [] q] X.env = (false, eval (.Call (.Name "set" p2) [a] [] q) X.env) :: starEach [] X.env := by rfl) :
    JE X cls W (.Call (.Name "sorted" p) [.Call (.Name "set" p2) [a] [] q] [] pos) (eSortedSet fa) := by
  obtain ⟨ta, pa, da⟩ := ha.ex
  refine ⟨_, pe_callB (cr_sortedSet c.calm) hg hm (by decide +kernel) (pa_cons (pe_callTy (cr_setIL c.calm) hg2 hm2 (by decide +kernel) (pa_cons pa pa_nil na) (by decide) (by decide) na (by rfl)) pa_nil na2) (by decide) (by decide) na2 (by rfl), ?_⟩
  intro σ F H g O Q s st p
  unfold eSortedSet at p
  refine da.go s st (fun c e => by rw [e] at p; exact p) (fun e => by rw [e] at p; exact p) fun d e v F1 H1 x1 b1 => ?_
  rw [e] at p
  simp only [Res.bind] at p
  cases eo : lsI d with
  | none => rw [eo] at p; exact p.elim
  | some ns =>
    rw [eo] at p
    simp only at p
    split at p
    · rename_i hz
      obtain ⟨l, rfl, h⟩ := lsI_ok x1.fh b1 eo
      have hlen : (sset ns).length ≤ ns.length := by
        have : ∀ l : List Int, (sset l).length ≤ l.length := fun l => by
          induction l with
          | nil => exact Nat.le_refl _
          | cons x l ih =>
            have : ∀ m : List Int, (insU x m).length ≤ m.length + 1 := fun m => by
              induction m with
              | nil => exact Nat.le_refl _
              | cons y m ih => unfold insU; split; simp; split; simp; simp; omega
            have := this (sset l)
            simp only [sset, List.length_cons]; omega
        exact this ns
      refine ⟨l, ns, rfl, h, by omega, fun p1 hp1 => ⟨p1, _, _, rfl, upd_same, by omega, fun ns' q pw hm' _ hq => ?_⟩⟩
      obtain rfl : ns' = sset ns := rise_uniq pw (sset_rise ns) fun k => by rw [hm' k, sset_mem]; simp
      have s1 : Same F1 (upd H1 p1 (SetO X.w p1 (fun j => decide (j ∈ ns)) (sset ns).length)) := x1.fh.trans (upd_same' hp1)
      have E1 := Ext.own (o := SetO X.w p1 (fun j => decide (j ∈ ns)) (sset ns).length) x1.fh hp1
      exact p (.ref q) _ _ [q] ((x1.trans E1).trans (Ext.own s1 hq)) ((fresh_new hq).mono (x1.trans E1).hh) (.inl (ow_new s1 hq rps_ints.toOws))
    · exact p.elim
end
end DL
namespace DL
@[simp] theorem eLR1_ (fa : Env → Res D) (g : Env) : eLR1 fa g = (fa g).bind fun d => match opd d with
  | .int n => if rgOk n ∧ n ≤ 1000000 then .ok (.ol (rng 0 n.toNat)) else .bad
  | _ => .bad := rfl
@[simp] theorem eLR2_ (fa fb : Env → Res D) (g : Env) : eLR2 fa fb g = (fa g).bind fun d => (fb g).bind fun e => match opd d, opd e with
  | .int i, .int j => if (rgOk i ∧ rgOk j) ∧ (j - i).toNat ≤ 1000000 then .ok (.ol (rng i (j - i).toNat)) else .bad
  | _, _ => .bad := rfl
@[simp] theorem eIsT_ (T : String) (fa : Env → Res D) (g : Env) : eIsT T fa g = (fa g).bind fun d => match tyD (opd d) with
  | some U => match isTy U T with
    | some b => .ok (.bl b)
    | none => .bad
  | none => .bad := rfl
@[simp] theorem isTy_same (T : String) : isTy T T = some true := if_pos rfl
@[simp] theorem isTy_int_bool : isTy "int" "bool" = some false := by decide +kernel
@[simp] theorem isTy_tuple_bool : isTy "tuple" "bool" = some false := by decide +kernel
@[simp] theorem isTy_list_bool : isTy "list" "bool" = some false := by decide +kernel
@[simp] theorem isTy_str_bool : isTy "str" "bool" = some false := by decide +kernel
@[simp] theorem isTy_NoneType_bool : isTy "NoneType" "bool" = some false := by decide +kernel
@[simp] theorem isTy_bool_int : isTy "bool" "int" = some true := by decide +kernel
@[simp] theorem isTy_tuple_int : isTy "tuple" "int" = some false := by decide +kernel
@[simp] theorem isTy_list_int : isTy "list" "int" = some false := by decide +kernel
@[simp] theorem isTy_str_int : isTy "str" "int" = some false := by decide +kernel
@[simp] theorem isTy_NoneType_int : isTy "NoneType" "int" = some false := by decide +kernel
@[simp] theorem isTy_tuple_list : isTy "tuple" "list" = some false := by decide +kernel
@[simp] theorem isTy_int_list : isTy "int" "list" = some false := by decide +kernel
@[simp] theorem isTy_list_tuple : isTy "list" "tuple" = some false := by decide +kernel
@[simp] theorem isTy_int_tuple : isTy "int" "tuple" = some false := by decide +kernel
@[simp] theorem isTy_NoneType_tuple : isTy "NoneType" "tuple" = some false := by decide +kernel
@[simp] theorem isTy_NoneType_list : isTy "NoneType" "list" = some false := by decide +kernel
@[simp] theorem eLenSet_ (fa : Env → Res D) (g : Env) : eLenSet fa g = (fa g).bind fun d => match lsI d with
  | some ns => if ns.length ≤ 4000 then .ok (.int (sset ns).length) else .bad
  | none => .bad := rfl
@[simp] theorem eSortedSet_ (fa : Env → Res D) (g : Env) : eSortedSet fa g = (fa g).bind fun d => match lsI d with
  | some ns => if ns.length < 64 then .ok (.ol ((sset ns).map D.int)) else .bad
  | none => .bad := rfl
@[simp] theorem tyD_non : tyD .non = some "NoneType" := rfl
@[simp] theorem tyD_bl {b} : tyD (.bl b) = some "bool" := rfl
@[simp] theorem tyD_int {b} : tyD (.int b) = some "int" := rfl
@[simp] theorem tyD_str {b} : tyD (.str b) = some "str" := rfl
@[simp] theorem tyD_ls {b} : tyD (.ls b) = some "list" := rfl
@[simp] theorem tyD_bo {b} : tyD (.bo b) = some "list" := rfl
@[simp] theorem tyD_tp {b} : tyD (.tp b) = some "tuple" := rfl
def iota (n : Nat) : List Int := (List.range n).map fun i : Nat => (i : Int)
theorem rng_iota (n : Nat) : rng 0 n = (iota n).map D.int := by rw [rng_map]; unfold iota; simp
@[simp] theorem iota_len (n : Nat) : (iota n).length = n := by simp [iota]
end DL

namespace DL
open PySem PySem.Spec PyProof.Rows L2
section
variable {P : Program} {w : World} {A : Around} {E : Value → Shared → Prop} {s : Shared}
theorem collect_tup {l : Addr} {vs : List Value} {Q : List Value → Shared → Prop} (hl : s.heap.IsTuple l vs.toArray)
    (h : Q vs { s with heap := (s.heap.push (seqObj "list" #[] 0)).update s.heap.objs.size (Obj.mapSeq (· ++ vs.toArray)) }) (hsz : vs.length ≤ sizeLine) : wpAny (model P w) A (collect (.ref l)) Q E s := by
  obtain ⟨o, ho, hc, n, hd⟩ := id hl
  unfold collect
  refine wpAny_bind (wpAny_runValue (codeAny_builtin entry_proto_collect' ?_))
  show wpAny _ _ (do again (.builtin "list.__iadd__" ⟨[← newList [], .ref l], []⟩)) _ _ s
  refine wpAny_bind (wpAny_newList (wpAny_pure ⟨Code.quiet_builtin _ (by decide +kernel), codeAny_builtin entry_list_iadd' ?_⟩))
  show wpAny _ _ (Builtin.List.listExtendWith (.ref s.heap.objs.size) (.ref l) (.ref s.heap.objs.size)) _ _ { s with heap := s.heap.push (seqObj "list" #[] 0) }
  unfold Builtin.List.listExtendWith
  have ho' : (s.heap.push (seqObj "list" #[] 0)).get? l = some o := Heap.get?_push_of_some _ ho
  have hg : (s.heap.push (seqObj "list" #[] 0)).get? s.heap.objs.size = some (seqObj "list" #[] 0) := Heap.get?_push_size _ rfl
  refine wpAny_bind (wpAny_typeOf (T := "tuple") ⟨o, ho', hc⟩ ?_)
  rw [if_pos (by simp [show (Value.type "tuple" == Value.type "tuple") = true by rfl])]
  refine wpAny_bind (listItems_at ho' hd (wpAny_bind (listItems_at (xs := #[]) (n := 0) hg rfl ?_)))
  rw [if_neg (by simp)]
  refine wpAny_bind (listUpdate_at (xs := #[]) (n := 0) hg rfl (wpAny_pure ?_) (Nat.zero_le _) (by show (#[] ++ vs.toArray).size ≤ sizeLine + 1; simp only [Array.size_append, List.size_toArray, List.length_nil]; omega))
  show wpAny (model P w) A (do
      let o ← load s.heap.objs.size
      match o.data with
      | .seq xs _ => pure xs.toList
      | _ => unsupported "internal:collect") Q E { s with heap := (s.heap.push (seqObj "list" #[] 0)).update s.heap.objs.size (Obj.mapSeq (· ++ vs.toArray)) }
  refine wpAny_bind (wpAny_load (get?_update_seq hg _) ?_)
  show wpAny _ _ (pure ((#[] : Array Value) ++ vs.toArray).toList) Q E _
  rw [show ((#[] : Array Value) ++ vs.toArray).toList = vs by simp]
  exact wpAny_pure h
end
end DL
namespace SrtO
open PySem PyProof.Rows Srt
section
variable {prog : Program} {w : World} {A : Around} {E : Value → Shared → Prop} {s : Shared}
theorem sorted_ord_tup {l : Addr} {vs : List Value} {ltv : Value → Value → Bool} {Q : Value → Shared → Prop} (O : Swo ltv) (hl : s.heap.IsTuple l vs.toArray) (hz : vs.length ≤ sizeLine)
    (hS : 2 ≤ vs.length → ∀ (h₁ : Heap) (a : Addr), h₁.get? a = some (seqObj "list" vs.toArray 0) → SortableO prog w A.in1.in1 { s with heap := h₁ } a vs ltv)
    (h : ∀ out : List Value, Srtd ltv out → Stb ltv out vs → Q (.ref (s.heap.objs.size + 1)) { s with heap := sortedAll s.heap vs out.toArray }) :
    wpAny (model prog w) A (call (.builtin "sorted") [.ref l]) Q E s := by
  refine Calls.call_function_entry kind_sorted plain_sorted entry_sorted (args_sorted1 _) ?_
  unfold Builtin.«sorted»
  refine wpAny_bind (m := checkCount "sorted" 1 1 _) (wpAny_pure ?_)
  refine wpAny_bind (DL.collect_tup hl ?_ hz)
  refine wpAny_bind (wpAny_newList ?_ hz)
  have hsz : ((s.heap.push (seqObj "list" #[] 0)).update s.heap.objs.size (Obj.mapSeq (· ++ vs.toArray))).objs.size = s.heap.objs.size + 1 := by
    rw [Heap.size_update, size_push']
  have hoL : (((s.heap.push (seqObj "list" #[] 0)).update s.heap.objs.size (Obj.mapSeq (· ++ vs.toArray))).push (seqObj "list" vs.toArray 0)).get? (s.heap.objs.size + 1) = some (seqObj "list" vs.toArray 0) := by
    rw [← hsz]; exact Heap.get?_push_size _ rfl
  show wpAny _ _ _ _ _ { s with heap := ((s.heap.push (seqObj "list" #[] 0)).update s.heap.objs.size (Obj.mapSeq (· ++ vs.toArray))).push (seqObj "list" vs.toArray 0) }
  rw [hsz]
  exact wpAny_bind (wpAny_holding (wpAny_call_entry slot_list_sort ⟨_, hoL, rfl⟩ entry_list_sort (list_sort_ord O hoL hz (fun h2 => hS h2 _ _ hoL) fun out hs hb => ⟨_, rfl, wpAny_pure ⟨_, rfl, h out hs hb⟩⟩) (args_list_sort _)))
end
end SrtO
namespace DL
open PySem PySem.Spec PyProof.Rows L2
section
variable {X : Cx} {cls : Cls} {K : PySem.W.Frag}
def rSortedTI (K : PySem.W.Frag) : List V → Hp → VK → Prop := fun vs H Q => ∃ (a : Addr) (ns : List Int), vs = [V.ref a] ∧ SqT K H a (ns.map V.int) ∧
  ∀ (ns' : List Int) (p : Addr), ns'.Perm ns → ns'.Pairwise (· ≤ ·) → H p = none → Q (.ref p) (upd H p (.lst (ns'.map V.int)))
theorem cr_sortedTI : CallR X (.builtin "sorted") (rSortedTI X.K) := by
  intro pins s σ H vs us Q I r h
  obtain ⟨a, ns, rfl, hs, q⟩ := h
  obtain ⟨its, rv, hl, hz⟩ := I.tuple hs
  rw [Vals.ref1 r]
  have hi := rv.ints
  have hl' : s.heap.IsTuple a its.toArray := hl
  refine SrtO.sorted_ord_tup SrtO.swo_int hl' (by rw [← rv.length]; exact hz) (fun h2 h₁ a' _ => SrtO.ints_sortable hi h2) fun out h1 h2 => ?_
  obtain ⟨k1, k2, k3⟩ := SrtO.ints_out hi h1 h2
  obtain ⟨ep, he'⟩ := PyProof.Rows.sortedAll_at s.heap its out.toArray
  have hlen : ((out.map SrtO.iv).map V.int).length ≤ sizeLine := by
    rw [List.length_map, k2.length_eq]
    rw [List.length_map] at hz
    exact hz
  exact ⟨.ref _, upd H (s.heap.objs.size + 1) (.lst ((out.map SrtO.iv).map V.int)), I.laid (t' := s.toks) (fun _ _ => PyProof.Rows.sortedAll_old) (Nat.le_succ _) ⟨hlen, out, ep, vals_of_ints k1, he'⟩, rfl, q _ _ k2 k3 (I.hok.fresh (Nat.le_succ _))⟩
def rSorted2 (K : PySem.W.Frag) : List V → Hp → VK → Prop := fun vs H Q => rSortedI K vs H Q ∨ rSortedTI K vs H Q
theorem cr_sorted2 : CallR X (.builtin "sorted") (rSorted2 X.K) := by
  intro pins s σ H vs us Q I r h
  rcases h with h | h
  · exact cr_sortedI pins s σ H vs us Q I r h
  · exact cr_sortedTI pins s σ H vs us Q I r h
def caSorted2 : List D → Option D
  | [.tp xs] => (intsOf xs).map fun ns => .ol ((srt ns).map D.int)
  | ds => caSorted ds
@[simp] theorem caSorted2_tp (ns : List Int) : caSorted2 [.tp (ns.map D.int)] = some (.ol ((srt ns).map D.int)) := by simp [caSorted2]
@[simp] theorem caSorted2_ls (ns : List Int) : caSorted2 [.ls (ns.map D.int)] = some (.ol ((srt ns).map D.int)) := by simp [caSorted2]
@[simp] theorem caSorted2_bo (ns : List Int) : caSorted2 [.bo (ns.map D.int)] = some (.ol ((srt ns).map D.int)) := by simp [caSorted2]
theorem ok_sorted2 : CaOk K cls (rSorted2 K) caSorted2 := by
  intro F H vs ds d Q s b e q
  unfold caSorted2 at e
  split at e
  · rename_i xs
    cases h2 : intsOf xs with
    | none => rw [h2] at e; cases e
    | some ns =>
      rw [h2] at e
      cases e
      obtain ⟨v, rfl, b1⟩ := b.one
      obtain ⟨a, ws, rfl, h3, _, r⟩ := b1.tpv s (xs := xs) rfl
      obtain rfl := intsOf_eq h2
      obtain rfl := r.ints
      refine .inr ⟨a, ns, rfl, h3, fun ns' p pm pw hp => ?_⟩
      obtain rfl := srt_uniq pm pw
      exact q _ _ _ [p] (Ext.own s hp) (fresh_new hp) (.inl (ow_new s hp rps_ints.toOws))
  · exact .inl (ok_sorted F H vs ds d Q s b e q)
end
end DL

set_option maxHeartbeats 1000000
namespace RT
open PySem PySem.Spec PyProof.Rows
section
variable {prog : Program} {w : World} {A : Around} {E : Value → Shared → Prop} {s : Shared}
end
end RT

namespace DL
open PySem PySem.Spec PyProof.Rows L2
section
variable {X : Cx} {cls : Cls} {W : WX} {K : PySem.W.Frag}
def eLRev (fa : Env → Res D) : Env → Res D := fun g => (fa g).bind fun d => match lsv (opd d) with
  | some xs => .ok (.ol xs.reverse)
  | none => .bad
@[simp] theorem eLRev_ (fa : Env → Res D) (g : Env) : eLRev fa g = (fa g).bind fun d => match lsv (opd d) with
  | some xs => .ok (.ol xs.reverse)
  | none => .bad := rfl
end
end DL

namespace DL
open PySem L2
section
variable {K : PySem.W.Frag} {cls : Cls} {W : WX} {X : Cx} {F H F' H' F1 H1 : Hp} {O O1 : List Addr} {Q : VK} {σ : St} {a b e : Expr} {es : List Expr} {fa fb fc : Env → Res D} {pos : Pos}
def own1 : D → Bool
  | .ol _ => true
  | .od _ _ => true
  | .oo _ _ _ => true
  | _ => false
@[simp] theorem own1_int {i} : own1 (.int i) = false := rfl
@[simp] theorem own1_tp {i} : own1 (.tp i) = false := rfl
@[simp] theorem own1_ls {i} : own1 (.ls i) = false := rfl
@[simp] theorem own1_bl {i} : own1 (.bl i) = false := rfl
@[simp] theorem own1_str {i} : own1 (.str i) = false := rfl
theorem Ow.unown {v : V} {d : D} (h : Ow K cls F H v d O) (e : own1 d = false) : Rp K cls F v d ∧ O = [] := by
  cases h with
  | sh r => exact ⟨r, rfl⟩
  | ol => cases e
  | od => cases e
  | oo => cases e
theorem Ows.erase : ∀ {vs : List V} {ds : List D} {O : List Addr} {k : Nat} {d : D}, Ows K cls F H vs ds O → ds[k]? = some d → own1 d = false → ∃ v, vs[k]? = some v ∧ Rp K cls F v d ∧ Ows K cls F H (vs.eraseIdx k) (ds.eraseIdx k) O
  | _, _, _, _, _, .nil, e, _ => by simp at e
  | _, _, _, 0, d, .cons (v := v) h r dj eo, e, n => by
    simp at e
    subst e
    obtain ⟨h1, h2⟩ := h.unown n
    subst h2
    subst eo
    exact ⟨v, rfl, h1, by simpa using r⟩
  | _, _, _, k + 1, d, .cons h r dj eo, e, n => by
    obtain ⟨v, h1, h2, h3⟩ := Ows.erase (k := k) r (by simpa using e) n
    exact ⟨v, by simpa using h1, h2, by simpa using Ows.cons h h3 dj eo⟩
def sPop (j i : Nat) (fa : Env → Res D) : Env → Out := fun g => match g[i]? with
  | some (.ol xs) => ((fa g).bind kp).st g fun d => match d with
    | .int z => match ixN xs.length z with
      | some k => match xs[k]? with
        | some y => if own1 y = false ∧ xs.length ≤ lim then .nx ((g.set i (.ol (xs.eraseIdx k))).set j y) else .bad
        | none => .bad
      | none => .bad
    | _ => .bad
  | _ => .bad
@[simp] theorem sPop_ (j i : Nat) (fa : Env → Res D) (g : Env) : sPop j i fa g = match g[i]? with
  | some (.ol xs) => ((fa g).bind kp).st g fun d => match d with
    | .int z => match ixN xs.length z with
      | some k => match xs[k]? with
        | some y => if own1 y = false ∧ xs.length ≤ lim then .nx ((g.set i (.ol (xs.eraseIdx k))).set j y) else .bad
        | none => .bad
      | none => .bad
    | _ => .bad
  | _ => .bad := rfl
theorem Ow.int {v : V} {i : Int} (b : Ow K cls F H v (.int i) O) : v = .int i ∧ O = [] := by cases b with | sh r => cases r; exact ⟨rfl, rfl⟩
def sAppPop (m i : Nat) (fa : Env → Res D) : Env → Out := fun g => match g[m]?, g[i]? with
  | some (.ol ws), some (.ol xs) => ((fa g).bind kp).st g fun d => match d with
    | .int z => match ixN xs.length z with
      | some k => match xs[k]? with
        | some y => if own1 y = false ∧ xs.length ≤ lim ∧ ws.length < lim ∧ m ≠ i then .nx ((g.set i (.ol (xs.eraseIdx k))).set m (.ol (ws ++ [y]))) else .bad
        | none => .bad
      | none => .bad
    | _ => .bad
  | _, _ => .bad
@[simp] theorem sAppPop_ (m i : Nat) (fa : Env → Res D) (g : Env) : sAppPop m i fa g = match g[m]?, g[i]? with
  | some (.ol ws), some (.ol xs) => ((fa g).bind kp).st g fun d => match d with
    | .int z => match ixN xs.length z with
      | some k => match xs[k]? with
        | some y => if own1 y = false ∧ xs.length ≤ lim ∧ ws.length < lim ∧ m ≠ i then .nx ((g.set i (.ol (xs.eraseIdx k))).set m (.ol (ws ++ [y]))) else .bad
        | none => .bad
      | none => .bad
    | _ => .bad
  | _, _ => .bad := rfl
def eIndex (fa fb : Env → Res D) : Env → Res D := fun g => (fa g).bind fun d => match lsI d with
  | some ns => (fb g).bind fun e => match opd e with
    | .int x => if x ∈ ns then .ok (.int (ns.idxOf x : Nat)) else .bad
    | _ => .bad
  | none => .bad
@[simp] theorem eIndex_ (fa fb : Env → Res D) (g : Env) : eIndex fa fb g = (fa g).bind fun d => match lsI d with
  | some ns => (fb g).bind fun e => match opd e with
    | .int x => if x ∈ ns then .ok (.int (ns.idxOf x : Nat)) else .bad
    | _ => .bad
  | none => .bad := rfl
theorem Ows.inner : ∀ {vs : List V} {ds : List D} {O : List Addr} {k : Nat} {ys : List D}, Ows K cls F H vs ds O → ds[k]? = some (.ol ys) → ∃ p us O1, vs[k]? = some (.ref p) ∧ H p = some (.lst us) ∧ F p = none ∧ p ∉ O1 ∧ Ows K cls F H us ys O1 ∧ p ∈ O ∧ (∀ a ∈ O1, a ∈ O) ∧
    ∀ (F' H' : Hp) (ws : List V) (zs : List D) (O2 : List Addr), Ext F H F' H' → Ows K cls F' H' ws zs O2 → p ∉ O2 → (∀ a ∈ O2, a ∈ O1 ∨ H a = none) → ∃ O3, Ows K cls F' (upd H' p (.lst ws)) vs (ds.set k (.ol zs)) O3 ∧ ∀ a ∈ O3, a ∈ O ∨ H a = none
  | _, _, _, _, _, .nil, e => by simp at e
  | _, _, _, 0, ys, .cons (O1 := P1) (O2 := P2) h r dj eo, e => by
    simp at e
    subst e
    subst eo
    cases h with
    | sh r => cases r
    | @ol p us _ O1 f1 f2 f3 f4 =>
      refine ⟨p, us, O1, rfl, f2, f1, f3, f4, by simp, fun a ha => by simp [ha], fun F' H' ws zs O2 x w n k => ?_⟩
      have hp : F' p = none := x.ow p f1 (by rw [f2]; exact fun e => nomatch e)
      have up : ∀ b, b ≠ p → upd H' p (.lst ws) b = H' b := fun b hb => upd_ne hb
      refine ⟨(p :: O2) ++ P2, ?_, fun a ha => ?_⟩
      · refine Ows.cons (O1 := p :: O2) (O2 := P2) (.ol hp upd_same n (w.frame (.refl F') fun a ha => ⟨up a fun z => n (z ▸ ha), (w.dom a ha).1⟩)) ?_ (fun a h1 h2 => ?_) rfl
        · exact (r.ext x).frame (.refl F') fun a ha => ⟨up a fun z => dj a (by simp [z]) ha, ((r.ext x).dom a ha).1⟩
        · rcases List.mem_cons.mp h1 with z | z
          · exact dj a (by simp [z]) h2
          · rcases k a z with z | z
            · exact dj a (by simp [z]) h2
            · exact (r.dom a h2).2 z
      · rcases List.mem_append.mp ha with z | z
        · rcases List.mem_cons.mp z with z | z
          · exact .inl (by simp [z])
          · exact (k a z).imp (fun z => by simp [z]) id
        · exact .inl (by simp [z])
  | _, _, _, kk + 1, ys, .cons (O1 := P1) (O2 := P2) h r dj eo, e => by
    subst eo
    obtain ⟨p, us, O1, g1, g2, g3, g4, g5, g6, g7, g8⟩ := Ows.inner (k := kk) r (by simpa using e)
    refine ⟨p, us, O1, by simpa using g1, g2, g3, g4, g5, List.mem_append_right _ g6, fun a ha => List.mem_append_right _ (g7 a ha), fun F' H' ws zs O2 x w n k => ?_⟩
    obtain ⟨O3, w1, w2⟩ := g8 F' H' ws zs O2 x w n k
    have up : ∀ b, b ≠ p → upd H' p (.lst ws) b = H' b := fun b hb => upd_ne hb
    refine ⟨P1 ++ O3, ?_, fun a ha => ?_⟩
    · refine Ows.cons (O1 := P1) (O2 := O3) ((h.ext x).frame (.refl F') fun a ha => ⟨up a fun z => dj a ha (z ▸ g6), ((h.ext x).dom a ha).1⟩) (by simpa using w1) (fun a h1 h2 => ?_) rfl
      rcases w2 a h2 with z | z
      · exact dj a h1 z
      · exact (h.dom a h1).2 z
    · rcases List.mem_append.mp ha with z | z
      · exact .inl (List.mem_append_left _ z)
      · exact (w2 a z).imp (fun z => List.mem_append_right _ z) id
def sAppIx (i z : Nat) (fa : Env → Res D) : Env → Out := fun g => match g[i]? with
  | some (.ol xs) => match xs[z]? with
    | some (.ol ys) => ((fa g).bind kp).st g fun d => if ys.length < lim then .nx (g.set i (.ol (xs.set z (.ol (ys ++ [d]))))) else .bad
    | _ => .bad
  | _ => .bad
@[simp] theorem sAppIx_ (i z : Nat) (fa : Env → Res D) (g : Env) : sAppIx i z fa g = match g[i]? with
  | some (.ol xs) => match xs[z]? with
    | some (.ol ys) => ((fa g).bind kp).st g fun d => if ys.length < lim then .nx (g.set i (.ol (xs.set z (.ol (ys ++ [d]))))) else .bad
    | _ => .bad
  | _ => .bad := rfl
end
end DL

namespace TL
open PySem PySem.W PySem.Calls PyProof.Rows
theorem lex_anti : ∀ a b : List Int, HT.lexLt a b = false → HT.lexLt b a = false → a = b
  | [], [], _, _ => rfl
  | [], y :: ys, h, _ => by rw [HT.lexLt_nil_cons] at h; cases h
  | x :: xs, [], _, h => by rw [HT.lexLt_nil_cons] at h; cases h
  | x :: xs, y :: ys, h1, h2 => by
    rw [HT.lexLt_cons] at h1 h2
    by_cases e : x = y
    · subst e
      rw [if_pos rfl] at h1 h2
      rw [lex_anti xs ys h1 h2]
    · rw [if_neg e] at h1
      rw [if_neg (Ne.symm e)] at h2
      have a := of_decide_eq_false h1
      have b := of_decide_eq_false h2
      omega
def Rise (l : List (List Int)) : Prop := l.Pairwise fun a b => HT.lexLt b a = false
def insL (x : List Int) : List (List Int) → List (List Int)
  | [] => [x]
  | y :: l => if HT.lexLt y x = true then y :: insL x l else x :: y :: l
def srtL : List (List Int) → List (List Int)
  | [] => []
  | x :: l => insL x (srtL l)
theorem insL_perm (x : List Int) : ∀ l, (insL x l).Perm (x :: l)
  | [] => .refl _
  | y :: l => by
    unfold insL
    split
    · exact ((insL_perm x l).cons y).trans (.swap ..)
    · exact .refl _
theorem srtL_perm : ∀ l, (srtL l).Perm l
  | [] => .refl _
  | x :: l => (insL_perm x (srtL l)).trans ((srtL_perm l).cons x)
theorem insL_rise (x : List Int) : ∀ l, Rise l → Rise (insL x l)
  | [], _ => List.pairwise_singleton _ _
  | y :: l, h => by
    obtain ⟨h1, h2⟩ := List.pairwise_cons.mp h
    unfold insL
    split
    · rename_i c
      refine List.pairwise_cons.mpr ⟨fun z hz => ?_, insL_rise x l h2⟩
      rcases List.mem_cons.mp ((insL_perm x l).mem_iff.mp hz) with rfl | hz
      · exact NtL.lex_asym _ _ c
      · exact h1 z hz
    · rename_i c
      have c : HT.lexLt y x = false := by simpa using c
      refine List.pairwise_cons.mpr ⟨fun z hz => ?_, h⟩
      rcases List.mem_cons.mp hz with rfl | hz
      · exact c
      · exact NtL.lex_tr _ _ _ c (h1 z hz)
theorem srtL_rise : ∀ l, Rise (srtL l)
  | [] => .nil
  | x :: l => insL_rise x _ (srtL_rise l)
theorem rise_one : ∀ {l m : List (List Int)}, l.Perm m → Rise l → Rise m → l = m
  | [], m, p, _, _ => (List.Perm.eq_nil p.symm).symm
  | x :: l, [], p, _, _ => absurd p.length_eq (by simp)
  | x :: l, y :: m, p, hl, hm => by
    obtain ⟨h1, h2⟩ := List.pairwise_cons.mp hl
    obtain ⟨k1, k2⟩ := List.pairwise_cons.mp hm
    have e : x = y := by
      rcases List.mem_cons.mp (p.mem_iff.mp (List.mem_cons_self (a := x) (l := l))) with e | hx
      · exact e
      · rcases List.mem_cons.mp (p.mem_iff.mpr (List.mem_cons_self (a := y) (l := m))) with e | hy
        · exact e.symm
        · exact lex_anti _ _ (k1 x hx) (h1 y hy)
    subst e
    rw [rise_one p.cons_inv h2 k2]
theorem srtL_uniq {l m : List (List Int)} (p : l.Perm m) (h : Rise l) : l = srtL m := rise_one (p.trans (srtL_perm m).symm) h (srtL_rise m)
def kOf (h : Heap) : Value → List Int
  | .ref a => match h.get? a with
    | some o => match o.data with
      | .seq xs _ => xs.toList.map SrtO.iv
      | _ => []
    | none => []
  | _ => []
def IsTI (h : Heap) (v : Value) (ns : List Int) : Prop := ∃ a o xs n, v = .ref a ∧ h.get? a = some o ∧ o.cls = .type "tuple" ∧ o.data = .seq xs n ∧ IntsAre xs.toList ns
theorem IsTI.k {h : Heap} {v : Value} {ns : List Int} (x : IsTI h v ns) : kOf h v = ns := by
  obtain ⟨a, o, xs, n, rfl, ho, hc, hd, hi⟩ := x
  simp only [kOf, ho, hd]
  exact SrtO.iv_ints hi
theorem IsTI.keeps {h h' : Heap} {v : Value} {ns : List Int} (p : IsTI h v ns) (k : ∀ b o, h.get? b = some o → o.cls = .type "tuple" → h'.get? b = some o) : IsTI h' v ns := by
  obtain ⟨a, o, xs, n, e, ho, hc, hd, hi⟩ := p
  exact ⟨a, o, xs, n, e, k _ _ ho hc, hc, hd, hi⟩
section
variable {prog : Program} {w : World} {A : Around} {E : Value → Shared → Prop} {s : Shared}
theorem lexk {b fin : Bool} {Q : Bool → Shared → Prop} {xs ys : List Value} {ns ms : List Int} (i : Nat) (hx : IntsAre xs ns) (hy : IntsAre ys ms) (hf : fin = decide (ns.length < ms.length)) (h : Q (HT.lexLt ns ms) s) : KatLex prog w A b fin Q (xs.zip ys) i s := by
  induction hx generalizing ys ms i with
  | nil =>
    cases hy with
    | nil =>
      rw [HT.lexLt_nil_nil] at h
      subst hf
      exact kat_nil (by simpa using h)
    | cons q u hy =>
      rw [HT.lexLt_nil_cons] at h
      subst hf
      exact kat_nil (by simpa using h)
  | @cons p t xs ns hx ih =>
    cases hy with
    | nil =>
      rw [HT.lexLt_cons_nil] at h
      subst hf
      exact kat_nil (by simpa using h)
    | @cons q u ys ms hy =>
      show KatLex prog w A b fin Q ((Value.int p t, Value.int q u) :: xs.zip ys) i s
      rw [HT.lexLt_cons] at h
      refine kat_cons (wpAny_eqBool_int ?_)
      by_cases e : p = q
      · subst e
        rw [beq_self_eq_true]
        rw [if_pos rfl] at h
        refine kat_yes ?_
        have hf' : fin = decide (ns.length < ms.length) := by rw [hf]; simp
        first
          | exact ih (i + 1) hy hf' h
          | exact ih _ _ (i + 1) hy hf' h
      · rw [show (p == q) = false from beq_eq_false_iff_ne.mpr e]
        rw [if_neg e] at h
        exact kat_no (TS.oneLt_ints _ h)
theorem tup_cmp {vs : List Value} {k : Value → List Int} (hp : ∀ v ∈ vs, IsTI s.heap v (k v)) : SrtO.Cmp prog w A s (tuples' true) (fun p => p.1 ∈ vs) (SrtO.lt2 fun v u => HT.lexLt (k v) (k u)) := by
  intro p q hm hm'
  have h1 := hp _ hm
  have h2 := hp _ hm'
  show wpAny (model prog w) A (keyLt' (tuples' true) p.1 q.1) (fun r s' => s' = s ∧ r = HT.lexLt (k p.1) (k q.1)) (fun _ _ => False) s
  generalize k p.1 = ns at h1 ⊢
  generalize k q.1 = ms at h2 ⊢
  obtain ⟨a, o, xs, n, e, ho, hc, hd, hi⟩ := h1
  obtain ⟨a', o', xs', n', e', ho', hc', hd', hi'⟩ := h2
  rw [e, e']
  refine kat_lt ho hd ho' hd' ?_
  have z1 : xs.size = ns.length := by rw [← hi.length]; simp
  have z2 : xs'.size = ms.length := by rw [← hi'.length]; simp
  exact lexk 0 hi hi' (by rw [z1, z2]) ⟨rfl, rfl⟩
theorem firsts {h : Heap} {k : Value → List Int} : ∀ vs : List Value, (∀ v ∈ vs, IsTI h v (k v) ∧ k v ≠ []) → ∃ fs : List Value, KatTups h vs fs ∧ fs.length = vs.length ∧ ∀ f ∈ fs, ∃ x t, f = Value.int x t
  | [], _ => ⟨[], KatTups.nil, rfl, fun _ hm => by simp at hm⟩
  | v :: vs, hp => by
    obtain ⟨fs, h1, h2, h3⟩ := firsts vs fun v' hm => hp v' (List.mem_cons_of_mem _ hm)
    obtain ⟨⟨a, o, xs, n, e, ho, hc, hd, hi⟩, hne⟩ := hp v (List.mem_cons_self ..)
    subst e
    obtain ⟨y, ys, e⟩ : ∃ y ys, xs.toList = y :: ys := by
      cases q : xs.toList with
      | nil =>
        rw [q] at hi
        have l := hi.length
        exact absurd (List.eq_nil_of_length_eq_zero l.symm) hne
      | cons y ys => exact ⟨y, ys, rfl⟩
    obtain ⟨m, t, hy⟩ := SrtO.ints_mem hi y (by rw [e]; exact List.mem_cons_self ..)
    refine ⟨y :: fs, KatTups.cons ho hc hd ?_ h1, by rw [List.length_cons, List.length_cons, h2], fun f hm => ?_⟩
    · rw [← Array.getElem?_toList, e]; rfl
    · rcases List.mem_cons.mp hm with rfl | hm
      · exact ⟨m, t, hy⟩
      · exact h3 f hm
theorem tups_sortable {a : Addr} {vs : List Value} {k : Value → List Int} (h0 : 0 < vs.length) (hp : ∀ v ∈ vs, IsTI s.heap v (k v) ∧ k v ≠ []) (ha : ∀ o, s.heap.get? a = some o → o.cls ≠ .type "tuple") : SrtO.SortableO prog w A s a vs fun v u => HT.lexLt (k v) (k u) := by
  intro h' keep
  have hp' : ∀ v ∈ vs, IsTI h' v (k v) ∧ k v ≠ [] := fun v hm => ⟨(hp v hm).1.keeps fun b o e c => keep b o (fun z => by subst z; exact ha o e c) e, (hp v hm).2⟩
  obtain ⟨fs, h1, h2, h3⟩ := firsts vs hp'
  refine ⟨tuples' true, fun Q E hq => ?_, tup_cmp fun v hm => (hp' v hm).1⟩
  refine kat_kind (T := .type "int") h1 (by omega) (fun f hm => ?_) (by rfl) ?_
  · obtain ⟨x, t, rfl⟩ := h3 f hm
    exact Looks.now
  · have e : (Value.type "int" != Value.type "tuple") = true := by first | decide +kernel | rfl | decide
    rw [e]
    exact hq
theorem sorted_tups {l : Addr} {vs : List Value} {k : Value → List Int} {Q : Value → Shared → Prop} (hl : s.heap.IsList l vs.toArray) (hz : vs.length ≤ sizeLine) (hp : ∀ v ∈ vs, IsTI s.heap v (k v)) (hne : 2 ≤ vs.length → ∀ v ∈ vs, k v ≠ [])
    (h : ∀ (h' : Heap) (d : Addr) (out : List Value), SrtO.Srtd (fun v u => HT.lexLt (k v) (k u)) out → SrtO.Stb (fun v u => HT.lexLt (k v) (k u)) out vs → (∀ b o, s.heap.get? b = some o → h'.get? b = some o) → s.heap.objs.size ≤ d → (∃ n, h'.get? d = some (seqObj "list" out.toArray n)) → Q (.ref d) { s with heap := h' }) :
    wpAny (model prog w) A (call (.builtin "sorted") [.ref l]) Q E s := by
  refine SrtO.sorted_ord (NtL.swo_lexL k) hl hz (fun h2 h₁ a ha kk => ?_) fun out hs hb => ?_
  · refine tups_sortable (s := { s with heap := h₁ }) (by omega) (fun v hm => ⟨(hp v hm).keeps fun b o e _ => (kk b o e).2, hne h2 v hm⟩) fun o e => ?_
    have e' : some o = some (seqObj "list" vs.toArray 0) := e.symm.trans ha
    cases e'
    intro c
    exact absurd (Value.type.inj c) (by decide)
  · exact h _ _ out hs hb (fun b o e => sortedAll_old e) (Nat.le_succ _) (sortedAll_at s.heap vs out.toArray)
end
end TL
namespace DL
open PySem PySem.Spec PyProof.Rows L2 TL
section
variable {X : Cx} {cls : Cls} {K : PySem.W.Frag}
def rSortedTL (K : PySem.W.Frag) : List V → Hp → VK → Prop := fun vs H Q => ∃ (a : Addr) (xs : List V) (L : List (List Int)), vs = [V.ref a] ∧ SqL K H a xs ∧ xs.length = L.length ∧ (∀ y l, (y, l) ∈ xs.zip L → ∃ t, y = V.ref t ∧ SqT K H t (l.map V.int)) ∧ (2 ≤ L.length → ∀ l ∈ L, l ≠ []) ∧
  ∀ (ys : List V) (p : Addr), ys.length = (srtL L).length → (∀ y l, (y, l) ∈ ys.zip (srtL L) → (y, l) ∈ xs.zip L) → H p = none → Q (.ref p) (upd H p (.lst ys))
theorem cr_sortedTL : CallR X (.builtin "sorted") (rSortedTL X.K) := by
  intro pins s σ H vs us Q I r h
  obtain ⟨a, xs, L, rfl, hs, hlen, hx, hne, q⟩ := h
  obtain ⟨its, rv, hl, hz⟩ := I.list hs
  obtain ⟨u, rfl, ru⟩ := vals1 r
  obtain rfl : u = Value.ref a := ru
  have hzip : ∀ (j : Nat) (y : V) (l : List Int), xs[j]? = some y → L[j]? = some l → (y, l) ∈ xs.zip L := fun j y l h1 h2 => List.mem_of_getElem? (i := j) (by rw [List.getElem?_zip_eq_some]; exact ⟨h1, h2⟩)
  obtain ⟨e1, e2⟩ := refs_back rv fun x m => by
    obtain ⟨j, hj⟩ := List.getElem?_of_mem m
    have hjl : j < L.length := by rw [← hlen]; exact (List.getElem?_eq_some_iff.mp hj).1
    obtain ⟨t, e, _⟩ := hx x L[j] (hzip j x _ hj (List.getElem?_eq_getElem hjl))
    exact ⟨t, e⟩
  have hil : its.length = L.length := by rw [← hlen, e1]; simp
  have key : ∀ (j : Nat) (v : Value) (l : List Int), its[j]? = some v → L[j]? = some l → IsTI s.heap v l := fun j v l h1 h2 => by
    have h3 : xs[j]? = some (backV v) := by rw [e1, List.getElem?_map, h1]; rfl
    obtain ⟨t, e, ht⟩ := hx _ _ (hzip j _ _ h3 h2)
    obtain ⟨t', rfl⟩ := e2 v (List.mem_of_getElem? h1)
    cases e
    obtain ⟨its2, rv2, hl2, hz2⟩ := I.tuple ht
    have hl3 : s.heap.IsTuple t its2.toArray := hl2
    obtain ⟨o, ho, hc, n, hd⟩ := hl3
    exact ⟨t, o, its2.toArray, n, rfl, ho, hc, hd, by simpa using rv2.ints⟩
  have keyM : ∀ v ∈ its, ∃ l, IsTI s.heap v l ∧ l ∈ L := fun v hv => by
    obtain ⟨j, hj⟩ := List.getElem?_of_mem hv
    have hjl : j < L.length := by rw [← hil]; exact (List.getElem?_eq_some_iff.mp hj).1
    exact ⟨_, key j v _ hj (List.getElem?_eq_getElem hjl), List.getElem_mem hjl⟩
  have hk : ∀ v ∈ its, IsTI s.heap v (kOf s.heap v) := fun v hv => by
    obtain ⟨l, h1, _⟩ := keyM v hv
    rw [h1.k]; exact h1
  have eL : its.map (kOf s.heap) = L := by
    refine List.ext_getElem? fun j => ?_
    rw [List.getElem?_map]
    cases h1 : its[j]? with
    | none => rw [List.getElem?_eq_none (by rw [← hil]; exact List.getElem?_eq_none_iff.mp h1)]; rfl
    | some v =>
      have hjl : j < L.length := by rw [← hil]; exact (List.getElem?_eq_some_iff.mp h1).1
      rw [List.getElem?_eq_getElem hjl]
      exact congrArg some (key j v _ h1 (List.getElem?_eq_getElem hjl)).k
  refine sorted_tups (k := kOf s.heap) hl.isList (by rw [← rv.length]; exact hz) hk (fun h2 v hv => ?_) fun h' d out h1 h2 kp hd hn => ?_
  · obtain ⟨l, k1, k2⟩ := keyM v hv
    rw [k1.k]
    exact hne (by omega) l k2
  · have h3 : ∀ u ∈ out, ∃ a, u = Value.ref a := fun u hu => e2 u (h2.perm.mem_iff.mp hu)
    obtain ⟨n, hn⟩ := hn
    have eO : out.map (kOf s.heap) = srtL L := by
      refine srtL_uniq ?_ ?_
      · rw [← eL]; exact h2.perm.map _
      · exact List.pairwise_map.mpr (h1.imp fun {x y} z => z)
    refine ⟨.ref d, upd H d (.lst (out.map backV)), I.laid (t' := s.toks) kp hd ⟨?_, out, n, vals_back h3, hn⟩, rfl, q _ d (by rw [← eO]; simp) (fun y l hyl => ?_) (I.hok.fresh hd)⟩
    · rw [List.length_map, h2.perm.length_eq, ← rv.length]; exact hz
    · rw [← eO, List.zip_map'] at hyl
      obtain ⟨u, hu, e⟩ := List.mem_map.mp hyl
      cases e
      have hu' : u ∈ its := h2.perm.mem_iff.mp hu
      obtain ⟨j, hj⟩ := List.getElem?_of_mem hu'
      refine hzip j _ _ (by rw [e1, List.getElem?_map, hj]; rfl) ?_
      rw [← eL, List.getElem?_map, hj]; rfl
def rSorted3 (K : PySem.W.Frag) : List V → Hp → VK → Prop := fun vs H Q => rSorted2 K vs H Q ∨ rSortedTL K vs H Q
theorem cr_sorted3 : CallR X (.builtin "sorted") (rSorted3 X.K) := by
  intro pins s σ H vs us Q I r h
  rcases h with h | h
  · exact cr_sorted2 pins s σ H vs us Q I r h
  · exact cr_sortedTL pins s σ H vs us Q I r h
def tupOf : D → Option (List Int)
  | .tp xs => intsOf xs
  | _ => none
def tupsOf : List D → Option (List (List Int))
  | [] => some []
  | d :: ds => match tupOf d, tupsOf ds with
    | some l, some L => some (l :: L)
    | _, _ => none
theorem tupOf_eq {d : D} {l : List Int} (h : tupOf d = some l) : d = .tp (l.map D.int) := by
  cases d <;> simp [tupOf] at h
  rw [intsOf_eq h]
theorem tupsOf_eq : ∀ {ds : List D} {L : List (List Int)}, tupsOf ds = some L → ds = L.map dT
  | [], _, h => by cases h; rfl
  | d :: ds, L, h => by
    unfold tupsOf at h
    split at h
    · rename_i l M h1 h2
      cases h
      rw [tupOf_eq h1, tupsOf_eq h2]; rfl
    · cases h
@[simp] theorem tupsOf_map : ∀ L : List (List Int), tupsOf (L.map dT) = some L
  | [] => rfl
  | l :: L => by simp [tupsOf, dT, tupOf, tupsOf_map L]
def caSorted3 (ds : List D) : Option D := match ds with
  | [d] => match sqK d with
    | some (.tp x :: xs) => match tupsOf (.tp x :: xs) with
      | some L => if L.length < 2 ∨ L.all (fun l => !l.isEmpty) = true then some (.ol ((srtL L).map dT)) else none
      | none => none
    | _ => caSorted2 ds
  | ds => caSorted2 ds
theorem Rps.zip {F : Hp} : ∀ {vs : List V} {L : List (List Int)}, Rps K cls F vs (L.map dT) → ∀ y l, (y, l) ∈ vs.zip L → Rp K cls F y (dT l)
  | _, [], .nil, _, _, h => by simp at h
  | _, l0 :: L, .cons a r, y, l, h => by
    rw [List.zip_cons_cons] at h
    rcases List.mem_cons.mp h with e | h
    · cases e; exact a
    · exact Rps.zip r y l h
theorem Rps.unzip {F : Hp} : ∀ {vs : List V} {L : List (List Int)}, vs.length = L.length → (∀ y l, (y, l) ∈ vs.zip L → Rp K cls F y (dT l)) → Rps K cls F vs (L.map dT)
  | [], [], _, _ => .nil
  | [], _ :: _, h, _ => by simp at h
  | _ :: _, [], h, _ => by simp at h
  | v :: vs, l :: L, h, k => .cons (k v l (by simp)) (Rps.unzip (by simpa using h) fun y l' hm => k y l' (by rw [List.zip_cons_cons]; exact List.mem_cons_of_mem _ hm))
theorem rp_T {F : Hp} {y : V} {l : List Int} (h : Rp K cls F y (dT l)) : ∃ t, y = V.ref t ∧ SqT K F t (l.map V.int) := by
  unfold dT at h
  cases h with
  | tp h r =>
    obtain rfl := r.ints
    exact ⟨_, rfl, h⟩
theorem ok_sorted3 : CaOk K cls (rSorted3 K) caSorted3 := by
  intro F H vs ds d Q s b e q
  unfold caSorted3 at e
  split at e
  · rename_i d0
    split at e
    · rename_i x xs0 h1
      split at e
      · rename_i L h2
        split at e
        · rename_i hn
          cases e
          obtain ⟨v, rfl, b1⟩ := b.one
          obtain ⟨a, ws, rfl, h3, r⟩ := b1.sqK s h1
          have eL := tupsOf_eq h2
          rw [eL] at r
          have hlen : ws.length = L.length := by have := r.len; simpa using this
          refine .inr ⟨a, ws, L, rfl, h3, hlen, fun y l hm => ?_, fun h4 l hl => ?_, fun ys p hy hz hp => ?_⟩
          · obtain ⟨t, e1, e2⟩ := rp_T (r.zip y l hm)
            exact ⟨t, e1, sameT s e2⟩
          · rcases hn with hn | hn
            · omega
            · have := List.all_eq_true.mp hn l hl
              intro z; subst z; simp at this
          · exact q _ _ _ [p] (Ext.own s hp) (fresh_new hp) (.inl (ow_new s hp (Rps.unzip hy fun y l hm => r.zip y l (hz y l hm)).toOws))
        · cases e
      · cases e
    · exact .inl (ok_sorted2 F H vs _ d Q s b e q)
  · exact .inl (ok_sorted2 F H vs _ d Q s b e q)
theorem srtL_len (L : List (List Int)) : (srtL L).length = L.length := (srtL_perm L).length_eq
@[simp] theorem caSorted3_tp (ns : List Int) : caSorted3 [.tp (ns.map D.int)] = some (.ol ((srt ns).map D.int)) := by
  unfold caSorted3
  split
  · rename_i h; cases h; simp
  · simp
@[simp] theorem caSorted3_ls (ns : List Int) : caSorted3 [.ls (ns.map D.int)] = some (.ol ((srt ns).map D.int)) := by
  cases ns with
  | nil => simp [caSorted3]; rfl
  | cons a l => simp [caSorted3]; exact caSorted2_ls (a :: l)
@[simp] theorem caSorted3_bo (ns : List Int) : caSorted3 [.bo (ns.map D.int)] = some (.ol ((srt ns).map D.int)) := by
  cases ns with
  | nil => simp [caSorted3]; rfl
  | cons a l => simp [caSorted3]; exact caSorted2_bo (a :: l)
end
end DL

namespace DL
open PySem PySem.Spec PyProof.Rows L2 TL
section
variable {K : PySem.W.Frag} {cls : Cls} {W : WX} {X : Cx} {F H F' H' F1 H1 : Hp} {O O1 : List Addr} {Q : VK} {a b e : Expr} {es : List Expr} {fa fb fc : Env → Res D} {pos : Pos}
def cIn2 : D → D → Option Bool
  | .tp xs, l => match toPy (.tp xs), toPy l with
    | some d, some (.list ds) => if SeqAt.shaped d = true ∧ SeqAt.shaped (.list ds) = true then some (ds.any fun z => PyData.eqv z d) else none
    | _, _ => none
  | x, l => cIn x l
def cNIn2 (a b : D) : Option Bool := (cIn2 a b).map (!·)
theorem cIn2_ok {x y : V} {a b : D} {k : Bool} (s : Same F H) (b1 : Bo K cls F H x a) (b2 : Bo K cls F H y b) (e : cIn2 a b = some k) :
    (∃ c, cIn a b = some c ∧ c = k) ∨ ∃ d ds, Dp K H x d ∧ Dp K H y (.list ds) ∧ SeqAt.shaped d = true ∧ SeqAt.shaped (.list ds) = true ∧ (ds.any fun z => PyData.eqv z d) = k := by
  unfold cIn2 at e
  split at e
  · split at e
    · rename_i d ds h1 h2
      split at e
      · rename_i h
        cases e
        exact .inr ⟨d, ds, b1.dp s h1, b2.dp s h2, h.1, h.2, rfl⟩
      · cases e
    · cases e
  · exact .inl ⟨k, e, rfl⟩
theorem ok_in2 : C2Ok K cls (fun x y H Q => rIn K false x y H Q ∨ rInD K x y H Q) cIn2 := by
  intro F H x y a b d Q s b1 b2 e q
  rcases cIn2_ok s b1 b2 e with ⟨c, h1, rfl⟩ | ⟨p, r, h1, h2, h3, h4, h5⟩
  · exact .inl (ok_in F H x y a b c Q s b1 b2 h1 q)
  · exact .inr ⟨p, r, h1, h2, h3, h4, by rw [h5]; exact q⟩
theorem Cn.eq65 {X : Cx} {W : WX} {k : Nat} (c : Cn X W k) : X.A.units + 65 < cLine := by have := c.hr.un; omega
theorem op_in5 (hu : X.A.units + 65 < cLine) : OpR X (compareOp .In) (fun x y H Q => rIn X.K false x y H Q ∨ rInD X.K x y H Q) := op_in_seq.or (op_inD hu)
theorem eqv_tups {l : List Int} {L : List (List Int)} : (L.map fun l => PyData.tuple (l.map .int)).any (fun z => PyData.eqv z (.tuple (l.map .int))) = decide (l ∈ L) := by
  induction L with
  | nil => simp
  | cons a L ih =>
    rw [List.map_cons, List.any_cons, ih]
    have : PyData.eqv (.tuple (a.map .int)) (.tuple (l.map .int)) = decide (a = l) := by
      simp only [PyData.eqv]
      exact eqvAll_map (p := PyData.int) (fun a b => by simp only [PyData.eqv]; by_cases e : a = b <;> simp [e]) a l
    rw [this, ← Bool.decide_or]
    by_cases h : a = l
    · subst h; simp
    · have h' : ¬ l = a := fun z => h z.symm
      simp [h, h']
theorem toPy_T (l : List Int) : toPy (.tp (l.map D.int)) = some (.tuple (l.map .int)) := by
  have : toPys (l.map D.int) = some (l.map PyData.int) := toPys_map (fun a => by simp [toPy]) l
  simp [toPy, this]
theorem toPy_TL (L : List (List Int)) : toPy (.ls (L.map dT)) = some (.list (L.map fun l => PyData.tuple (l.map .int))) := by
  have : toPys (L.map dT) = some (L.map fun l => PyData.tuple (l.map .int)) := toPys_map (f := dT) (fun a => toPy_T a) L
  simp [toPy, this]
theorem shaped_T (l : List Int) : SeqAt.shaped (.tuple (l.map .int)) = true := by
  have a := lay_map (p := PyData.int) (fun a => by simp [PyData.canLay0]) l
  have b : PyData.depthAll (l.map PyData.int) ≤ 0 := dep_map (p := PyData.int) (fun a => by simp [PyData.depth]) l
  have c : PyData.depth (.tuple (l.map .int)) ≤ 1 := by simp only [PyData.depth]; omega
  have d : PyData.canLay0 (.tuple (l.map .int)) = true := by simp [PyData.canLay0, a]
  simp only [SeqAt.shaped, d, Bool.true_and, decide_eq_true_eq]
  omega
theorem shaped_TL (L : List (List Int)) : SeqAt.shaped (.list (L.map fun l => PyData.tuple (l.map .int))) = true := by
  have a := lay_map (p := fun l : List Int => PyData.tuple (l.map .int)) (fun l => by
    have := lay_map (p := PyData.int) (fun a => by simp [PyData.canLay0]) l
    simp [PyData.canLay0, this]) L
  have b : PyData.depthAll (L.map fun l : List Int => PyData.tuple (l.map .int)) ≤ 1 := dep_map (p := fun l : List Int => PyData.tuple (l.map .int)) (fun l => by
    have b : PyData.depthAll (l.map PyData.int) ≤ 0 := dep_map (p := PyData.int) (fun a => by simp [PyData.depth]) l
    simp only [PyData.depth]; omega) L
  have c : PyData.depth (.list (L.map fun l : List Int => PyData.tuple (l.map .int))) ≤ 2 := by simp only [PyData.depth]; omega
  have d : PyData.canLay0 (.list (L.map fun l : List Int => PyData.tuple (l.map .int))) = true := by simp [PyData.canLay0, a]
  simp only [SeqAt.shaped, d, Bool.true_and, decide_eq_true_eq]
  omega
theorem cIn2_TL (l : List Int) (L : List (List Int)) : cIn2 (.tp (l.map D.int)) (.ls (L.map dT)) = some (decide (l ∈ L)) := by
  simp only [cIn2, toPy_T, toPy_TL]
  rw [if_pos ⟨shaped_T l, shaped_TL L⟩, eqv_tups]
@[simp] theorem cNIn2_TL (l : List Int) (L : List (List Int)) : cNIn2 (.tp (l.map D.int)) (.ls (L.map dT)) = some (!decide (l ∈ L)) := by
  unfold cNIn2; rw [cIn2_TL]; rfl
end
end DL

set_option maxHeartbeats 1000000
namespace RT
open PySem PySem.Spec PyProof.Rows
section
variable {prog : Program} {w : World} {A : Around} {E : Value → Shared → Prop} {s : Shared}
end
end RT
namespace DL
open PySem PySem.Spec PyProof.Rows L2
section
variable {X : Cx} {cls : Cls} {W : WX} {K : PySem.W.Frag}
def lsT (d : D) : Option (List D) := match d with
  | .tp xs => some xs
  | d => lsv d
@[simp] theorem lsT_tp {xs} : lsT (.tp xs) = some xs := rfl
@[simp] theorem lsT_ls {xs} : lsT (.ls xs) = some xs := rfl
@[simp] theorem lsT_bo {xs} (h : shd xs = true) : lsT (.bo xs) = some xs := by simp [lsT, h]
def eLRev2 (fa : Env → Res D) : Env → Res D := fun g => (fa g).bind fun d => match lsT (opd d) with
  | some xs => .ok (.ol xs.reverse)
  | none => .bad
@[simp] theorem eLRev2_ (fa : Env → Res D) (g : Env) : eLRev2 fa g = (fa g).bind fun d => match lsT (opd d) with
  | some xs => .ok (.ol xs.reverse)
  | none => .bad := rfl
end
end DL

set_option maxHeartbeats 1000000
namespace RT
open PySem PySem.Spec PyProof.Rows
section
variable {prog : Program} {w : World} {A : Around} {E : Value → Shared → Prop} {s : Shared}
end
end RT
namespace DL
open PySem PySem.Spec PyProof.Rows L2
section
variable {X : Cx} {cls : Cls} {W : WX} {K : PySem.W.Frag}
theorem Bo.lsT {v : V} {d : D} {F H : Hp} {xs : List D} (s : Same F H) (b1 : Bo K cls F H v d) (eo : lsT d = some xs) : ∃ a vs, v = .ref a ∧ (SqL K H a vs ∨ SqT K H a vs) ∧ Rps K cls F vs xs := by
  cases d with
  | tp ys =>
    cases eo
    obtain ⟨a, vs, e1, h1, h2, r⟩ := b1.tpv s (xs := xs) rfl
    exact ⟨a, vs, e1, .inr h1, r⟩
  | ls ys =>
    obtain ⟨a', vs, rfl, h1, r⟩ := b1.sqK s (xs := xs) (by simpa [DL.lsT] using eo)
    exact ⟨a', vs, rfl, .inl h1, r⟩
  | bo ys =>
    obtain ⟨a', vs, rfl, h1, r⟩ := b1.sqK s (xs := xs) (by simp [DL.lsT] at eo ⊢; first | exact eo | (obtain ⟨e1, e2⟩ := eo; exact ⟨e1, e2⟩))
    exact ⟨a', vs, rfl, .inl h1, r⟩
  | _ => simp [DL.lsT] at eo
def eTRev2 (fa : Env → Res D) : Env → Res D := fun g => (fa g).bind fun d => match lsT (opd d) with
  | some xs => .ok (.tp xs.reverse)
  | none => .bad
@[simp] theorem eTRev2_ (fa : Env → Res D) (g : Env) : eTRev2 fa g = (fa g).bind fun d => match lsT (opd d) with
  | some xs => .ok (.tp xs.reverse)
  | none => .bad := rfl
end
end DL

namespace DL
open PySem PySem.Spec PyProof.Rows L2
section
variable {X : Cx} {cls : Cls} {W : WX} {K : PySem.W.Frag} {F H F' H' : Hp} {O : List Addr}
def eTR1 (fa : Env → Res D) : Env → Res D := fun g => (fa g).bind fun d => match opd d with
  | .int n => if rgOk n ∧ n ≤ 1000000 then .ok (.tp (rng 0 n.toNat)) else .bad
  | _ => .bad
@[simp] theorem eTR1_ (fa : Env → Res D) (g : Env) : eTR1 fa g = (fa g).bind fun d => match opd d with
  | .int n => if rgOk n ∧ n ≤ 1000000 then .ok (.tp (rng 0 n.toNat)) else .bad
  | _ => .bad := rfl
theorem je_tr1 {a : Expr} {p p2 pos q : Pos} {fa : Env → Res D} (c : Cn X W k) (hm : X.mg "tuple" = none) (hm2 : X.mg "range" = none) (ha : JE X cls W a fa)
    (hg : Gl X "tuple" := by rfl) (hg2 : Gl X "range" := by rfl) (na : starEach [a] X.env = (false, eval a X.env) :: starEach [] X.env := by rfl)
    (na2 : starEach [.Call (.Name "range" p2) [a] [] q] X.env = (false, eval (.Call (.Name "range" p2) [a] [] q) X.env) :: starEach [] X.env := by rfl) :
    JE X cls W (.Call (.Name "tuple" p) [.Call (.Name "range" p2) [a] [] q] [] pos) (eTR1 fa) := by
  obtain ⟨ta, pa, da⟩ := ha.ex
  refine ⟨_, pe_tupRg c.calm hg hm (prg_1 hg2 hm2 pa na) na2, ?_⟩
  intro σ F H g O Q s st p
  unfold eTR1 at p
  refine da.go s st (fun c e => by rw [e] at p; exact p) (fun e => by rw [e] at p; exact p) fun d e v F1 H1 x1 b1 => ?_
  rw [e] at p
  simp only [Res.bind] at p
  cases eo : opd d with
  | int n =>
    rw [eo] at p b1
    simp only at p
    split at p
    · rename_i hn
      obtain rfl := b1.int
      refine ⟨n, rfl, ⟨by omega, by omega, hn.1.lo, hn.1.hi, by omega⟩, fun q hq => ?_⟩
      · refine p (.ref q) _ _ [] (x1.trans (Ext.put x1.fh hq)) Fresh.nil (.inl (.sh (.tp (SqT.of upd_same) ?_)))
        rw [rgV_ints, rng_map]
        rw [show (n - 0).toNat = n.toNat by omega]
        exact rps_ints
    · exact p.elim
  | _ => rw [eo] at p; exact p.elim
def opShr : D → D → Option D
  | .int i, .int j => if 0 ≤ j then some (.int (i / 2 ^ j.toNat)) else none
  | _, _ => none
def opAnd : D → D → Option D
  | .int i, .int j => if j = 1 then some (.int (i % 2)) else none
  | _, _ => none
@[simp] theorem opShr_int {i j : Int} (h : 0 ≤ j) : opShr (.int i) (.int j) = some (.int (i / 2 ^ j.toNat)) := if_pos h
@[simp] theorem opAnd_int {i : Int} : opAnd (.int i) (.int 1) = some (.int (i % 2)) := rfl
end
section
variable {K : PySem.W.Frag} {cls : Cls} {W : WX} {X : Cx} {F H F' H' F1 H1 : Hp} {O O1 : List Addr} {Q : VK} {a b e : Expr} {es : List Expr} {fa fb fc : Env → Res D} {pos : Pos}
def sExt (i : Nat) (fa : Env → Res D) : Env → Out := fun g => match g[i]? with
  | some (.ol xs) => (fa g).st g fun d => match lsv (opd d) with
    | some ys => if xs.length + ys.length ≤ lim then .nx (g.set i (.ol (xs ++ ys))) else .bad
    | none => .bad
  | _ => .bad
@[simp] theorem sExt_ (i : Nat) (fa : Env → Res D) (g : Env) : sExt i fa g = match g[i]? with
  | some (.ol xs) => (fa g).st g fun d => match lsv (opd d) with
    | some ys => if xs.length + ys.length ≤ lim then .nx (g.set i (.ol (xs ++ ys))) else .bad
    | none => .bad
  | _ => .bad := rfl
end
end DL

namespace DL
open PySem PySem.Spec PyProof.Rows L2 TL PySem.W
section
variable {K : PySem.W.Frag} {cls : Cls} {X : Cx} {F H F' H' F1 H1 : Hp} {O O1 : List Addr} {Q : VK}
theorem vals_at : ∀ {xs : List V} {us : List Value}, Vals xs us → ∀ (i : Nat) (u : Value), us[i]? = some u → ∃ x, xs[i]? = some x ∧ RelV x u
  | _, _, .nil, i, u, h => by simp at h
  | _, _, .cons r rs, 0, u, h => by simp at h; subst h; exact ⟨_, rfl, r⟩
  | _, _, .cons r rs, i + 1, u, h => by
    obtain ⟨x, h1, h2⟩ := vals_at rs i u (by simpa using h)
    exact ⟨x, by simpa using h1, h2⟩
theorem readsAll_one {h : Heap} : ∀ {us : List Value} {ps : List PyData} {as : List Addr}, ReadsAll h us ps as → ∀ (i : Nat) (u : Value), us[i]? = some u → ∃ q bs, ps[i]? = some q ∧ Reads h u q bs
  | _, _, _, .nil, i, u, e => by simp at e
  | _, _, _, .cons r rs, 0, u, e => by simp at e; subst e; exact ⟨_, _, rfl, r⟩
  | _, _, _, .cons r rs, i + 1, u, e => by
    obtain ⟨q, bs, h1, h2⟩ := readsAll_one rs i u (by simpa using e)
    exact ⟨q, bs, by simpa using h1, h2⟩
mutual
/-- texts, numbers, truth values, and tuples of these -/
def flt : D → Bool
  | .int _ => true
  | .bl _ => true
  | .str _ => true
  | .tp xs => flts xs
  | _ => false
def flts : List D → Bool
  | [] => true
  | d :: ds => flt d && flts ds
end
def mfold : D → PyData → List D → List PyData → D
  | d, p, e :: ds, q :: ps => if dataLt q p = true then mfold e q ds ps else mfold d p ds ps
  | d, _, _, _ => d
def caMin3 (ds : List D) : Option D := match ds with
  | [d] => match sqK d with
    | some (.tp x :: xs) => match toPys (.tp x :: xs) with
      | some (p :: ps) => if flts (.tp x :: xs) = true ∧ ((p :: ps).all fun a => (p :: ps).all fun b => alike a b) = true ∧ PyData.depthAll (p :: ps) ≤ 60 then some (mfold (.tp x) p xs ps) else none
      | _ => none
    | _ => caMin ds
  | ds => caMin ds
def dNT (x : Int × List Int) : D := .tp [.int x.1, .tp (x.2.map D.int)]
end
end DL

namespace DL
open PySem PySem.Spec PyProof.Rows L2 PySem.W
section
variable {K : PySem.W.Frag} {cls : Cls} {W : WX} {X : Cx} {F H F' H' F1 H1 : Hp} {O O1 : List Addr} {Q : VK} {a b e : Expr} {es : List Expr} {fa fb fc : Env → Res D} {fs : Env → Res (List D)} {pos : Pos}
def argB : D → Option (List Int)
  | .bo xs => intsOf xs
  | _ => none
def calD2 (g : List D → Res D) (ds : List D) : Res D :=
  if (ds.all fun d => shd1 d || (argB d).isSome) = true then match g (plns ds) with
    | .ok (.ls xs) => match intsOf xs with
      | some ns => if (ds.all fun d => !decide (argB d = some ns)) = true then .ok (.ls xs) else .bad
      | none => .bad
    | .xc c => .xc c
    | _ => .bad
  else .bad
def eOwn2 (g : List D → Res D) (fs : Env → Res (List D)) : Env → Res D := fun e => (fs e).bind fun ds => calD2 g ds
@[simp] theorem eOwn2_ (g : List D → Res D) (fs : Env → Res (List D)) (e : Env) : eOwn2 g fs e = (fs e).bind fun ds => calD2 g ds := rfl
end
end DL

namespace DL
open PySem PySem.Spec PyProof.Rows L2 TL PySem.W
section
variable {K : PySem.W.Frag} {cls : Cls} {X : Cx} {F H F' H' F1 H1 : Hp} {O O1 : List Addr} {Q : VK}
def rMaxT (K : PySem.W.Frag) : List V → Hp → VK → Prop := fun vs H Q => ∃ (a : Addr) (n : Int) (ns : List Int), vs = [V.ref a] ∧ SqT K H a ((n :: ns).map V.int) ∧ Q (.int (ns.foldl max n)) H
theorem dpAll_ints {K : PySem.W.Frag} {H : Hp} : ∀ ns : List Int, DpAll K H (ns.map V.int) (ns.map PyData.int)
  | [] => .nil
  | n :: ns => .cons (.int n) (dpAll_ints ns)
theorem maxD_mem : ∀ (ps : List PyData) (p : PyData), maxD p ps ∈ p :: ps
  | [], p => List.mem_cons_self ..
  | q :: ps, p => by
    have h : maxD p (q :: ps) = maxD (if dataLt p q then q else p) ps := rfl
    rw [h]
    have := maxD_mem ps (if dataLt p q then q else p)
    rcases List.mem_cons.mp this with e | e
    · rw [e]
      split <;> simp
    · exact List.mem_cons_of_mem _ (List.mem_cons_of_mem _ e)
theorem cr_maxT (hc : X.calm = true) (hu : X.A.units + 65 < cLine) : CallR X (.builtin "max") (rMaxT X.K) := by
  intro pins s σ H vs us Q I r h
  obtain ⟨a, n, ns, rfl, hs, q⟩ := h
  obtain ⟨its, rv, hl, hz⟩ := I.tuple hs
  obtain ⟨u, rfl, ru⟩ := vals1 r
  obtain rfl : u = Value.ref a := ru
  have hl' : s.heap.IsTuple a its.toArray := hl
  obtain ⟨as, hr⟩ := Dp.readsAll I ((n :: ns).map .int) _ its (dpAll_ints (n :: ns)) rv
  have ha : AlikeAll ((n :: ns).map PyData.int) := ⟨fun x hx y hy => by
    obtain ⟨i, _, rfl⟩ := List.mem_map.mp hx
    obtain ⟨j, _, rfl⟩ := List.mem_map.mp hy
    simp [alike], fun x hx => by
    obtain ⟨i, _, rfl⟩ := List.mem_map.mp hx
    simp⟩
  have hd : PyData.depthAll ((n :: ns).map PyData.int) ≤ 0 := dep_map (p := PyData.int) (fun a => by simp [PyData.depth]) (n :: ns)
  refine max_tuple_data (vs := its.toArray) (x := .int n) (xs := ns.map .int) (I.ok.hd hc) hl' (by simpa using hr) ha (by simp only [List.map_cons] at hd; omega) fun i v h' tk bs hv hrd hk => ?_
  have hv' : its[i]? = some v := by simpa using hv
  obtain ⟨x, hx, rx⟩ := vals_at rv i v hv'
  obtain ⟨e, bs', he, hre⟩ := readsAll_one hr i v hv'
  have em : e ∈ (n :: ns).map PyData.int := List.mem_of_getElem? he
  have eq : e = maxD (.int n) (ns.map .int) := alike_unique _ _ _ _ _ (ha.1 _ em _ (maxD_mem _ _)) (Reads.keeps hk hre) hrd
  rw [maxD_ints] at eq
  rw [List.getElem?_map] at hx he
  cases hq : (n :: ns)[i]? with
  | none => rw [hq] at hx; cases hx
  | some m =>
    rw [hq] at hx he
    cases hx
    cases he
    have : m = ns.foldl max n := by injection eq
    exact ⟨.int m, H, I.kept hk, rx, by rw [this]; exact q⟩
def rMax3 (K : PySem.W.Frag) : List V → Hp → VK → Prop := fun vs H Q => rMax K vs H Q ∨ rMaxT K vs H Q
theorem cr_max3 (hc : X.calm = true) (hu : X.A.units + 65 < cLine) : CallR X (.builtin "max") (rMax3 X.K) := by
  intro pins s σ H vs us Q I r h
  rcases h with h | h
  · exact cr_max hc pins s σ H vs us Q I r h
  · exact cr_maxT hc hu pins s σ H vs us Q I r h
def caMax3 (ds : List D) : Option D := match ds with
  | [.tp xs] => match intsOf xs with
    | some (n :: ns) => some (.int (ns.foldl max n))
    | _ => none
  | ds => caMax ds
theorem ok_max3 : CaOk K cls (rMax3 K) caMax3 := by
  intro F H vs ds d Q s b e q
  unfold caMax3 at e
  split at e
  · rename_i xs
    split at e
    · rename_i n ns h
      cases e
      obtain ⟨v, rfl, b1⟩ := b.one
      obtain rfl := intsOf_eq h
      obtain ⟨a, vs, rfl, h3, _, r⟩ := b1.tpv s (xs := (n :: ns).map D.int) rfl
      obtain rfl := r.ints
      exact .inr ⟨a, n, ns, rfl, h3, pi1 s (.int _) q⟩
    · cases e
  · exact .inl (ok_max F H vs _ d Q s b e q)
@[simp] theorem caMax3_tp (n : Int) (ns : List Int) : caMax3 [.tp (.int n :: ns.map D.int)] = some (.int (ns.foldl max n)) := by
  have : intsOf (D.int n :: ns.map D.int) = some (n :: ns) := intsOf_map (n :: ns)
  simp [caMax3, this]
end
end DL

namespace PySem
open Sem (wp)
open AutoSeq1 (wpAny_loadPart')
section
variable {prog : Program} {w : World} {A : Around} {E : Value → Shared → Prop} {s : Shared}
end
end PySem
namespace DL
open PySem PySem.Spec PyProof.Rows L2 TL PySem.W
section
variable {K : PySem.W.Frag} {cls : Cls} {W : WX} {X : Cx} {F H F' H' F1 H1 : Hp} {O O1 : List Addr} {a : Expr} {fs : Env → Res (List D)} {pos : Pos}
def iEnm3 (fs : Env → Res (List D)) : Env → Res (List D) := fun g => (fs g).bind fun ds => match ds with
  | [d] => (Res.of (sqS d)).bind fun xs => .ok (enm 0 xs)
  | _ => .bad
@[simp] theorem iEnm3_ (fs : Env → Res (List D)) (g : Env) : iEnm3 fs g = (fs g).bind fun ds => match ds with
  | [d] => (Res.of (sqS d)).bind fun xs => .ok (enm 0 xs)
  | _ => .bad := rfl
end
end DL

namespace DL
open PySem PySem.Spec PyProof.Rows L2 TL PySem.W
section
variable {K : PySem.W.Frag} {cls : Cls} {W : WX} {X : Cx} {pos : Pos}
def sClr (i : Nat) : Env → Out := fun g => match g[i]? with
  | some (.ol _) => .nx (g.set i (.ol []))
  | _ => .bad
@[simp] theorem sClr_ (i : Nat) (g : Env) : sClr i g = match g[i]? with
  | some (.ol _) => .nx (g.set i (.ol []))
  | _ => .bad := rfl
end
end DL

namespace DL
open PySem PySem.Spec PyProof.Rows L2 TL PySem.W
section
variable {K : PySem.W.Frag} {cls : Cls} {X : Cx} {F H F' H' F1 H1 : Hp} {O O1 : List Addr} {Q : VK}
def leP {α : Type} (a b : α × PyData) : Bool := !dataLt b.2 a.2
def isT1 : PyData → Bool
  | .tuple (_ :: _) => true
  | _ => false
def isO1 : PyData → Bool
  | .none => false
  | .tuple _ => false
  | _ => true
def sortD (xs : List D) : Option D := match toPys xs with
  | some ps => if (ps.all fun a => ps.all fun b => alike a b) = true ∧ (ps.all isT1 || ps.all isO1) = true ∧ (ps.all fun p => decide (p.depth ≤ 60)) = true then some (.ol (((xs.zip ps).mergeSort leP).map (·.1))) else none
  | none => none
def caSorted4 (ds : List D) : Option D := match ds with
  | [d] => match sqK d with
    | some (.ls y :: xs) => sortD (.ls y :: xs)
    | some (.tp (.int i :: .tp y :: r) :: xs) => sortD (.tp (.int i :: .tp y :: r) :: xs)
    | _ => caSorted3 ds
  | ds => caSorted3 ds
@[simp] theorem caSorted4_tp (ns : List Int) : caSorted4 [.tp (ns.map D.int)] = some (.ol ((srt ns).map D.int)) := by
  simp [caSorted4]
@[simp] theorem caSorted4_ls (ns : List Int) : caSorted4 [.ls (ns.map D.int)] = some (.ol ((srt ns).map D.int)) := by
  cases ns with
  | nil => simp [caSorted4]; rfl
  | cons a l => simp [caSorted4]; exact caSorted3_ls (a :: l)
@[simp] theorem caSorted4_bo (ns : List Int) : caSorted4 [.bo (ns.map D.int)] = some (.ol ((srt ns).map D.int)) := by
  cases ns with
  | nil => simp [caSorted4]; rfl
  | cons a l => simp [caSorted4]; exact caSorted3_bo (a :: l)
end
end DL

namespace DL
open PySem PySem.Spec PyProof.Rows L2 TL PySem.W
section
variable {K : PySem.W.Frag} {cls : Cls} {W : WX} {X : Cx} {F H F' H' F1 H1 : Hp} {O O1 : List Addr} {Q : VK} {a b e : Expr} {es : List Expr} {fa fb fc : Env → Res D} {fs : Env → Res (List D)} {pos : Pos}
def sIns (i : Nat) (fs : Env → Res (List D)) : Env → Out := fun g => match g[i]? with
  | some (.ol xs) => (fs g).st g fun ds => match ds with
    | [.int j, .int n] => match intsOf xs with
      | some ns => if 0 ≤ j ∧ j ≤ 1000000000 ∧ xs.length < lim then .nx (g.set i (.ol ((ns.take j.toNat ++ [n] ++ ns.drop j.toNat).map D.int))) else .bad
      | none => .bad
    | _ => .bad
  | _ => .bad
@[simp] theorem sIns_ (i : Nat) (fs : Env → Res (List D)) (g : Env) : sIns i fs g = match g[i]? with
  | some (.ol xs) => (fs g).st g fun ds => match ds with
    | [.int j, .int n] => match intsOf xs with
      | some ns => if 0 ≤ j ∧ j ≤ 1000000000 ∧ xs.length < lim then .nx (g.set i (.ol ((ns.take j.toNat ++ [n] ++ ns.drop j.toNat).map D.int))) else .bad
      | none => .bad
    | _ => .bad
  | _ => .bad := rfl
def sDel (i : Nat) (fa : Env → Res D) : Env → Out := fun g => match g[i]? with
  | some (.ol xs) => (fa g).st g fun d => match opd d with
    | .int z => match ixN xs.length z with
      | some k => match xs[k]? with
        | some y => if own1 y = false ∧ xs.length ≤ lim then .nx (g.set i (.ol (xs.eraseIdx k))) else .bad
        | none => .bad
      | none => .bad
    | _ => .bad
  | _ => .bad
@[simp] theorem sDel_ (i : Nat) (fa : Env → Res D) (g : Env) : sDel i fa g = match g[i]? with
  | some (.ol xs) => (fa g).st g fun d => match opd d with
    | .int z => match ixN xs.length z with
      | some k => match xs[k]? with
        | some y => if own1 y = false ∧ xs.length ≤ lim then .nx (g.set i (.ol (xs.eraseIdx k))) else .bad
        | none => .bad
      | none => .bad
    | _ => .bad
  | _ => .bad := rfl
end
end DL

set_option maxHeartbeats 1000000
namespace DL
def iotaR (n : Nat) : List Int := (List.range n).map fun i : Nat => (n : Int) - 1 - (i : Int)
end DL
namespace RR
open PySem PySem.Spec PyProof.Rows
theorem nolen_ri : typeLookup (.type "range_iterator") "__len__" = pure none := by rw [typeLookup_type, builtinLookup_eq_fast]; kernel_rfl
theorem slot_ri_hint : Slot "range_iterator" "__length_hint__" "range_iterator.__length_hint__" :=
  .of (owner := "range_iterator") (n := "__length_hint__") (by rw [typeLookup_type, builtinLookup_eq_fast]; kernel_rfl) (by decide +kernel) (by decide +kernel) (by decide +kernel)
    (by first | exact .inl (by decide +kernel) | exact .inr (by decide +kernel)) (by rw [isSubtype_type]; kernel_rfl)
theorem entry_ri_hint : entryFor table "range_iterator.__length_hint__" = some Builtin.«range_iterator.__length_hint__» := entryFor_of_tree (by kernel_rfl)
theorem owner_ri : Manifest.owners.lookup (String.ofList ['r', 'o', 't', 'a', 'r', 'e', 't', 'i', '_', 'e', 'g', 'n', 'a', 'r'].reverse) = some Manifest.sig_range_iterator := by kernel_rfl
section
variable {prog : Program} {w : World} {A : Around} {E : Value → Shared → Prop} {s : Shared}
theorem args_ri_hint (a : Value) : argsOk "range_iterator.__length_hint__" ⟨[a], []⟩ := by
  unfold argsOk; rw [signature?_of (id := "range_iterator.__length_hint__") (n := ['_', '_', 't', 'n', 'i', 'h', '_', 'h', 't', 'g', 'n', 'e', 'l', '_', '_']) (o := ['r', 'o', 't', 'a', 'r', 'e', 't', 'i', '_', 'e', 'g', 'n', 'a', 'r']) (by kernel_rfl) owner_ri]; kernel_rfl
theorem call_ri_hint {it : Addr} {x c : Int} {n : Int} {Q : Value → Shared → Prop} (hit : IsRangeIter s.heap it x n c) 
    (h : ∀ tk tk', Q (.int n tk) { s with toks := tk' }) : wpAny (model prog w) A (call (.builtin "range_iterator.__length_hint__") [.ref it]) Q E s := by
  have hT : s.TypeIs (.ref it) "range_iterator" := ⟨_, hit, rfl⟩
  refine wpAny_call_entry slot_ri_hint hT entry_ri_hint ?_ (args_ri_hint _)
  unfold Builtin.«range_iterator.__length_hint__»
  refine wpAny_bind (wpAny_of_eq (a := Value.ref it) rfl ?_)
  try dsimp only
  refine wpAny_bind (wpAny_field (s := s) hit rfl (x := rawInt n) rfl ?_)
  show wpAny _ _ (retInt n) _ _ _
  unfold retInt
  refine wpAny_bind (wpAny_mkInt ?_)
  exact wpAny_pure ⟨_, rfl, h _ _⟩

theorem call_list_ri {it : Addr} {a c : Int} {n : Nat} {Q : Value → Shared → Prop} (hh : A.handled = none) (hit : IsRangeIter s.heap it a n c) (hn : n ≤ sizeLine) 
    (hQ : ∀ (h' : Heap) (tk : Nat) (acc : Array Value) (cc : Nat), (∀ b o, b ≠ it → s.heap.get? b = some o → h'.get? b = some o) → h'.get? s.heap.objs.size = some { cls := .type "list", dict := none, data := .seq acc cc, slots := #[] } →
      ItemsOf (fun i v => ∃ t, v = .int (a + (i : Int) * c) t) acc n → Q (.ref s.heap.objs.size) { s with heap := h', toks := tk }) :
    wpAny (model prog w) A (call (.type "list") [.ref it]) Q E s := by
  refine callType_codes (Q₁ := fun obj s₁ => obj = .ref s.heap.objs.size ∧ s₁ = { s with heap := s.heap.push { cls := .type "list", data := .seq #[] } }) F.called_list (F.typeCall_list_1 _) F.entry_list_init
    (code_list_new _ ⟨rfl, rfl⟩) fun obj s₁ h₁ => ?_
  obtain ⟨rfl, rfl⟩ := h₁
  have hS : (s.heap.push { cls := .type "list", data := .seq #[] }).get? s.heap.objs.size = some { cls := .type "list", data := .seq #[] } := Heap.get?_push_size _ rfl
  refine ⟨⟨_, hS, rfl⟩, F.args_list_init_2 _ _, ?_⟩
  have W := (Walks.range (prog := prog) (w := w) (A := A.in1.in1) hh it a c n).toS
  have hoi : s.heap.get? it = some _ := hit
  have hSi : s.heap.objs.size ≠ it := Nat.ne_of_gt (Heap.lt_size hoi)
  have hSf : s.heap.objs.size ∉ [it] := by simp only [List.mem_cons, List.not_mem_nil, or_false]; exact hSi
  show wpAny _ _ (do let old ← Builtin.List.listItems (.ref s.heap.objs.size); Builtin.List.listUpdate (.ref s.heap.objs.size) (fun _ => #[]); letGo old.toList.reverse; Builtin.List.listExtendWith (.ref s.heap.objs.size) (.ref it) .none) _ _ _
  refine wpAny_bind ?_
  unfold Builtin.List.listItems
  refine wpAny_bind (wpAny_seqItems hS rfl (wpAny_pure ?_))
  show wpAny _ _ (updateSeq s.heap.objs.size (fun _ => #[]) >>= fun _ => letGo (#[] : Array Value).toList.reverse >>= fun _ => Builtin.List.listExtendWith (.ref s.heap.objs.size) (.ref it) .none) _ _ _
  refine wpAny_bind (wpAny_updateSeq hS rfl ?_)
  have hS₂ := Heap.get?_update_self (Obj.mapSeq (fun _ => (#[] : Array Value))) hS rfl
  have keep : ∀ b o, s.heap.get? b = some o → ((s.heap.push { cls := .type "list", data := .seq #[] }).update s.heap.objs.size (Obj.mapSeq (fun _ => (#[] : Array Value)))).get? b = some o :=
    fun b o e => (Heap.get?_update_other _ _ (Ne.symm (Nat.ne_of_lt (Heap.lt_size e)))).trans (Heap.get?_push_of_some _ e)
  refine wpAny_bind (wpAny_letGo ?_)
  generalize hU : (s.heap.push { cls := .type "list", data := .seq #[] }).update s.heap.objs.size (Obj.mapSeq (fun _ => (#[] : Array Value))) = U at hS₂ keep
  have hit1 : IsRangeIter U it a n c := keep _ _ hoi
  have hT : ({ s with heap := U } : Shared).TypeIs (.ref it) "range_iterator" := ⟨_, hit1, rfl⟩
  have h1 : Builtin.List.listSameRef (.ref s.heap.objs.size) (.ref it) = false := by simp [Builtin.List.listSameRef, hSi]
  show wpAny _ _ (Builtin.List.listExtendWith (.ref s.heap.objs.size) (.ref it) .none) _ _ { s with heap := U }
  unfold Builtin.List.listExtendWith
  refine wpAny_bind (wpAny_typeOf hT ?_)
  rw [if_neg (by rw [h1]; decide)]
  refine wpAny_bind (wpAny_pyIter_rangeiter (s := { s with heap := U }) hit1 ?_)
  refine wpAny_bind (wpAny_holding ?_)
  unfold Builtin.List.listLengthHint
  refine wpAny_bind (wpAny_specialOf hT nolen_ri ?_)
  show wpAny _ _ (specialOf (Value.ref it) (Str.ofString "__length_hint__") >>= _) _ _ _
  refine wpAny_bind (wpAny_specialOf hT slot_ri_hint.lookup ?_)
  generalize hid : ("range_iterator.__length_hint__" : String) = id0
  wp_delta
  rw [show splitId id0 = some ("range_iterator", "__length_hint__") from by subst hid; decide +kernel]
  subst hid
  refine wpAny_bind (wpAny_isInstance (b := true) hT (by rw [isSubtype_type]; kernel_rfl) ?_)
  rw [if_neg (by decide)]
  try dsimp only
  rw [if_pos (by decide +kernel)]
  rw [if_pos (by decide)]
  refine wpAny_bind (call_ri_hint (s := { s with heap := U }) hit1 fun tk tk' => ?_)
  have hA : asInt? (Value.int ((n : Nat) : Int) tk) = pure (some ((n : Nat) : Int)) := rfl
  have f2 : Builtin.List.listTooLong ((n : Nat) : Int).toNat = false := L2.notLongL (by simpa using hn)
  generalize hg : Value.int ((n : Nat) : Int) tk = vv at hA ⊢
  subst hg
  show wpAny _ _ (asInt? (Value.int ((n : Nat) : Int) tk) >>= _) _ _ _
  rw [hA, pure_bind]
  show wpAny _ _ (if Builtin.List.listTooLong ((n : Nat) : Int).toNat = true then _ else pure false) _ _ _
  rw [if_neg (by rw [f2]; decide)]
  refine wpAny_pure ?_
  show wpAny _ _ (if (false || _) = true then _ else again _) _ _ _
  rw [if_neg (by decide +kernel)]
  refine wpAny_pure ⟨plainId_quiet F.plain_extend_loop _, ?_⟩
  have hit2 : IsRangeIter U it (a + ((0 : Nat) : Int) * c) ((n : Int) - ((0 : Nat) : Int)) c := by
    have e1 : a + ((0 : Nat) : Int) * c = a := by simp
    have e2 : (n : Int) - ((0 : Nat) : Int) = n := by simp
    rw [e1, e2]; exact hit1
  obtain ⟨c0, hS2'⟩ : ∃ c0, U.get? s.heap.objs.size = some { cls := .type "list", dict := none, data := .seq #[] c0, slots := #[] } := ⟨_, hS₂⟩
  refine codeAny_extend_loopS W hn _ hSf _ n 0 { s with heap := U, toks := tk' } #[] c0 rfl (Nat.zero_le _) hit2 hS2' (ItemsOf.nil _) fun s' acc' c' hm hS' hacc => ?_
  rw [Moved.eq_with hm]
  refine ⟨rfl, hQ s'.heap s'.toks acc' c' (fun b o hb e => hm.heap b o (fun hmem => ?_) (keep b o e)) hS' hacc⟩
  rcases List.mem_cons.mp hmem with e' | hmem
  · exact absurd (Heap.lt_size e) (by rw [e']; exact Nat.lt_irrefl _)
  · exact hb (List.mem_singleton.mp hmem)
end
end RR
namespace DL
open PySem PySem.Spec PyProof.Rows L2
section
variable {X : Cx} {cls : Cls} {W : WX} {K : PySem.W.Frag}
def rrV (a b : Int) : List V := (List.range (b - a).toNat).map fun i => V.int (a + (((b - a).toNat : Nat) : Int) - 1 + (i : Nat) * (-1))
theorem rrV_length (a b : Int) : (rrV a b).length = (b - a).toNat := by unfold rrV; rw [List.length_map, List.length_range]
theorem vals_rr {a b : Int} {acc : Array Value} (h : ItemsOf (fun i v => ∃ t, v = .int (a + (((b - a).toNat : Nat) : Int) - 1 + (i : Int) * (-1)) t) acc (b - a).toNat) : Vals (rrV a b) acc.toList := by
  have e : acc.toList.length = (b - a).toNat := by rw [Array.length_toList]; exact h.1
  unfold rrV
  rw [← e]
  refine vals_of_get acc.toList _ fun j u hj => ?_
  rw [e]
  obtain ⟨t, rfl⟩ := h.2 j u (by rw [← hj, Array.getElem?_toList])
  exact ⟨t, rfl⟩
theorem rrV_ints (b : Int) : rrV 0 b = (iotaR b.toNat).map V.int := by
  unfold rrV iotaR
  rw [List.map_map, Int.sub_zero]
  refine List.map_congr_left fun i _ => ?_
  show V.int (0 + ((b.toNat : Nat) : Int) - 1 + (i : Int) * (-1)) = V.int ((b.toNat : Int) - 1 - (i : Int))
  congr 1
  omega
def tLstRR (te : L2.St → Hp → (Int → Int → Hp → Prop) → Prop) : TE := fun σ H Q => te σ H fun a b H1 => RgOk a b ∧ ∀ q, H1 q = none → Q (.ref q) (upd H1 q (.lst (rrV a b)))
variable {e : Expr} {te : L2.St → Hp → (Int → Int → Hp → Prop) → Prop}
theorem pe_listRR {p p2 pos pos2 : Pos} (hc : X.calm = true) (hg : Gl X "list") (hm : X.mg "list" = none) (hg2 : Gl X "reversed") (hm2 : X.mg "reversed" = none) (he : PRg X e te)
    (hs : starEach [e] X.env = (false, eval e X.env) :: starEach [] X.env := by rfl)
    (hs2 : starEach [.Call (.Name "reversed" p2) [e] [] pos2] X.env = (false, eval (.Call (.Name "reversed" p2) [e] [] pos2) X.env) :: starEach [] X.env := by rfl) :
    PE X (.Call (.Name "list" p) [.Call (.Name "reversed" p2) [e] [] pos2] [] pos) (tLstRR te) := by
  refine ⟨fun pins s σ H Q I h => ?_⟩
  refine Call_ (ld_blt I hg hm boot_list (PyProof.Rows.callWith_type1 (args_cons (Call_ (ld_blt I hg2 hm2 PyProof.Rows.boot_reversed (PyProof.Rows.callWith_type1 (args_cons (thn (he pins s σ H _ I h) fun x s1 ⟨r, a, b, t, u, v, H1, ex, hr, I1, ok, q⟩ => args_nil ?_) hs) hs rfl))) hs2) hs2 rfl))
  subst ex
  obtain ⟨b1, b2, b3, b4, b5⟩ := ok
  have hn : Builtin.Range.rangeSize a b 1 = (((b - a).toNat : Nat) : Int) := rangeSize_nat a b
  refine call_reversed_range hr (smallRev_one b1 b2 b3 b4) (args_nil ?_)
  have k0 : ∀ c o, s1.heap.get? c = some o → (s1.heap.push (rngRevObj a b 1)).get? c = some o := fun c o e => Heap.get?_push_of_some _ e
  have I2 : Inv X pins σ H1 { s1 with heap := s1.heap.push (rngRevObj a b 1) } := I1.kept (t' := s1.toks) k0
  have hit : IsRangeIter (s1.heap.push (rngRevObj a b 1)) s1.heap.objs.size (a + (((b - a).toNat : Nat) : Int) - 1) (((b - a).toNat : Nat) : Int) (-1) := by
    have e1 : a + (((b - a).toNat : Nat) : Int) - 1 = a + (Builtin.Range.rangeSize a b 1 - 1) * 1 := by rw [hn]; omega
    show _ = some _
    rw [e1, ← hn]
    exact Heap.get?_push_size _ rfl
  have hz : (b - a).toNat ≤ sizeLine := by rw [sizeLine_eq]; omega
  refine RR.call_list_ri (s := { s1 with heap := s1.heap.push (rngRevObj a b 1) }) (I1.ok.hd hc) hit hz fun h' tk acc c hk hS hi => ?_
  have hn1 : H1 (s1.heap.push (rngRevObj a b 1)).objs.size = none := I2.hok.fresh (Nat.le_refl _)
  refine ⟨.ref _, upd H1 (s1.heap.push (rngRevObj a b 1)).objs.size (.lst (rrV a b)), I1.laid (t' := tk) (fun c o e => hk c o (Nat.ne_of_lt (Heap.lt_size e)) (k0 c o e)) (by rw [Heap.size_push]; exact Nat.le_succ _) (show ObjOk X.prog X.w _ _ _ (.lst (rrV a b)) from ⟨by rw [rrV_length]; exact hz, acc.toList, c, vals_rr hi, by rw [Array.toArray_toList]; exact hS⟩), rfl, q _ hn1⟩
def eLRR1 (fa : Env → Res D) : Env → Res D := fun g => (fa g).bind fun d => match opd d with
  | .int n => if rgOk n ∧ n ≤ 1000000 then .ok (.ol ((iotaR n.toNat).map D.int)) else .bad
  | _ => .bad
@[simp] theorem eLRR1_ (fa : Env → Res D) (g : Env) : eLRR1 fa g = (fa g).bind fun d => match opd d with
  | .int n => if rgOk n ∧ n ≤ 1000000 then .ok (.ol ((iotaR n.toNat).map D.int)) else .bad
  | _ => .bad := rfl
theorem je_lrr1 {a : Expr} {p p2 p3 pos pos2 q : Pos} {fa : Env → Res D} (c : Cn X W k) (hm : X.mg "list" = none) (hm3 : X.mg "reversed" = none) (hm2 : X.mg "range" = none) (ha : JE X cls W a fa)
    (hg : Gl X "list" := by rfl) (hg3 : Gl X "reversed" := by rfl) (hg2 : Gl X "range" := by rfl) (na : starEach [a] X.env = (false, eval a X.env) :: starEach [] X.env := by rfl)
    (na2 : starEach [.Call (.Name "range" p2) [a] [] q] X.env = (false, eval (.Call (.Name "range" p2) [a] [] q) X.env) :: starEach [] X.env := by rfl)
    (na3 : starEach [.Call (.Name "reversed" p3) [.Call (.Name "range" p2) [a] [] q] [] pos2] X.env = (false, eval (.Call (.Name "reversed" p3) [.Call (.Name "range" p2) [a] [] q] [] pos2) X.env) :: starEach [] X.env := by rfl) :
    JE X cls W (.Call (.Name "list" p) [.Call (.Name "reversed" p3) [.Call (.Name "range" p2) [a] [] q] [] pos2] [] pos) (eLRR1 fa) := by
  obtain ⟨ta, pa, da⟩ := ha.ex
  refine ⟨_, pe_listRR c.calm hg hm hg3 hm3 (prg_1 hg2 hm2 pa na) na2 na3, ?_⟩
  intro σ F H g O Q s st p
  unfold eLRR1 at p
  refine da.go s st (fun c e => by rw [e] at p; exact p) (fun e => by rw [e] at p; exact p) fun d e v F1 H1 x1 b1 => ?_
  rw [e] at p
  simp only [Res.bind] at p
  cases eo : opd d with
  | int n =>
    rw [eo] at p b1
    simp only at p
    split at p
    · rename_i hn
      obtain rfl := b1.int
      refine ⟨n, rfl, ⟨by omega, by omega, hn.1.lo, hn.1.hi, by omega⟩, fun q hq => ?_⟩
      · refine p (.ref q) _ _ [q] (x1.trans (Ext.own x1.fh hq)) ((fresh_new hq).mono x1.hh) (.inl ?_)
        rw [rrV_ints]
        exact ow_new x1.fh hq rps_ints.toOws
    · exact p.elim
  | _ => rw [eo] at p; exact p.elim
end
end DL

namespace DL
open PySem PySem.Spec PyProof.Rows L2
section
variable {P : Program} {w : World} {A : Around} {E : Value → Shared → Prop} {s : Shared}
set_option maxHeartbeats 3200000 in
theorem call_set_tupR {l : Addr} {items : Array Value} (ns : List Int) {Q : Value → Shared → Prop} (hh : A.handled = none) (hl : IsTup s.heap l items) (hit : IntsAre items.toList ns) (hb : ns.length + 1 < scanBound)
    (h : ∀ (h' : Heap) (tk c : Nat), SetR w h' s.heap.objs.size (fun j => decide (j ∈ ns)) c → c ≤ ns.length → (∀ b o, s.heap.get? b = some o → h'.get? b = some o) → Q (.ref s.heap.objs.size) { s with heap := h', toks := tk }) :
    wpAny (model P w) A (call (.type "set") [.ref l]) Q E s := by
  have hisz : items.size = ns.length := by
    have q := IntsAre.length hit
    rwa [Array.length_toList] at q
  obtain ⟨c, tl, hmro⟩ := F.called_set.mro
  have hmade := F.called_set.made
  have hsub := F.called_set.sub
  refine wpAny_call (codeAny_of_tree (wpAny_pure ⟨Code.quiet_builtin _ (by decide +kernel), codeAny_builtin F.entry_type_call ?_⟩))
  rw [Around.under_plain (weight_type_call_type "set" [.ref l] []) rfl]
  have h1 := F.called_set.notType
  have h2 := F.called_set.canCreate
  have hct := F.typeCall_set_1 (.ref l)
  repeat (any_goals (first | assumption | wp_step))
  generalize hO : ({ cls := .type "set", dict := none, data := .set #[] 0 (.fresh 0 0 (!w.params.followText "set-order")) } : Obj) = O
  refine codeAny_mono (code_set_led1 (.ref l) (E := E) (Q₁ := fun obj s₁ => obj = .ref s.heap.objs.size ∧ s₁ = { s with heap := s.heap.push O }) ⟨rfl, by rw [hO]⟩) fun r s₁ hr => ?_
  cases r with
  | error e => exact hr
  | ok fl =>
    cases fl with
    | ret obj =>
      obtain ⟨rfl, rfl⟩ := hr
      have hS : (s.heap.push O).get? s.heap.objs.size = some O := Heap.get?_push_size _ (by rw [← hO]; rfl)
      have hT : Shared.TypeIs { s with heap := s.heap.push O } (.ref s.heap.objs.size) "set" := ⟨_, hS, by rw [← hO]⟩
      have hli := F.called_set.init.lookup
      have hbi := F.called_set.init.bind (.ref s.heap.objs.size)
      repeat (any_goals (first | assumption | wp_step))
      refine codeAny_mono (codeAny_call_builtin (R := wants (fun r s₂ => r = .none ∧ ∃ h' tk c, s₂ = { s with heap := h', toks := tk } ∧ SetR w h' s.heap.objs.size (fun j => decide (j ∈ ns)) c ∧ c ≤ ns.length ∧
          (∀ b o, s.heap.get? b = some o → h'.get? b = some o)) E) F.called_set.init.plain F.entry_set_init (check_set_init_1 hT ?_)) fun r₂ s₂ hr₂ => ?_
      · have hlS : l < s.heap.objs.size := by
          obtain ⟨o, ho, _⟩ := hl
          exact Heap.lt_size ho
        have hl1 : IsTup (s.heap.push O) l items := by
          obtain ⟨o, ho, r⟩ := hl
          exact ⟨o, Heap.get?_push_of_some _ ho, r⟩
        obtain ⟨ol, hol', hcl, n0, hdl⟩ := hl1
        obtain ⟨ocls, odict, odata, oslots⟩ := ol
        simp only at hcl hdl
        subst hcl; subst hdl
        have hl2 : IsTup (s.heap.push O) l items := ⟨_, hol', rfl, _, rfl⟩
        have hsls := F.sub_tuple_set
        have hslf := F.sub_tuple_frozenset
        have hne : (Value.type "tuple" == Value.type "dict") = false := by decide
        have hneI : l ≠ (s.heap.push O).objs.size := by rw [Heap.size_push]; exact Nat.ne_of_lt (Nat.lt_succ_of_lt hlS)
        have hSf : s.heap.objs.size ∉ [(s.heap.push O).objs.size, l] := by
          rw [Heap.size_push]; simp only [List.mem_cons, List.not_mem_nil, or_false, not_or]
          exact ⟨Nat.ne_of_lt (Nat.lt_succ_self _), Nat.ne_of_gt hlS⟩
        subst hO
        unfold Builtin.«set.__init__» noKeywords Builtin.Frozenset.updateFrom
        generalize hPI : pyIter = PI
        wp_walk
        subst hPI
        refine wpAny_pyIter_tuple hl2 ?_
        refine wpAny_bind (wpAny_runValue ?_)
        have hval : ∀ (i : Nat) (v : Value), items[i]? = some v → ∃ k t, ns[i]? = some k ∧ v = .int k t := fun i v hv => by
          have hi : i < ns.length := by rw [← hisz]; exact (Array.getElem?_eq_some_iff.mp hv).1
          obtain ⟨t, e⟩ := PyProof.Rows.IntsAre.int_at hit i v (by rw [Array.getElem?_toList]; exact hv)
          exact ⟨ns[i], t, List.getElem?_eq_getElem hi, by rw [e, List.getD_eq_getElem?_getD, List.getElem?_eq_getElem hi] <;> rfl⟩
        refine set_update_ints ((Walks.tuple (by simp [hh]) _ l hneI items).toS) s.heap.objs.size hSf ns hisz hb hval (items.size - 0) 0 _ (by omega) (Nat.zero_le _)
          ⟨⟨_, Heap.get?_push_size _ rfl, rfl, rfl⟩, (hl2.push _)⟩ ⟨0, Nat.le_refl 0, setR_new_at (Heap.get?_push_of_some _ hS)⟩ fun s' c' hm hc' hS' => ?_
        obtain ⟨h', g2, d', tk', os'⟩ := s'
        have eg : g2 = s.gens := hm.gens
        have ed : d' = s.drawn := hm.drawn
        have eo : os' = s.os := hm.os
        subst eg; subst ed; subst eo
        refine wpAny_pure ?_
        rw [hisz] at hc'
        refine wpAny_pure ⟨rfl, h', tk', c', rfl, hS', hc', fun b o e => ?_⟩
        have hb0 : b < s.heap.objs.size := Heap.lt_size e
        refine hm.heap b o ?_ (Heap.get?_push_of_some _ (Heap.get?_push_of_some _ e))
        simp only [List.mem_cons, List.not_mem_nil, or_false, not_or, Heap.size_push]
        exact ⟨Nat.ne_of_lt hb0, Nat.ne_of_lt (Nat.lt_succ_of_lt hb0)⟩
      · cases r₂ with
        | error e => exact hr₂
        | ok fl₂ =>
          cases fl₂ with
          | ret r =>
            obtain ⟨rfl, h', tk, c', rfl, hS', hc', hk'⟩ := hr₂
            repeat (any_goals (first | assumption | wp_step))
            exact h _ _ _ hS' hc' hk'
          | _ => exact hr₂.elim
    | _ => exact hr.elim
end
end DL

namespace DL
open PySem PySem.Spec PyProof.Rows L2
section
variable {X : Cx} {cls : Cls} {W : WX} {K : PySem.W.Frag} {F H F' H' : Hp}
def tLenST (K : PySem.W.Frag) (ta : TE) : TE := fun σ H Q => ta σ H fun x H1 => ∃ (l : Addr) (ns : List Int), x = V.ref l ∧ SqT K H1 l (ns.map V.int) ∧ ns.length ≤ 4000 ∧ Q (.int (sset ns).length) H1
theorem pe_lenST {a : Expr} {ta : TE} {p p2 q pos : Pos} (hc : X.calm = true) (hg : Gl X "len") (hm : X.mg "len" = none) (hg2 : Gl X "set") (hm2 : X.mg "set" = none) (ha : PE X a ta)
    (na : starEach [a] X.env = (false, eval a X.env) :: starEach [] X.env := by rfl) : PE X (.Call (.Name "len" p) [.Call (.Name "set" p2) [a] [] q] [] pos) (tLenST X.K ta) := by
  refine ⟨fun pins s σ H Q I h => ?_⟩
  refine Call_ (ld_blt I hg hm PySem.boot_len ?_)
  refine PyProof.Rows.callWith_builtin1 (PyProof.Rows.args_cons ?_ rfl) rfl rfl
  refine Call_ (ld_blt I hg2 hm2 PyProof.Rows.boot_set ?_)
  refine PyProof.Rows.callWith_type1 (PyProof.Rows.args_cons (thn (ha.run pins s σ H _ I h) fun v s1 ⟨x, H1, I1, r1, q1⟩ => PyProof.Rows.args_nil ?_) na) na rfl
  obtain ⟨l, ns, rfl, hq, h1, q1⟩ := q1
  cases r1
  obtain ⟨its, r, pl, _⟩ := I1.tuple hq
  refine call_set_tupR ns (I1.ok.hd hc) pl (by simpa using r.ints) (by unfold scanBound; omega) fun h' tk c hS hc' hk => ?_
  have e := setR_len hS
  obtain ⟨o, es, ep, t, ho, hex, hd, g, nd, hm, hb, hf, hn, hr, hl⟩ := hS
  refine PyProof.Rows.args_nil ?_
  have I2 : Inv X pins σ H1 { s1 with heap := h', toks := tk } := I1.kept hk
  exact call_len_set ho hex hd hf (by rw [hn] <;> omega) ⟨.int (sset ns).length, H1, I2.tok _, ⟨_, by rw [hn, e]⟩, q1⟩
def tpI (d : D) : Option (List Int) := match opd d with
  | .tp xs => intsOf xs
  | _ => none
@[simp] theorem tpI_tp (ns : List Int) : tpI (.tp (ns.map D.int)) = some ns := by simp [tpI]
def eLenSetT (fa : Env → Res D) : Env → Res D := fun g => (fa g).bind fun d => match tpI d with
  | some ns => if ns.length ≤ 4000 then .ok (.int (sset ns).length) else .bad
  | none => .bad
@[simp] theorem eLenSetT_ (fa : Env → Res D) (g : Env) : eLenSetT fa g = (fa g).bind fun d => match tpI d with
  | some ns => if ns.length ≤ 4000 then .ok (.int (sset ns).length) else .bad
  | none => .bad := rfl
theorem tpI_ok {v : V} {d : D} {ns : List Int} (s : Same F H) (b : Bo K cls F H v (opd d)) (e : tpI d = some ns) : ∃ a, v = .ref a ∧ SqT K H a (ns.map V.int) := by
  unfold tpI at e
  cases h1 : opd d with
  | tp xs =>
    rw [h1] at e b
    obtain ⟨a, vs, e1, h, _, r⟩ := b.tpv s (xs := xs) rfl
    rw [intsOf_eq e] at r
    rw [r.ints] at h
    exact ⟨a, e1, h⟩
  | _ => rw [h1] at e; cases e
theorem je_lensetT {a : Expr} {p p2 q pos : Pos} {fa : Env → Res D} (c : Cn X W k) (hm : X.mg "len" = none) (hm2 : X.mg "set" = none) (ha : JE X cls W a fa) (hg : Gl X "len" := by rfl) (hg2 : Gl X "set" := by rfl)
    (na : starEach [a] X.env = (false, eval a X.env) :: starEach [] X.env := by rfl) : JE X cls W (.Call (.Name "len" p) [.Call (.Name "set" p2) [a] [] q] [] pos) (eLenSetT fa) := by
  obtain ⟨ta, pa, da⟩ := ha.ex
  refine ⟨_, pe_lenST c.calm hg hm hg2 hm2 pa na, ?_⟩
  intro σ F H g O Q s st p
  unfold eLenSetT at p
  refine da.go s st (fun c e => by rw [e] at p; exact p) (fun e => by rw [e] at p; exact p) fun d e v F1 H1 x1 b1 => ?_
  rw [e] at p
  simp only [Res.bind] at p
  cases eo : tpI d with
  | none => rw [eo] at p; exact p.elim
  | some ns =>
    rw [eo] at p
    simp only at p
    split at p
    · rename_i hz
      obtain ⟨l, rfl, h⟩ := tpI_ok x1.fh b1 eo
      exact ⟨l, ns, rfl, h, hz, p _ F1 H1 [] x1 Fresh.nil (.inl (.sh (.int _)))⟩
    · exact p.elim
end
end DL

namespace DL
open PySem PySem.Spec PyProof.Rows L2
section
variable {κ β : Type} [DecidableEq κ]
def valG (kvs : List (κ × β)) (k : κ) : Option β := (kvs.find? fun kv => decide (kv.1 = k)).map (·.2)
def putG (kvs : List (κ × β)) (k : κ) (v : β) : List (κ × β) :=
  if (kvs.any fun kv => decide (kv.1 = k)) = true then kvs.map (fun kv => if kv.1 = k then (kv.1, v) else kv) else kvs ++ [(k, v)]
end
inductive PR (R : V → D → Prop) : List (Key × V) → List (Key × D) → Prop
  | nil : PR R [] []
  | cons {k : Key} {v : V} {d : D} {l : List (Key × V)} {m : List (Key × D)} : R v d → PR R l m → PR R ((k, v) :: l) ((k, d) :: m)
section
variable {R : V → D → Prop}
theorem PR.any {l : List (Key × V)} {m : List (Key × D)} (h : PR R l m) (k : Key) : (l.any fun kv => decide (kv.1 = k)) = m.any fun kv => decide (kv.1 = k) := by
  induction h with
  | nil => rfl
  | cons r _ ih => simp only [List.any_cons, ih]
theorem PR.val {l : List (Key × V)} {m : List (Key × D)} (h : PR R l m) {k : Key} {d : D} (e : valG m k = some d) : ∃ v, valV l k = some v ∧ R v d := by
  induction h with
  | nil => cases e
  | @cons j v d' l m r t ih =>
    unfold valG at e
    by_cases q : j = k
    · rw [List.find?_cons_of_pos (by simp [q])] at e
      cases e
      exact ⟨v, by unfold valV; rw [List.find?_cons_of_pos (by simp [q])]; rfl, r⟩
    · rw [List.find?_cons_of_neg (by simp [q])] at e
      obtain ⟨v', h1, h2⟩ := ih e
      exact ⟨v', by unfold valV; rw [List.find?_cons_of_neg (by simp [q])]; exact h1, h2⟩
theorem PR.rep {l : List (Key × V)} {m : List (Key × D)} (h : PR R l m) (k : Key) {v : V} {d : D} (r : R v d) : PR R (l.map fun kv => if kv.1 = k then (kv.1, v) else kv) (m.map fun kv => if kv.1 = k then (kv.1, d) else kv) := by
  induction h with
  | nil => exact .nil
  | @cons j v' d' l m r' t ih =>
    simp only [List.map_cons]
    by_cases q : j = k
    · rw [if_pos q, if_pos q]; exact .cons r ih
    · rw [if_neg q, if_neg q]; exact .cons r' ih
theorem PR.snoc {l : List (Key × V)} {m : List (Key × D)} (h : PR R l m) (k : Key) {v : V} {d : D} (r : R v d) : PR R (l ++ [(k, v)]) (m ++ [(k, d)]) := by
  induction h with
  | nil => exact .cons r .nil
  | cons r' t ih => exact .cons r' ih
theorem PR.put {l : List (Key × V)} {m : List (Key × D)} (h : PR R l m) (k : Key) {v : V} {d : D} (r : R v d) : PR R (putK l k v) (putG m k d) := by
  unfold putK putG
  rw [h.any k]
  split
  · exact h.rep k r
  · exact h.snoc k r
theorem PR.zipE {l : List (Key × V)} {m : List (Key × D)} (h : PR R l m) : l = (m.map (·.1)).zip (l.map (·.2)) ∧ (m.map (·.1)).length = (l.map (·.2)).length ∧ l.length = m.length := by
  induction h with
  | nil => exact ⟨rfl, rfl, rfl⟩
  | cons r t ih =>
    obtain ⟨h1, h2, h3⟩ := ih
    refine ⟨?_, by simp [h3], by simp [h3]⟩
    simp only [List.map_cons, List.zip_cons_cons]
    rw [← h1]
end
section
variable {K : PySem.W.Frag} {cls : Cls} {F H F' H' : Hp} {X : Cx} {W : WX} {O : List Addr}
theorem pr_bos : ∀ {ks : List Key} {vs : List V} {ds : List D}, Bos K cls F H vs ds → ks.length = vs.length → PR (Bo K cls F H) (ks.zip vs) (ks.zip ds)
  | [], _, _, _, _ => .nil
  | k :: ks, _, _, .cons a b, h => .cons a (pr_bos b (by simpa using h))
  | k :: ks, _, _, .nil, h => by simp at h
theorem ows_sh : ∀ {vs : List V} {ds : List D} {O : List Addr}, Ows K cls F H vs ds O → (ds.all fun d => !own1 d) = true → O = [] ∧ Rps K cls F vs ds
  | _, _, _, .nil, _ => ⟨rfl, .nil⟩
  | _, _, _, .cons a b dj e, h => by
    simp only [List.all_cons, Bool.and_eq_true] at h
    obtain ⟨h1, h2⟩ := ows_sh b h.2
    cases a with
    | sh r => exact ⟨by rw [e, h1]; rfl, .cons r h2⟩
    | _ => simp [own1] at h
theorem pr_rps : ∀ {ks : List Key} {vs : List V} {ds : List D}, Rps K cls F vs ds → ks.length = vs.length → PR (Rp K cls F) (ks.zip vs) (ks.zip ds)
  | [], _, _, _, _ => .nil
  | k :: ks, _, _, .cons a b, h => .cons a (pr_rps b (by simpa using h))
  | k :: ks, _, _, .nil, h => by simp at h
theorem PR.rps {l : List (Key × V)} {m : List (Key × D)} (h : PR (Rp K cls F) l m) : Rps K cls F (l.map (·.2)) (m.map (·.2)) := by
  induction h with
  | nil => exact .nil
  | cons r t ih => exact .cons r ih
def eDic : Env → Res D := fun _ => .ok (.od [] [])
@[simp] theorem eDic_ (g : Env) : eDic g = .ok (.od [] []) := rfl
theorem je_dic {pos : Pos} : JE X cls W (.Dict [] [] pos) eDic := by
  refine ⟨_, pe_dnewK, ?_⟩
  intro σ F H g O Q s st p q hq
  refine p (.ref q) F _ [q] (Ext.own s hq) (fresh_new hq) (.inl ?_)
  exact .od (O := []) (s.free hq) (by rw [upd_same]; rfl) rfl (fun h => nomatch h) .nil
def opDG : D → D → Option D
  | .bd ks ds, .int k => valG (ks.zip ds) (.inl k)
  | _, _ => none
def rDG : V → V → Hp → VK → Prop := fun x y H Q => ∃ a v, x = .ref a ∧ DGet H a y (some v) ∧ Q v H
theorem ok_dg : R2Ok K cls rDG opDG := by
  intro F H x y a b d Q s b1 b2 e q
  unfold opDG at e
  split at e
  · rename_i ks ds k
    obtain rfl := b2.int
    cases b1 with
    | sh r => cases r
    | @bd a' _ vs _ h l r =>
      obtain ⟨v, h1, h2⟩ := (pr_bos r l).val e
      refine ⟨a', v, rfl, ?_, q v F H [] (.refl s) Fresh.nil (.inr ⟨h2, rfl⟩)⟩
      rw [← h1]
      exact DGet.k (k := .inl k) h
  · cases e
theorem je_dget {a b : Expr} {fa fb : Env → Res D} {k : Nat} {pos : Pos} (c : Cn X W k) (ha : JE X cls W a fa) (hb : JE X cls W b fb) (hs : NoSl b := by exact fun _ _ => rfl) : JE X cls W (.Subscript a b pos) (eBin opDG fa fb) := by
  obtain ⟨ta, pa, da⟩ := ha.ex
  obtain ⟨tb, pb, db⟩ := hb.ex
  have hu := c.eq
  exact ⟨tOp rDG ta tb, pe_dget (by omega) pa pb hs, de_bin ok_dg da db⟩
theorem Sts.dct {g : Env} {i : Nat} {ks : List Key} {xs : List D} {σ : L2.St} (st : Sts K cls F H σ g O) (e : g[i]? = some (.od ks xs)) : ∃ p vs O1, σ[i]? = some (some (.ref p)) ∧ H p = some (.dK (ks.zip vs)) ∧ ks.length = vs.length ∧ F p = none ∧ Ows K cls F H vs xs O1 ∧
    ∀ (F' H' : Hp) (ks' : List Key) (ws : List V) (ys : List D), Ext F H F' H' → Rps K cls F' ws ys → ks'.length = ws.length →
      ∃ O'', Sts K cls F' (upd H' p (.dK (ks'.zip ws))) σ (g.set i (.od ks' ys)) O'' ∧ SExt F H O F' (upd H' p (.dK (ks'.zip ws))) O'' := by
  obtain ⟨P, h1, h2, h3, _⟩ := st.at i (List.getElem?_eq_some_iff.mp e).1
  rcases h2 with ⟨h2, _⟩ | ⟨v, d, h2, h2', ow⟩
  · rw [e] at h2; cases h2
  · rw [e] at h2'; cases h2'
    cases ow with
    | sh r => cases r
    | @od p _ vs _ O1 f1 f2 fl f3 f4 =>
      refine ⟨p, vs, O1, h2, f2, fl, f1, f4, fun F' H' ks' ws ys x w hl => ?_⟩
      have hp : F' p = none := x.ow p f1 (by rw [f2]; exact fun e => nomatch e)
      have up : ∀ b, b ≠ p → upd H' p (.dK (ks'.zip ws)) b = H' b := fun b hb => upd_ne hb
      obtain ⟨O'', q1, q2⟩ := h3 F' (upd H' p (.dK (ks'.zip ws))) (.ref p) (.od ks' ys) [p] (fun b hb hn => by
          obtain ⟨e1, e2⟩ := x.get (st.dom b hb).1 (st.dom b hb).2
          exact ⟨(up b fun z => hn (by simp [z])).trans e1, e2⟩) x.ff
        (.od (O := []) hp upd_same hl (fun h => nomatch h) w.toOws) (fun a ha hO => by
          rcases List.mem_cons.mp ha with rfl | ha
          · simp
          · exact nomatch ha)
      rw [set_self h2] at q1
      refine ⟨O'', q1, x.ff, fun b o q => ?_, fun b o q hn => ?_, fun b h1 h2 _ => x.ow b h1 h2, fun b hb => ?_⟩
      · rw [up b fun z => by rw [z, hp] at q; cases q]; exact x.fh b o q
      · rw [up b fun z => hn (z ▸ h1 p (by simp))]; exact x.hh b o q
      · rcases q2 b hb with z | z
        · exact .inl z
        · rcases List.mem_cons.mp z with rfl | z
          · exact .inl (h1 _ (by simp))
          · exact nomatch z
def sDSet (i : Nat) (fk fa : Env → Res D) : Env → Out := fun g => ((fa g).bind kp).st g fun d => match g[i]? with
  | some (.od ks xs) => (fk g).st g fun k => match opd k with
    | .int k => if xs.all (fun d => !own1 d) = true ∧ own1 d = false ∧ ks.length < lim then .nx (g.set i (.od ((putG (ks.zip xs) (.inl k) d).map (·.1)) ((putG (ks.zip xs) (.inl k) d).map (·.2)))) else .bad
    | _ => .bad
  | _ => .bad
@[simp] theorem sDSet_ (i : Nat) (fk fa : Env → Res D) (g : Env) : sDSet i fk fa g = ((fa g).bind kp).st g fun d => match g[i]? with
  | some (.od ks xs) => (fk g).st g fun k => match opd k with
    | .int k => if xs.all (fun d => !own1 d) = true ∧ own1 d = false ∧ ks.length < lim then .nx (g.set i (.od ((putG (ks.zip xs) (.inl k) d).map (·.1)) ((putG (ks.zip xs) (.inl k) d).map (·.2)))) else .bad
    | _ => .bad
  | _ => .bad := rfl
theorem js_dset {a b : Expr} {fa : Env → Res D} {pos : Pos} {i k : Nat} {x : Str} {npos spos : Pos} {fk : Env → Res D} (c : Cn X W k) (hN : X.N[i]? = some x) (hv : Vis X.env.scope x) (ha : JE X cls W a fa) (hk : JE X cls W b fk) (hd : (x == ("__debug__" : Str)) = false := by decide) (hcd : (x == ("__classdict__" : Str)) = false := by decide)
    (hs : swapsWith a (some (.Subscript (.Name x npos) b spos)) pos.line X.env = pure false := by rfl) : JS X cls W (.Assign [.Subscript (.Name x npos) b spos] a pos) (sDSet i fk fa) := by
  obtain ⟨t, p, d⟩ := ha.ex
  obtain ⟨t2, p2, d2⟩ := hk.ex
  have hu := c.eq
  refine ⟨_, ps_dput (by omega) (pe_var hN hv hd hcd) p2 p hs, ?_⟩
  intro D σ F H g O s st p
  rw [sDSet_] at p
  refine d.goS s st p fun dd e p v F1 H1 O2 x fr w => ?_
  split at p
  · rename_i ks xs eg
    obtain ⟨q, vs, O1, h1, h2, hl, h2', h4, h7⟩ := st.dct eg
    refine ⟨.ref q, h1, ?_⟩
    refine d2.go x.fh (st.ext x) (fun c e F' H' y => by rw [e] at p; exact p σ F' H' O ((x.trans y).sext fun a h => .inl h) (st.ext (x.trans y))) (fun e => by rw [e] at p; exact p) fun kd e kv F3 H3 x3 b3 => ?_
    rw [e, Res.st_ok] at p
    split at p
    · rename_i k ek
      split at p
      · rename_i hc
        obtain ⟨c1, c2, c3⟩ := hc
        rw [ek] at b3
        obtain rfl := b3.int
        have x13 := x.trans x3
        obtain ⟨rfl, r1⟩ := ows_sh (h4.ext x13) c1
        have rd : Rp X.K cls F3 v dd := by
          cases w with
          | sh r => exact r.mono x3.ff
          | _ => simp [own1] at c2
        have pr := (pr_rps r1 hl).put (.inl k) rd
        obtain ⟨z1, z2, z3⟩ := pr.zipE
        have lz : (ks.zip vs).length < sizeLine := by
          have : (ks.zip vs).length ≤ ks.length := by rw [List.length_zip]; exact Nat.min_le_left _ _
          have := lim_lt c3
          omega
        refine ⟨q, _, rfl, DPut.k (k := .inl k) (x13.hh _ _ h2) lz, ?_⟩
        obtain ⟨O'', y1, y2⟩ := h7 F3 H3 ((putG (ks.zip xs) (.inl k) dd).map (·.1)) ((putK (ks.zip vs) (.inl k) v).map (·.2)) ((putG (ks.zip xs) (.inl k) dd).map (·.2)) x13 pr.rps z2
        rw [← z1] at y1 y2
        exact p σ F3 _ O'' y2 y1
      · exact p.elim
    · exact p.elim
  · exact p.elim
end
def ddK (l : List (Int × D)) : List Key := l.map fun x => .inl x.1
def ddV (l : List (Int × D)) : List D := l.map (·.2)
theorem zip_ddK (l : List (Int × D)) : (ddK l).zip (ddV l) = l.map fun x => ((.inl x.1 : Key), x.2) := by
  unfold ddK ddV
  induction l with
  | nil => rfl
  | cons a l ih => simp [ih]
theorem put_ddK (l : List (Int × D)) (k : Int) (d : D) : putG ((ddK l).zip (ddV l)) (.inl k) d = (ddK (putG l k d)).zip (ddV (putG l k d)) := by
  rw [zip_ddK, zip_ddK]
  unfold putG
  have e : ((l.map fun x => ((.inl x.1 : Key), x.2)).any fun kv => decide (kv.1 = .inl k)) = l.any fun kv => decide (kv.1 = k) := by
    rw [List.any_map]; congr 1; funext x; simp
  rw [e]
  split
  · rw [List.map_map, List.map_map]
    refine List.map_congr_left fun x _ => ?_
    by_cases q : x.1 = k <;> simp [q]
  · simp
theorem putD_k (l : List (Int × D)) (k : Int) (d : D) : (putG ((ddK l).zip (ddV l)) (.inl k) d).map (·.1) = ddK (putG l k d) := by
  rw [put_ddK, List.map_fst_zip]; simp [ddK, ddV]
theorem putD_d (l : List (Int × D)) (k : Int) (d : D) : (putG ((ddK l).zip (ddV l)) (.inl k) d).map (·.2) = ddV (putG l k d) := by
  rw [put_ddK, List.map_snd_zip]; simp [ddK, ddV]
theorem opDG_dd (l : List (Int × D)) (k : Int) : opDG (.bd (ddK l) (ddV l)) (.int k) = valG l k := by
  show valG ((ddK l).zip (ddV l)) (.inl k) = _
  rw [zip_ddK]
  induction l with
  | nil => rfl
  | cons a l ih =>
    unfold valG at ih ⊢
    by_cases q : a.1 = k
    · rw [List.map_cons, List.find?_cons_of_pos (by simp [q]), List.find?_cons_of_pos (by simp [q])]; rfl
    · rw [List.map_cons, List.find?_cons_of_neg (by simp [q]), List.find?_cons_of_neg (by simp [q])]; exact ih
end DL
namespace DL
end DL

namespace DL
open PySem PySem.Spec PyProof.Rows L2
section
variable {K : PySem.W.Frag} {cls : Cls} {W : WX} {X : Cx} {F H F' H' : Hp} {O : List Addr} {a b e tg iter elt : Expr} {fs : Env → Res (List D)} {fa fb : Env → Res D} {pos : Pos}
def sAsgI (i : Nat) (fa : Env → Res D) : Env → Out := fun g => ((fa g).bind kp).st g fun d => match d with
  | .ol xs => if nods xs = true then .nx (g.set i (.ol (frzs xs))) else .bad
  | _ => .bad
@[simp] theorem sAsgI_ (i : Nat) (fa : Env → Res D) (g : Env) : sAsgI i fa g = ((fa g).bind kp).st g fun d => match d with
  | .ol xs => if nods xs = true then .nx (g.set i (.ol (frzs xs))) else .bad
  | _ => .bad := rfl
theorem ds_asgI {t : TE} {i : Nat} (d : DE K cls W t fa) : DS K cls W (tAsg t (gName i)) (sAsgI i fa) := by
  intro D σ F H g O s st p
  rw [sAsgI_] at p
  refine d.goS s st p fun dd e p v F1 H1 O1 x fr w => ?_
  cases dd with
  | ol xs =>
    simp only at p
    split at p
    · rename_i n
      cases w with
      | sh r => cases r
      | @ol q vs _ O2 f1 f2 f3 f4 =>
        have no : ∀ a ∈ O2, F1 a = none := fun a ha => (f4.dom a ha).1
        have fr2 : Fresh H O2 := fun a ha => fr a (List.mem_cons_of_mem _ ha)
        have x2 := addF_ext x fr2 no
        have r := f4.freeze (addF_same no) addF_at n
        have ow : Ow K cls (addF F1 H1 O2) H1 (.ref q) (.ol (frzs xs)) [q] := .ol (O := []) (by rw [addF_no f3]; exact f1) f2 (fun h => nomatch h) r.toOws
        obtain ⟨O'', q1, q2⟩ := st.put (i := i) x2 (fun a ha => fr a (by rw [List.mem_singleton.mp ha]; exact List.mem_cons_self ..)) ow
        exact p _ _ _ O'' q2 q1
    · exact p.elim
  | _ => exact p.elim
theorem js_setLcI {i : Nat} {y : Str} {py spos : Pos} {ifs : List Expr} {scope : Scope} {ft : D → Env → Option Env} {gt : Env → Res Bool} {fe : Env → Res D} {ss : List Nat} {k : Nat} (own : List (Str × Nat)) (c : Cn X W k) (hy : X.N[i]? = some y) (hyl : X.env.scope.names.lookup y = some .local)
    (hsw : swapsWith (.ListComp elt [⟨tg, iter, ifs, 0⟩] scope pos) (some (.Name y py)) spos.line X.env = pure true) (hi : JI X cls W tg iter fs) (ok : BlkOk X.N X.env.scope scope own)
    (hg : ∀ (s : Shared) (H : Hp) (C : Addr) (cl : List (Str × Addr)) (fp : List Addr), JG (X.blk s H scope (compEnvC scope cl C X.env) fp) cls tg ft ss)
    (ht : ∀ (s : Shared) (H : Hp) (C : Addr) (cl : List (Str × Addr)) (fp : List Addr), Cn (X.blk s H scope (compEnvC scope cl C X.env) fp) W0 k → JTs (X.blk s H scope (compEnvC scope cl C X.env) fp) cls W0 ifs gt)
    (he : ∀ (s : Shared) (H : Hp) (C : Addr) (cl : List (Str × Addr)) (fp : List Addr), Cn (X.blk s H scope (compEnvC scope cl C X.env) fp) W0 k → JE (X.blk s H scope (compEnvC scope cl C X.env) fp) cls W0 elt fe)
    (hss : ∀ i ∈ ss, i ∈ own.map (·.2)) (hs : ∀ x, foldedSetIterable iter X.env x = pure x := by intro _; rfl) :
    JS X cls W (.Assign [.Name y py] (.ListComp elt [⟨tg, iter, ifs, 0⟩] scope pos) spos) (sAsgI i (eLc fs (own.map (·.2)) ft gt fe)) := by
  obtain ⟨wi, p, d⟩ := hi.ex
  exact ⟨_, ps_setLc (own := own) c.calm c.nd hy hyl hsw p ok (fun s H C cl fp => (hg s H C cl fp).canon) (fun s H C cl fp => (ht s H C cl fp c.blk).canon) (fun s H C cl fp => (he s H C cl fp c.blk).canon) hs, ds_asgI (de_lc d dg_cG dt_cT de_cE hss)⟩

def sSwp (i : Nat) (fk fl fa : Env → Res D) : Env → Out := fun g => ((fa g).bind kp).st g fun d => if nod d = true then match frz d, g[i]? with
  | .tp [d1, d2], some (.ol xs) => match fk g with
    | .ok k => match opd k with
      | .int k => match ixN xs.length k with
        | some j => match fl (g.set i (.ol (xs.set j d1))) with
          | .ok l => match opd l with
            | .int l => match ixN (xs.set j d1).length l with
              | some m => .nx (g.set i (.ol ((xs.set j d1).set m d2)))
              | none => .bad
            | _ => .bad
          | _ => .bad
        | none => .bad
      | _ => .bad
    | _ => .bad
  | _, _ => .bad else .bad
@[simp] theorem sSwp_ (i : Nat) (fk fl fa : Env → Res D) (g : Env) : sSwp i fk fl fa g = ((fa g).bind kp).st g fun d => if nod d = true then match frz d, g[i]? with
  | .tp [d1, d2], some (.ol xs) => match fk g with
    | .ok k => match opd k with
      | .int k => match ixN xs.length k with
        | some j => match fl (g.set i (.ol (xs.set j d1))) with
          | .ok l => match opd l with
            | .int l => match ixN (xs.set j d1).length l with
              | some m => .nx (g.set i (.ol ((xs.set j d1).set m d2)))
              | none => .bad
            | _ => .bad
          | _ => .bad
        | none => .bad
      | _ => .bad
    | _ => .bad
  | _, _ => .bad else .bad := rfl
theorem de_at {i : Nat} {t2 : TE} {fk : Env → Res D} (d2 : DE X.K cls W t2 fk) {σ : L2.St} {g : Env} {O : List Addr} {xs : List D} {k : Int} {j : Nat} {kd : D} {v : V} {dd : D} (s : Same F H) (st : Sts X.K cls F H σ g O) (eg : g[i]? = some (.ol xs)) (ek : fk g = .ok kd) (ek2 : opd kd = .int k) (ej : ixN xs.length k = some j)
    (r : Rp X.K cls F v dd) {Q : L2.St → Hp → Prop} (q : ∀ F' H' O', SExt F H O F' H' O' → Sts X.K cls F' H' σ (g.set i (.ol (xs.set j dd))) O' → Q σ H') : gSub (tVar i) t2 rSetL v σ H Q := by
  obtain ⟨p, vs, O1, h1, h2, h2', h3, h4, h5, h6, h7⟩ := st.lst eg
  refine ⟨.ref p, h1, ?_⟩
  refine d2.go s st (fun c e => by rw [ek] at e; cases e) (fun e => by rw [ek] at e; cases e) fun kd' e kv F3 H3 x3 b3 => ?_
  rw [ek] at e
  cases e
  rw [ek2] at b3
  obtain rfl := b3.int
  refine ⟨p, vs, k, j, rfl, rfl, x3.hh _ _ h2, by rw [h4.len]; exact ej, ?_⟩
  obtain ⟨O3, w3, n3⟩ := (h4.ext x3).set j (.sh (r.mono x3.ff) : Ow X.K cls F3 H3 v dd []) fun a _ q2 => nomatch q2
  obtain ⟨O'', z1, z2⟩ := h7 F3 H3 (vs.set j v) (xs.set j dd) O3 x3 w3 (fun z => by
    rcases n3 _ z with z | z
    · exact h3 z
    · exact nomatch z) (fun a z => (n3 a z).imp id (fun z => nomatch z))
  exact q F3 _ O'' z2 z1
theorem js_swp {i k kt : Nat} {x : Str} {n1 n2 s1 s2 pt : Pos} {b1 b2 : Expr} {fk fl : Env → Res D} (c : Cn X W k) (hN : X.N[i]? = some x) (hv : Vis X.env.scope x) (ha : JE X cls W a fa) (hk : JE X cls W b1 fk) (hl : JE X cls W b2 fl)
    (hd : (x == ("__debug__" : Str)) = false := by decide) (hcd : (x == ("__classdict__" : Str)) = false := by decide)
    (hs : swapsWithSole [.Tuple [.Subscript (.Name x n1) b1 s1, .Subscript (.Name x n2) b2 s2] kt pt] a pos.line X.env = pure false := by rfl)
    (hw : swappedStores [.Tuple [.Subscript (.Name x n1) b1 s1, .Subscript (.Name x n2) b2 s2] kt pt] a X.env = pure none := by rfl)
    (h1 : (assignEach [.Tuple [.Subscript (.Name x n1) b1 s1, .Subscript (.Name x n2) b2 s2] kt pt] X.env).map (·.2) = [assign (.Tuple [.Subscript (.Name x n1) b1 s1, .Subscript (.Name x n2) b2 s2] kt pt) X.env] := by rfl)
    (ha1 : ∀ v, assign (.Subscript (.Name x n1) b1 s1) X.env v = (do
      let ov ← holding [v] (eval (.Name x n1) X.env)
      let iv ← holding [v, ov] (eval b1 X.env)
      standAt s1
      holding [v, ov, iv] (setItem ov iv v)
      release [v, ov, iv] []) := by intro _; rfl)
    (ha2 : ∀ v, assign (.Subscript (.Name x n2) b2 s2) X.env v = (do
      let ov ← holding [v] (eval (.Name x n2) X.env)
      let iv ← holding [v, ov] (eval b2 X.env)
      standAt s2
      holding [v, ov, iv] (setItem ov iv v)
      release [v, ov, iv] []) := by intro _; rfl)
    (he1 : (assignEach [.Subscript (.Name x n1) b1 s1, .Subscript (.Name x n2) b2 s2] X.env).map (·.2) = assign (.Subscript (.Name x n1) b1 s1) X.env :: (assignEach [.Subscript (.Name x n2) b2 s2] X.env).map (·.2) := by rfl)
    (he2 : (assignEach [.Subscript (.Name x n2) b2 s2] X.env).map (·.2) = assign (.Subscript (.Name x n2) b2 s2) X.env :: (assignEach [] X.env).map (·.2) := by rfl)
    (hn : (assignEach [.Subscript (.Name x n1) b1 s1, .Subscript (.Name x n2) b2 s2] X.env).length = 2 := by rfl) (hst : (assignEach [.Subscript (.Name x n1) b1 s1, .Subscript (.Name x n2) b2 s2] X.env).findIdx? (·.1) = none := by rfl) :
    JS X cls W (.Assign [.Tuple [.Subscript (.Name x n1) b1 s1, .Subscript (.Name x n2) b2 s2] kt pt] a pos) (sSwp i fk fl fa) := by
  obtain ⟨t, p, d⟩ := ha.ex
  obtain ⟨t2, p2, d2⟩ := hk.ex
  obtain ⟨t3, p3, d3⟩ := hl.ex
  refine ⟨_, ps_asg p (pg_tup c.calm (pgs_cons (pg_sub (pe_var hN hv hd hcd) p2 set_list ha1) (pgs_cons (pg_sub (pe_var hN hv hd hcd) p3 set_list ha2) pgs_nil he2) he1) hn hst) hs hw h1, ?_⟩
  intro D σ F H g O s st p
  rw [sSwp_] at p
  refine d.goS s st p fun dd e p v F1 H1 O1 x fr w => ?_
  split at p
  · rename_i n
    have no : ∀ a ∈ O1, F1 a = none := fun a ha => (w.dom a ha).1
    have x2 := addF_ext x fr no
    have r := w.freeze (addF_same no) addF_at n
    split at p
    · rename_i d1 d2' xs ed eg
      rw [ed] at r
      cases r with
      | tp hT hr =>
        cases hr with
        | cons r1 hr =>
          cases hr with
          | cons r2 hr =>
            cases hr
            refine ⟨_, _, rfl, sameT x2.fh hT, rfl, ?_⟩
            split at p
            · rename_i kd ek
              split at p
              · rename_i k ek2
                split at p
                · rename_i j ej
                  split at p
                  · rename_i ld el
                    split at p
                    · rename_i l el2
                      split at p
                      · rename_i m em
                        refine ⟨_, _, rfl, ?_⟩
                        refine de_at (F := addF F1 H1 O1) (H := H1) d2 x2.fh (st.ext x2) eg ek ek2 ej r1 fun F3 H3 O3 x3 st3 => ?_
                        refine ⟨_, _, rfl, ?_⟩
                        have eg3 : (g.set i (.ol (xs.set j d1)))[i]? = some (.ol (xs.set j d1)) := by
                          rw [List.getElem?_set_self (List.getElem?_eq_some_iff.mp eg).1]
                        refine de_at (F := F3) (H := H3) d3 x3.fh st3 eg3 el el2 em (r2.mono x3.ff) fun F4 H4 O4 x4 st4 => ?_
                        refine ⟨rfl, ?_⟩
                        rw [List.set_set] at st4
                        exact p _ F4 H4 O4 (((x2.sext fun a h => .inl h).trans x3).trans x4) st4
                      · exact p.elim
                    · exact p.elim
                  · exact p.elim
                · exact p.elim
              · exact p.elim
            · exact p.elim
    · exact p.elim
  · exact p.elim
def rGetL : V → V → Hp → VK → Prop := fun x y H Q => ∃ p xs i v, x = .ref p ∧ y = .int i ∧ H p = some (.lst xs) ∧ 0 ≤ i ∧ i < 1000000000 ∧ xs[i.toNat]? = some v ∧ Q v H
theorem get_list0 : PGet X rGetL := by
  intro pins s σ H o i ov iv Q I ro ri h
  obtain ⟨p, xs, k, v, rfl, rfl, hp, h0, h1, hx, q⟩ := h
  cases ro
  obtain ⟨t, rfl⟩ := ri
  obtain ⟨its, r, pl, hz⟩ := I.list (SqL.of hp)
  obtain ⟨w, ew, rw'⟩ := r.get hx
  exact wpAny_getItem_list pl.isList h0 (by omega) (by simpa using ew) ⟨v, H, I, rw', q⟩
def sAug2 (op : Int → Int → Int) (i j1 j2 : Nat) (fa : Env → Res D) : Env → Out := fun g => match g[i]?, g[j1]?, g[j2]? with
  | some (.ol xs), some (.int k1), some (.int k2) => match ixN xs.length k1 with
    | some z => match xs[z]? with
      | some (.ol ys) => if 0 ≤ k2 ∧ k2 < 1000000000 then match ys[k2.toNat]? with
        | some (.int n) => (fa g).st g fun d => match opd d with
          | .int b => .nx (g.set i (.ol (xs.set z (.ol (ys.set k2.toNat (.int (op n b)))))))
          | _ => .bad
        | _ => .bad else .bad
      | _ => .bad
    | none => .bad
  | _, _, _ => .bad
@[simp] theorem sAug2_ (op : Int → Int → Int) (i j1 j2 : Nat) (fa : Env → Res D) (g : Env) : sAug2 op i j1 j2 fa g = match g[i]?, g[j1]?, g[j2]? with
  | some (.ol xs), some (.int k1), some (.int k2) => match ixN xs.length k1 with
    | some z => match xs[z]? with
      | some (.ol ys) => if 0 ≤ k2 ∧ k2 < 1000000000 then match ys[k2.toNat]? with
        | some (.int n) => (fa g).st g fun d => match opd d with
          | .int b => .nx (g.set i (.ol (xs.set z (.ol (ys.set k2.toNat (.int (op n b)))))))
          | _ => .bad
        | _ => .bad else .bad
      | _ => .bad
    | none => .bad
  | _, _, _ => .bad := rfl
theorem Sts.intAt {σ : L2.St} {g : Env} {j : Nat} {n : Int} (st : Sts K cls F H σ g O) (e : g[j]? = some (.int n)) : σ[j]? = some (some (.int n)) := by
  obtain ⟨P, _, h2, _⟩ := st.at j (List.getElem?_eq_some_iff.mp e).1
  rcases h2 with ⟨h2, _⟩ | ⟨v, d, h2, h2', ow⟩
  · rw [e] at h2; cases h2
  · rw [e] at h2'; cases h2'
    obtain ⟨rfl, _⟩ := ow.int
    exact h2
theorem Ows.intAt : ∀ {vs : List V} {ds : List D} {O : List Addr} {k : Nat} {n : Int}, Ows K cls F H vs ds O → ds[k]? = some (.int n) → vs[k]? = some (.int n)
  | _, _, _, _, _, .nil, e => by simp at e
  | _, _, _, 0, _, .cons h r dj eo, e => by
    simp at e
    subst e
    obtain ⟨rfl, _⟩ := h.int
    rfl
  | _, _, _, k + 1, _, .cons h r dj eo, e => by
    simp at e ⊢
    exact r.intAt e
theorem js_aug2 {i j1 j2 : Nat} {x y1 y2 : Str} {npos p1 p2 ip tpos : Pos} {o : Operator} {op : Int → Int → Int} (ho : PIp X o (ipI op)) (hN : X.N[i]? = some x) (hv : Vis X.env.scope x) (hN1 : X.N[j1]? = some y1) (hv1 : Vis X.env.scope y1) (hN2 : X.N[j2]? = some y2) (hv2 : Vis X.env.scope y2) (ha : JE X cls W a fa)
    (hd : (x == ("__debug__" : Str)) = false := by decide) (hcd : (x == ("__classdict__" : Str)) = false := by decide) (hd1 : (y1 == ("__debug__" : Str)) = false := by decide) (hcd1 : (y1 == ("__classdict__" : Str)) = false := by decide)
    (hd2 : (y2 == ("__debug__" : Str)) = false := by decide) (hcd2 : (y2 == ("__classdict__" : Str)) = false := by decide)
    (hps : PlainIx (.Name y1 p1) := by exact fun _ _ => rfl)
    (hst : ∀ ov iv new, augStore (.Name y2 p2) ov iv new = (do holding [new, ov, iv] (setItem ov iv new); release [new, ov, iv] []; pure .next) := by intros; rfl) :
    JS X cls W (.AugAssign (.Subscript (.Subscript (.Name x npos) (.Name y1 p1) ip) (.Name y2 p2) tpos) o a pos) (sAug2 op i j1 j2 fa) := by
  obtain ⟨t, p, d⟩ := ha.ex
  refine ⟨_, ps_augS (pe_ix ix_list (pe_var hN hv hd hcd) (pe_var hN1 hv1 hd1 hcd1) hps) (pe_var hN2 hv2 hd2 hcd2) get_list0 p ho set_list hst, ?_⟩
  intro D σ F H g O s st p
  rw [sAug2_] at p
  split at p
  · rename_i xs k1 k2 eg e1' e2'
    split at p
    · rename_i z ez
      split at p
      · rename_i ys ey
        split at p
        · rename_i hk
          split at p
          · rename_i n en
            obtain ⟨P, e1, e2, e3, _⟩ := st.at i (List.getElem?_eq_some_iff.mp eg).1
            rcases e2 with ⟨e2, _⟩ | ⟨v, dd, e2, e2'', ow⟩
            · rw [eg] at e2; cases e2
            · rw [eg] at e2''; cases e2''
              cases ow with
              | sh r => cases r
              | @ol q vs _ O1 f1 f2 f3 f4 =>
                obtain ⟨r, us, O2, g1, g2, g3, g4, g5, g6, g7, g8⟩ := f4.inner ey
                have hix : atI vs k1 = some (.ref r) := by
                  unfold atI; rw [f4.len, ez]; exact g1
                refine ⟨.ref q, e2, .int k1, st.intAt e1', ⟨q, vs, k1, .ref r, rfl, rfl, SqL.of f2, hix, ?_⟩⟩
                refine ⟨.int k2, st.intAt e2', ?_⟩
                have hu : us[k2.toNat]? = some (.int n) := g5.intAt en
                have hlt := (List.getElem?_eq_some_iff.mp hu).1
                refine ⟨r, us, k2, .int n, rfl, rfl, g2, hk.1, hk.2, hu, ?_⟩
                refine d.go s st (fun c e => by rw [e] at p; exact xc_st st p) (fun e => by rw [e] at p; exact p) fun dd e v F1 H1 x b => ?_
                rw [e, Res.st_ok] at p
                split at p
                · rename_i b' eb
                  rw [eb] at b
                  obtain rfl := b.int
                  refine ⟨n, b', rfl, rfl, r, us, k2, k2.toNat, rfl, rfl, x.hh _ _ g2, ixN_nat hk.1 (by omega), ?_⟩
                  obtain ⟨O3, w3, n3⟩ := (g5.ext x).set k2.toNat (.sh (.int (op n b')) : Ow X.K cls F1 H1 (.int (op n b')) (.int (op n b')) []) fun a _ q2 => nomatch q2
                  obtain ⟨O4, w1, w2⟩ := g8 F1 H1 (us.set k2.toNat (.int (op n b'))) (ys.set k2.toNat (.int (op n b'))) O3 x w3 (fun z => by
                    rcases n3 _ z with z | z
                    · exact g4 z
                    · exact nomatch z) (fun a z => (n3 a z).imp id (fun z => nomatch z))
                  have hqr : q ≠ r := fun z => f3 (z ▸ g6)
                  have up : ∀ b, b ≠ r → upd H1 r (.lst (us.set k2.toNat (.int (op n b')))) b = H1 b := fun b hb => upd_ne hb
                  have hF1r : F1 r = none := x.ow r g3 (by rw [g2]; exact fun e => nomatch e)
                  have hF1q : F1 q = none := x.ow q f1 (by rw [f2]; exact fun e => nomatch e)
                  have hq4 : q ∉ O4 := fun z => by
                    rcases w2 q z with z | z
                    · exact f3 z
                    · rw [f2] at z; cases z
                  obtain ⟨O'', q1, q2⟩ := e3 F1 (upd H1 r (.lst (us.set k2.toNat (.int (op n b'))))) (.ref q) (.ol (xs.set z (.ol (ys.set k2.toNat (.int (op n b')))))) (q :: O4) (fun b hb hn => by
                      obtain ⟨k1, k2⟩ := x.get (st.dom b hb).1 (st.dom b hb).2
                      exact ⟨(up b fun z => hn (by simp [z, g6])).trans k1, k2⟩) x.ff
                    (.ol hF1q ((up q hqr).trans (x.hh _ _ f2)) hq4 w1) (fun a ha hO => by
                      rcases List.mem_cons.mp ha with rfl | ha
                      · simp
                      · rcases w2 a ha with z | z
                        · simp [z]
                        · exact absurd z (st.dom a hO).2)
                  rw [set_self e2] at q1
                  refine p _ F1 _ O'' ⟨x.ff, fun b o k => ?_, fun b o k hn => ?_, fun b h1 h2 _ => x.ow b h1 h2, fun b hb => ?_⟩ q1
                  · rw [up b fun z => by rw [z, hF1r] at k; cases k]; exact x.fh b o k
                  · rw [up b fun z => hn (z ▸ e1 r (by simp [g6]))]; exact x.hh b o k
                  · rcases q2 b hb with z | z
                    · exact .inl z
                    · rcases List.mem_cons.mp z with rfl | z
                      · exact .inl (e1 _ (by simp))
                      · exact (w2 b z).imp (fun z => e1 b (by simp [z])) id
                · exact p.elim
          · exact p.elim
        · exact p.elim
      · exact p.elim
    · exact p.elim
  · exact p.elim
end
end DL

namespace DL
open PySem PySem.Spec PyProof.Rows L2
section
variable {K : PySem.W.Frag} {cls : Cls} {W : WX} {X : Cx} {F H F' H' : Hp} {O : List Addr} {a b e tg iter elt : Expr} {fs : Env → Res (List D)} {fa fb : Env → Res D} {pos : Pos}
def opAddS (a b : D) : Option D := match sqK a, sqK b with
    | some xs, some ys => if xs.length + ys.length ≤ lim then some (.ol (xs ++ ys)) else none
    | _, _ => none
@[simp] theorem opAddS_sl {xs ys : List D} (h : xs.length + ys.length ≤ lim) : opAddS (.sc xs) (.ls ys) = some (.ol (xs ++ ys)) := if_pos h
end
end DL

namespace PySem
open Sem (wp)
section
variable {prog : Program} {w : World} {A : Around} {E : Value → Shared → Prop} {s : Shared}
end
end PySem
namespace DL
open PySem PySem.Spec PyProof.Rows L2 TL PySem.W
section
variable {K : PySem.W.Frag} {cls : Cls} {W : WX} {X : Cx} {F H F' H' F1 H1 : Hp} {O O1 : List Addr} {a b : Expr} {fs : Env → Res (List D)} {pos : Pos}
def iZp2 (fs : Env → Res (List D)) : Env → Res (List D) := fun g => (fs g).bind fun ds => match ds with
  | [d, e] => (Res.of (lsS d)).bind fun xs => (Res.of (sqS e)).bind fun ys => .ok (zipD xs ys)
  | _ => .bad
@[simp] theorem iZp2_ (fs : Env → Res (List D)) (g : Env) : iZp2 fs g = (fs g).bind fun ds => match ds with
  | [d, e] => (Res.of (lsS d)).bind fun xs => (Res.of (sqS e)).bind fun ys => .ok (zipD xs ys)
  | _ => .bad := rfl
end
end DL

namespace DL
open PySem PySem.Spec PyProof.Rows L2 TL PySem.W
section
variable {K : PySem.W.Frag} {cls : Cls} {W : WX} {X : Cx} {F H F' H' F1 H1 : Hp} {O O1 : List Addr} {a b : Expr} {fs : Env → Res (List D)} {pos : Pos}
def zpA : D → D → Option (List D)
  | .tp xs, .tp ys => some (zipD xs ys)
  | d, e => match lsS d, sqS e with
    | some xs, some ys => some (zipD xs ys)
    | _, _ => none
@[simp] theorem zpA_tt {xs ys : List D} : zpA (.tp xs) (.tp ys) = some (zipD xs ys) := rfl
@[simp] theorem zpA_lt {xs ys : List D} : zpA (.ls xs) (.tp ys) = some (zipD xs ys) := rfl
@[simp] theorem zpA_ll {xs ys : List D} : zpA (.ls xs) (.ls ys) = some (zipD xs ys) := rfl
def iZp3 (fs : Env → Res (List D)) : Env → Res (List D) := fun g => (fs g).bind fun ds => match ds with
  | [d, e] => Res.of (zpA d e)
  | _ => .bad
@[simp] theorem iZp3_ (fs : Env → Res (List D)) (g : Env) : iZp3 fs g = (fs g).bind fun ds => match ds with
  | [d, e] => Res.of (zpA d e)
  | _ => .bad := rfl
end
end DL

namespace DL
open PySem L2
section
variable {K : PySem.W.Frag} {cls : Cls} {W : WX} {X : Cx} {a : Expr} {fa : Env → Res D}
def eFrz (fa : Env → Res D) : Env → Res D := fun g => ((fa g).bind kp).bind fun d => if nod d = true then .ok (frz d) else .bad
@[simp] theorem eFrz_ (fa : Env → Res D) (g : Env) : eFrz fa g = ((fa g).bind kp).bind fun d => if nod d = true then .ok (frz d) else .bad := rfl
end
end DL

namespace DL
open PySem PySem.Spec PyProof.Rows L2 TL PySem.W
section
variable {K : PySem.W.Frag} {cls : Cls} {W : WX} {X : Cx} {F H F' H' F1 H1 : Hp} {O O1 : List Addr} {Q : VK} {a b e : Expr} {es : List Expr} {fa fb fc : Env → Res D} {fs : Env → Res (List D)} {pos : Pos}
def sIns2 (i : Nat) (fs : Env → Res (List D)) : Env → Out := fun g => match g[i]? with
  | some (.ol xs) => (fs g).st g fun ds => match ds with
    | [.int j, d] => if 0 ≤ j ∧ j ≤ 1000000000 ∧ xs.length < lim ∧ xs.all (fun d => !own1 d) = true ∧ shd1 d = true then .nx (g.set i (.ol (xs.take j.toNat ++ [d] ++ xs.drop j.toNat))) else .bad
    | _ => .bad
  | _ => .bad
@[simp] theorem sIns2_ (i : Nat) (fs : Env → Res (List D)) (g : Env) : sIns2 i fs g = match g[i]? with
  | some (.ol xs) => (fs g).st g fun ds => match ds with
    | [.int j, d] => if 0 ≤ j ∧ j ≤ 1000000000 ∧ xs.length < lim ∧ xs.all (fun d => !own1 d) = true ∧ shd1 d = true then .nx (g.set i (.ol (xs.take j.toNat ++ [d] ++ xs.drop j.toNat))) else .bad
    | _ => .bad
  | _ => .bad := rfl
end
end DL

namespace DL
open PySem PySem.Spec PyProof.Rows L2 TL PySem.W
section
variable {K : PySem.W.Frag} {cls : Cls} {W : WX} {X : Cx} {F H F' H' F1 H1 : Hp} {O O1 : List Addr} {Q : VK} {a b e tg : Expr} {es : List Expr} {fa fb fc : Env → Res D} {fs : Env → Res (List D)} {pos : Pos}
def sRvs (i : Nat) : Env → Out := fun g => match g[i]? with
  | some (.ol xs) => if xs.all (fun d => !own1 d) = true then .nx (g.set i (.ol xs.reverse)) else .bad
  | _ => .bad
@[simp] theorem sRvs_ (i : Nat) (g : Env) : sRvs i g = match g[i]? with
  | some (.ol xs) => if xs.all (fun d => !own1 d) = true then .nx (g.set i (.ol xs.reverse)) else .bad
  | _ => .bad := rfl
theorem js_reverse {i : Nat} {x : Str} {npos apos cpos : Pos} (hN : X.N[i]? = some x) (hv : Vis X.env.scope x) (hd : (x == ("__debug__" : Str)) = false := by decide) (hcd : (x == ("__classdict__" : Str)) = false := by decide)
    (hbase : attributeBase (.Name x npos) "reverse" X.env (eval (.Name x npos) X.env) = eval (.Name x npos) X.env := by rfl)
    (hline : (apos.endLine == cpos.line) = true := by rfl)
    (hsw : swapsWith (.Call (.Attribute (.Name x npos) "reverse" apos) [] [] cpos) none pos.line X.env = pure false := by rfl) :
    JS X cls W (.Expr (.Call (.Attribute (.Name x npos) "reverse" apos) [] [] cpos) pos) (sRvs i) := by
  refine ⟨_, ps_expr (pe_bm0 PySem.F.plainAttrs_list PySem.F.slot_list_reverse PySem.F.type_list_reverse mt_reverse (pe_var hN hv hd hcd) hbase hline) hsw, ?_⟩
  intro D σ F H g O s st p
  rw [sRvs_] at p
  split at p
  · rename_i xs eg
    split at p
    · rename_i hall
      obtain ⟨q, vs, O1, h1, h2, h2', h3, h4, h5, h6, h7⟩ := st.lst eg
      refine ⟨.ref q, h1, .inl ⟨rfl, vs, SqL.of h2⟩, ?_⟩
      obtain ⟨rfl, r⟩ := ows_sh h4 hall
      obtain ⟨O'', z1, z2⟩ := h7 F H _ _ [] (.refl s) r.reverse.toOws (by simp) (fun a z => nomatch z)
      exact ⟨q, vs, rfl, rfl, h2, p σ F _ O'' z2 z1⟩
    · exact p.elim
  · exact p.elim
def iRvA (fa : Env → Res D) : Env → Res (List D) := fun g => (fa g).bind fun a => (Res.of (sqS (opd a))).bind fun xs => .ok xs.reverse
@[simp] theorem iRvA_ (fa : Env → Res D) (g : Env) : iRvA fa g = (fa g).bind fun a => (Res.of (sqS (opd a))).bind fun xs => .ok xs.reverse := rfl
def opXor : D → D → Option D
  | .int i, .int j => if j = 1 ∧ 0 ≤ i then some (.int (if i % 2 = 0 then i + 1 else i - 1)) else none
  | _, _ => none
@[simp] theorem opXor_int {i : Int} (h : 0 ≤ i) : opXor (.int i) (.int 1) = some (.int (if i % 2 = 0 then i + 1 else i - 1)) := if_pos ⟨rfl, h⟩
end
end DL

namespace DL
open PySem PySem.Spec PyProof.Rows L2 TL PySem.W
section
variable {K : PySem.W.Frag} {cls : Cls} {W : WX} {X : Cx} {F H F' H' F1 H1 : Hp} {O O1 : List Addr} {Q : VK} {a b e tg : Expr} {es : List Expr} {fa fb fc : Env → Res D} {fs : Env → Res (List D)} {pos : Pos}
def sAugE (op : Int → Int → Int) (i : Nat) (fk fa : Env → Res D) : Env → Out := fun g => match g[i]? with
  | some (.ol xs) => (fk g).st g fun k => match opd k with
    | .int k => if 0 ≤ k ∧ k < 1000000000 then match xs[k.toNat]? with
      | some (.int n) => (fa g).st g fun d => match opd d with
        | .int b => .nx (g.set i (.ol (xs.set k.toNat (.int (op n b)))))
        | _ => .bad
      | _ => .bad else .bad
    | _ => .bad
  | _ => .bad
@[simp] theorem sAugE_ (op : Int → Int → Int) (i : Nat) (fk fa : Env → Res D) (g : Env) : sAugE op i fk fa g = match g[i]? with
  | some (.ol xs) => (fk g).st g fun k => match opd k with
    | .int k => if 0 ≤ k ∧ k < 1000000000 then match xs[k.toNat]? with
      | some (.int n) => (fa g).st g fun d => match opd d with
        | .int b => .nx (g.set i (.ol (xs.set k.toNat (.int (op n b)))))
        | _ => .bad
      | _ => .bad else .bad
    | _ => .bad
  | _ => .bad := rfl
end
end DL

namespace DL
open PySem PySem.Spec PyProof.Rows L2 TL PySem.W
section
variable {K : PySem.W.Frag} {cls : Cls} {X : Cx} {F H F' H' F1 H1 : Hp} {O O1 : List Addr} {Q : VK}
def caMin4 (ds : List D) : Option D := match ds with
  | [.tp xs] => match intsOf xs with
    | some (n :: ns) => some (.int (ns.foldl min n))
    | _ => none
  | ds => caMin3 ds
@[simp] theorem caMin4_tp (n : Int) (ns : List Int) : caMin4 [.tp (.int n :: ns.map D.int)] = some (.int (ns.foldl min n)) := by
  have : intsOf (D.int n :: ns.map D.int) = some (n :: ns) := intsOf_map (n :: ns)
  simp [caMin4, this]
end
end DL

namespace DL
open PySem PySem.Spec PyProof.Rows L2 TL PySem.W
section
variable {K : PySem.W.Frag} {cls : Cls} {X : Cx} {F H F' H' F1 H1 : Hp} {O O1 : List Addr} {Q : VK}
def caSum4 (ds : List D) : Option D := match ds with
  | [.tp xs] => match intsOf xs with
    | some ns => some (.int ns.sum)
    | _ => none
  | ds => caSum ds
@[simp] theorem caSum4_tp (ns : List Int) : caSum4 [.tp (ns.map D.int)] = some (.int ns.sum) := by
  have : intsOf (ns.map D.int) = some ns := intsOf_map ns
  simp [caSum4, this]
end
end DL

namespace DL
open PySem PySem.Spec PyProof.Rows L2 TL PySem.W
section
variable {K : PySem.W.Frag} {cls : Cls} {W : WX} {X : Cx} {F H F' H' F1 H1 : Hp} {O O1 : List Addr} {Q : VK} {pos : Pos}
def unX : Out → Out
  | .xc _ _ => .bad
  | o => o
def sTryN (fb : Env → Out) (fh : Nat → Env → Out) : Env → Out := fun g => match fb g with
  | .xc c g' => unX (fh c g')
  | o => o
@[simp] theorem sTryN_ (fb : Env → Out) (fh : Nat → Env → Out) (g : Env) : sTryN fb fh g = match fb g with
  | .xc c g' => unX (fh c g')
  | o => o := rfl
end
end DL

namespace DL
open PySem PySem.Spec PyProof.Rows L2 TL PySem.W
section
variable {K : PySem.W.Frag} {cls : Cls} {X : Cx} {F H F' H' F1 H1 : Hp} {O O1 : List Addr} {Q : VK}
def cLt2 : D → D → Option Bool
  | .tp xs, .tp ys => match intsOf xs, intsOf ys with
    | some ns, some ms => some (HT.lexLt ns ms)
    | _, _ => none
  | a, b => cLt a b
@[simp] theorem cLt2_tp (ns ms : List Int) : cLt2 (.tp (ns.map D.int)) (.tp (ms.map D.int)) = some (HT.lexLt ns ms) := by
  have h1 : intsOf (ns.map D.int) = some ns := intsOf_map ns
  have h2 : intsOf (ms.map D.int) = some ms := intsOf_map ms
  simp [cLt2, h1, h2]
end
end DL

namespace DL
open PySem PySem.Spec PyProof.Rows L2 TL PySem.W
section
variable {K : PySem.W.Frag} {cls : Cls} {W : WX} {X : Cx} {F H F' H' F1 H1 : Hp} {O O1 : List Addr} {Q : VK} {e : Expr} {es : List Expr} {fs : Env → Res (List D)} {pos : Pos} {i j : Nat}
def PostRP (K : PySem.W.Frag) (cls : Cls) (W : WX) (i j : Nat) (D : Ends) (F H : Hp) (O : List Addr) : Out → Prop
  | .nx g => ∃ p xs, g[i]? = some (.int p) ∧ g[j]? = some (.ol xs) ∧ ∀ v a F' H' O', SExt F H O F' H' O' → Ow K cls F' H' v (.ol xs) O' → H' a = none → D.rt (.ref a) (upd H' a (.tup [.int p, v]))
  | .xc c g => ∀ σ' F' H' O', SExt F H O F' H' O' → Sts K cls F' H' σ' g O' → W (excV cls c) none σ' H'
  | _ => False
theorem PostRP.mono {D : Ends} {r : Out} (x : SExt F H O F1 H1 O1) (p : PostRP K cls W i j D F H O r) : PostRP K cls W i j D F1 H1 O1 r := by
  cases r with
  | nx g =>
    obtain ⟨a, xs, h1, h2, h3⟩ := p
    exact ⟨a, xs, h1, h2, fun v b F' H' O' y => h3 v b F' H' O' (x.trans y)⟩
  | xc c g => exact fun σ' F' H' O' y => p σ' F' H' O' (x.trans y)
  | rt d => exact p
  | bk g => exact p
  | ct g => exact p
  | bad => exact p
def DSRP (K : PySem.W.Frag) (cls : Cls) (W : WX) (i j : Nat) (t : TS) (f : Env → Out) : Prop :=
  ∀ D σ F H g O, Same F H → Sts K cls F H σ g O → PostRP K cls W i j D F H O (f g) → t D σ H
structure JSE (X : Cx) (cls : Cls) (W : WX) (i j : Nat) (st : List Stmt) (f : Env → Out) : Prop where
  ex : ∃ t, PSs X st t ∧ DSRP X.K cls W i j t f
def sEnd : Env → Out := fun g => .nx g
@[simp] theorem sEnd_ (g : Env) : sEnd g = .nx g := rfl
def sUnp (i j : Nat) (g : List D → Res (Int × List D)) (fs : Env → Res (List D)) : Env → Out := fun env => (fs env).st env fun ds => if shd ds = true then match g ds with
  | .ok (p, xs) => .nx ((env.set i (.int p)).set j (.ol xs))
  | .xc c => .xc c env
  | .bad => .bad else .bad
@[simp] theorem sUnp_ (i j : Nat) (g : List D → Res (Int × List D)) (fs : Env → Res (List D)) (env : Env) : sUnp i j g fs env = (fs env).st env fun ds => if shd ds = true then match g ds with
  | .ok (p, xs) => .nx ((env.set i (.int p)).set j (.ol xs))
  | .xc c => .xc c env
  | .bad => .bad else .bad := rfl
end
end DL

namespace DL
open PySem PySem.Spec PyProof.Rows L2 TL PySem.W
end DL

namespace DL
open PySem PySem.Spec PyProof.Rows L2 TL PySem.W
def leT (ns ms : List Int) : Bool := Ob.lexAt (fun j => decide (ns.getD j 0 = ms.getD j 0)) (fun j => decide (ns.getD j 0 ≤ ms.getD j 0)) (decide (ns.length ≤ ms.length)) 0 (min ns.length ms.length)
section
variable {K : PySem.W.Frag} {cls : Cls} {W : WX} {X : Cx} {F H F' H' F1 H1 : Hp} {O O1 : List Addr} {Q : VK} {a b c d e : Expr} {fa fb fc fd fe : Env → Res D} {pos : Pos}
def cLe2 : D → D → Option Bool
  | .tp xs, .tp ys => match intsOf xs, intsOf ys with
    | some ns, some ms => some (leT ns ms)
    | _, _ => none
  | a, b => cLe a b
@[simp] theorem cLe2_tp (ns ms : List Int) : cLe2 (.tp (ns.map D.int)) (.tp (ms.map D.int)) = some (leT ns ms) := by
  have h1 : intsOf (ns.map D.int) = some ns := intsOf_map ns
  have h2 : intsOf (ms.map D.int) = some ms := intsOf_map ms
  simp [cLe2, h1, h2]
def lLast (op : D → D → Option Bool) (f : Env → Res D) (b : D) (g : Env) : Res Bool := (f g).bind fun c => .of (op (opd b) (opd c))
def lNext (op : D → D → Option Bool) (f : Env → Res D) (k : D → Env → Res Bool) (b : D) (g : Env) : Res Bool := (f g).bind fun c => (Res.of (op (opd b) (opd c))).bind fun kk => if kk = true then k c g else .ok false
def lHead (f : Env → Res D) (k : D → Env → Res Bool) (g : Env) : Res Bool := (f g).bind fun b => k b g
@[simp] theorem lLast_ (op : D → D → Option Bool) (f : Env → Res D) (b : D) (g : Env) : lLast op f b g = (f g).bind fun c => .of (op (opd b) (opd c)) := rfl
@[simp] theorem lNext_ (op : D → D → Option Bool) (f : Env → Res D) (k : D → Env → Res Bool) (b : D) (g : Env) : lNext op f k b g = (f g).bind fun c => (Res.of (op (opd b) (opd c))).bind fun kk => if kk = true then k c g else .ok false := rfl
@[simp] theorem lHead_ (f : Env → Res D) (k : D → Env → Res Bool) (g : Env) : lHead f k g = (f g).bind fun b => k b g := rfl
end
end DL

namespace DL
open PySem PySem.Spec PyProof.Rows L2 TL PySem.W
section
variable {K : PySem.W.Frag} {cls : Cls} {W : WX} {X : Cx} {F H F' H' F1 H1 : Hp} {O O1 : List Addr} {Q : VK} {a b : Expr} {fa fb : Env → Res D} {pos : Pos}
def eJoin (fa fb : Env → Res D) : Env → Res D := fun g => (fa g).bind fun d => match opd d with
  | .str x => (fb g).bind fun e => match sqL (opd e) with
    | some xs => match strsOf xs with
      | some ys => if (ys.map (·.length)).sum + ys.length * x.length ≤ 16777216 then .ok (.str (Txt.join x ys)) else .bad
      | none => .bad
    | none => .bad
  | _ => .bad
@[simp] theorem eJoin_ (fa fb : Env → Res D) (g : Env) : eJoin fa fb g = (fa g).bind fun d => match opd d with
  | .str x => (fb g).bind fun e => match sqL (opd e) with
    | some xs => match strsOf xs with
      | some ys => if (ys.map (·.length)).sum + ys.length * x.length ≤ 16777216 then .ok (.str (Txt.join x ys)) else .bad
      | none => .bad
    | none => .bad
  | _ => .bad := rfl
end
end DL

namespace DL
open PySem PySem.Spec PyProof.Rows L2 TL PySem.W
section
variable {K : PySem.W.Frag} {cls : Cls} {W : WX} {X : Cx} {F H F' H' F1 H1 : Hp} {O O1 : List Addr} {Q : VK} {a b tg iter : Expr} {fa fb : Env → Res D} {pos : Pos}
def eSlS (fa : Env → Res D) (lo hi : Env → Res (Option Int)) : Env → Res D := fun g => (fa g).bind fun a => (lo g).bind fun l => (hi g).bind fun h => match opd a with
  | .str z => if z.length ≤ lim then .ok (.str (cutS z l h)) else .bad
  | _ => .bad
@[simp] theorem eSlS_ (fa : Env → Res D) (lo hi : Env → Res (Option Int)) (g : Env) : eSlS fa lo hi g = (fa g).bind fun a => (lo g).bind fun l => (hi g).bind fun h => match opd a with
  | .str z => if z.length ≤ lim then .ok (.str (cutS z l h)) else .bad
  | _ => .bad := rfl
def sgs (x : Str) : List D := x.cps.toList.map fun c => D.str ⟨#[c]⟩
def iStrD (fa : Env → Res D) : Env → Res (List D) := fun g => (fa g).bind fun a => match opd a with
  | .str x => .ok (sgs x)
  | _ => .bad
@[simp] theorem iStrD_ (fa : Env → Res D) (g : Env) : iStrD fa g = (fa g).bind fun a => match opd a with
  | .str x => .ok (sgs x)
  | _ => .bad := rfl
def eSplit (fa fb : Env → Res D) : Env → Res D := fun g => (fa g).bind fun d => match opd d with
  | .str x => (fb g).bind fun e => match opd e with
    | .str y => if (y.length == 0) = false ∧ x.length + 2 ≤ lim then .ok (.ol ((Txt.split x y).map D.str)) else .bad
    | _ => .bad
  | _ => .bad
@[simp] theorem eSplit_ (fa fb : Env → Res D) (g : Env) : eSplit fa fb g = (fa g).bind fun d => match opd d with
  | .str x => (fb g).bind fun e => match opd e with
    | .str y => if (y.length == 0) = false ∧ x.length + 2 ≤ lim then .ok (.ol ((Txt.split x y).map D.str)) else .bad
    | _ => .bad
  | _ => .bad := rfl
end
end DL

namespace DL
open PySem PySem.Spec PyProof.Rows L2 PySem.W
section
variable {X : Cx} {cls : Cls} {K : PySem.W.Frag} {pins : List (Addr × Obj)} {s : Shared} {σ : L2.St} {H F H' F' : Hp} {Q : VK} {W : WX}
variable {e : Expr} {te : TE} {p apos cpos pos : Pos}
end
section
variable {K : PySem.W.Frag} {cls : Cls} {W : WX} {X : Cx} {F H F' H' F1 H1 : Hp} {O O1 : List Addr} {Q : VK} {a o e : Expr} {es : List Expr} {fa fo : Env → Res D} {fs : Env → Res (List D)} {pos apos cpos p : Pos} {k n : Nat}
def keyInts : List L2.Key → Option (List Int)
  | [] => some []
  | .inl i :: ks => (keyInts ks).map (i :: ·)
  | .inr _ :: _ => none
def eSortK (fa : Env → Res D) : Env → Res D := fun g => (fa g).bind fun d => match opd d with
  | .bd ks _ => match keyInts ks with
    | some ns => .ok (.ol ((srt ns).map D.int))
    | none => .bad
  | _ => .bad
@[simp] theorem eSortK_ (fa : Env → Res D) (g : Env) : eSortK fa g = (fa g).bind fun d => match opd d with
  | .bd ks _ => match keyInts ks with
    | some ns => .ok (.ol ((srt ns).map D.int))
    | none => .bad
  | _ => .bad := rfl
variable {m : Str} {C f : Addr} {fd : FuncData} {ps : List Str} {sp : Sp} {t : TA} {ta : TE} {E : L2.St → XK} {CX : CXT}
def eMeth (c : Nat) (g : List D → Res D) (fo : Env → Res D) (fs : Env → Res (List D)) : Env → Res D := fun e => (fo e).bind fun d => match opd d with
  | .ob c' fl => if c' = c then (fs e).bind fun ds => calD g (.ob c' fl :: ds) else .bad
  | _ => .bad
@[simp] theorem eMeth_ (c : Nat) (g : List D → Res D) (fo : Env → Res D) (fs : Env → Res (List D)) (e : Env) : eMeth c g fo fs e = (fo e).bind fun d => match opd d with
  | .ob c' fl => if c' = c then (fs e).bind fun ds => calD g (.ob c' fl :: ds) else .bad
  | _ => .bad := rfl
def eIndexT (fa fb : Env → Res D) : Env → Res D := fun g => (fa g).bind fun d => match opd d with
  | .ls xs => match tupsOf xs with
    | some L => (fb g).bind fun e => match opd e with
      | .tp ys => match intsOf ys with
        | some l => if l ∈ L then .ok (.int (L.idxOf l : Nat)) else .bad
        | none => .bad
      | _ => .bad
    | none => .bad
  | _ => .bad
@[simp] theorem eIndexT_ (fa fb : Env → Res D) (g : Env) : eIndexT fa fb g = (fa g).bind fun d => match opd d with
  | .ls xs => match tupsOf xs with
    | some L => (fb g).bind fun e => match opd e with
      | .tp ys => match intsOf ys with
        | some l => if l ∈ L then .ok (.int (L.idxOf l : Nat)) else .bad
        | none => .bad
      | _ => .bad
    | none => .bad
  | _ => .bad := rfl
end
end DL

namespace DL
open PySem PySem.Spec PyProof.Rows L2 TL PySem.W
section
variable {K : PySem.W.Frag} {cls : Cls} {X : Cx}
def cIsB : D → D → Option Bool
  | .bl a, .bl b => some (a == b)
  | _, _ => none
def cNotB : D → D → Option Bool
  | .bl a, .bl b => some (!(a == b))
  | _, _ => none
@[simp] theorem cIsB_bl (a b : Bool) : cIsB (.bl a) (.bl b) = some (a == b) := rfl
@[simp] theorem cNotB_bl (a b : Bool) : cNotB (.bl a) (.bl b) = some (!(a == b)) := rfl
end
end DL

namespace DL
open PySem PySem.Spec PyProof.Rows L2 TL PySem.W
section
variable {K : PySem.W.Frag} {cls : Cls} {X : Cx} {F H F' H' F1 H1 : Hp} {O O1 : List Addr} {Q : VK}
def cGt2 : D → D → Option Bool
  | .tp xs, .tp ys => match intsOf xs, intsOf ys with
    | some ns, some ms => some (HT.lexLt ms ns)
    | _, _ => none
  | a, b => cGt a b
@[simp] theorem cGt2_tp (ns ms : List Int) : cGt2 (.tp (ns.map D.int)) (.tp (ms.map D.int)) = some (HT.lexLt ms ns) := by
  have h1 : intsOf (ns.map D.int) = some ns := intsOf_map ns
  have h2 : intsOf (ms.map D.int) = some ms := intsOf_map ms
  simp [cGt2, h1, h2]
end
end DL

namespace DL
open PySem PySem.Spec PyProof.Rows L2 TL PySem.W
section
variable {K : PySem.W.Frag} {cls : Cls} {W : WX} {X : Cx} {F H F' H' F1 H1 : Hp} {O O1 : List Addr} {Q : VK} {o e f : Expr} {fo fk fx : Env → Res D} {apos cpos : Pos}
def eDG2 (fo fk fx : Env → Res D) : Env → Res D := fun g => (fo g).bind fun a => match opd a with
  | .bd ks ds => (fk g).bind fun b => (fx g).bind fun z => match opd b with
    | .int k => .ok ((valG (ks.zip ds) (.inl k)).getD (opd z))
    | _ => .bad
  | _ => .bad
@[simp] theorem eDG2_ (fo fk fx : Env → Res D) (g : Env) : eDG2 fo fk fx g = (fo g).bind fun a => match opd a with
  | .bd ks ds => (fk g).bind fun b => (fx g).bind fun z => match opd b with
    | .int k => .ok ((valG (ks.zip ds) (.inl k)).getD (opd z))
    | _ => .bad
  | _ => .bad := rfl
end
end DL

namespace DL
open PySem PySem.Spec PyProof.Rows L2 TL PySem.W
section
variable {K : PySem.W.Frag} {cls : Cls} {W : WX} {X : Cx} {F H F' H' F1 H1 : Hp} {O O1 : List Addr} {Q : VK} {a b e o : Expr} {fa fb fo : Env → Res D} {pos apos cpos : Pos}
def sRem (i : Nat) (fa : Env → Res D) : Env → Out := fun g => match g[i]? with
  | some (.ol xs) => (fa g).st g fun d => match toPys xs, toPy (opd d) with
    | some ps, some pd => if xs.length ≤ 1000000 ∧ PyData.plainAll ps = true ∧ pd.plain = true ∧ pd.depth ≤ 60 then match SeqAt.dataPlace ps pd with
      | some k => match xs[k]? with
        | some y => if own1 y = false then .nx (g.set i (.ol (xs.eraseIdx k))) else .bad
        | none => .bad
      | none => .bad
      else .bad
    | _, _ => .bad
  | _ => .bad
@[simp] theorem sRem_ (i : Nat) (fa : Env → Res D) (g : Env) : sRem i fa g = match g[i]? with
  | some (.ol xs) => (fa g).st g fun d => match toPys xs, toPy (opd d) with
    | some ps, some pd => if xs.length ≤ 1000000 ∧ PyData.plainAll ps = true ∧ pd.plain = true ∧ pd.depth ≤ 60 then match SeqAt.dataPlace ps pd with
      | some k => match xs[k]? with
        | some y => if own1 y = false then .nx (g.set i (.ol (xs.eraseIdx k))) else .bad
        | none => .bad
      | none => .bad
      else .bad
    | _, _ => .bad
  | _ => .bad := rfl
end
end DL

namespace DL
open PySem PySem.Spec PyProof.Rows L2 TL PySem.W
section
variable {K : PySem.W.Frag} {cls : Cls} {W : WX} {X : Cx} {F H F' H' F1 H1 : Hp} {O O1 : List Addr} {Q : VK} {a b e c : Expr} {es : List Expr} {fa fe : Env → Res D} {ft : Env → Res Bool} {fs : Env → Res (List D)} {pos : Pos}
def PostM (K : PySem.W.Frag) (cls : Cls) (W : WX) (En : Ends) (σ : L2.St) (F H : Hp) (q : Addr) (us : List V) : Res (Option D) → Prop
  | .ok none => ∀ F' H', Ext F H F' H' → En.nx σ H'
  | .ok (some d) => ∀ v F' H', Ext F H F' H' → Rp K cls F' v d → En.nx σ (upd H' q (.lst (us ++ [v])))
  | .xc c => ∀ F' H', Ext F H F' H' → W (excV cls c) none σ H'
  | .bad => False
theorem PostM.mono {En : Ends} {σ : L2.St} {q : Addr} {us : List V} {r : Res (Option D)} (x : Ext F H F1 H1) (h : PostM K cls W En σ F H q us r) : PostM K cls W En σ F1 H1 q us r := by
  cases r with
  | ok o =>
    cases o with
    | none => exact fun F' H' y => h F' H' (x.trans y)
    | some d => exact fun v F' H' y r => h v F' H' (x.trans y) r
  | xc c => exact fun F' H' y => h F' H' (x.trans y)
  | bad => exact h
structure JM (X : Cx) (cls : Cls) (W : WX) (sts : List Stmt) (f : Env → Res (Option D)) : Prop where
  ex : ∃ t, PSs X sts t ∧ ∀ (En : Ends) (σ : L2.St) (F H : Hp) (g : Env) (O : List Addr) (q : Addr) (us : List V), Same F H → Sts X.K cls F H σ g O → σ[0]? = some (some (.ref q)) → H q = some (.lst us) → us.length < lim → PostM X.K cls W En σ F H q us (f g) → t En σ H
def sPut (i : Nat) (g : List D → Res (Option D)) (fs : Env → Res (List D)) : Env → Out := fun env => match env[i]? with
  | some (.ol xs) => (fs env).st env fun ds => if shd ds = true ∧ xs.length < lim then match g ds with
    | .ok none => .nx env
    | .ok (some d) => .nx (env.set i (.ol (xs ++ [d])))
    | .xc c => .xc c env
    | .bad => .bad else .bad
  | _ => .bad
@[simp] theorem sPut_ (i : Nat) (g : List D → Res (Option D)) (fs : Env → Res (List D)) (env : Env) : sPut i g fs env = match env[i]? with
  | some (.ol xs) => (fs env).st env fun ds => if shd ds = true ∧ xs.length < lim then match g ds with
    | .ok none => .nx env
    | .ok (some d) => .nx (env.set i (.ol (xs ++ [d])))
    | .xc c => .xc c env
    | .bad => .bad else .bad
  | _ => .bad := rfl
end
end DL

namespace DL
open PySem PySem.Spec PyProof.Rows L2 TL PySem.W
section
variable {K : PySem.W.Frag} {cls : Cls} {W : WX} {X : Cx} {a : Expr} {fa : Env → Res D} {i : Nat}
def eView (i : Nat) (fa : Env → Res D) : Env → Res D := fun g => (fa (frzAt g i)).bind fun d => if flat d = true then .ok d else .bad
@[simp] theorem eView_ (i : Nat) (fa : Env → Res D) (g : Env) : eView i fa g = (fa (frzAt g i)).bind fun d => if flat d = true then .ok d else .bad := rfl
theorem de_view {t : TE} (h : DE K cls W t fa) : DE K cls W t (eView i fa) := by
  intro σ F H g O Q s st p
  obtain ⟨F', O', x, st'⟩ := st.frzAt s i
  refine h σ F' H (frzAt g i) O' Q x.fh st' ?_
  have up : ∀ {F2 H2}, Ext F' H F2 H2 → Ext F H F H2 := fun y => ⟨.refl F, y.hh, s.trans y.hh, fun _ h _ => h⟩
  rw [eView_] at p
  cases e : fa (frzAt g i) with
  | ok d =>
    rw [e] at p
    simp only [Res.bind] at p
    split at p
    · rename_i hf
      intro v F2 H2 O2 y fr tm
      refine p v F H2 O2 (up y) fr ?_
      rcases tm with ow | ⟨bo, hO⟩
      · refine .inl (ow.flat hf fun a ha => ?_)
        cases q : F a with
        | none => rfl
        | some o => have := fr a ha; rw [s a o q] at this; cases this
      · subst hO
        refine .inr ⟨?_, rfl⟩
        cases bo with
        | sh r =>
          cases r with
          | non => exact .sh .non
          | bl b => exact .sh (.bl b)
          | int b => exact .sh (.int b)
          | str b => exact .sh (.str b)
          | _ => simp at hf
        | _ => simp at hf
    · exact p.elim
  | xc c =>
    rw [e] at p
    exact fun F2 H2 y => p F H2 (up y)
  | bad => rw [e] at p; exact p.elim
theorem je_view (i : Nat) (ha : JE X cls W a fa) : JE X cls W a (eView i fa) := by
  obtain ⟨t, p, d⟩ := ha.ex
  exact ⟨t, p, de_view d⟩
end
end DL

namespace DL
open PySem PySem.Spec PyProof.Rows L2 TL PySem.W
section
variable {K : PySem.W.Frag} {cls : Cls} {X : Cx} {F H F' H' F1 H1 : Hp} {O O1 : List Addr} {Q : VK}
def ntOf : D → Option (Int × List Int)
  | .tp [.int i, .tp xs] => (intsOf xs).map fun ns => (i, ns)
  | _ => none
theorem ntOf_NT (x : Int × List Int) : ntOf (dNT x) = some x := by
  show (intsOf (x.2.map D.int)).map (fun ns => (x.1, ns)) = _
  rw [intsOf_map]
  rfl
def cLt6 (a b : D) : Option Bool := match ntOf a, ntOf b with
  | some x, some y => some (HT.lexLt (x.1 :: x.2) (y.1 :: y.2))
  | _, _ => cLt a b
def cLe6 (a b : D) : Option Bool := match ntOf a, ntOf b with
  | some x, some y => some (!HT.lexLt (y.1 :: y.2) (x.1 :: x.2))
  | _, _ => cLe a b
@[simp] theorem cLt6_NT (x y : Int × List Int) : cLt6 (dNT x) (dNT y) = some (HT.lexLt (x.1 :: x.2) (y.1 :: y.2)) := by
  unfold cLt6
  rw [ntOf_NT, ntOf_NT]
@[simp] theorem cLe6_NT (x y : Int × List Int) : cLe6 (dNT x) (dNT y) = some (!HT.lexLt (y.1 :: y.2) (x.1 :: x.2)) := by
  unfold cLe6
  rw [ntOf_NT, ntOf_NT]
end
end DL

namespace DL
open PySem PySem.Spec PyProof.Rows L2 TL PySem.W
section
variable {K : PySem.W.Frag} {cls : Cls} {W : WX} {X : Cx} {F H F' H' F1 H1 : Hp} {O O1 : List Addr} {Q : VK} {σ : L2.St} {a b e c : Expr} {ft : Env → Res Bool} {pos : Pos}
theorem Sts.any : ∀ {σ : L2.St} {g : Env} {O : List Addr} {j : Nat} {o : Option V}, Sts K cls F H σ g O → g[j]? = some .un → Sts K cls F H (σ.set j o) g O
  | _, _, _, j, o, .nil, h => by simp at h
  | _, _, _, 0, o, .un r, _ => .un r
  | _, _, _, j + 1, o, .un r, h => .un (r.any (by simpa using h))
  | _, _, _, 0, o, .cons (d := d) w r dj e, h => by
    have h : d = .un := by simpa using h
    subst h
    cases w with
    | sh r => cases r
  | _, _, _, j + 1, o, .cons w r dj e, h => .cons w (r.any (by simpa using h)) dj e
end
end DL

namespace DL
open PySem PySem.Spec PyProof.Rows L2 TL PySem.W
section
variable {K : PySem.W.Frag} {cls : Cls} {W : WX} {X : Cx} {F H F' H' F1 H1 : Hp} {O O1 : List Addr} {Q : VK} {σ : L2.St} {a b e c o : Expr} {fo : Env → Res D} {pos apos cpos : Pos}
def eIndexS (fa fb : Env → Res D) : Env → Res D := fun g => (fa g).bind fun d => match opd d with
  | .ls xs => match strsOf xs with
    | some L => (fb g).bind fun e => match opd e with
      | .str l => if l ∈ L ∧ (L.all fun z => PyData.strOk z) = true ∧ PyData.strOk l = true then .ok (.int (L.idxOf l : Nat)) else .bad
      | _ => .bad
    | none => .bad
  | _ => .bad
@[simp] theorem eIndexS_ (fa fb : Env → Res D) (g : Env) : eIndexS fa fb g = (fa g).bind fun d => match opd d with
  | .ls xs => match strsOf xs with
    | some L => (fb g).bind fun e => match opd e with
      | .str l => if l ∈ L ∧ (L.all fun z => PyData.strOk z) = true ∧ PyData.strOk l = true then .ok (.int (L.idxOf l : Nat)) else .bad
      | _ => .bad
    | none => .bad
  | _ => .bad := rfl
end
end DL

noncomputable section
namespace DL
open PySem L2
section
variable {K : PySem.W.Frag} {cls : Cls} {X : Cx}
def repS (x : Str) (n : Nat) : Str := ⟨(List.replicate n x.cps).foldl (· ++ ·) #[]⟩
def MsOk (x : Str) (k : Int) : Prop := (2 ≤ k ∧ k ≤ 1000 ∧ x.length = 1) ∧ (repS x k.toNat).length ≤ 1000
instance (x : Str) (k : Int) : Decidable (MsOk x k) := by unfold MsOk; infer_instance
end
end DL
end

noncomputable section
namespace DL
open PySem PySem.Spec PyProof.Rows L2 TL PySem.W
section
variable {K : PySem.W.Frag} {cls : Cls} {W : WX} {X : Cx} {F H F' H' F1 H1 : Hp} {O O1 : List Addr} {Q : VK} {a o e : Expr} {fa fb : Env → Res D} {pos apos cpos : Pos}
def caLenD : List D → Option D
  | [.bd ks _] => some (.int ks.length)
  | _ => none
@[simp] theorem caLenD_ (ks : List L2.Key) (xs : List D) : caLenD [.bd ks xs] = some (.int ks.length) := rfl
def eCount (fa fb : Env → Res D) : Env → Res D := fun g => (fa g).bind fun d => match lsI d with
  | some ns => (fb g).bind fun e => match opd e with
    | .int x => .ok (.int (ns.count x : Nat))
    | _ => .bad
  | none => .bad
@[simp] theorem eCount_ (fa fb : Env → Res D) (g : Env) : eCount fa fb g = (fa g).bind fun d => match lsI d with
  | some ns => (fb g).bind fun e => match opd e with
    | .int x => .ok (.int (ns.count x : Nat))
    | _ => .bad
  | none => .bad := rfl
end
end DL
end

noncomputable section
namespace DL
open PySem PySem.Spec PyProof.Rows L2 TL PySem.W
section
variable {K : PySem.W.Frag} {cls : Cls} {W : WX} {X : Cx} {F H F' H' F1 H1 : Hp} {O O1 : List Addr} {Q : VK} {pos apos cpos npos : Pos}
def sAppMv (i j : Nat) : Env → Out := fun g => match g[i]?, g[j]? with
  | some (.ol xs), some (.ol ys) => if xs.length < lim ∧ i ≠ j then .nx ((g.set j .un).set i (.ol (xs ++ [.ol ys]))) else .bad
  | _, _ => .bad
@[simp] theorem sAppMv_ (i j : Nat) (g : Env) : sAppMv i j g = match g[i]?, g[j]? with
  | some (.ol xs), some (.ol ys) => if xs.length < lim ∧ i ≠ j then .nx ((g.set j .un).set i (.ol (xs ++ [.ol ys]))) else .bad
  | _, _ => .bad := rfl
end
end DL
end

namespace TL
open PySem PySem.W PySem.Calls PyProof.Rows
section
variable {prog : Program} {w : World} {A : Around} {E : Value → Shared → Prop} {s : Shared}
end
end TL
namespace DL
open PySem PySem.Spec PyProof.Rows L2 TL PySem.W
section
variable {K : PySem.W.Frag} {cls : Cls} {W : WX} {X : Cx} {F H F' H' F1 H1 : Hp} {O O1 : List Addr} {Q : VK}
end
end DL

noncomputable section
namespace DL
open PySem PySem.Spec PyProof.Rows L2 PySem.W
section
variable {K : PySem.W.Frag} {cls : Cls} {W : WX} {X : Cx} {F H F' H' F1 H1 : Hp} {O O1 : List Addr} {Q : VK} {σ : L2.St} {a b e : Expr} {es : List Expr} {fa fb fc : Env → Res D} {fs : Env → Res (List D)} {pos p1 p2 : Pos}
def eCalR (i j : Nat) (g : List D → Res D) : Env → Res D := fun env => match env[i]?, env[j]? with
  | some (.ls xs), some (.od ks ds) => g [.ls xs, .od ks ds]
  | _, _ => .bad
@[simp] theorem eCalR_ (i j : Nat) (g : List D → Res D) (env : Env) : eCalR i j g env = match env[i]?, env[j]? with
  | some (.ls xs), some (.od ks ds) => g [.ls xs, .od ks ds]
  | _, _ => .bad := rfl
end
end DL
end

noncomputable section
namespace DL
open PySem PySem.Spec PyProof.Rows L2 PySem.W
section
variable {K : PySem.W.Frag} {cls : Cls} {W : WX} {X : Cx} {F H F' H' F1 H1 : Hp} {O O1 : List Addr} {Q : VK} {a : Expr} {fa : Env → Res D} {pos : Pos}
def sLstPop (j i : Nat) (fa : Env → Res D) : Env → Out := fun g => match g[i]? with
  | some (.ol xs) => ((fa g).bind kp).st g fun d => match d with
    | .int z => match ixN xs.length z with
      | some k => match xs[k]? with
        | some y => if own1 y = false ∧ xs.length ≤ lim then .nx ((g.set i (.ol (xs.eraseIdx k))).set j (.ol [y])) else .bad
        | none => .bad
      | none => .bad
    | _ => .bad
  | _ => .bad
@[simp] theorem sLstPop_ (j i : Nat) (fa : Env → Res D) (g : Env) : sLstPop j i fa g = match g[i]? with
  | some (.ol xs) => ((fa g).bind kp).st g fun d => match d with
    | .int z => match ixN xs.length z with
      | some k => match xs[k]? with
        | some y => if own1 y = false ∧ xs.length ≤ lim then .nx ((g.set i (.ol (xs.eraseIdx k))).set j (.ol [y])) else .bad
        | none => .bad
      | none => .bad
    | _ => .bad
  | _ => .bad := rfl
end
end DL
end

noncomputable section
namespace DL
open PySem PySem.Spec PyProof.Rows L2 PySem.W TL
section
variable {K : PySem.W.Frag} {cls : Cls} {W : WX} {X : Cx} {F H F' H' F1 H1 : Hp} {O O1 : List Addr} {Q : VK} {a : Expr} {fa : Env → Res D} {pos : Pos} {k : Nat}
def dst : List (List Int) → List (List Int)
  | [] => []
  | x :: l => if x ∈ dst l then dst l else x :: dst l
def eLenSetL (fa : Env → Res D) : Env → Res D := fun g => (fa g).bind fun d => match sqK (opd d) with
  | some xs => match tupsOf xs with
    | some L => if L.length < 64 then .ok (.int (dst L).length) else .bad
    | none => .bad
  | none => .bad
@[simp] theorem eLenSetL_ (fa : Env → Res D) (g : Env) : eLenSetL fa g = (fa g).bind fun d => match sqK (opd d) with
  | some xs => match tupsOf xs with
    | some L => if L.length < 64 then .ok (.int (dst L).length) else .bad
    | none => .bad
  | none => .bad := rfl
end
end DL
end

noncomputable section
namespace DL
open PySem PySem.Spec PyProof.Rows L2 TL PySem.W
section
variable {K : PySem.W.Frag} {cls : Cls} {W : WX} {X : Cx} {F H F' H' F1 H1 : Hp} {O O1 : List Addr} {Q : VK} {σ : L2.St} {pos : Pos}
end
end DL
end

noncomputable section
namespace DL
open PySem PySem.Spec PyProof.Rows L2 TL PySem.W
section
variable {K : PySem.W.Frag} {cls : Cls} {W : WX} {X : Cx} {F H F' H' F1 H1 : Hp} {O O1 : List Addr} {Q : VK} {σ : L2.St}
end
end DL
end

noncomputable section
namespace DL
open PySem PySem.Spec PyProof.Rows L2 TL PySem.W
section
variable {K : PySem.W.Frag} {cls : Cls} {W : WX} {X : Cx}
end
end DL
end

noncomputable section
namespace DL
open PySem PySem.Spec PyProof.Rows L2 TL PySem.W
section
variable {K : PySem.W.Frag} {cls : Cls} {W : WX} {X : Cx} {F H F' H' F1 H1 : Hp} {O O1 : List Addr} {Q : VK} {σ : L2.St} {pos : Pos}
def Keeps (j : Nat) (t : TS) : Prop := ∀ (D : Ends) (σ : L2.St) (H : Hp), t D σ H = t { D with nx := fun σ' H' => σ'[j]? = σ[j]? → D.nx σ' H' } σ H
structure JK (j : Nat) (X : Cx) (cls : Cls) (W : WX) (st : Stmt) (f : Env → Out) : Prop where
  ex : ∃ t, PS X st t ∧ DS X.K cls W t f ∧ Keeps j t
structure JKs (j : Nat) (X : Cx) (cls : Cls) (W : WX) (st : List Stmt) (f : Env → Out) : Prop where
  ex : ∃ t, PSs X st t ∧ DS X.K cls W t f ∧ Keeps j t
def isRf (r : Addr) : D → Bool
  | .rf a => decide (a = r)
  | _ => false
theorem isRf_eq {r : Addr} {d : D} (h : isRf r d = true) : d = .rf r := by
  unfold isRf at h
  split at h
  · rw [of_decide_eq_true h]
  · cases h
@[simp] theorem isRf_rf {r a : Addr} : isRf r (.rf a) = decide (a = r) := rfl
@[simp] theorem isRf_ol {r : Addr} {l : List D} : isRf r (.ol l) = false := rfl
def plug (r : Addr) (d : D) : List D → Option (List D)
  | [] => none
  | x :: l => if isRf r x = true then some (d :: l) else (plug r d l).map (x :: ·)
theorem Ows.plug : ∀ {vs : List V} {ds ds' : List D} {O Or : List Addr} {r : Addr} {d : D}, Ows K cls F H vs ds O → DL.plug r d ds = some ds' → Ow K cls F H (.ref r) d Or → (∀ a ∈ Or, a ∉ O) → ∃ O', Ows K cls F H vs ds' O' ∧ ∀ a ∈ O', a ∈ O ∨ a ∈ Or
  | _, _, _, _, _, _, _, .nil, e, _, _ => by cases e
  | _, _, _, _, Or, r, d, .cons (v := v) (d := x) (O1 := P1) (O2 := P2) h rr dj eo, e, w, n => by
    subst eo
    unfold DL.plug at e
    split at e
    · rename_i hx
      have hx := isRf_eq hx
      cases e
      subst hx
      cases h with
      | sh q =>
        cases q
        exact ⟨Or ++ P2, .cons w rr (fun a h1 h2 => n a h1 (by simpa using h2)) rfl, fun a ha => by
          rcases List.mem_append.mp ha with z | z
          · exact .inr z
          · exact .inl (by simpa using z)⟩
    · obtain ⟨l', e1, rfl⟩ := Option.map_eq_some_iff.mp e
      obtain ⟨O', w1, w2⟩ := Ows.plug rr e1 w (fun a h1 h2 => n a h1 (List.mem_append_right _ h2))
      refine ⟨P1 ++ O', .cons h w1 (fun a h1 h2 => ?_) rfl, fun a ha => ?_⟩
      · rcases w2 a h2 with z | z
        · exact dj a h1 z
        · exact n a z (List.mem_append_left _ h1)
      · rcases List.mem_append.mp ha with z | z
        · exact .inl (List.mem_append_left _ z)
        · exact (w2 a z).imp (fun z => List.mem_append_right _ z) id
def closes (i j : Nat) (r : Addr) : Out → Option D
  | .nx g => match g[i]?, g[j]? with
    | some (.ol xs), some (.ol ys) => some (.ol ((plug r (.ol ys) xs).getD xs))
    | _, _ => none
  | _ => none
def DOp (K : PySem.W.Frag) (cls : Cls) (W : WX) (i j : Nat) (t : TS) (f : Env → Out) : Prop :=
  ∀ (En : Ends) (σ : L2.St) (F H : Hp) (g : Env) (O : List Addr) (r : Addr) (d : D), Same F H → Sts K cls F H σ g O → σ[j]? = some (some (.ref r)) → closes i j r (f g) = some d →
    (∀ v F' H' O', SExt F H O F' H' O' → Ow K cls F' H' v d O' → En.rt v H') → t En σ H
structure JOp (i j : Nat) (X : Cx) (cls : Cls) (W : WX) (st : List Stmt) (f : Env → Out) : Prop where
  ex : ∃ t, PSs X st t ∧ DOp X.K cls W i j t f
end
end DL
end

noncomputable section
namespace DL
open PySem PySem.Spec PyProof.Rows L2 TL PySem.W
section
variable {K : PySem.W.Frag} {cls : Cls} {W : WX} {X : Cx} {F H F' H' F1 H1 : Hp} {O O1 : List Addr} {Q : VK} {σ : L2.St} {a b e : Expr} {es : List Expr} {fa fb fc : Env → Res D} {fs : Env → Res (List D)} {ga : Env → Res Bool} {pos : Pos}
end
end DL
end

noncomputable section
namespace HotT
open PySem PySem.Spec PyProof.Rows L2 HotX
section
variable {prog : Program} {w : World} {A : Around} {E : Value → Shared → Prop} {s : Shared}
theorem hot_keeps {x1 : Addr} {h h' : Heap} (hot : HotAt A x1 h) (k : ∀ o, h.get? x1 = some o → h'.get? x1 = some o) : HotAt A x1 h' := by
  obtain ⟨hh, o1, vs1, h1, d1, c1⟩ := hot
  exact ⟨hh, o1, vs1, k _ h1, d1, c1⟩
theorem stop_hot {α : Type} {x1 : Addr} {Q : α → Shared → Prop} {s : Shared} (hot : HotAt A x1 s.heap) (hE : ∀ h' e, (∀ b o, s.heap.get? b = some o → h'.get? b = some o) → (∃ o, h'.get? e = some o ∧ o.cls = .type "StopIteration") → E (.ref e) { s with heap := h' }) :
    wpAny (model prog w) A (newExc (.type "StopIteration") [] >>= fun e => raiseNew e : Sem α) Q E s := by
  obtain ⟨hh, o1, vs1, h1, d1, c1⟩ := hot
  refine wpAny_bind ?_
  simp only [newExc, newTuple]
  refine wpAny_bind (wpAny_newObj_type ?_ (by size_fits))
  refine wpAny_bind (m := firstArgMember _ _) (wpAny_of_eq (a := Value.none) (by first | rfl | (simp only [firstArgMember]; rfl)) ?_)
  refine wpAny_newObj_type ?_ (by size_fits)
  refine raiseNew_hot ⟨hh, o1, vs1, Heap.get?_push_of_some _ (Heap.get?_push_of_some _ h1), d1, c1⟩ (Nat.ne_of_lt (Heap.lt_size (Heap.get?_push_of_some _ h1))) (Heap.get?_push_size _ rfl) rfl (by first | (simp; done) | (simp; omega) | (simp only [Array.size_append]; simp; omega)) ?_
  refine hE _ _ (fun b o e => ?_) ⟨_, Heap.get?_update_self _ (Heap.get?_push_size _ rfl) rfl, rfl⟩
  rw [Heap.get?_update_other _ _ (Nat.ne_of_gt (Heap.lt_size (Heap.get?_push_of_some _ e)))]
  exact Heap.get?_push_of_some _ (Heap.get?_push_of_some _ e)
theorem hot_ne {x1 it : Addr} {h : Heap} {o : Obj} {a b : Value} (hot : HotAt A x1 h) (ho : h.get? it = some o) (hd : o.data = .fields #[a, b]) : x1 ≠ it := fun z => by
  subst z
  obtain ⟨hh, o1, vs1, h1, d1, c1⟩ := hot
  rw [ho] at h1
  cases h1
  rw [hd] at d1
  cases d1
  simp at c1
theorem next_tuple_end_hot {it t x1 : Addr} {i : Nat} {items} {Q : Option Value → Shared → Prop} (hot : HotAt A x1 s.heap)
    (hit : IsTupIter s.heap it t i) (ht : IsTup s.heap t items) (hx : items[i]? = none)
    (hQ : ∀ h', Heap.ExtBut it s.heap h' → Q none { s with heap := h' }) : wpAny (model prog w) A (pyNext (.ref it)) Q E s := by
  obtain ⟨o, ho, hc, hd⟩ := id hit
  obtain ⟨ol, hol, _, nl, hdl⟩ := ht
  have hne := hot_ne hot ho hd
  unfold pyNext
  refine wpAny_bind (wpAny_attempt (wpAny_callSpecial?_slot (name := Str.ofString "__next__") hit.typeIs slot_tupleiter_next
    (wpAny_call_entry slot_tupleiter_next hit.typeIs entry_tupleiter_next ?_ (args_tupleiter_next _))))
  show wpAny _ _ (field (.ref it) 0 >>= _) _ _ s
  refine wpAny_bind (wpAny_field ho hd (x := .ref t) rfl ?_)
  show wpAny _ _ (if (Value.ref t == Value.none) = true then _ else _) _ _ s
  rw [if_neg (show ¬ ((Value.ref t == Value.none) = true) from Bool.false_ne_true)]
  show wpAny _ _ (field (.ref it) 1 >>= _) _ _ s
  refine wpAny_bind (wpAny_field ho hd (x := .int i 0) rfl ?_)
  show wpAny _ _ (seqItems? (.ref t) >>= _) _ _ s
  refine wpAny_bind (wpAny_seqItems hol hdl ?_)
  simp only [Int.toNat_natCast, hx]
  refine wpAny_bind (wpAny_rule (wpAny_bind (wpAny_setField ho hd (by simp) ?_)))
  have hot2 : HotAt A x1 (s.heap.update it (Obj.mapFields (·.setIfInBounds 0 .none))) := hot_keeps hot fun o' e => by
    rw [Heap.get?_update_other _ _ (Ne.symm hne)]; exact e
  refine stop_hot (s := { s with heap := _ }) hot2 fun h' e k hs => ?_
  refine wpAny_bind (wpAny_isInstance (T := "StopIteration") (b := true) hs isSubtype_stop ?_)
  exact wpAny_pure (hQ _ fun b o' hb e' => k b o' (by
    show (s.heap.update it _).get? b = some o'
    rw [Heap.get?_update_other _ _ (Ne.symm hb)]; exact e'))
theorem unpackItems_tuple_hot {t x1 : Addr} {items : Array Value} {Q : List Value → Shared → Prop} (hot : HotAt A x1 s.heap) (ht : IsTup s.heap t items)
    (hQ : ∀ h', Heap.ExtBut s.heap.objs.size s.heap h' → Q items.toList { s with heap := h' }) : wpAny (model prog w) A (unpackItems (.ref t) items.size none) Q E s := by
  have hlt : t ≠ s.heap.objs.size := by obtain ⟨o, ho, _⟩ := ht; exact Nat.ne_of_lt (Heap.lt_size ho)
  have hxl : x1 ≠ s.heap.objs.size := by obtain ⟨_, o, _, ho, _⟩ := hot; exact Nat.ne_of_lt (Heap.lt_size ho)
  unfold unpackItems
  refine wpAny_bind ?_
  · unfold notIterableAtAll
    refine wpAny_bind (wpAny_specialOf ht.typeIs slot_tuple_iter.lookup ?_)
    refine wpAny_pure ?_
    simp only [Bool.false_eq_true, if_false]
    refine wpAny_bind (wpAny_holding (iter_tuple ht ?_))
    refine wpAny_bind (wpAny_holding (draw_tuple hlt items.size 0 _ _ ⟨_, Heap.get?_push_size _ rfl, rfl, rfl⟩ (ht.push _) (by omega) fun h₁ hit₁ hs₁ => ?_))
    have hall : List.take items.size (List.drop 0 items.toList) = items.toList := by
      rw [List.drop_zero]; exact List.take_of_length_le (by simp)
    rw [hall]
    rw [if_neg (by simp)]
    have ht₁ : IsTup h₁ t items := (ht.push _).extBut hs₁.extBut hlt
    have hot₁ : HotAt A x1 h₁ := hot_keeps hot fun o e => hs₁.extBut _ _ hxl (Heap.get?_push_of_some _ e)
    refine wpAny_bind (wpAny_holding (next_tuple_end_hot hot₁ hit₁ ht₁ (by simp) fun h₂ he₂ => ?_))
    simp only [Option.isSome_none, Bool.false_eq_true, if_false]
    refine wpAny_pure (hQ h₂ fun b o hb e => he₂ b o hb (hs₁.extBut b o hb (Heap.get?_push_of_some _ e)))
theorem assign_Tuple_tuple_hot {env : PySem.Env} {elts : List Expr} {kk} {pos : Pos} {t x1 : Addr} {items : Array Value} {Q : Unit → Shared → Prop} (hot : HotAt A x1 s.heap) (ht : IsTup s.heap t items)
    (hn : (assignEach elts env).length = items.size) (hstar : (assignEach elts env).findIdx? (·.1) = none)
    (h : ∀ h', Heap.ExtBut s.heap.objs.size s.heap h' → wpAny (model prog w) A (assignInOrder ((assignEach elts env).map (·.2)) items.toList) Q E { s with heap := h' }) :
    wpAny (model prog w) A (assign (.Tuple elts kk pos) env (.ref t)) Q E s := by
  rw [assign_Tuple]
  refine wpAny_bind (wpAny_standAt ?_)
  unfold unpack
  rw [hn, hstar]
  exact wpAny_bind (wpAny_holding (unpackItems_tuple_hot hot ht h))
theorem nextOf_list_end_hot {it l x1 : Addr} {i : Nat} {items} {Q : Value → Shared → Prop} (hot : HotAt A x1 s.heap)
    (hit : s.heap.IsListIter it l i) (hl : s.heap.IsList l items) (hx : items[i]? = none)
    (hE : ∀ h' e, Heap.ExtBut it s.heap h' → (∃ o, h'.get? e = some o ∧ o.cls = .type "StopIteration") → E (.ref e) { s with heap := h' }) :
    wpAny (model prog w) A (Builtin.SmallTypes.nextOf (.ref it)) Q E s := by
  obtain ⟨o, ho, hc, hd⟩ := id hit
  obtain ⟨ol, hol, _, nl, hdl⟩ := hl
  have hne := hot_ne hot ho hd
  unfold Builtin.SmallTypes.nextOf
  refine wpAny_bind (wpAny_callSpecial?_slot (name := Str.ofString "__next__") hit.typeIs slot_listiter_next
    (wpAny_call_entry slot_listiter_next hit.typeIs entry_listiter_next ?_ (args_listiter_next _)))
  show wpAny _ _ (field (.ref it) 0 >>= _) _ _ s
  refine wpAny_bind (wpAny_field ho hd (x := .ref l) rfl ?_)
  show wpAny _ _ (if (Value.ref l == Value.none) = true then _ else _) _ _ s
  rw [if_neg (show ¬ ((Value.ref l == Value.none) = true) from Bool.false_ne_true)]
  show wpAny _ _ (field (.ref it) 1 >>= _) _ _ s
  refine wpAny_bind (wpAny_field ho hd (x := .int i 0) rfl ?_)
  show wpAny _ _ (seqItems? (.ref l) >>= _) _ _ s
  refine wpAny_bind (wpAny_seqItems hol hdl ?_)
  simp only [Int.toNat_natCast, hx]
  refine wpAny_bind (wpAny_rule (wpAny_bind (wpAny_setField ho hd (by simp) ?_)))
  have hot2 : HotAt A x1 (s.heap.update it (Obj.mapFields (·.setIfInBounds 0 .none))) := hot_keeps hot fun o' e => by
    rw [Heap.get?_update_other _ _ (Ne.symm hne)]; exact e
  refine stop_hot (s := { s with heap := _ }) hot2 fun h' e k hs => ?_
  exact hE _ _ (fun b o' hb e' => k b o' (by
    show (s.heap.update it _).get? b = some o'
    rw [Heap.get?_update_other _ _ (Ne.symm hb)]; exact e')) hs
theorem pyNext_enum_end_hot {e it l x1 : Addr} {i : Nat} {items : Array Value} {old : Value} {Q : Option Value → Shared → Prop} (hot : HotAt A x1 s.heap)
    (he : IsEnum s.heap e it i old) (hit : s.heap.IsListIter it l i) (hl : s.heap.IsList l items) (hx : items[i]? = none)
    (hQ : ∀ h', Heap.ExtBut it s.heap h' → Q none { s with heap := h' }) : wpAny (model prog w) A (pyNext (.ref e)) Q E s := by
  have hT : s.TypeIs (.ref e) "enumerate" := ⟨_, he, rfl⟩
  unfold pyNext
  refine wpAny_bind (wpAny_attempt (wpAny_callSpecial?_slot (name := Str.ofString "__next__") hT F.slot_enumerate_next
    (wpAny_call_entry F.slot_enumerate_next hT F.entry_enumerate_next ?_ (F.args_enumerate_next_1 _))))
  show wpAny _ _ (field (.ref e) 2 >>= _) _ _ _
  refine wpAny_bind (wpAny_field he rfl (x := .ref it) rfl ?_)
  refine wpAny_bind (nextOf_list_end_hot hot hit hl hx fun h' x he' hx' => ?_)
  obtain ⟨o, ho, hc⟩ := hx'
  refine wpAny_bind (wpAny_isInstance (T := "StopIteration") (b := true) ⟨o, ho, hc⟩ isSubtype_stop ?_)
  exact wpAny_pure (hQ _ he')
end
end HotT
namespace L2
open PySem PySem.Spec PyProof.Rows HotX HotT L2H
section
variable {X : Cx} {pos : Pos}
theorem pg_tupH {es : List Expr} {k : Nat} {t : TGs} {n : Nat} (hc : HotC X) (h : PGs X es t)
    (hn : (assignEach es X.env).length = n := by rfl) (hst : (assignEach es X.env).findIdx? (·.1) = none := by rfl) : PG X (.Tuple es k pos) (gTup X.K n t) := by
  refine ⟨fun pins s σ H v u Q I r hw => ?_⟩
  obtain ⟨a, xs, e1, hq, hl, hw⟩ := hw
  subst e1
  cases r
  obtain ⟨its, rv, ht, hz⟩ := I.tuple hq
  obtain ⟨x1, hot⟩ := hc.at I
  refine assign_Tuple_tuple_hot hot ht (by simp [hn, ← hl, rv.length]) hst fun h' hx => ?_
  have I1 : Inv X pins σ H { s with heap := h' } := I.kept (t' := s.toks) fun b o e => hx b o (Nat.ne_of_lt (Heap.lt_size e)) e
  exact h.run pins _ σ H xs _ Q I1 (by simpa using rv) hw
theorem turn_enumH {P : Program} {w : World} {K : PySem.W.Frag} {elts : List Expr} {kk : Nat} {tpos : Pos} (a e it : Addr) :
    TurnH P w K (.Tuple elts kk tpos) (Ite K a) [e, it] e (fun i h => (∃ old, IsEnum h e it ((i : Nat) : Int) old) ∧ h.IsListIter it a i ∧ e ≠ it) where
  mem := by simp
  obj := (turn_enum (P := P) (w := w) (K := K) (elts := elts) (kk := kk) (tpos := tpos) a e it).obj
  keep := (turn_enum (P := P) (w := w) (K := K) (elts := elts) (kk := kk) (tpos := tpos) a e it).keep
  item := by
    intro X hP hw hK hc i pins s σ H E I hf st hg
    subst hP hw hK
    obtain ⟨⟨old, he⟩, hit, hne⟩ := st
    obtain ⟨xs, x, hq, hx⟩ := hg
    obtain ⟨its, rv, p, hz⟩ := I.list hq
    obtain ⟨u, hu, ru⟩ := rv.get hx
    have hel : e < s.heap.objs.size := Heap.lt_size he
    have hil : it < s.heap.objs.size := by obtain ⟨_, q, _⟩ := hit; exact Heap.lt_size q
    refine wpAny_pyNext_enum_item he hit p.isList (x := u) (by simpa using hu) hne fun h' ho hit' hT hsz hk => ?_
    refine ⟨_, rfl, wpAny_letOwnedTupleGo_enum (s := { s with heap := h', toks := s.toks + 1 }) ho fun h'' he' sb => ?_⟩
    have hT2 : h''.get? s.heap.objs.size = some { cls := .type "tuple", data := .seq #[.int i s.toks, u] } := (sb.2 _ (Nat.ne_of_gt hel)).trans hT
    have new : ObjOk X.prog X.w (upd H s.heap.objs.size (.tup [.int (i : Nat), x])) h'' s.heap.objs.size (.tup [.int (i : Nat), x]) :=
      ⟨by show 2 ≤ sizeLine; decide, [.int i s.toks, u], .cons ⟨_, rfl⟩ (.cons ru .nil), ⟨_, hT2, rfl, _, rfl⟩⟩
    have I1 : Inv X pins σ (upd H s.heap.objs.size (.tup [.int (i : Nat), x])) { s with heap := h'', toks := s.toks + 1 } :=
      I.turnedNew (ch := [e, it]) (fun b ob hb q => (sb.2 b (fun z => hb (by simp [z]))).trans (hk b ob (fun z => hb (by simp [z])) (fun z => hb (by simp [z])) q)) hf (Nat.le_refl _) new
    refine ⟨.ref s.heap.objs.size, _, I1, rfl, ⟨_, x, rfl, I.hok.fresh (Nat.le_refl _), rfl, fun ys hy => by rw [I.list_inj hy hq]; exact hx⟩, ⟨⟨u, ?_⟩, hit'.at fun o q => (sb.2 it (Ne.symm hne)).trans q, hne⟩, fun b hb => ?_⟩
    · have e1 : ((i + 1 : Nat) : Int) = (i : Int) + 1 := by omega
      rw [e1]; exact he'
    · have hb' : b < s.heap.objs.size := by
        have e' : b = e ∨ b = it := by simpa using hb
        rcases e' with z | z
        · rw [z]; exact hel
        · rw [z]; exact hil
      rw [upd_ne (Nat.ne_of_lt hb')]
      exact (hf b hb).1
  done := by
    intro X hP hw hK hc i pins s σ H E I hf st hg
    subst hP hw hK
    obtain ⟨⟨old, he⟩, hit, hne⟩ := st
    obtain ⟨xs, hq, hx⟩ := hg
    obtain ⟨its, rv, p, hz⟩ := I.list hq
    obtain ⟨f0, f1, f2, f3, f4, f5⟩ := hf it (by simp)
    have hl := rv.length
    obtain ⟨x1, hot⟩ := hc.at I
    exact pyNext_enum_end_hot hot he hit p.isList (by simp; omega) fun h' eb => ⟨rfl, I.turned (t' := s.toks) (fun b o hb q => eb b o hb q) f0 f1 f3 f4 f5⟩
  self := (turn_enum (P := P) (w := w) (K := K) (elts := elts) (kk := kk) (tpos := tpos) a e it).self
theorem pi_enumH {e : Expr} {ta : TA} {p tpos : Pos} {elts : List Expr} {kk : Nat} (hg : Gl X "enumerate") (hm : X.mg "enumerate" = none) (ha : PA X [e] ta) (hs : starEach [e] X.env = [(false, eval e X.env)] := by rfl) :
    PIH X (.Tuple elts kk tpos) (.Call (.Name "enumerate" p) [e] [] pos) (iEnum X.K ta) := by
  refine ⟨fun pins s σ H R I h => ?_⟩
  refine Call_ (ld_blt I hg hm boot_enumerate (PyProof.Rows.callWith_type1 (thn (ha.run pos pins s σ H _ I h) fun us s1 ⟨vs, H1, I1, r1, q1⟩ => ?_) hs rfl))
  obtain ⟨a, xs, ex, hq, q⟩ := q1
  subst ex
  cases r1 with
  | cons r rr =>
    cases rr
    cases r
    obtain ⟨its, rv, p', hz⟩ := I1.list hq
    refine call_enumerate_list p'.isList fun h' he hit hsz hk => wpAny_pyIter_enum he ?_
    have I2 : Inv X pins σ H1 { s1 with heap := h' } := I1.kept (t' := s1.toks) hk
    refine ⟨s1.heap.objs.size + 1, [s1.heap.objs.size + 1, s1.heap.objs.size], _, _, H1, rfl, I2, turn_enumH a (s1.heap.objs.size + 1) s1.heap.objs.size, ⟨⟨.none, he⟩, hit, Nat.succ_ne_self _⟩, fun b hb => ?_, q⟩
    have e' : b = s1.heap.objs.size + 1 ∨ b = s1.heap.objs.size := by simpa using hb
    have hle : s1.heap.objs.size ≤ b := by
      rcases e' with z | z
      · rw [z]; exact Nat.le_add_right _ _
      · rw [z]; exact Nat.le_refl _
    exact I1.fpOk hle (I1.hok.fresh hle)
end
end L2
end

noncomputable section
namespace DL
open PySem PySem.Spec PyProof.Rows L2 TL PySem.W L2H
section
variable {cls : Cls} {W : WX} {X : Cx} {a b e tg iter : Expr} {es : List Expr} {fs : Env → Res (List D)} {pos : Pos}
structure JIH (X : Cx) (cls : Cls) (W : WX) (tg e : Expr) (f : Env → Res (List D)) : Prop where
  ex : ∃ wi, PIH X tg e wi ∧ DI X.K cls W wi f
theorem ji_enmH {p tpos : Pos} {elts : List Expr} {kk : Nat} (hm : X.mg "enumerate" = none) (ha : JA X cls W [a] fs) (hg : Gl X "enumerate" := by rfl) (hs : starEach [a] X.env = [(false, eval a X.env)] := by rfl) :
    JIH X cls W (.Tuple elts kk tpos) (.Call (.Name "enumerate" p) [a] [] pos) (iEnm fs) := by
  obtain ⟨t, p, d⟩ := ha.ex
  refine ⟨_, pi_enumH hg hm p hs, ?_⟩
  intro σ F H g O R s st p
  rw [iEnm_] at p
  refine d.go s st (fun c e => by rw [e] at p; exact p) (fun e => by rw [e] at p; exact p) fun ds e vs F1 H1 x b => ?_
  rw [e] at p
  simp only [Res.bind] at p
  split at p
  · rename_i d1
    cases e1 : lsS d1 with
    | none => rw [e1] at p; exact p.elim
    | some xs =>
      rw [e1] at p
      simp only [Res.of] at p
      obtain ⟨v, rfl, b1⟩ := b.one
      obtain ⟨a, vs, rfl, h, r⟩ := b1.lsS e1
      exact ⟨a, vs, rfl, x.fh.seq h, p _ F1 H1 x (feeds_enum h r)⟩
  · exact p.elim
def gtH (n : Nat) (fs : List D → Env → Option Env) : D → Env → Option Env := fun d g => match d with
  | .tp ds => gtT n fs (.tp ds) g
  | _ => none
@[simp] theorem gtH_tp (n : Nat) (fs : List D → Env → Option Env) (ds : List D) (g : Env) : gtH n fs (.tp ds) g = gtT n fs (.tp ds) g := rfl
theorem jg_tupH {kk n : Nat} {fs : List D → Env → Option Env} {ss : List Nat} (hc : HotC X) (h : JGs X cls es fs ss)
    (hn : (assignEach es X.env).length = n := by rfl) (hst : (assignEach es X.env).findIdx? (·.1) = none := by rfl) : JG X cls (.Tuple es kk pos) (gtH n fs) ss := by
  obtain ⟨t, p, d⟩ := h.ex
  refine ⟨_, pg_tupH hc p hn hst, ?_⟩
  intro v dd σ F H g O g' Q s st r e k
  cases r with
  | tp hT hr =>
    rw [gtH_tp, gtT_tp] at e
    split at e
    · rename_i hl
      exact ⟨_, _, rfl, sameT s hT, by rw [hr.len]; exact hl, d _ _ σ F H g O g' Q s st hr e k⟩
    · cases e
  | _ => cases e
theorem js_forH {body : List Stmt} {ft : D → Env → Option Env} {fbo : Env → Out} {ss : List Nat} (hp : PassesOwn (model X.prog X.w) X.A X.env X.xe) (hc : HotC X) (hi : JIH X cls W tg iter fs) (hg : JG X cls tg ft ss) (hb : JSs X cls W body fbo)
    (hs : ∀ x, foldedSetIterable iter X.env x = pure x := by intro _; rfl) : JS X cls W (.For tg iter body [] pos) (sFor fs ft fbo) := by
  obtain ⟨wi, p, d⟩ := hi.ex
  obtain ⟨t, q, d'⟩ := hg.ex
  obtain ⟨tb, r, d''⟩ := hb.ex
  exact ⟨_, ps_forH hp hc p q r hs, ds_for d d' d''⟩
theorem hotOf {a : Addr} {oe : Obj} {cl : Value} {d : Option Addr} {pn : List (Addr × Obj)} (hz : L2N.Zn cl d oe) (hf : ∃ vs, oe.data = .fields vs) : HotC (X.suite a ((a, oe) :: pn)) := by
  obtain ⟨vs, hd⟩ := hf
  exact ⟨(a, oe), ⟨rfl, vs, hd, hz.2.2 vs hd⟩, List.mem_cons_self⟩
end
end DL
end

noncomputable section
namespace Lw
open DL
def f_law_at : Env → Out := sSeq (sIf (tC2 cLt (eVar 1) (eCall caLen (aCons (eVar 0) (aNil)))) (sRet (eBin opIx (eVar 0) (eVar 1))) (sNil)) (sRet (eC (.int 0)))
def g_law_at : List D → Res D := runF f_law_at 2
end Lw
end

noncomputable section
namespace Lw
open DL
def f_law_stir : Env → Out := sSeq (sAsgF 2 (eBin opMod (eBin opMul (eBin opAdd (eBin opAdd (eBin opMod (eVar 0) (eBin opPow (eC (.int 10)) (eC (.int 60)))) (eBin opMul (eC (.int 977)) (eVar 1))) (eC (.int 1))) (eC (.int 48271))) (eC (.int 2147483647)))) (sSeq (sAsgF 2 (eBin opMod (eBin opMul (eVar 2) (eVar 2)) (eC (.int 2147483629)))) (sRet (eBin opDiv (eBin opMod (eBin opMul (eBin opAdd (eVar 2) (eBin opMul (eC (.int 40692)) (eBin opAdd (eVar 1) (eC (.int 3))))) (eC (.int 1583458089))) (eC (.int 2147483629))) (eC (.int 8)))))
def g_law_stir : List D → Res D := runF f_law_stir 3
def f_law_numbers_v3_l1 : Env → Out := sSeq (sAsgF 5 (eBin opMod (eBin opIx (eVar 0) (eVar 4)) (eBin opPow (eC (.int 10)) (eC (.int 18))))) (sIf (tC2 cLt (eCall caLen (aCons (eVar 3) (aNil))) (eVar 2)) (sApp 3 (eVar 5)) (sSet 3 (eBin opMod (eVar 4) (eVar 2)) (eBin opMod (eBin opAdd (eBin opMul (eBin opIx (eVar 3) (eBin opMod (eVar 4) (eVar 2))) (eC (.int 10007))) (eVar 5)) (eBin opPow (eC (.int 10)) (eC (.int 18))))))
def f_law_numbers_v3 : Env → Out := sSeq (sAsg 3 (eLst (aNil))) (sSeq (sFor (iRg2 (aCons (eVar 1) (aCons (eCall caLen (aCons (eVar 0) (aNil))) (aNil)))) (gtN 4) f_law_numbers_v3_l1) (sRetV 3))
def g_law_numbers_v3 : List D → Res D := runF f_law_numbers_v3 6
def f_law_digits_l1 : Env → Out := sSeq (sIf (tC2 cIn (eVar 6) (eLst (aConsO (eC (.int 0)) (aConsO (eUn opNeg (eC (.int 1))) (aNil))))) (sApp 5 (eTup (aConsO (eBin opMod (eOwn g_law_stir (aCons (eVar 4) (aCons (eBin opMul (eC (.int 2)) (eVar 7)) (aNil)))) (eVar 3)) (aConsO (eBin opMod (eOwn g_law_stir (aCons (eVar 4) (aCons (eBin opAdd (eBin opMul (eC (.int 2)) (eVar 7)) (eC (.int 1))) (aNil)))) (eVar 3)) (aNil))))) (sApp 5 (eTup (aConsO (eBin opMod (eVar 6) (eVar 3)) (aConsO (eBin opMod (eBin opDiv (eVar 6) (eVar 3)) (eVar 3)) (aNil)))))) (sAsgF 6 (eBin opDiv (eVar 6) (eBin opMul (eVar 3) (eVar 3))))
def f_law_digits : Env → Out := sSeq (sAsgF 3 (eBin opAdd (eC (.int 1)) (eBin opMod (eVar 0) (eVar 1)))) (sSeq (sAsgF 4 (eBin opDiv (eVar 0) (eVar 1))) (sSeq (sAsg 5 (eLst (aNil))) (sSeq (sAsgF 6 (eBin opDiv (eVar 4) (eBin opAdd (eVar 2) (eC (.int 1))))) (sSeq (sFor (iRg1 (aCons (eBin opMod (eVar 4) (eBin opAdd (eVar 2) (eC (.int 1)))) (aNil))) (gtN 7) f_law_digits_l1) (sFrz 5 (sRet (eTup (aConsO (eVar 3) (aConsO (eVar 5) (aNil))))))))))
def g_law_digits : List D → Res D := runF f_law_digits 8
def f_law_web_v3_l1 : Env → Out := sSeq (sAsgF 8 (eBin opMod (eOwn g_law_stir (aCons (eVar 7) (aCons (eC (.int 1)) (aNil)))) (eVar 4))) (sSeq (sAsgF 9 (eBin opMod (eOwn g_law_stir (aCons (eVar 7) (aCons (eC (.int 2)) (aNil)))) (eVar 4))) (sSeq (sIf (tAn (tC2 cLt (eBin opAdd (eVar 6) (eC (.int 1))) (eVar 4)) (tC2 cGt (eBin opMod (eOwn g_law_stir (aCons (eVar 7) (aCons (eC (.int 3)) (aNil)))) (eC (.int 8))) (eC (.int 0)))) (sSeq (sAsgF 8 (eBin opMod (eOwn g_law_stir (aCons (eVar 7) (aCons (eC (.int 1)) (aNil)))) (eBin opAdd (eVar 6) (eC (.int 1))))) (sAsgF 9 (eBin opAdd (eVar 6) (eC (.int 1))))) (sNil)) (sApp 5 (eBin opIx (eLst (aConsO (eTup (aConsO (eVar 8) (aConsO (eVar 9) (aNil)))) (aConsO (eTup (aConsO (eVar 9) (aConsO (eVar 8) (aNil)))) (aNil)))) (eBin opMod (eOwn g_law_stir (aCons (eVar 7) (aCons (eC (.int 4)) (aNil)))) (eC (.int 2)))))))
def f_law_web_v3 : Env → Out := sSeq (sAsgF 3 (eOwn g_law_at (aCons (eVar 0) (aCons (eC (.int 0)) (aNil))))) (sSeq (sIf (tC2 cEq (eBin opMod (eVar 3) (eC (.int 2))) (eC (.int 0))) (sRet (eOwn g_law_digits (aCons (eOwn g_law_at (aCons (eVar 0) (aCons (eC (.int 1)) (aNil)))) (aCons (eVar 1) (aCons (eVar 2) (aNil)))))) (sNil)) (sSeq (sAsgF 4 (eBin opAdd (eC (.int 1)) (eBin opMod (eBin opDiv (eVar 3) (eC (.int 2))) (eVar 1)))) (sSeq (sAsg 5 (eLst (aNil))) (sSeq (sFor (iEnm (aCons (eOwn g_law_numbers_v3 (aCons (eVar 0) (aCons (eC (.int 1)) (aCons (eVar 2) (aNil))))) (aNil))) (gtT 2 (gtCons (gtN 6) (gtCons (gtN 7) (gtNil)))) f_law_web_v3_l1) (sFrz 5 (sRet (eTup (aConsO (eVar 4) (aConsO (eVar 5) (aNil))))))))))
def g_law_web_v3 : List D → Res D := runF f_law_web_v3 10
end Lw
end

noncomputable section
namespace Lw
open DL
def f_law_trees_v3_c1 : Env → Res D := eIf (tC2 cEq (eVar 11) (eVar 9)) (eVar 8) (eVar 11)
def f_law_trees_v3_l2 : Env → Out := sSeq (sAsgF 8 (eBin opIx (eVar 6) (eBin opIx (eBin opIx (eVar 1) (eVar 7)) (eC (.int 0))))) (sSeq (sAsgF 9 (eBin opIx (eVar 6) (eBin opIx (eBin opIx (eVar 1) (eVar 7)) (eC (.int 1))))) (sIf (tC2 cNe (eVar 8) (eVar 9)) (sSeq (sAsgF 10 (eCall caTuple (aCons (eLc (iSeq (eVar 6)) [11] (gtN 11) (tYesG) f_law_trees_v3_c1) (aNil)))) (sApp 4 (eTup (aConsO (eBin opAdd (eVar 5) (eTup (aConsO (eVar 7) (aNil)))) (aConsO (eVar 10) (aNil)))))) (sNil)))
def f_law_trees_v3_l3 : Env → Out := sFor (iRg2 (aCons (eBin opAdd (eCall caMax3 (aCons (eBin opAdd (eTup (aConsO (eUn opNeg (eC (.int 1))) (aNil))) (eVar 5)) (aNil))) (eC (.int 1))) (aCons (eCall caLen (aCons (eVar 1) (aNil))) (aNil)))) (gtN 7) f_law_trees_v3_l2
def f_law_trees_v3_l4 : Env → Out := sSeq (sAsg 4 (eLst (aNil))) (sSeq (sFor (iSeq (eVar 2)) (gtT 2 (gtCons (gtN 5) (gtCons (gtN 6) (gtNil)))) f_law_trees_v3_l3) (sFrz 4 (sAsgF 2 (eVar 4))))
def f_law_trees_v3_c5 : Env → Res D := eVar 5
def f_law_trees_v3 : Env → Out := sSeq (sAsgF 2 (eLst (aConsO (eTup (aConsO (eTup (aNil)) (aConsO (eTR1 (eVar 0)) (aNil)))) (aNil)))) (sSeq (sFor (iRg1 (aCons (eBin opSub (eVar 0) (eC (.int 1))) (aNil))) (gtN 3) f_law_trees_v3_l4) (sRet (eLc (iSeq (eVar 2)) [5, 6] (gtT 2 (gtCons (gtN 5) (gtCons (gtN 6) (gtNil)))) (tYesG) f_law_trees_v3_c5)))
def g_law_trees_v3 : List D → Res D := runF f_law_trees_v3 12
end Lw
end

noncomputable section
namespace Lw
open DL
def f_Web_init_l1 : Env → Out := sIf (tOr_ (tNo (tCh cLe cLt (eC (.int 0)) (eVar 3) (eVar 1))) (tNo (tCh cLe cLt (eC (.int 0)) (eVar 4) (eVar 1)))) (sRaise 1) (sNil)
def f_Web_init : Env → Out := sSeq (sIf (tOr_ (tNo (tCh cLe cLe (eC (.int 1)) (eVar 1) (eC (.int 14)))) (tC2 cGt (eCall caLen (aCons (eVar 2) (aNil))) (eC (.int 30)))) (sRaise 1) (sNil)) (sSeq (sFor (iSeq (eVar 2)) (gtT 2 (gtCons (gtN 3) (gtCons (gtN 4) (gtNil)))) f_Web_init_l1) (sSeq (sFld 0 14 0 (eVar 1)) (sFld 0 14 1 (eCall caList (aCons (eVar 2) (aNil))))))
def g_Web_init : List D → Res (List D) := mirI f_Web_init 14 5
def f_made_set_l1 : Env → Out := sSeq (sIf (tOr_ (tC2 cLe (eVar 3) (eVar 2)) (tC2 cGe (eVar 3) (eCall caLen (aCons (eUn (opFld 14 1) (eVar 0)) (aNil))))) (sRaise 2) (sNil)) (sAsgF 2 (eVar 3))
def f_made_set : Env → Out := sSeq (sAsgF 2 (eUn opNeg (eC (.int 1)))) (sSeq (sFor (iSeq (eVar 1)) (gtN 3) f_made_set_l1) (sRet (eCall caTuple (aCons (eVar 1) (aNil)))))
def g_made_set : List D → Res D := runF f_made_set 4
end Lw
end

noncomputable section
namespace Lw
open DL
def f_heads_behind_c1 : Env → Res D := eIf (tC2 cEq (eVar 3) (eVar 2)) (eVar 1) (eVar 3)
def f_heads_behind : Env → Out := sRet (eLc (iSeq (eVar 0)) [3] (gtN 3) (tYesG) f_heads_behind_c1)
def g_heads_behind : List D → Res D := runF f_heads_behind 4
def f_grown_by_c1 : Env → Res D := eVar 6
def f_grown_by_c1t : Env → Res Bool := tAn (tC2 cNIn (eVar 6) (eVar 1)) (tC2 cNIn (eVar 6) (eVar 2))
def f_grown_by_l1 : Env → Out := sSeq (sAsgF 7 (eBin opIx (eVar 5) (eBin opIx (eBin opIx (eUn (opFld 14 1) (eVar 0)) (eVar 6)) (eC (.int 0))))) (sSeq (sAsgF 8 (eBin opIx (eVar 5) (eBin opIx (eBin opIx (eUn (opFld 14 1) (eVar 0)) (eVar 6)) (eC (.int 1))))) (sIf (tC2 cNe (eVar 7) (eVar 8)) (sSeq (sAsgF 5 (eOwn g_heads_behind (aCons (eVar 5) (aCons (eVar 7) (aCons (eVar 8) (aNil)))))) (sApp 4 (eVar 6))) (sIf (tC2 cIn (eVar 6) (eVar 1)) (sRet (eC .non)) (sNil))))
def f_grown_by : Env → Out := sSeq (sAsg 4 (eLst (aNil))) (sSeq (sAsgF 5 (eLR1 (eUn (opFld 14 0) (eVar 0)))) (sSeq (sFor (iSeq (eBin opAdd (eCall caList (aCons (eVar 1) (aNil))) (eLc (iSeq (eVar 3)) [6] (gtN 6) (f_grown_by_c1t) f_grown_by_c1))) (gtN 6) f_grown_by_l1) (sSeq (sIf (tC2 cLt (eCall caLen (aCons (eVar 4) (aNil))) (eBin opSub (eUn (opFld 14 0) (eVar 0)) (eC (.int 1)))) (sRet (eC .non)) (sNil)) (sRet (eCall caTuple (aCons (eCall caSorted3 (aCons (eVar 4) (aNil))) (aNil)))))))
def g_grown_by : List D → Res D := runF f_grown_by 9
def f_looked_at_sets : Env → Out := sSeq (sAsgF 3 (eOwn g_made_set (aCons (eVar 0) (aCons (eVar 1) (aNil))))) (sSeq (sAsgF 4 (eOwn g_made_set (aCons (eVar 0) (aCons (eVar 2) (aNil))))) (sSeq (sIf (tC2 cLt (eLenSetT (eBin opAdd (eVar 3) (eVar 4))) (eBin opAdd (eCall caLen (aCons (eVar 3) (aNil))) (eCall caLen (aCons (eVar 4) (aNil))))) (sRet (eC .non)) (sNil)) (sRet (eTup (aConsO (eVar 3) (aConsO (eVar 4) (aNil)))))))
def g_looked_at_sets : List D → Res D := runF f_looked_at_sets 5
def f_least_with : Env → Out := sSeq (sAsgF 3 (eOwn g_looked_at_sets (aCons (eVar 0) (aCons (eVar 1) (aCons (eVar 2) (aNil)))))) (sSeq (sIf (tC2 cIsN (eVar 3) (eC .non)) (sRet (eC .non)) (sNil)) (sRet (eOwn g_grown_by (aCons (eVar 0) (aCons (eBin opIx (eVar 3) (eC (.int 0))) (aCons (eBin opIx (eVar 3) (eC (.int 1))) (aCons (eLR1 (eCall caLen (aCons (eUn (opFld 14 1) (eVar 0)) (aNil)))) (aNil))))))))
def g_least_with : List D → Res D := runF f_least_with 4
def f_greatest_with : Env → Out := sSeq (sAsgF 3 (eOwn g_looked_at_sets (aCons (eVar 0) (aCons (eVar 1) (aCons (eVar 2) (aNil)))))) (sSeq (sIf (tC2 cIsN (eVar 3) (eC .non)) (sRet (eC .non)) (sNil)) (sRet (eOwn g_grown_by (aCons (eVar 0) (aCons (eBin opIx (eVar 3) (eC (.int 0))) (aCons (eBin opIx (eVar 3) (eC (.int 1))) (aCons (eLRR1 (eCall caLen (aCons (eUn (opFld 14 1) (eVar 0)) (aNil)))) (aNil))))))))
def g_greatest_with : List D → Res D := runF f_greatest_with 4
end Lw
end

noncomputable section
namespace Lw
open DL
def f_marks_over_c1 : Env → Res D := eIf (tC2 cEq (eVar 8) (eVar 7)) (eVar 6) (eVar 8)
def f_marks_over_l1 : Env → Out := sSeq (sAsgT (gtT 2 (gtCons (gtN 4) (gtCons (gtN 5) (gtNil)))) (eBin opIx (eUn (opFld 14 1) (eVar 0)) (eVar 3))) (sSeq (sAsgF 6 (eCall caMin2 (aCons (eBin opIx (eVar 2) (eVar 4)) (aCons (eBin opIx (eVar 2) (eVar 5)) (aNil))))) (sSeq (sAsgF 7 (eCall caMax2 (aCons (eBin opIx (eVar 2) (eVar 4)) (aCons (eBin opIx (eVar 2) (eVar 5)) (aNil))))) (sAsgF 2 (eLc (iSeq (eVar 2)) [8] (gtN 8) (tYesG) f_marks_over_c1))))
def f_marks_over : Env → Out := sSeq (sAsgF 2 (eLR1 (eUn (opFld 14 0) (eVar 0)))) (sSeq (sFor (iSeq (eVar 1)) (gtN 3) f_marks_over_l1) (sRetV 2))
def g_marks_over : List D → Res D := runF f_marks_over 9
end Lw
end

noncomputable section
namespace Lw
open DL
def f_look_at_table_l1 : Env → Out := sIf (tC2 cNe (eCall caLen (aCons (eVar 1) (aNil))) (eCall caLen (aCons (eVar 0) (aNil)))) (sRaise 7) (sNil)
def f_look_at_table : Env → Out := sFor (iSeq (eVar 0)) (gtN 1) f_look_at_table_l1
def g_look_at_table : List D → Res D := runF f_look_at_table 2
def f_first_row_with_l1 : Env → Out := sIf (tC2 cNe (eBin opIx (eBin opIx (eVar 0) (eVar 2)) (eVar 1)) (eC (.int 0))) (sRetV 2) (sNil)
def f_first_row_with : Env → Out := sSeq (sFor (iRg2 (aCons (eVar 1) (aCons (eCall caLen (aCons (eVar 0) (aNil))) (aNil)))) (gtN 2) f_first_row_with_l1) (sRet (eC .non))
def g_first_row_with : List D → Res D := runF f_first_row_with 3
def f_cleared_l1 : Env → Out := sApp 6 (eBin opDiv (eBin opSub (eBin opMul (eBin opIx (eVar 5) (eVar 7)) (eBin opIx (eVar 4) (eVar 1))) (eBin opMul (eBin opIx (eVar 5) (eVar 1)) (eBin opIx (eVar 4) (eVar 7)))) (eVar 2))
def f_cleared_l2 : Env → Out := sSeq (sAsg 6 (eBin opMul (eLst (aConsO (eC (.int 0)) (aNil))) (eBin opAdd (eVar 1) (eC (.int 1))))) (sSeq (sFor (iRg2 (aCons (eBin opAdd (eVar 1) (eC (.int 1))) (aCons (eCall caLen (aCons (eVar 5) (aNil))) (aNil)))) (gtN 7) f_cleared_l1) (sFrz 6 (sApp 3 (eVar 6))))
def f_cleared : Env → Out := sSeq (sAsg 3 (eLst (aNil))) (sSeq (sAsgF 4 (eBin opIx (eVar 0) (eVar 1))) (sSeq (sFor (iSeq (eSl (eVar 0) (ePart (some (eBin opAdd (eVar 1) (eC (.int 1))))) (ePart none))) (gtN 5) f_cleared_l2) (sRetV 3)))
def g_cleared : List D → Res D := runF f_cleared 8
def f_determinant_c1 : Env → Res D := eCall caList (aCons (eVar 6) (aNil))
def f_determinant_l1 : Env → Out := sSeq (sAsgF 5 (eOwn g_first_row_with (aCons (eVar 1) (aCons (eVar 4) (aNil))))) (sSeq (sIf (tC2 cIsN (eVar 5) (eC .non)) (sRet (eC (.int 0))) (sNil)) (sSeq (sIf (tC2 cNe (eVar 5) (eVar 4)) (sSeq (sSwp 1 (eVar 4) (eVar 5) (eTup (aConsO (eBin opIx (eVar 1) (eVar 5)) (aConsO (eBin opIx (eVar 1) (eVar 4)) (aNil))))) (sAsgF 2 (eUn opNeg (eVar 2)))) (sNil)) (sSeq (sFrz 1 (sAsg 1 (eBin opAdd (eSl (eVar 1) (ePart none) (ePart (some (eBin opAdd (eVar 4) (eC (.int 1)))))) (eOwn g_cleared (aCons (eVar 1) (aCons (eVar 4) (aCons (eVar 3) (aNil)))))))) (sAsgF 3 (eBin opIx (eBin opIx (eVar 1) (eVar 4)) (eVar 4))))))
def f_determinant : Env → Out := sSeq (sExp (eOwn g_look_at_table (aCons (eVar 0) (aNil)))) (sSeq (sAsgI 1 (eLc (iSeq (eVar 0)) [6] (gtN 6) (tYesG) f_determinant_c1)) (sSeq (sAsgF 2 (eC (.int 1))) (sSeq (sAsgF 3 (eC (.int 1))) (sSeq (sFor (iRg1 (aCons (eCall caLen (aCons (eVar 1) (aNil))) (aNil))) (gtN 4) f_determinant_l1) (sRet (eBin opMul (eVar 2) (eVar 3)))))))
def g_determinant : List D → Res D := runF f_determinant 7
def f_pulls_c1 : Env → Res D := eBin opMul (eLst (aConsO (eC (.int 0)) (aNil))) (eVar 0)
def f_pulls_l1 : Env → Out := sIf (tC2 cNe (eVar 3) (eVar 4)) (sSeq (sAug2 (fun a b => a + b) 2 3 3 (eC (.int 1))) (sSeq (sAug2 (fun a b => a + b) 2 4 4 (eC (.int 1))) (sSeq (sAug2 (fun a b => a - b) 2 3 4 (eC (.int 1))) (sAug2 (fun a b => a - b) 2 4 3 (eC (.int 1)))))) (sNil)
def f_pulls : Env → Out := sSeq (sAsg 2 (eLc (iRg1 (aCons (eVar 0) (aNil))) [5] (gtN 5) (tYesG) f_pulls_c1)) (sSeq (sFor (iSeq (eVar 1)) (gtT 2 (gtCons (gtN 3) (gtCons (gtN 4) (gtNil)))) f_pulls_l1) (sRetV 2))
def g_pulls : List D → Res D := runF f_pulls 6
def f_without_last_c1 : Env → Res D := eSl (eVar 1) (ePart none) (ePart (some (eUn opNeg (eC (.int 1)))))
def f_without_last : Env → Out := sRet (eLc (iSeq (eSl (eVar 0) (ePart none) (ePart (some (eUn opNeg (eC (.int 1))))))) [1] (gtN 1) (tYesG) f_without_last_c1)
def g_without_last : List D → Res D := runF f_without_last 2
def f_pull_table : Env → Out := sRet (eOwn g_pulls (aCons (eUn (opFld 14 0) (eVar 0)) (aCons (eUn (opFld 14 1) (eVar 0)) (aNil))))
def g_pull_table : List D → Res D := runF f_pull_table 1
def f_tree_count : Env → Out := sRet (eOwn g_determinant (aCons (eOwn g_without_last (aCons (eOwn g_pull_table (aCons (eVar 0) (aNil))) (aNil))) (aNil)))
def g_tree_count : List D → Res D := runF f_tree_count 1
end Lw
end

noncomputable section
namespace Lw
open DL
def f_is_tree_l1 : Env → Out := sSeq (sIf (tOr_ (tC2 cLe (eVar 3) (eVar 2)) (tC2 cGe (eVar 3) (eCall caLen (aCons (eUn (opFld 14 1) (eVar 0)) (aNil))))) (sRet (eC (.bl false))) (sNil)) (sAsgF 2 (eVar 3))
def f_is_tree : Env → Out := sSeq (sIf (tC2 cNe (eCall caLen (aCons (eVar 1) (aNil))) (eBin opSub (eUn (opFld 14 0) (eVar 0)) (eC (.int 1)))) (sRet (eC (.bl false))) (sNil)) (sSeq (sAsgF 2 (eUn opNeg (eC (.int 1)))) (sSeq (sFor (iSeq (eVar 1)) (gtN 3) f_is_tree_l1) (sRet (eB (tC2 cEq (eLenSet (eOwn g_marks_over (aCons (eVar 0) (aCons (eVar 1) (aNil))))) (eC (.int 1)))))))
def g_is_tree : List D → Res D := runF f_is_tree 4
end Lw
end

noncomputable section
namespace Lw
open DL
def f_pieces_of_c1 : Env → Res D := eVar 4
def f_pieces_of_c1t : Env → Res Bool := tC2 cEq (eBin opIx (eVar 2) (eVar 4)) (eVar 3)
def f_pieces_of_c3 : Env → Res D := eLc (iRg1 (aCons (eUn (opFld 14 0) (eVar 0)) (aNil))) [4] (gtN 4) (f_pieces_of_c1t) f_pieces_of_c1
def f_pieces_of : Env → Out := sSeq (sAsgF 2 (eOwn g_marks_over (aCons (eVar 0) (aCons (eOwn g_made_set (aCons (eVar 0) (aCons (eVar 1) (aNil)))) (aNil))))) (sRet (eLc (iSeq (eSortedSet (eVar 2))) [3] (gtN 3) (tYesG) f_pieces_of_c3))
def g_pieces_of : List D → Res D := runF f_pieces_of 5
end Lw
end

noncomputable section
namespace Lw
open DL
def f_count_with_c1 : Env → Res D := eB (tC2 cIn (eVar 11) (eVar 4))
def f_count_with_l1 : Env → Out := sDSet 6 (eVar 9) (eVar 7)
def f_count_with_l2 : Env → Out := sFor (iSeq (eVar 8)) (gtN 9) f_count_with_l1
def f_count_with_c4 : Env → Res D := eTup (aConsO (eBin opDG (eVar 6) (eBin opIx (eVar 12) (eC (.int 0)))) (aConsO (eBin opDG (eVar 6) (eBin opIx (eVar 12) (eC (.int 1)))) (aNil)))
def f_count_with_c4t : Env → Res Bool := tC2 cNIn (eVar 11) (eVar 4)
def f_count_with : Env → Out := sSeq (sAsgF 3 (eOwn g_made_set (aCons (eVar 0) (aCons (eVar 1) (aNil))))) (sSeq (sAsgF 4 (eOwn g_made_set (aCons (eVar 0) (aCons (eVar 2) (aNil))))) (sSeq (sAsgF 5 (eOwn g_pieces_of (aCons (eVar 0) (aCons (eVar 3) (aNil))))) (sSeq (sIf (tOr_ (tC2 cNe (eCall caLen (aCons (eVar 3) (aNil))) (eBin opSub (eUn (opFld 14 0) (eVar 0)) (eCall caLen (aCons (eVar 5) (aNil))))) (tTr (eCall caAny (aCons (eLc (iSeq (eVar 3)) [11] (gtN 11) (tYesG) f_count_with_c1) (aNil))))) (sRet (eC (.int 0))) (sNil)) (sSeq (sAsg 6 (eDic)) (sSeq (sFor (iEnm (aCons (eVar 5) (aNil))) (gtT 2 (gtCons (gtN 7) (gtCons (gtN 8) (gtNil)))) f_count_with_l2) (sSeq (sAsgF 10 (eLc (iEnm (aCons (eUn (opFld 14 1) (eVar 0)) (aNil))) [11, 12] (gtT 2 (gtCons (gtN 11) (gtCons (gtN 12) (gtNil)))) (f_count_with_c4t) f_count_with_c4)) (sRet (eOwn g_determinant (aCons (eOwn g_without_last (aCons (eOwn g_pulls (aCons (eCall caLen (aCons (eVar 5) (aNil))) (aCons (eVar 10) (aNil)))) (aNil))) (aNil))))))))))
def g_count_with : List D → Res D := runF f_count_with 13
end Lw
end

noncomputable section
namespace Lw
open DL
def f_refuse_no_tree : Env → Out := sIf (tNo (tTr (eOwn g_is_tree (aCons (eVar 0) (aCons (eVar 1) (aNil)))))) (sRaise 4) (sNil)
def g_refuse_no_tree : List D → Res D := runF f_refuse_no_tree 2
def f_tree_at_l1 : Env → Out := sSeq (sAsgF 5 (eOwn g_count_with (aCons (eVar 0) (aCons (eBin opAdd (eVar 2) (eTup (aConsO (eVar 4) (aNil)))) (aCons (eVar 3) (aNil)))))) (sIf (tC2 cLt (eVar 1) (eVar 5)) (sAsgF 2 (eBin opAdd (eVar 2) (eTup (aConsO (eVar 4) (aNil))))) (sSeq (sAsgF 1 (eBin opSub (eVar 1) (eVar 5))) (sAsgF 3 (eBin opAdd (eVar 3) (eTup (aConsO (eVar 4) (aNil)))))))
def f_tree_at : Env → Out := sSeq (sIf (tOr_ (tC2 cLt (eVar 1) (eC (.int 0))) (tC2 cGe (eVar 1) (eOwn g_tree_count (aCons (eVar 0) (aNil))))) (sRaise 6) (sNil)) (sSeq (sAsgF 2 (eTup (aNil))) (sSeq (sAsgF 3 (eTup (aNil))) (sSeq (sFor (iRg1 (aCons (eCall caLen (aCons (eUn (opFld 14 1) (eVar 0)) (aNil))) (aNil))) (gtN 4) f_tree_at_l1) (sRetV 2))))
def g_tree_at : List D → Res D := runF f_tree_at 6
def f_number_of_l1 : Env → Out := sIf (tC2 cIn (eVar 5) (eVar 1)) (sAsgF 3 (eBin opAdd (eVar 3) (eTup (aConsO (eVar 5) (aNil))))) (sSeq (sAsgF 2 (eBin opAdd (eVar 2) (eOwn g_count_with (aCons (eVar 0) (aCons (eBin opAdd (eVar 3) (eTup (aConsO (eVar 5) (aNil)))) (aCons (eVar 4) (aNil))))))) (sAsgF 4 (eBin opAdd (eVar 4) (eTup (aConsO (eVar 5) (aNil))))))
def f_number_of : Env → Out := sSeq (sExp (eOwn g_refuse_no_tree (aCons (eVar 0) (aCons (eVar 1) (aNil))))) (sSeq (sAsgF 2 (eC (.int 0))) (sSeq (sAsgF 3 (eTup (aNil))) (sSeq (sAsgF 4 (eTup (aNil))) (sSeq (sFor (iRg1 (aCons (eCall caLen (aCons (eUn (opFld 14 1) (eVar 0)) (aNil))) (aNil))) (gtN 5) f_number_of_l1) (sRetV 2)))))
def g_number_of : List D → Res D := runF f_number_of 6
end Lw
end

noncomputable section
namespace Lw
open DL
def f_next_tree : Env → Out := sSeq (sAsgF 2 (eBin opAdd (eOwn g_number_of (aCons (eVar 0) (aCons (eVar 1) (aNil)))) (eC (.int 1)))) (sSeq (sIf (tC2 cEq (eVar 2) (eOwn g_tree_count (aCons (eVar 0) (aNil)))) (sRet (eC .non)) (sNil)) (sRet (eOwn g_tree_at (aCons (eVar 0) (aCons (eVar 2) (aNil))))))
def g_next_tree : List D → Res D := runF f_next_tree 3
def f_tree_ahead : Env → Out := sSeq (sAsgF 2 (eOwn g_number_of (aCons (eVar 0) (aCons (eVar 1) (aNil))))) (sSeq (sIf (tC2 cEq (eVar 2) (eC (.int 0))) (sRet (eC .non)) (sNil)) (sRet (eOwn g_tree_at (aCons (eVar 0) (aCons (eBin opSub (eVar 2) (eC (.int 1))) (aNil))))))
def g_tree_ahead : List D → Res D := runF f_tree_ahead 3
end Lw
end

noncomputable section
namespace Lw
open DL
def f_law_spoilt_v4 : Env → Out := sSeq (sAsgF 3 (eBin opMod (eOwn g_law_stir (aCons (eVar 1) (aCons (eC (.int 11)) (aNil)))) (eC (.int 8)))) (sSeq (sAsg 4 (eCall caList (aCons (eVar 0) (aNil)))) (sSeq (sAsgF 5 (eBin opMod (eOwn g_law_stir (aCons (eVar 1) (aCons (eC (.int 12)) (aNil)))) (eBin opAdd (eCall caLen (aCons (eVar 4) (aNil))) (eC (.int 1))))) (sSeq (sAsgF 6 (eBin opMod (eOwn g_law_stir (aCons (eVar 1) (aCons (eC (.int 13)) (aNil)))) (eBin opAdd (eVar 2) (eC (.int 1))))) (sSeq (sIf (tC2 cEq (eVar 3) (eC (.int 0))) (sAsg 4 (eView 4 (eBin opAdd (eSl (eVar 4) (ePart none) (ePart (some (eVar 5)))) (eSl (eVar 4) (ePart (some (eBin opAdd (eVar 5) (eC (.int 1))))) (ePart none))))) (sNil)) (sSeq (sIf (tC2 cEq (eVar 3) (eC (.int 1))) (sAsg 4 (eView 4 (eCall caSorted3 (aCons (eBin opAdd (eVar 4) (eLst (aConsO (eVar 6) (aNil)))) (aNil))))) (sNil)) (sSeq (sIf (tC2 cEq (eVar 3) (eC (.int 2))) (sAsg 4 (eView 4 (eCall caSorted3 (aCons (eBin opAdd (eView 4 (eBin opAdd (eSl (eVar 4) (ePart none) (ePart (some (eVar 5)))) (eSl (eVar 4) (ePart (some (eBin opAdd (eVar 5) (eC (.int 1))))) (ePart none)))) (eLst (aConsO (eVar 6) (aNil)))) (aNil))))) (sNil)) (sSeq (sIf (tC2 cEq (eVar 3) (eC (.int 3))) (sAsg 4 (eView 4 (eBin opAdd (eBin opAdd (eSl (eVar 4) (ePart none) (ePart (some (eVar 5)))) (eSl (eVar 4) (ePart (some (eVar 5))) (ePart (some (eBin opAdd (eVar 5) (eC (.int 1))))))) (eSl (eVar 4) (ePart (some (eVar 5))) (ePart none))))) (sNil)) (sSeq (sIf (tC2 cEq (eVar 3) (eC (.int 4))) (sRvs 4) (sNil)) (sSeq (sIf (tC2 cEq (eVar 3) (eC (.int 5))) (sAsg 4 (eView 4 (eBin opAdd (eView 4 (eBin opAdd (eSl (eVar 4) (ePart none) (ePart (some (eVar 5)))) (eSl (eVar 4) (ePart (some (eBin opAdd (eVar 5) (eC (.int 1))))) (ePart none)))) (eLst (aConsO (eBin opAdd (eVar 2) (eBin opMod (eOwn g_law_stir (aCons (eVar 1) (aCons (eC (.int 14)) (aNil)))) (eC (.int 3)))) (aNil)))))) (sNil)) (sSeq (sIf (tC2 cEq (eVar 3) (eC (.int 6))) (sAsg 4 (eView 4 (eBin opAdd (eLst (aConsO (eBin opSub (eUn opNeg (eC (.int 1))) (eBin opMod (eVar 1) (eBin opPow (eC (.int 10)) (eC (.int 30))))) (aNil))) (eSl (eVar 4) (ePart (some (eC (.int 1)))) (ePart none))))) (sNil)) (sRetV 4)))))))))))
def g_law_spoilt_v4 : List D → Res D := runF f_law_spoilt_v4 7
def f_law_no_set_v2 : Env → Out := sSeq (sAsgF 2 (eLst (aConsO (eLst (aConsO (eC (.int 0)) (aConsO (eC (.int 0)) (aNil)))) (aConsO (eLst (aConsO (eC (.int 1)) (aConsO (eC (.int 0)) (aNil)))) (aConsO (eLst (aConsO (eUn opNeg (eC (.int 1))) (aNil))) (aConsO (eLst (aConsO (eVar 1) (aNil))) (aConsO (eLst (aConsO (eC (.int 0)) (aConsO (eBin opAdd (eVar 1) (eC (.int 5))) (aNil)))) (aConsO (eLst (aConsO (eBin opSub (eVar 1) (eC (.int 1))) (aConsO (eVar 1) (aNil)))) (aNil))))))))) (sRet (eBin opIx (eVar 2) (eBin opMod (eOwn g_law_stir (aCons (eVar 0) (aCons (eC (.int 15)) (aNil)))) (eCall caLen (aCons (eVar 2) (aNil))))))
def g_law_no_set_v2 : List D → Res D := runF f_law_no_set_v2 3
def f_law_told_v8_h (ci : Nat) (ad : PySem.Addr) : Env → Out := match ci with
  | 1 => sSeq (sAsgF 6 (eLst (aConsO (eIs 5 ad false) (aConsO (eIs 5 ad false) (aConsO (eB (tNo (tV (eIs 5 ad true)))) (aNil)))))) (sSeq (sAsgF 4 (eC (.str "other"))) (sFor (iEnm (aCons (eLst (aConsO (eC (.str "tree")) (aConsO (eC (.str "set")) (aNil)))) (aNil))) (gtH 2 (gtCons (gtN 7) (gtCons (gtN 8) (gtNil)))) (sIf (tC2 cEq (eVar 6) (eLst (aConsO (eB (tC2 cEq (eVar 7) (eC (.int 0)))) (aConsO (eB (tC2 cEq (eVar 7) (eC (.int 1)))) (aConsO (eC (.bl false)) (aNil)))))) (sAsgF 4 (eVar 8)) (sNil))))
  | 2 => sSeq (sAsgF 6 (eLst (aConsO (eIs 5 ad false) (aConsO (eIs 5 ad true) (aConsO (eB (tNo (tV (eIs 5 ad true)))) (aNil)))))) (sSeq (sAsgF 4 (eC (.str "other"))) (sFor (iEnm (aCons (eLst (aConsO (eC (.str "tree")) (aConsO (eC (.str "set")) (aNil)))) (aNil))) (gtH 2 (gtCons (gtN 7) (gtCons (gtN 8) (gtNil)))) (sIf (tC2 cEq (eVar 6) (eLst (aConsO (eB (tC2 cEq (eVar 7) (eC (.int 0)))) (aConsO (eB (tC2 cEq (eVar 7) (eC (.int 1)))) (aConsO (eC (.bl false)) (aNil)))))) (sAsgF 4 (eVar 8)) (sNil))))
  | 4 => sSeq (sAsgF 6 (eLst (aConsO (eIs 5 ad true) (aConsO (eIs 5 ad false) (aConsO (eB (tNo (tV (eIs 5 ad true)))) (aNil)))))) (sSeq (sAsgF 4 (eC (.str "other"))) (sFor (iEnm (aCons (eLst (aConsO (eC (.str "tree")) (aConsO (eC (.str "set")) (aNil)))) (aNil))) (gtH 2 (gtCons (gtN 7) (gtCons (gtN 8) (gtNil)))) (sIf (tC2 cEq (eVar 6) (eLst (aConsO (eB (tC2 cEq (eVar 7) (eC (.int 0)))) (aConsO (eB (tC2 cEq (eVar 7) (eC (.int 1)))) (aConsO (eC (.bl false)) (aNil)))))) (sAsgF 4 (eVar 8)) (sNil))))
  | 6 => sSeq (sAsgF 6 (eLst (aConsO (eIs 5 ad false) (aConsO (eIs 5 ad false) (aConsO (eB (tNo (tV (eIs 5 ad true)))) (aNil)))))) (sSeq (sAsgF 4 (eC (.str "other"))) (sFor (iEnm (aCons (eLst (aConsO (eC (.str "tree")) (aConsO (eC (.str "set")) (aNil)))) (aNil))) (gtH 2 (gtCons (gtN 7) (gtCons (gtN 8) (gtNil)))) (sIf (tC2 cEq (eVar 6) (eLst (aConsO (eB (tC2 cEq (eVar 7) (eC (.int 0)))) (aConsO (eB (tC2 cEq (eVar 7) (eC (.int 1)))) (aConsO (eC (.bl false)) (aNil)))))) (sAsgF 4 (eVar 8)) (sNil))))
  | 7 => sSeq (sAsgF 6 (eLst (aConsO (eIs 5 ad false) (aConsO (eIs 5 ad false) (aConsO (eB (tNo (tV (eIs 5 ad true)))) (aNil)))))) (sSeq (sAsgF 4 (eC (.str "other"))) (sFor (iEnm (aCons (eLst (aConsO (eC (.str "tree")) (aConsO (eC (.str "set")) (aNil)))) (aNil))) (gtH 2 (gtCons (gtN 7) (gtCons (gtN 8) (gtNil)))) (sIf (tC2 cEq (eVar 6) (eLst (aConsO (eB (tC2 cEq (eVar 7) (eC (.int 0)))) (aConsO (eB (tC2 cEq (eVar 7) (eC (.int 1)))) (aConsO (eC (.bl false)) (aNil)))))) (sAsgF 4 (eVar 8)) (sNil))))
  | _ => sNever
def f_law_told_v8_hh (ci : Nat) : Env → Out := fun g => if g.length = 9 then unO 5 (f_law_told_v8_h ci 0 (g.set 5 (.rf 0))) else .bad
def f_law_told_v8 : Env → Out := sSeq (sAsgF 4 (eC (.str "told"))) (sSeq (sTry (sIf (tC2 cEq (eVar 0) (eC (.int 0))) (sExp (eOwn g_number_of (aCons (eVar 1) (aCons (eVar 2) (aNil))))) (sIf (tC2 cEq (eVar 0) (eC (.int 1))) (sExp (eOwn g_next_tree (aCons (eVar 1) (aCons (eVar 2) (aNil))))) (sIf (tC2 cEq (eVar 0) (eC (.int 2))) (sExp (eOwn g_tree_ahead (aCons (eVar 1) (aCons (eVar 2) (aNil))))) (sIf (tC2 cEq (eVar 0) (eC (.int 3))) (sExp (eOwn g_least_with (aCons (eVar 1) (aCons (eVar 2) (aCons (eVar 3) (aNil)))))) (sExp (eOwn g_greatest_with (aCons (eVar 1) (aCons (eVar 2) (aCons (eVar 3) (aNil)))))))))) f_law_told_v8_hh) (sRetV 4))
def g_law_told_v8 : List D → Res D := runF f_law_told_v8 9
theorem heq_law_told_v8 : ∀ c a g, f_law_told_v8_hh c g = .bad ∨ unO 5 (f_law_told_v8_h c a (g.set 5 (.rf a))) = f_law_told_v8_hh c g := by
  intro c a g
  unfold f_law_told_v8_hh
  by_cases h : g.length = 9
  · right
    rw [if_pos h]
    match g, h with
    | [x0, x1, x2, x3, x4, x5, x6, x7, x8], _ =>
      match c with
      | 1 => simp [f_law_told_v8_h, unO, lim, frz, frzs]; kernel_rfl
      | 2 => simp [f_law_told_v8_h, unO, lim, frz, frzs]; kernel_rfl
      | 4 => simp [f_law_told_v8_h, unO, lim, frz, frzs]; kernel_rfl
      | 6 => simp [f_law_told_v8_h, unO, lim, frz, frzs]; kernel_rfl
      | 7 => simp [f_law_told_v8_h, unO, lim, frz, frzs]; kernel_rfl
      | 0 => rfl
      | 3 => rfl
      | 5 => rfl
      | z + 8 => rfl
  · left; rw [if_neg h]
def f_law_k34_l1 : Env → Out := sIf (tC2 cNe (eOwn g_law_told_v8 (aCons (eVar 8) (aCons (eVar 3) (aCons (eCall caList (aCons (eVar 6) (aNil))) (aCons (eC .non) (aNil)))))) (eVar 7)) (sRet (eC (.bl false))) (sNil)
def f_law_k34_c2 : Env → Res D := eVar 13
def f_law_k34_c2t : Env → Res Bool := tC2 cEq (eBin opMod (eOwn g_law_stir (aCons (eVar 5) (aCons (eBin opAdd (eC (.int 16)) (eVar 13)) (aNil)))) (eC (.int 3))) (eC (.int 1))
def f_law_k34_l4 : Env → Out := sIf (tC2 cNe (eOwn g_law_told_v8 (aCons (eVar 8) (aCons (eVar 3) (aCons (eCall caList (aCons (eVar 11) (aNil))) (aCons (eCall caList (aCons (eVar 12) (aNil))) (aNil)))))) (eC (.str "set"))) (sRet (eC (.bl false))) (sNil)
def f_law_k34_l5 : Env → Out := sSeq (sFor (iSeq (eLst (aConsO (eTup (aConsO (eVar 9) (aConsO (eVar 10) (aNil)))) (aConsO (eTup (aConsO (eVar 10) (aConsO (eVar 9) (aNil)))) (aConsO (eTup (aConsO (eVar 9) (aConsO (eVar 9) (aNil)))) (aNil)))))) (gtT 2 (gtCons (gtN 11) (gtCons (gtN 12) (gtNil)))) f_law_k34_l4) (sIf (tC2 cNe (eOwn g_law_told_v8 (aCons (eVar 8) (aCons (eVar 3) (aCons (eVar 10) (aCons (eLst (aNil)) (aNil)))))) (eC (.str "told"))) (sRet (eC (.bl false))) (sNil))
def f_law_k34_l6 : Env → Out := sSeq (sAsgF 6 (eOwn g_law_spoilt_v4 (aCons (eBin opIx (eBin opAdd (eVar 4) (eLst (aConsO (eTup (aNil)) (aNil)))) (eC (.int 0))) (aCons (eVar 5) (aCons (eCall caLen (aCons (eVar 2) (aNil))) (aNil)))))) (sSeq (sAsgF 7 (eBin opIx (eLst (aConsO (eC (.str "tree")) (aConsO (eC (.str "told")) (aNil)))) (eCall caInt (aCons (eB (tC2 cIn2 (eCall caTuple (aCons (eVar 6) (aNil))) (eVar 4))) (aNil))))) (sSeq (sFor (iRg1 (aCons (eC (.int 3)) (aNil))) (gtN 8) f_law_k34_l1) (sSeq (sAsgF 9 (eOwn g_law_no_set_v2 (aCons (eVar 5) (aCons (eCall caLen (aCons (eVar 2) (aNil))) (aNil))))) (sSeq (sAsgF 10 (eLc (iRg1 (aCons (eCall caLen (aCons (eVar 2) (aNil))) (aNil))) [13] (gtN 13) (f_law_k34_c2t) f_law_k34_c2)) (sFor (iSeq (eLst (aConsO (eC (.int 3)) (aConsO (eC (.int 4)) (aNil))))) (gtN 8) f_law_k34_l5)))))
def f_law_k34 : Env → Out := sSeq (sAsgT (gtT 2 (gtCons (gtN 1) (gtCons (gtN 2) (gtNil)))) (eOwn g_law_web_v3 (aCons (eVar 0) (aCons (eC (.int 6)) (aCons (eC (.int 12)) (aNil)))))) (sSeq (sAsgF 3 (eMkF 14 g_Web_init (aCons (eVar 1) (aCons (eCall caList (aCons (eVar 2) (aNil))) (aNil))))) (sSeq (sAsgF 4 (eOwn g_law_trees_v3 (aCons (eVar 1) (aCons (eVar 2) (aNil))))) (sSeq (sFor (iSeq (eBin opAdd (eLst (aConsO (eC (.int 0)) (aConsO (eC (.int 1)) (aNil)))) (eSl (eVar 0) (ePart none) (ePart (some (eC (.int 6))))))) (gtN 5) f_law_k34_l6) (sRet (eC (.bl true))))))
def g_law_k34 : List D → Res D := runF f_law_k34 14
end Lw
end

noncomputable section
namespace Lw
open DL
end Lw
end

namespace Lw
open DL
end Lw

namespace Lw
open DL
end Lw

namespace Lw
open DL
def EndsOk (n : Int) (l : List (Int × Int)) : Prop := ∀ p ∈ l, (0 ≤ p.1 ∧ p.1 < n) ∧ 0 ≤ p.2 ∧ p.2 < n
theorem EndsOk.app {n : Int} {l m : List (Int × Int)} (h : EndsOk n l) (h' : EndsOk n m) : EndsOk n (l ++ m) := fun p hp => (List.mem_append.mp hp).elim (h p) (h' p)
theorem EndsOk.one {n : Int} {a b : Int} (h : (0 ≤ a ∧ a < n) ∧ 0 ≤ b ∧ b < n) : EndsOk n [(a, b)] := fun p hp => by simp at hp; subst hp; exact h
theorem cut_mem {α : Type} {l : List α} {lo hi : Option Int} {a : α} (h : a ∈ cut l lo hi) : a ∈ l := by
  unfold cut at h
  exact List.mem_of_mem_drop (List.mem_of_mem_take h)
theorem EndsOk.cut {n : Int} {l : List (Int × Int)} (h : EndsOk n l) (lo hi : Option Int) : EndsOk n (cut l lo hi) := fun p hp => h p (cut_mem hp)
end Lw

namespace Lw
open DL
end Lw

namespace Lw
open DL
theorem web_init_l1 (p : Int) (x0 x2 : D) : ∀ (l : List (Int × Int)) (y3 y4 : D), EndsOk p l →
    ∃ z3 z4, forL (gtT 2 (gtCons (gtN 3) (gtCons (gtN 4) (gtNil)))) f_Web_init_l1 (l.map dP) [x0, .int p, x2, y3, y4] = .nx [x0, .int p, x2, z3, z4]
  | [], y3, y4, _ => ⟨y3, y4, by simp [forL]⟩
  | (a, b) :: l, y3, y4, h => by
    obtain ⟨⟨h1, h2⟩, h3, h4⟩ := h (a, b) (List.mem_cons_self ..)
    obtain ⟨z3, z4, e⟩ := web_init_l1 p x0 x2 l (.int a) (.int b) fun q hq => h q (List.mem_cons_of_mem _ hq)
    refine ⟨z3, z4, ?_⟩
    rw [← e]
    simp at h1 h2 h3 h4
    simp [forL, f_Web_init_l1, h1, h2, h3, h4]
theorem web_init_ok (p : Int) (l : List (Int × Int)) (h1 : 1 ≤ p) (h2 : p ≤ 14) (h3 : l.length ≤ 30) (h4 : EndsOk p l) : g_Web_init [.int p, .ls (l.map dP)] = .ok [.int p, .ol (l.map dP)] := by
  refine mirI_eq fun x => ?_
  obtain ⟨z3, z4, e⟩ := web_init_l1 p (.oo (some x) 14 []) (.ls (l.map dP)) l .un .un h4
  have h5 : ¬ (30 < (l.length : Int)) := by omega
  simp [DL.runI, f_Web_init, h1, h2, h5, e, outI]
def goodAux (count : Int) : Int → List Int → Bool
  | _, [] => true
  | a, x :: l => !(decide (x ≤ a)) && !(decide (x ≥ count)) && goodAux count x l
def goodB (count : Int) (l : List Int) : Bool := goodAux count (-1) l
theorem made_set_l1 (p : Int) (ts : List (Int × Int)) (x1 : D) : ∀ (l : List Int) (a : Int) (y3 : D),
    (goodAux ts.length a l = true ∧ ∃ z2 z3, forL (gtN 3) f_made_set_l1 (l.map D.int) [.ob 14 [.int p, .ls (ts.map dP)], x1, .int a, y3] = .nx [.ob 14 [.int p, .ls (ts.map dP)], x1, z2, z3]) ∨
    (goodAux ts.length a l = false ∧ ∃ g, forL (gtN 3) f_made_set_l1 (l.map D.int) [.ob 14 [.int p, .ls (ts.map dP)], x1, .int a, y3] = .xc 2 g)
  | [], a, y3 => .inl ⟨rfl, .int a, y3, by simp [forL]⟩
  | x :: l, a, y3 => by
    by_cases c1 : x ≤ a
    · exact .inr ⟨by simp [goodAux, c1], by simp [forL, f_made_set_l1, c1]⟩
    · by_cases c2 : (ts.length : Int) ≤ x
      · exact .inr ⟨by simp [goodAux, c2], by simp [forL, f_made_set_l1, c1, c2]⟩
      · have e : goodAux ts.length a (x :: l) = goodAux ts.length x l := by simp [goodAux, c1, c2]
        have e2 : forL (gtN 3) f_made_set_l1 ((x :: l).map D.int) [.ob 14 [.int p, .ls (ts.map dP)], x1, .int a, y3] = forL (gtN 3) f_made_set_l1 (l.map D.int) [.ob 14 [.int p, .ls (ts.map dP)], x1, .int x, .int x] := by
          simp [forL, f_made_set_l1, c1, c2]
        rw [e, e2]
        exact made_set_l1 p ts x1 l x (.int x)
theorem made_set_ls (p : Int) (ts : List (Int × Int)) (l : List Int) : g_made_set [.ob 14 [.int p, .ls (ts.map dP)], .ls (l.map D.int)] = if goodB ts.length l = true then .ok (.tp (l.map D.int)) else .xc 2 := by
  rcases made_set_l1 p ts (.ls (l.map D.int)) l (-1) .un with ⟨h, z2, z3, e⟩ | ⟨h, g, e⟩
  · simp [g_made_set, runF, f_made_set, e, goodB, h]
  · simp [g_made_set, runF, f_made_set, e, goodB, h]
theorem made_set_tp (p : Int) (ts : List (Int × Int)) (l : List Int) : g_made_set [.ob 14 [.int p, .ls (ts.map dP)], .tp (l.map D.int)] = if goodB ts.length l = true then .ok (.tp (l.map D.int)) else .xc 2 := by
  rcases made_set_l1 p ts (.tp (l.map D.int)) l (-1) .un with ⟨h, z2, z3, e⟩ | ⟨h, g, e⟩
  · simp [g_made_set, runF, f_made_set, e, goodB, h]
  · simp [g_made_set, runF, f_made_set, e, goodB, h]
end Lw

namespace Lw
open DL L2
def nth (m : List Int) (i : Int) : Int := m.getD i.toNat 0
theorem nth_at {m : List Int} {i : Int} (h0 : 0 ≤ i) (h1 : i < m.length) : atI m i = some (nth m i) := by
  obtain ⟨a, e, e2⟩ := DL.atI_of h0 h1
  rw [e]; simp [nth, List.getD_eq_getElem?_getD, e2]
def tieAt (ts : List (Int × Int)) (i : Int) : Int × Int := ts.getD i.toNat (0, 0)
theorem tie_at {ts : List (Int × Int)} {i : Int} (h0 : 0 ≤ i) (h1 : i < ts.length) : atI ts i = some (tieAt ts i) ∧ tieAt ts i ∈ ts := by
  obtain ⟨a, e, e2⟩ := DL.atI_of h0 h1
  have : tieAt ts i = a := by simp [tieAt, List.getD_eq_getElem?_getD, e2]
  rw [this]
  exact ⟨e, List.mem_of_getElem? e2⟩
def stepM (m : List Int) (t : Int × Int) : List Int := m.map fun x => if x = max (nth m t.1) (nth m t.2) then min (nth m t.1) (nth m t.2) else x
def marksM (p : Nat) (ts : List (Int × Int)) (l : List Int) : List Int := l.foldl (fun m t => stepM m (tieAt ts t)) (iota p)
theorem stepM_len (m : List Int) (t : Int × Int) : (stepM m t).length = m.length := by simp [stepM]
theorem foldM_len (ts : List (Int × Int)) : ∀ (l m : List Int), (l.foldl (fun m t => stepM m (tieAt ts t)) m).length = m.length
  | [], m => rfl
  | t :: l, m => by rw [List.foldl_cons, foldM_len ts l, stepM_len]
theorem marksM_len (p : Nat) (ts : List (Int × Int)) (l : List Int) : (marksM p ts l).length = p := by simp [marksM, foldM_len]
def InT (n : Nat) (l : List Int) : Prop := ∀ t ∈ l, 0 ≤ t ∧ t < n
theorem goodAux_in (n : Nat) : ∀ (l : List Int) (a : Int), -1 ≤ a → goodAux n a l = true → InT n l
  | [], _, _, _ => fun _ h => nomatch h
  | x :: l, a, ha, h => by
    simp only [goodAux, Bool.and_eq_true, Bool.not_eq_true', decide_eq_false_iff_not] at h
    obtain ⟨⟨h1, h2⟩, h3⟩ := h
    intro t ht
    rcases List.mem_cons.mp ht with rfl | ht
    · omega
    · exact goodAux_in n l x (by omega) h3 t ht
theorem good_in {n : Nat} {l : List Int} (h : goodB n l = true) : InT n l := goodAux_in n l (-1) (by omega) h
theorem marks_l1 (p : Int) (ts : List (Int × Int)) (hE : EndsOk p ts) (hp : p ≤ 1000) (x1 : D) : ∀ (l m : List Int) (y3 y4 y5 y6 y7 y8 : D), (m.length : Int) = p → InT ts.length l → y8 = .un →
    ∃ z3 z4 z5 z6 z7, forL (gtN 3) f_marks_over_l1 (l.map D.int) [.ob 14 [.int p, .ls (ts.map dP)], x1, .ls (m.map D.int), y3, y4, y5, y6, y7, y8] = .nx [.ob 14 [.int p, .ls (ts.map dP)], x1, .ls ((l.foldl (fun m t => stepM m (tieAt ts t)) m).map D.int), z3, z4, z5, z6, z7, .un]
  | [], m, y3, y4, y5, y6, y7, y8, _, _, h8 => ⟨y3, y4, y5, y6, y7, by subst h8; simp [forL]⟩
  | t :: l, m, y3, y4, y5, y6, y7, y8, hm, hl, h8 => by
    subst h8
    obtain ⟨t0, t1⟩ := hl t (List.mem_cons_self ..)
    obtain ⟨e1, e2⟩ := tie_at t0 t1
    obtain ⟨⟨a0, a1⟩, b0, b1⟩ := hE _ e2
    have ea := nth_at (m := m) a0 (by omega)
    have eb := nth_at (m := m) b0 (by omega)
    obtain ⟨z3, z4, z5, z6, z7, ih⟩ := marks_l1 p ts hE hp x1 l (stepM m (tieAt ts t)) (.int t) (.int (tieAt ts t).1) (.int (tieAt ts t).2) (.int (min (nth m (tieAt ts t).1) (nth m (tieAt ts t).2))) (.int (max (nth m (tieAt ts t).1) (nth m (tieAt ts t).2))) .un (by rw [stepM_len]; exact hm) (fun t h => hl t (List.mem_cons_of_mem _ h)) rfl
    refine ⟨z3, z4, z5, z6, z7, ?_⟩
    rw [List.foldl_cons, ← ih]
    have lc : lcL (gtN 8) tYesG f_marks_over_c1 [.ob 14 [.int p, .ls (ts.map dP)], x1, .ls (m.map D.int), .int t, .int (tieAt ts t).1, .int (tieAt ts t).2, .int (min (nth m (tieAt ts t).1) (nth m (tieAt ts t).2)), .int (max (nth m (tieAt ts t).1) (nth m (tieAt ts t).2)), .un] (m.map D.int) = .ok ((stepM m (tieAt ts t)).map D.int) := by
      unfold stepM
      rw [← map_int]
      refine lcL_mapN m fun x _ => ?_
      by_cases hx : x = max (nth m (tieAt ts t).1) (nth m (tieAt ts t).2) <;> simp [f_marks_over_c1, hx]
    have hlim : m.length ≤ lim := by rw [lim_eq]; omega
    simp [forL, f_marks_over_l1, e1, ea, eb, lc, hlim]
theorem marks_ok_tp (p : Int) (ts : List (Int × Int)) (hE : EndsOk p ts) (h1 : 1 ≤ p) (h2 : p ≤ 1000) (l : List Int) (hl : InT ts.length l) : g_marks_over [.ob 14 [.int p, .ls (ts.map dP)], .tp (l.map D.int)] = .ok (.ls ((marksM p.toNat ts l).map D.int)) := by
  obtain ⟨z3, z4, z5, z6, z7, e⟩ := marks_l1 p ts hE h2 (.tp (l.map D.int)) l (iota p.toNat) .un .un .un .un .un .un (by simp; omega) hl rfl
  have hr : rgOk p := rgOk_of (by omega) (by omega)
  have h3 : p ≤ 1000000 := by omega
  simp [g_marks_over, runF, f_marks_over, hr, h3, rng_iota, e, marksM]
theorem marks_ok_ls (p : Int) (ts : List (Int × Int)) (hE : EndsOk p ts) (h1 : 1 ≤ p) (h2 : p ≤ 1000) (l : List Int) (hl : InT ts.length l) : g_marks_over [.ob 14 [.int p, .ls (ts.map dP)], .ls (l.map D.int)] = .ok (.ls ((marksM p.toNat ts l).map D.int)) := by
  obtain ⟨z3, z4, z5, z6, z7, e⟩ := marks_l1 p ts hE h2 (.ls (l.map D.int)) l (iota p.toNat) .un .un .un .un .un .un (by simp; omega) hl rfl
  have hr : rgOk p := rgOk_of (by omega) (by omega)
  have h3 : p ≤ 1000000 := by omega
  simp [g_marks_over, runF, f_marks_over, hr, h3, rng_iota, e, marksM]
end Lw

noncomputable section
namespace Lw
open DL
end Lw
end

namespace Lw
open DL L2
def stepL (m : List Int) (t : Int × Int) : List Int := if nth m t.1 = nth m t.2 then m else m.map fun x => if x = nth m t.2 then nth m t.1 else x
def marksL (p : Nat) (ts : List (Int × Int)) (l : List Int) : List Int := l.foldl (fun m t => stepL m (tieAt ts t)) (iota p)
theorem stepL_len (m : List Int) (t : Int × Int) : (stepL m t).length = m.length := by unfold stepL; split <;> simp
theorem foldL_len (ts : List (Int × Int)) : ∀ (l m : List Int), (l.foldl (fun m t => stepL m (tieAt ts t)) m).length = m.length
  | [], m => rfl
  | t :: l, m => by rw [List.foldl_cons, foldL_len ts l, stepL_len]
theorem marksL_len (p : Nat) (ts : List (Int × Int)) (l : List Int) : (marksL p ts l).length = p := by simp [marksL, foldL_len]
def SameP (p : Nat) (m m' : List Int) : Prop := ∀ i j : Int, 0 ≤ i → i < p → 0 ≤ j → j < p → (nth m i = nth m j ↔ nth m' i = nth m' j)
theorem nth_map {m : List Int} {f : Int → Int} {i : Int} (h0 : 0 ≤ i) (h1 : i < m.length) : nth (m.map f) i = f (nth m i) := by
  unfold nth
  have : i.toNat < m.length := by omega
  simp [List.getD_eq_getElem?_getD, List.getElem?_map, List.getElem?_eq_getElem this]
theorem same_step {p : Nat} {m m' : List Int} {t : Int × Int} (h : SameP p m m') (hm : m.length = p) (hm' : m'.length = p) (ht : (0 ≤ t.1 ∧ t.1 < p) ∧ 0 ≤ t.2 ∧ t.2 < p) : SameP p (stepM m t) (stepL m' t) := by
  obtain ⟨⟨a0, a1⟩, b0, b1⟩ := ht
  intro i j i0 i1 j0 j1
  have hab := h t.1 t.2 a0 a1 b0 b1
  have hia := h i t.1 i0 i1 a0 a1
  have hib := h i t.2 i0 i1 b0 b1
  have hja := h j t.1 j0 j1 a0 a1
  have hjb := h j t.2 j0 j1 b0 b1
  have hij := h i j i0 i1 j0 j1
  unfold stepM stepL
  rw [nth_map i0 (by omega), nth_map j0 (by omega)]
  by_cases c : nth m' t.1 = nth m' t.2
  · rw [if_pos c]
    have c' := hab.mpr c
    rw [← hij]
    rw [show max (nth m t.1) (nth m t.2) = nth m t.2 by omega, show min (nth m t.1) (nth m t.2) = nth m t.2 by omega]
    by_cases q1 : nth m i = nth m t.2 <;> by_cases q2 : nth m j = nth m t.2 <;> simp [q1, q2]
  · rw [if_neg c, nth_map i0 (by omega), nth_map j0 (by omega)]
    have c' : ¬ nth m t.1 = nth m t.2 := fun z => c (hab.mp z)
    generalize nth m t.1 = a at *
    generalize nth m t.2 = b at *
    generalize nth m' t.1 = a' at *
    generalize nth m' t.2 = b' at *
    generalize nth m i = x at *
    generalize nth m j = y at *
    generalize nth m' i = x' at *
    generalize nth m' j = y' at *
    rcases Int.le_total a b with z | z
    · rw [show max a b = b by omega, show min a b = a by omega]
      by_cases u1 : x = b <;> by_cases u2 : y = b <;> by_cases u3 : x' = b' <;> by_cases u4 : y' = b' <;> simp_all <;> omega
    · rw [show max a b = a by omega, show min a b = b by omega]
      by_cases u1 : x = a <;> by_cases u2 : y = a <;> by_cases u3 : x' = b' <;> by_cases u4 : y' = b' <;> simp_all <;> omega
end Lw

namespace Lw
open DL L2
theorem same_fold (p : Nat) (ts : List (Int × Int)) (hE : EndsOk p ts) : ∀ (l m m' : List Int), SameP p m m' → m.length = p → m'.length = p → InT ts.length l → SameP p (l.foldl (fun m t => stepM m (tieAt ts t)) m) (l.foldl (fun m t => stepL m (tieAt ts t)) m')
  | [], _, _, h, _, _, _ => h
  | t :: l, m, m', h, hm, hm', hl => by
    obtain ⟨t0, t1⟩ := hl t (List.mem_cons_self ..)
    exact same_fold p ts hE l _ _ (same_step h hm hm' (hE _ (tie_at t0 t1).2)) (by rw [stepM_len]; exact hm) (by rw [stepL_len]; exact hm') fun t h => hl t (List.mem_cons_of_mem _ h)
theorem same_marks (p : Nat) (ts : List (Int × Int)) (hE : EndsOk p ts) (l : List Int) (hl : InT ts.length l) : SameP p (marksM p ts l) (marksL p ts l) :=
  same_fold p ts hE l _ _ (fun _ _ _ _ _ _ => Iff.rfl) (by simp) (by simp) hl
theorem nth_mem {m : List Int} {i : Int} (h0 : 0 ≤ i) (h1 : i < m.length) : nth m i ∈ m := by
  have : i.toNat < m.length := by omega
  unfold nth
  rw [List.getD_eq_getElem?_getD, List.getElem?_eq_getElem this]
  exact List.getElem_mem this
theorem mem_nth {m : List Int} {x : Int} (h : x ∈ m) : ∃ i : Int, 0 ≤ i ∧ i < m.length ∧ nth m i = x := by
  obtain ⟨i, hi, e⟩ := List.mem_iff_getElem.mp h
  refine ⟨i, by omega, by omega, ?_⟩
  unfold nth
  simp [List.getD_eq_getElem?_getD, List.getElem?_eq_getElem hi, e]
theorem sset_one {m : List Int} (h : 1 ≤ m.length) : (sset m).length = 1 ↔ ∀ i : Int, 0 ≤ i → i < m.length → nth m i = nth m 0 := by
  constructor
  · intro e i i0 i1
    obtain ⟨x, hx⟩ := List.length_eq_one_iff.mp e
    have a := (sset_mem (nth m i) m).mpr (nth_mem i0 i1)
    have b := (sset_mem (nth m 0) m).mpr (nth_mem (Int.le_refl 0) (by omega))
    rw [hx] at a b
    rw [List.mem_singleton.mp a, List.mem_singleton.mp b]
  · intro k
    have : sset m = [nth m 0] := rise_uniq (sset_rise m) (by simp) fun x => by
      rw [sset_mem, List.mem_singleton]
      constructor
      · intro hx
        obtain ⟨i, i0, i1, rfl⟩ := mem_nth hx
        exact k i i0 i1
      · rintro rfl
        exact nth_mem (Int.le_refl 0) (by omega)
    rw [this]; rfl
def up (lo : Int) : Nat → List Int
  | 0 => []
  | k + 1 => lo :: up (lo + 1) k
theorem range_up : ∀ (k : Nat) (lo : Int), ((List.range k).map fun i : Nat => lo + (i : Int)) = up lo k
  | 0, _ => rfl
  | k + 1, lo => by
    rw [List.range_succ_eq_map, List.map_cons, List.map_map, up, ← range_up k (lo + 1)]
    congr 1
    · simp
    · refine List.map_congr_left fun a _ => ?_
      simp; omega
theorem iota_up (n : Nat) : iota n = up 0 n := by rw [← range_up]; unfold iota; simp
theorem up_good : ∀ (k : Nat) (lo : Int), goodAux (lo + k) (lo - 1) (up lo k) = true
  | 0, _ => rfl
  | k + 1, lo => by
    have := up_good k (lo + 1)
    rw [show lo + 1 - 1 = lo by omega] at this
    simp only [up, goodAux, Bool.and_eq_true, Bool.not_eq_true', decide_eq_false_iff_not]
    exact ⟨⟨by omega, by omega⟩, by rw [show lo + ((k + 1 : Nat) : Int) = lo + 1 + k by omega]; exact this⟩
theorem iota_good (n : Nat) : goodB n (iota n) = true := by
  rw [iota_up]; simpa [goodB] using up_good n 0
end Lw

namespace Lw
open DL L2
inductive Conn (es : List (Int × Int)) : Int → Int → Prop
  | refl (a : Int) : Conn es a a
  | tie {a b : Int} : (a, b) ∈ es → Conn es a b
  | symm {a b : Int} : Conn es a b → Conn es b a
  | trans {a b c : Int} : Conn es a b → Conn es b c → Conn es a c
theorem Conn.mono {es fs : List (Int × Int)} (h : ∀ e ∈ es, e ∈ fs) {a b : Int} (c : Conn es a b) : Conn fs a b := by
  induction c with
  | refl a => exact .refl a
  | tie h' => exact .tie (h _ h')
  | symm _ ih => exact ih.symm
  | trans _ _ ih1 ih2 => exact ih1.trans ih2
theorem Conn.le {es fs : List (Int × Int)} (h : ∀ e ∈ es, Conn fs e.1 e.2) {a b : Int} (c : Conn es a b) : Conn fs a b := by
  induction c with
  | refl a => exact .refl a
  | tie h' => exact h _ h'
  | symm _ ih => exact ih.symm
  | trans _ _ ih1 ih2 => exact ih1.trans ih2
theorem conn_snoc {es : List (Int × Int)} {t : Int × Int} {i j : Int} : Conn (es ++ [t]) i j ↔ Conn es i j ∨ (Conn es i t.1 ∧ Conn es t.2 j) ∨ (Conn es i t.2 ∧ Conn es t.1 j) := by
  constructor
  · intro c
    induction c with
    | refl a => exact .inl (.refl a)
    | tie h =>
      rcases List.mem_append.mp h with h | h
      · exact .inl (.tie h)
      · simp at h
        subst h
        exact .inr (.inl ⟨.refl _, .refl _⟩)
    | symm _ ih =>
      rcases ih with h | ⟨h1, h2⟩ | ⟨h1, h2⟩
      · exact .inl h.symm
      · exact .inr (.inr ⟨h2.symm, h1.symm⟩)
      · exact .inr (.inl ⟨h2.symm, h1.symm⟩)
    | trans _ _ ih1 ih2 =>
      rcases ih1 with h | ⟨h1, h2⟩ | ⟨h1, h2⟩ <;> rcases ih2 with k | ⟨k1, k2⟩ | ⟨k1, k2⟩
      · exact .inl (h.trans k)
      · exact .inr (.inl ⟨h.trans k1, k2⟩)
      · exact .inr (.inr ⟨h.trans k1, k2⟩)
      · exact .inr (.inl ⟨h1, h2.trans k⟩)
      · exact .inl ((h1.trans (h2.trans k1).symm).trans k2)
      · exact .inl (h1.trans k2)
      · exact .inr (.inr ⟨h1, h2.trans k⟩)
      · exact .inl (h1.trans k2)
      · exact .inl ((h1.trans (h2.trans k1).symm).trans k2)
  · have m : ∀ {a b}, Conn es a b → Conn (es ++ [t]) a b := fun c => c.mono fun e h => List.mem_append_left _ h
    have ht : Conn (es ++ [t]) t.1 t.2 := .tie (List.mem_append_right _ (by simp))
    rintro (h | ⟨h1, h2⟩ | ⟨h1, h2⟩)
    · exact m h
    · exact ((m h1).trans ht).trans (m h2)
    · exact ((m h1).trans ht.symm).trans (m h2)
theorem conn_nil {i j : Int} (c : Conn [] i j) : i = j := by
  induction c with
  | refl a => rfl
  | tie h => exact (nomatch h)
  | symm _ ih => exact ih.symm
  | trans _ _ ih1 ih2 => exact ih1.trans ih2
def mk (p : Nat) (es : List (Int × Int)) : List Int := es.foldl stepL (iota p)
theorem mk_len (p : Nat) (es : List (Int × Int)) : (mk p es).length = p := by
  have : ∀ (es : List (Int × Int)) (m : List Int), (es.foldl stepL m).length = m.length := by
    intro es
    induction es with
    | nil => intro m; rfl
    | cons t es ih => intro m; rw [List.foldl_cons, ih, stepL_len]
  unfold mk
  rw [this]; simp
theorem mk_snoc (p : Nat) (es : List (Int × Int)) (t : Int × Int) : mk p (es ++ [t]) = stepL (mk p es) t := by simp [mk, List.foldl_append]
theorem marksL_mk (p : Nat) (ts : List (Int × Int)) (l : List Int) : marksL p ts l = mk p (l.map (tieAt ts)) := by unfold marksL mk; rw [List.foldl_map]
theorem nth_iota {p : Nat} {i : Int} (h0 : 0 ≤ i) (h1 : i < p) : nth (iota p) i = i := by
  have : i.toNat < p := by omega
  unfold nth iota
  rw [List.getD_eq_getElem?_getD, List.getElem?_map, List.getElem?_range this]
  simp; omega
theorem stepL_same {m : List Int} {t : Int × Int} {i j : Int} (hi : 0 ≤ i ∧ i < m.length) (hj : 0 ≤ j ∧ j < m.length) :
    nth (stepL m t) i = nth (stepL m t) j ↔ nth m i = nth m j ∨ (nth m i = nth m t.1 ∧ nth m t.2 = nth m j) ∨ (nth m i = nth m t.2 ∧ nth m t.1 = nth m j) := by
  unfold stepL
  by_cases c : nth m t.1 = nth m t.2
  · rw [if_pos c, c]
    constructor
    · exact .inl
    · rintro (h | ⟨h1, h2⟩ | ⟨h1, h2⟩)
      · exact h
      · exact h1.trans h2
      · exact h1.trans h2
  · rw [if_neg c, nth_map hi.1 hi.2, nth_map hj.1 hj.2]
    generalize nth m t.1 = a at *
    generalize nth m t.2 = b at *
    generalize nth m i = x at *
    generalize nth m j = y at *
    by_cases u1 : x = b <;> by_cases u2 : y = b <;> simp [u1, u2] <;> omega
theorem mk_conn (p : Nat) : ∀ (n : Nat) (es : List (Int × Int)), es.length = n → EndsOk p es → ∀ i j : Int, 0 ≤ i → i < p → 0 ≤ j → j < p → (nth (mk p es) i = nth (mk p es) j ↔ Conn es i j)
  | 0, es, hn, hE, i, j, i0, i1, j0, j1 => by
    obtain rfl := List.eq_nil_of_length_eq_zero hn
    show nth (iota p) i = nth (iota p) j ↔ _
    rw [nth_iota i0 i1, nth_iota j0 j1]
    constructor
    · rintro rfl; exact .refl _
    · exact conn_nil
  | n + 1, es, hn, hE, i, j, i0, i1, j0, j1 => by
    have hne : es ≠ [] := by intro z; subst z; simp at hn
    have hsp := List.dropLast_concat_getLast hne
    generalize es.dropLast = fs at hsp
    generalize es.getLast hne = t at hsp
    subst hsp
    have hf : EndsOk p fs := fun e h => hE e (List.mem_append_left _ h)
    have ht := hE t (List.mem_append_right _ (by simp))
    have ih := mk_conn p n fs (by simpa using hn) hf
    rw [mk_snoc, stepL_same ⟨i0, by rw [mk_len]; exact i1⟩ ⟨j0, by rw [mk_len]; exact j1⟩, conn_snoc, ih i j i0 i1 j0 j1, ih i t.1 i0 i1 ht.1.1 ht.1.2, ih t.2 j ht.2.1 ht.2.2 j0 j1, ih i t.2 i0 i1 ht.2.1 ht.2.2, ih t.1 j ht.1.1 ht.1.2 j0 j1]
end Lw

namespace Lw
open DL L2
theorem nodup_le : ∀ {l m : List Int}, l.Nodup → (∀ x ∈ l, x ∈ m) → l.length ≤ m.length
  | [], m, _, _ => Nat.zero_le _
  | x :: l, m, h, k => by
    have hx := k x (List.mem_cons_self ..)
    obtain ⟨h1, h2⟩ := List.nodup_cons.mp h
    have := nodup_le (l := l) (m := m.erase x) h2 fun y hy => (List.mem_erase_of_ne (fun (z : y = x) => h1 (by rw [← z]; exact hy))).mpr (k y (List.mem_cons_of_mem _ hy))
    rw [List.length_erase_of_mem hx] at this
    have hp : 0 < m.length := List.length_pos_of_mem hx
    simp only [List.length_cons]
    omega
theorem idx_nth {m : List Int} {x : Int} (h : x ∈ m) : ((m.idxOf x : Nat) : Int) < m.length ∧ nth m (m.idxOf x : Nat) = x := by
  have hl := List.idxOf_lt_length_of_mem h
  refine ⟨by omega, ?_⟩
  unfold nth
  simp [List.getD_eq_getElem?_getD, List.getElem?_eq_getElem hl, List.getElem_idxOf]
theorem sset_le {m m' : List Int} (hl : m.length = m'.length) (h : ∀ i j : Int, 0 ≤ i → i < m.length → 0 ≤ j → j < m.length → nth m i = nth m j → nth m' i = nth m' j) : (sset m').length ≤ (sset m).length := by
  have : (sset m').length ≤ ((sset m).map fun x => nth m' (m.idxOf x : Nat)).length := by
    refine nodup_le (rise_nodup (sset_rise m')) fun y hy => ?_
    obtain ⟨i, i0, i1, rfl⟩ := mem_nth ((sset_mem y m').mp hy)
    have hx : nth m i ∈ m := nth_mem i0 (by omega)
    obtain ⟨k1, k2⟩ := idx_nth hx
    refine List.mem_map.mpr ⟨nth m i, (sset_mem _ m).mpr hx, ?_⟩
    exact h _ i (by omega) k1 i0 (by omega) k2
  simpa using this
theorem same_cnt {p : Nat} {m m' : List Int} (h : SameP p m m') (hm : m.length = p) (hm' : m'.length = p) : (sset m).length = (sset m').length :=
  Nat.le_antisymm (sset_le (by omega) fun i j i0 i1 j0 j1 e => (h i j i0 (by omega) j0 (by omega)).mpr e) (sset_le (by omega) fun i j i0 i1 j0 j1 e => (h i j i0 (by omega) j0 (by omega)).mp e)
def cnt (p : Nat) (es : List (Int × Int)) : Nat := (sset (mk p es)).length
theorem cnt_le {p : Nat} {es fs : List (Int × Int)} (h1 : EndsOk p es) (h2 : EndsOk p fs) (h : ∀ e ∈ es, Conn fs e.1 e.2) : cnt p fs ≤ cnt p es := by
  refine sset_le (by rw [mk_len, mk_len]) fun i j i0 i1 j0 j1 e => ?_
  rw [mk_len] at i1 j1
  rw [mk_conn p _ es rfl h1 i j i0 i1 j0 j1] at e
  exact (mk_conn p _ fs rfl h2 i j i0 i1 j0 j1).mpr (e.le h)
theorem cnt_eq {p : Nat} {es fs : List (Int × Int)} (h1 : EndsOk p es) (h2 : EndsOk p fs) (h : ∀ e ∈ es, Conn fs e.1 e.2) (h' : ∀ e ∈ fs, Conn es e.1 e.2) : cnt p es = cnt p fs :=
  Nat.le_antisymm (cnt_le h2 h1 h') (cnt_le h1 h2 h)
theorem cnt_set {p : Nat} {es fs : List (Int × Int)} (h1 : EndsOk p es) (h2 : EndsOk p fs) (h : ∀ e, e ∈ es ↔ e ∈ fs) : cnt p es = cnt p fs :=
  cnt_eq h1 h2 (fun e he => .tie ((h e).mp he)) fun e he => .tie ((h e).mpr he)
theorem cnt_nil (p : Nat) : cnt p [] = p := by
  show (sset (iota p)).length = p
  rw [rise_uniq (sset_rise (iota p)) (m := iota p) ?_ fun k => sset_mem k _]
  · simp
  · unfold iota
    rw [List.pairwise_map]
    exact List.pairwise_lt_range.imp fun h => by omega
theorem cnt_same {p : Nat} {es : List (Int × Int)} {t : Int × Int} (h : EndsOk p (es ++ [t])) (c : Conn es t.1 t.2) : cnt p (es ++ [t]) = cnt p es := by
  refine cnt_eq h (fun e he => h e (List.mem_append_left _ he)) (fun e he => ?_) fun e he => .tie (List.mem_append_left _ he)
  rcases List.mem_append.mp he with z | z
  · exact .tie z
  · simp at z; subst z; exact c
theorem sset_step {m : List Int} {t : Int × Int} (h1 : 0 ≤ t.1 ∧ t.1 < m.length) (h2 : 0 ≤ t.2 ∧ t.2 < m.length) (n : nth m t.1 ≠ nth m t.2) : (sset (stepL m t)).length + 1 = (sset m).length := by
  have hb : nth m t.2 ∈ sset m := (sset_mem _ m).mpr (nth_mem h2.1 h2.2)
  have nd := rise_nodup (sset_rise m)
  have e : sset (stepL m t) = (sset m).erase (nth m t.2) := by
    refine rise_uniq (sset_rise _) ((sset_rise m).sublist List.erase_sublist) fun k => ?_
    rw [sset_mem, nd.mem_erase_iff, sset_mem]
    unfold stepL
    rw [if_neg n, List.mem_map]
    constructor
    · rintro ⟨x, hx, rfl⟩
      by_cases c : x = nth m t.2
      · rw [if_pos c]; exact ⟨n, nth_mem h1.1 h1.2⟩
      · rw [if_neg c]; exact ⟨c, hx⟩
    · rintro ⟨c, hx⟩
      exact ⟨k, hx, if_neg c⟩
  rw [e, List.length_erase_of_mem hb]
  have := List.length_pos_of_mem hb
  omega
theorem cnt_new {p : Nat} {es : List (Int × Int)} {t : Int × Int} (h : EndsOk p (es ++ [t])) (c : ¬ Conn es t.1 t.2) : cnt p (es ++ [t]) + 1 = cnt p es := by
  have ht := h t (by simp)
  have hf : EndsOk p es := fun e he => h e (List.mem_append_left _ he)
  unfold cnt
  rw [mk_snoc]
  refine sset_step ⟨ht.1.1, by rw [mk_len]; exact ht.1.2⟩ ⟨ht.2.1, by rw [mk_len]; exact ht.2.2⟩ fun e => c ?_
  exact (mk_conn p _ es rfl hf t.1 t.2 ht.1.1 ht.1.2 ht.2.1 ht.2.2).mp e
theorem cnt_pos {p : Nat} (hp : 1 ≤ p) (es : List (Int × Int)) : 1 ≤ cnt p es := by
  have : nth (mk p es) 0 ∈ sset (mk p es) := (sset_mem _ _).mpr (nth_mem (Int.le_refl 0) (by rw [mk_len]; omega))
  exact List.length_pos_of_mem this
theorem snoc_of {α : Type} {es : List α} {n : Nat} (h : es.length = n + 1) : ∃ fs t, es = fs ++ [t] ∧ fs.length = n := by
  have hne : es ≠ [] := by intro z; subst z; simp at h
  exact ⟨es.dropLast, es.getLast hne, (List.dropLast_concat_getLast hne).symm, by simp; omega⟩
theorem cnt_lo (p : Nat) : ∀ (n : Nat) (es : List (Int × Int)), es.length = n → EndsOk p es → p ≤ cnt p es + n
  | 0, es, hn, hE => by
    obtain rfl := List.eq_nil_of_length_eq_zero hn
    rw [cnt_nil]; omega
  | n + 1, es, hn, hE => by
    obtain ⟨fs, t, rfl, hl⟩ := snoc_of hn
    have ih := cnt_lo p n fs hl fun e he => hE e (List.mem_append_left _ he)
    by_cases c : Conn fs t.1 t.2
    · rw [cnt_same hE c]; omega
    · have := cnt_new hE c; omega
theorem cnt_one {p : Nat} (hp : 1 ≤ p) {es : List (Int × Int)} (hE : EndsOk p es) : cnt p es = 1 ↔ ∀ i j : Int, 0 ≤ i → i < p → 0 ≤ j → j < p → Conn es i j := by
  unfold cnt
  rw [sset_one (by rw [mk_len]; exact hp), mk_len]
  constructor
  · intro h i j i0 i1 j0 j1
    exact (mk_conn p _ es rfl hE i j i0 i1 j0 j1).mp ((h i i0 i1).trans (h j j0 j1).symm)
  · intro h i i0 i1
    exact (mk_conn p _ es rfl hE i 0 i0 i1 (by omega) (by omega)).mpr (h i 0 i0 i1 (by omega) (by omega))
def tiesAt (ts : List (Int × Int)) (l : List Int) : List (Int × Int) := l.map (tieAt ts)
theorem tiesAt_ok {p : Int} {ts : List (Int × Int)} (hE : EndsOk p ts) {l : List Int} (hl : InT ts.length l) : EndsOk p (tiesAt ts l) := fun e he => by
  obtain ⟨t, ht, rfl⟩ := List.mem_map.mp he
  obtain ⟨t0, t1⟩ := hl t ht
  exact hE _ (tie_at t0 t1).2
theorem cntM (p : Nat) (ts : List (Int × Int)) (hE : EndsOk p ts) (l : List Int) (hl : InT ts.length l) : (sset (marksM p ts l)).length = cnt p (tiesAt ts l) := by
  rw [same_cnt (same_marks p ts hE l hl) (marksM_len ..) (marksL_len ..), marksL_mk]; rfl
theorem nthM (p : Nat) (ts : List (Int × Int)) (hE : EndsOk p ts) (l : List Int) (hl : InT ts.length l) (i j : Int) (i0 : 0 ≤ i) (i1 : i < p) (j0 : 0 ≤ j) (j1 : j < p) : nth (marksM p ts l) i = nth (marksM p ts l) j ↔ Conn (tiesAt ts l) i j := by
  rw [same_marks p ts hE l hl i j i0 i1 j0 j1, marksL_mk]
  exact mk_conn p _ _ rfl (tiesAt_ok hE hl) i j i0 i1 j0 j1
theorem nthL (p : Nat) (ts : List (Int × Int)) (hE : EndsOk p ts) (l : List Int) (hl : InT ts.length l) (i j : Int) (i0 : 0 ≤ i) (i1 : i < p) (j0 : 0 ≤ j) (j1 : j < p) : nth (marksL p ts l) i = nth (marksL p ts l) j ↔ Conn (tiesAt ts l) i j := by
  rw [marksL_mk]
  exact mk_conn p _ _ rfl (tiesAt_ok hE hl) i j i0 i1 j0 j1
def treeB (p : Int) (ts : List (Int × Int)) (l : List Int) : Bool := decide ((l.length : Int) = p - 1) && goodB ts.length l && decide (cnt p.toNat (tiesAt ts l) = 1)
end Lw

namespace Lw
open DL L2
theorem tree_l1 (p : Int) (ts : List (Int × Int)) (x1 : D) : ∀ (l : List Int) (a : Int) (y3 : D),
    (goodAux ts.length a l = true ∧ ∃ z2 z3, forL (gtN 3) f_is_tree_l1 (l.map D.int) [.ob 14 [.int p, .ls (ts.map dP)], x1, .int a, y3] = .nx [.ob 14 [.int p, .ls (ts.map dP)], x1, z2, z3]) ∨
    (goodAux ts.length a l = false ∧ forL (gtN 3) f_is_tree_l1 (l.map D.int) [.ob 14 [.int p, .ls (ts.map dP)], x1, .int a, y3] = .rt (.bl false))
  | [], a, y3 => .inl ⟨rfl, .int a, y3, by simp [forL]⟩
  | x :: l, a, y3 => by
    by_cases c1 : x ≤ a
    · exact .inr ⟨by simp [goodAux, c1], by simp [forL, f_is_tree_l1, c1]⟩
    · by_cases c2 : (ts.length : Int) ≤ x
      · exact .inr ⟨by simp [goodAux, c2], by simp [forL, f_is_tree_l1, c1, c2]⟩
      · have e : goodAux ts.length a (x :: l) = goodAux ts.length x l := by simp [goodAux, c1, c2]
        have e2 : forL (gtN 3) f_is_tree_l1 ((x :: l).map D.int) [.ob 14 [.int p, .ls (ts.map dP)], x1, .int a, y3] = forL (gtN 3) f_is_tree_l1 (l.map D.int) [.ob 14 [.int p, .ls (ts.map dP)], x1, .int x, .int x] := by
          simp [forL, f_is_tree_l1, c1, c2]
        rw [e, e2]
        exact tree_l1 p ts x1 l x (.int x)
theorem is_tree_ls (p : Int) (ts : List (Int × Int)) (hE : EndsOk p ts) (h1 : 1 ≤ p) (h2 : p ≤ 1000) (l : List Int) : g_is_tree [.ob 14 [.int p, .ls (ts.map dP)], .ls (l.map D.int)] = .ok (.bl (treeB p ts l)) := by
  by_cases c : (l.length : Int) = p - 1
  · rcases tree_l1 p ts (.ls (l.map D.int)) l (-1) .un with ⟨h, z2, z3, e⟩ | ⟨h, e⟩
    · have hg : goodB ts.length l = true := h
      have mo := marks_ok_ls p ts hE h1 h2 l (good_in hg)
      have hz : p ≤ 4000 := by omega
      have hE' : EndsOk (p.toNat : Int) ts := by rw [show (p.toNat : Int) = p by omega]; exact hE
      have hc := cntM p.toNat ts hE' l (good_in hg)
      simp [g_is_tree, runF, f_is_tree, c, e, mo, marksM_len, hz, treeB, hg, hc]
      omega
    · have hg : goodB ts.length l = false := h
      simp [g_is_tree, runF, f_is_tree, c, e, treeB, hg]
  · simp [g_is_tree, runF, f_is_tree, c, treeB]
theorem is_tree_tp (p : Int) (ts : List (Int × Int)) (hE : EndsOk p ts) (h1 : 1 ≤ p) (h2 : p ≤ 1000) (l : List Int) : g_is_tree [.ob 14 [.int p, .ls (ts.map dP)], .tp (l.map D.int)] = .ok (.bl (treeB p ts l)) := by
  by_cases c : (l.length : Int) = p - 1
  · rcases tree_l1 p ts (.tp (l.map D.int)) l (-1) .un with ⟨h, z2, z3, e⟩ | ⟨h, e⟩
    · have hg : goodB ts.length l = true := h
      have mo := marks_ok_tp p ts hE h1 h2 l (good_in hg)
      have hz : p ≤ 4000 := by omega
      have hE' : EndsOk (p.toNat : Int) ts := by rw [show (p.toNat : Int) = p by omega]; exact hE
      have hc := cntM p.toNat ts hE' l (good_in hg)
      simp [g_is_tree, runF, f_is_tree, c, e, mo, marksM_len, hz, treeB, hg, hc]
      omega
    · have hg : goodB ts.length l = false := h
      simp [g_is_tree, runF, f_is_tree, c, e, treeB, hg]
  · simp [g_is_tree, runF, f_is_tree, c, treeB]
end Lw

noncomputable section
namespace Lw
open DL
end Lw
end

namespace Lw
open DL L2
theorem goodAux_of {n : Int} : ∀ {l : List Int} {a : Int}, (∀ x ∈ l, a < x ∧ x < n) → l.Pairwise (· < ·) → goodAux n a l = true
  | [], _, _, _ => rfl
  | x :: l, a, h, hp => by
    obtain ⟨h1, h2⟩ := List.pairwise_cons.mp hp
    have hx := h x (List.mem_cons_self ..)
    simp only [goodAux, Bool.and_eq_true, Bool.not_eq_true', decide_eq_false_iff_not]
    exact ⟨⟨by omega, by omega⟩, goodAux_of (fun y hy => ⟨h1 y hy, (h y (List.mem_cons_of_mem _ hy)).2⟩) h2⟩
theorem good_of {n : Nat} {l : List Int} (h : InT n l) (hp : l.Pairwise (· < ·)) : goodB n l = true :=
  goodAux_of (fun x hx => ⟨by have := h x hx; omega, (h x hx).2⟩) hp
theorem srt_mem {l : List Int} {x : Int} : x ∈ srt l ↔ x ∈ l := (srt_perm l).mem_iff
theorem srt_lt {l : List Int} (h : l.Nodup) : (srt l).Pairwise (· < ·) := by
  have h1 := srt_sorted l
  have h2 : (srt l).Nodup := (srt_perm l).nodup_iff.mpr h
  exact (h1.and h2).imp fun ⟨a, b⟩ => by omega
theorem srt_good {n : Nat} {l : List Int} (h : InT n l) (hn : l.Nodup) : goodB n (srt l) = true := good_of (fun t ht => h t (srt_mem.mp ht)) (srt_lt hn)
theorem tiesAt_mem {ts : List (Int × Int)} {l m : List Int} (h : ∀ x, x ∈ l ↔ x ∈ m) : ∀ e, e ∈ tiesAt ts l ↔ e ∈ tiesAt ts m := fun e => by
  unfold tiesAt
  simp only [List.mem_map, h]
theorem iota_mem {n : Nat} {x : Int} : x ∈ iota n ↔ 0 ≤ x ∧ x < n := by
  unfold iota
  simp only [List.mem_map, List.mem_range]
  constructor
  · rintro ⟨a, h, rfl⟩; omega
  · intro ⟨h0, h1⟩; exact ⟨x.toNat, by omega, by omega⟩
structure Grown (p : Nat) (ts : List (Int × Int)) (i : Nat) (left some : List Int) : Prop where
  len : left.length + i = ts.length
  nd : left.Nodup
  lin : InT ts.length left
  snd : some.Nodup
  sin : InT ts.length some
  sl : ∀ x ∈ some, x ∉ left
  ct : cnt p (tiesAt ts some) + some.length = p
  al : ∀ t : Int, 0 ≤ t ∧ t < ts.length → t ∉ left → Conn (tiesAt ts some) (tieAt ts t).1 (tieAt ts t).2
end Lw

noncomputable section
namespace Lw
open DL
end Lw
end

namespace Lw
open DL L2 TL
section
variable (L : List (List Int))
@[simp] theorem brws_T : brws (L.map dT) = L.map dT := (dulls dull_T L).1
@[simp] theorem frzs_T : frzs (L.map dT) = L.map dT := (dulls dull_T L).2.1
@[simp] theorem plns_T : plns (L.map dT) = L.map dT := (dulls dull_T L).2.2.1
@[simp] theorem nods_T : nods (L.map dT) = true := (dulls dull_T L).2.2.2.1
@[simp] theorem shd_T : shd (L.map dT) = true := (dulls dull_T L).2.2.2.2.1
@[simp] theorem ploks_T : ploks (L.map dT) = true := (dulls dull_T L).2.2.2.2.2
end
theorem goodAux_rise {n : Int} : ∀ {l : List Int} {a : Int}, goodAux n a l = true → (∀ x ∈ l, a < x) ∧ l.Pairwise (· < ·)
  | [], _, _ => ⟨fun _ h => (nomatch h), .nil⟩
  | x :: l, a, g => by
    simp only [goodAux, Bool.and_eq_true, Bool.not_eq_true', decide_eq_false_iff_not] at g
    obtain ⟨h1, h2⟩ := goodAux_rise g.2
    refine ⟨fun y hy => ?_, List.pairwise_cons.mpr ⟨h1, h2⟩⟩
    rcases List.mem_cons.mp hy with rfl | hy
    · omega
    · have := h1 y hy; omega
theorem good_iff {n : Nat} {l : List Int} : goodB n l = true ↔ InT n l ∧ l.Pairwise (· < ·) := ⟨fun h => ⟨good_in h, (goodAux_rise h).2⟩, fun h => good_of h.1 h.2⟩
theorem good_nodup {n : Nat} {l : List Int} (h : goodB n l = true) : l.Nodup := rise_nodup (good_iff.mp h).2
def allB (q : Nat) : Nat → List (List Int)
  | 0 => [[]]
  | k + 1 => allB q k ++ ((allB q k).filter fun l => decide (l.length < q)).map (· ++ [(k : Int)])
theorem allB_mem (q : Nat) : ∀ (k : Nat) (l : List Int), l ∈ allB q k ↔ l.length ≤ q ∧ goodB k l = true
  | 0, l => by
    simp only [allB, List.mem_singleton]
    constructor
    · rintro rfl; simp [goodB, goodAux]
    · rintro ⟨_, h⟩
      match l, good_in h with
      | [], _ => rfl
      | x :: l, h => have := h x (List.mem_cons_self ..); omega
  | k + 1, l => by
    simp only [allB, List.mem_append, List.mem_map, List.mem_filter, decide_eq_true_eq, allB_mem q k]
    constructor
    · rintro (⟨h1, h2⟩ | ⟨m, ⟨⟨h1, h2⟩, h3⟩, rfl⟩)
      · obtain ⟨k1, k2⟩ := good_iff.mp h2
        exact ⟨h1, good_of (fun t ht => by have := k1 t ht; omega) k2⟩
      · obtain ⟨k1, k2⟩ := good_iff.mp h2
        refine ⟨by simp; omega, good_of (fun t ht => ?_) ?_⟩
        · rcases List.mem_append.mp ht with z | z
          · have := k1 t z; omega
          · simp at z; omega
        · rw [List.pairwise_append]
          exact ⟨k2, List.pairwise_singleton _ _, fun a ha b hb => by simp at hb; have := k1 a ha; omega⟩
    · rintro ⟨h1, h2⟩
      obtain ⟨k1, k2⟩ := good_iff.mp h2
      by_cases hk : (k : Int) ∈ l
      · right
        have hne : l ≠ [] := List.ne_nil_of_mem hk
        have hs := List.dropLast_concat_getLast hne
        generalize l.dropLast = m at hs
        generalize l.getLast hne = x at hs
        subst hs
        rw [List.pairwise_append] at k2
        obtain ⟨p1, _, p3⟩ := k2
        have hx := k1 x (by simp)
        have ex : x = (k : Int) := by
          rcases List.mem_append.mp hk with z | z
          · have := p3 _ z x (by simp); omega
          · simp at z; exact z.symm
        subst ex
        refine ⟨m, ⟨⟨by simp at h1; omega, good_of (fun t ht => ?_) p1⟩, by simp at h1; omega⟩, rfl⟩
        have a := k1 t (List.mem_append_left _ ht)
        have b := p3 t ht (k : Int) (by simp)
        omega
      · left
        refine ⟨h1, good_of (fun t ht => ?_) k2⟩
        have := k1 t ht
        have ne : t ≠ (k : Int) := fun z => hk (z ▸ ht)
        omega
theorem allB_nodup (q : Nat) : ∀ k : Nat, (allB q k).Nodup
  | 0 => by simp [allB]
  | k + 1 => by
    simp only [allB]
    rw [List.nodup_append]
    refine ⟨allB_nodup q k, ?_, fun a ha b hb e => ?_⟩
    · refine List.Pairwise.map _ (fun a b h e => h ?_) ((allB_nodup q k).filter _)
      simpa using e
    · obtain ⟨m, _, rfl⟩ := List.mem_map.mp hb
      subst e
      have := good_in ((allB_mem q k _).mp ha).2 (k : Int) (by simp)
      omega
theorem allB_len (q : Nat) : ∀ k : Nat, (allB q k).length ≤ 2 ^ k
  | 0 => by simp [allB]
  | k + 1 => by
    have := allB_len q k
    have h2 := List.length_filter_le (fun l : List Int => decide (l.length < q)) (allB q k)
    simp only [allB, List.length_append, List.length_map, Nat.pow_succ]
    omega
theorem tree_parts' {p : Nat} {ts : List (Int × Int)} {l : List Int} (h : treeB p ts l = true) : (l.length : Int) = p - 1 ∧ goodB ts.length l = true ∧ InT ts.length l ∧ cnt p (tiesAt ts l) = 1 := by
  simp only [treeB, Bool.and_eq_true, decide_eq_true_eq, Int.toNat_natCast] at h
  exact ⟨h.1.1, h.1.2, good_in h.1.2, h.2⟩
def trees (p : Nat) (ts : List (Int × Int)) : List (List Int) := srtL ((allB (p - 1) ts.length).filter (treeB p ts))
theorem trees_mem {p : Nat} (hp : 1 ≤ p) {ts : List (Int × Int)} {l : List Int} : l ∈ trees p ts ↔ treeB p ts l = true := by
  unfold trees
  rw [(srtL_perm _).mem_iff, List.mem_filter, allB_mem]
  constructor
  · exact fun h => h.2
  · intro h
    obtain ⟨k1, k2, _⟩ := tree_parts' h
    exact ⟨⟨by omega, k2⟩, h⟩
theorem trees_nodup (p : Nat) (ts : List (Int × Int)) : (trees p ts).Nodup := (srtL_perm _).nodup_iff.mpr ((allB_nodup _ _).filter _)
theorem trees_len (p : Nat) (ts : List (Int × Int)) : (trees p ts).length ≤ 2 ^ ts.length := by
  unfold trees
  rw [srtL_len]
  exact Nat.le_trans (List.length_filter_le ..) (allB_len _ _)
end Lw

namespace Lw
open DL L2 TL
structure Ind (p : Nat) (ts : List (Int × Int)) (J : List Int) : Prop where
  nd : J.Nodup
  inn : InT ts.length J
  ct : cnt p (tiesAt ts J) + J.length = p
theorem tiesAt_snoc (ts : List (Int × Int)) (J : List Int) (t : Int) : tiesAt ts (J ++ [t]) = tiesAt ts J ++ [tieAt ts t] := by simp [tiesAt]
theorem conn_at {ts : List (Int × Int)} {J : List Int} {t : Int} (h : t ∈ J) : Conn (tiesAt ts J) (tieAt ts t).1 (tieAt ts t).2 := .tie (List.mem_map.mpr ⟨t, h, rfl⟩)
theorem conn_sub {ts : List (Int × Int)} {J S : List Int} (h : ∀ x ∈ J, x ∈ S) {a b : Int} (c : Conn (tiesAt ts J) a b) : Conn (tiesAt ts S) a b :=
  c.mono fun e he => by
    obtain ⟨t, ht, rfl⟩ := List.mem_map.mp he
    exact List.mem_map.mpr ⟨t, h t ht, rfl⟩
theorem Ind.snoc {p : Nat} {ts : List (Int × Int)} (hE : EndsOk p ts) {J : List Int} (h : Ind p ts J) {t : Int} (t0 : 0 ≤ t ∧ t < ts.length) (c : ¬ Conn (tiesAt ts J) (tieAt ts t).1 (tieAt ts t).2) : Ind p ts (J ++ [t]) := by
  have hin : InT ts.length (J ++ [t]) := fun x hx => by
    rcases List.mem_append.mp hx with z | z
    · exact h.inn x z
    · simp at z; subst z; exact t0
  refine ⟨?_, hin, ?_⟩
  · rw [List.nodup_append]
    refine ⟨h.nd, by simp, fun a ha b hb e => ?_⟩
    simp at hb
    subst hb
    subst e
    exact c (conn_at ha)
  · have := cnt_new (p := p) (es := tiesAt ts J) (t := tieAt ts t) (by rw [← tiesAt_snoc]; exact tiesAt_ok hE hin) c
    have := h.ct
    rw [tiesAt_snoc, List.length_append, List.length_singleton]
    omega
theorem ind_ext {p : Nat} {ts : List (Int × Int)} (hE : EndsOk p ts) : ∀ (S J : List Int), Ind p ts J → InT ts.length S → ∃ J', Ind p ts J' ∧ (∀ x ∈ J, x ∈ J') ∧ (∀ x ∈ J', x ∈ J ∨ x ∈ S) ∧ ∀ t ∈ S, Conn (tiesAt ts J') (tieAt ts t).1 (tieAt ts t).2
  | [], J, h, _ => ⟨J, h, fun _ h => h, fun _ h => .inl h, fun _ h => (nomatch h)⟩
  | t :: S, J, h, hS => by
    by_cases c : Conn (tiesAt ts J) (tieAt ts t).1 (tieAt ts t).2
    · obtain ⟨J', h1, h2, h3, h4⟩ := ind_ext hE S J h fun x hx => hS x (List.mem_cons_of_mem _ hx)
      refine ⟨J', h1, h2, fun x hx => (h3 x hx).imp id (List.mem_cons_of_mem _), fun x hx => ?_⟩
      rcases List.mem_cons.mp hx with rfl | hx
      · exact conn_sub h2 c
      · exact h4 x hx
    · obtain ⟨J', h1, h2, h3, h4⟩ := ind_ext hE S (J ++ [t]) (h.snoc hE (hS t (List.mem_cons_self ..)) c) fun x hx => hS x (List.mem_cons_of_mem _ hx)
      refine ⟨J', h1, fun x hx => h2 x (List.mem_append_left _ hx), fun x hx => ?_, fun x hx => ?_⟩
      · rcases h3 x hx with z | z
        · rcases List.mem_append.mp z with z | z
          · exact .inl z
          · simp at z; subst z; exact .inr (List.mem_cons_self ..)
        · exact .inr (List.mem_cons_of_mem _ z)
      · rcases List.mem_cons.mp hx with rfl | hx
        · exact conn_at (h2 x (List.mem_append_right _ (by simp)))
        · exact h4 x hx
theorem ind_nil (p : Nat) (ts : List (Int × Int)) : Ind p ts [] := ⟨by simp, fun _ h => (nomatch h), by simp [tiesAt, cnt_nil]⟩
theorem treeB_nat {p : Nat} {ts : List (Int × Int)} {l : List Int} : treeB p ts l = true ↔ (l.length : Int) = p - 1 ∧ goodB ts.length l = true ∧ cnt p (tiesAt ts l) = 1 := by
  simp only [treeB, Bool.and_eq_true, decide_eq_true_eq, Int.toNat_natCast, and_assoc]
theorem cnt_srt {p : Nat} {ts : List (Int × Int)} (hE : EndsOk p ts) {l : List Int} (h : InT ts.length l) : cnt p (tiesAt ts (srt l)) = cnt p (tiesAt ts l) :=
  cnt_set (tiesAt_ok hE fun t ht => h t (srt_mem.mp ht)) (tiesAt_ok hE h) (tiesAt_mem fun x => srt_mem)
theorem tree_ind {p : Nat} {ts : List (Int × Int)} {T : List Int} (h : treeB p ts T = true) (hp : 1 ≤ p) : Ind p ts T := by
  obtain ⟨h1, h2, h3⟩ := treeB_nat.mp h
  exact ⟨good_nodup h2, good_in h2, by omega⟩
theorem Ind.sub {p : Nat} {ts : List (Int × Int)} (hE : EndsOk p ts) {J K : List Int} (h : Ind p ts J) (hn : K.Nodup) (hs : ∀ x ∈ K, x ∈ J) : Ind p ts K := by
  have hK : InT ts.length K := fun x hx => h.inn x (hs x hx)
  refine ⟨hn, hK, ?_⟩
  obtain ⟨K', k1, k2, k3, k4⟩ := ind_ext hE K [] (ind_nil p ts) hK
  obtain ⟨J', j1, j2, j3, j4⟩ := ind_ext hE J K' k1 h.inn
  have hKK : K'.length ≤ K.length := nodup_le k1.nd fun x hx => (k3 x hx).elim (fun z => (nomatch z)) id
  have e1 : cnt p (tiesAt ts K') = cnt p (tiesAt ts K) := cnt_eq (tiesAt_ok hE k1.inn) (tiesAt_ok hE hK)
    (fun e he => by
      obtain ⟨t, ht, rfl⟩ := List.mem_map.mp he
      exact conn_at ((k3 t ht).elim (fun z => (nomatch z)) id))
    (fun e he => by
      obtain ⟨t, ht, rfl⟩ := List.mem_map.mp he
      exact k4 t ht)
  -- as many as there are: else J would have a ring
  have hJJ : J'.length = J.length := by
    have a : cnt p (tiesAt ts J') = cnt p (tiesAt ts J) := cnt_eq (tiesAt_ok hE j1.inn) (tiesAt_ok hE h.inn)
      (fun e he => by
        obtain ⟨t, ht, rfl⟩ := List.mem_map.mp he
        refine conn_at ?_
        rcases j3 t ht with z | z
        · exact hs t ((k3 t z).elim (fun z => (nomatch z)) id)
        · exact z)
      (fun e he => by
        obtain ⟨t, ht, rfl⟩ := List.mem_map.mp he
        exact j4 t ht)
    have := j1.ct
    have := h.ct
    omega
  have sub : ∀ x ∈ J', x ∈ J := fun x hx => by
    rcases j3 x hx with z | z
    · exact hs x ((k3 x z).elim (fun z => (nomatch z)) id)
    · exact z
  have all : ∀ x ∈ J, x ∈ J' := fun x hx => by
    rcases Classical.em (x ∈ J') with z | z
    · exact z
    · have := nodup_le (l := x :: J') (m := J) (List.nodup_cons.mpr ⟨z, j1.nd⟩) fun y hy => by
        rcases List.mem_cons.mp hy with rfl | hy
        · exact hx
        · exact sub y hy
      simp at this
      omega
  -- each of K is in K': else it would be put in to K' behind, though hung together
  have hKl : K.length ≤ K'.length := by
    refine nodup_le hn fun x hx => ?_
    rcases Classical.em (x ∈ K') with z | z
    · exact z
    · exfalso
      have hxJ := all x (hs x hx)
      -- J' less x hangs together what J' does
      have c := k4 x hx
      have i1 : InT ts.length (J'.erase x) := fun y hy => j1.inn y (List.mem_of_mem_erase hy)
      have sub2 : ∀ y ∈ K', y ∈ J'.erase x := fun y hy => (List.mem_erase_of_ne (fun (e : y = x) => z (by rw [← e]; exact hy))).mpr (j2 y hy)
      have e2 : cnt p (tiesAt ts (J'.erase x)) = cnt p (tiesAt ts J') := cnt_eq (tiesAt_ok hE i1) (tiesAt_ok hE j1.inn)
        (fun e he => by
          obtain ⟨t, ht, rfl⟩ := List.mem_map.mp he
          exact conn_at (List.mem_of_mem_erase ht))
        (fun e he => by
          obtain ⟨t, ht, rfl⟩ := List.mem_map.mp he
          by_cases ee : t = x
          · subst ee; exact conn_sub sub2 c
          · exact conn_at ((List.mem_erase_of_ne ee).mpr ht))
      have lo := cnt_lo p _ _ rfl (tiesAt_ok hE i1)
      have l2 : (tiesAt ts (J'.erase x)).length = J'.length - 1 := by rw [tiesAt, List.length_map, List.length_erase_of_mem hxJ]
      have hp := List.length_pos_of_mem hxJ
      have := j1.ct
      omega
  rw [← e1]
  have := k1.ct
  omega
end Lw

noncomputable section
namespace Lw
open DL
end Lw
end

noncomputable section
namespace Lw
open DL
end Lw
end

namespace Lw
open DL L2
def LT (o : D) (l : List Int) : Prop := o = .ls (l.map D.int) ∨ o = .tp (l.map D.int)
def wo (l : List Int) (t : Int) : List Int := l.filter fun x => !decide (x = t)
theorem is_tree_LT {o : D} (p : Int) (ts : List (Int × Int)) (hE : EndsOk p ts) (h1 : 1 ≤ p) (h2 : p ≤ 1000) (l : List Int) (ho : LT o l) : g_is_tree [.ob 14 [.int p, .ls (ts.map dP)], o] = .ok (.bl (treeB p ts l)) := by
  rcases ho with rfl | rfl
  · exact is_tree_ls p ts hE h1 h2 l
  · exact is_tree_tp p ts hE h1 h2 l
theorem tree_parts {p : Int} {ts : List (Int × Int)} {l : List Int} (h : treeB p ts l = true) : (l.length : Int) = p - 1 ∧ goodB ts.length l = true ∧ InT ts.length l ∧ cnt p.toNat (tiesAt ts l) = 1 := by
  simp only [treeB, Bool.and_eq_true, decide_eq_true_eq] at h
  exact ⟨h.1.1, h.1.2, good_in h.1.2, h.2⟩
theorem enm_iota (ts : List (Int × Int)) : enm 0 (ts.map dP) = (iota ts.length).map fun i => (.tp [.int i, dP (tieAt ts i)] : D) := by
  have : ∀ (l pre : List (Int × Int)), ts = pre ++ l → enm pre.length (l.map dP) = (List.range l.length).map fun j => (.tp [.int ((pre.length + j : Nat) : Int), dP (tieAt ts ((pre.length + j : Nat) : Int))] : D) := by
    intro l
    induction l with
    | nil => intro pre _; simp [enm]
    | cons t l ih =>
      intro pre e
      have := ih (pre ++ [t]) (by rw [e]; simp)
      rw [List.map_cons, enm, List.length_cons, List.range_succ_eq_map, List.map_cons, List.map_map]
      simp only [List.length_append, List.length_cons, List.length_nil, Nat.zero_add] at this
      rw [this]
      have et : tieAt ts ((pre.length : Nat) : Int) = t := by simp [tieAt, e]
      simp only [Nat.add_zero, et]
      congr 1
      refine List.map_congr_left fun j _ => ?_
      simp only [Function.comp, Nat.succ_eq_add_one]
      rw [show pre.length + 1 + j = pre.length + (j + 1) by omega]
  have h := this ts [] rfl
  simp only [List.length_nil, Nat.zero_add] at h
  rw [h]
  unfold iota
  rw [List.map_map]
  rfl
end Lw

noncomputable section
namespace Lw
open DL
end Lw
end

namespace Lw
open DL L2 TL
def swap (l : List Int) (o i : Int) : List Int := srt (wo l o ++ [i])
end Lw

namespace Lw
open DL L2 TL
def gr (p : Nat) (ts : List (Int × Int)) : List Int → List Int → List Int
  | [], J => J
  | t :: s, J => if nth (marksM p ts (srt J)) (tieAt ts t).1 = nth (marksM p ts (srt J)) (tieAt ts t).2 then gr p ts s J else gr p ts s (J ++ [t])
theorem gr_app (p : Nat) (ts : List (Int × Int)) : ∀ (s r J : List Int), gr p ts (s ++ r) J = gr p ts r (gr p ts s J)
  | [], r, J => rfl
  | t :: s, r, J => by
    simp only [List.cons_append, gr]
    split
    · exact gr_app p ts s r J
    · exact gr_app p ts s r (J ++ [t])
theorem conn_srt {ts : List (Int × Int)} {J : List Int} {a b : Int} : Conn (tiesAt ts (srt J)) a b ↔ Conn (tiesAt ts J) a b :=
  ⟨conn_sub fun x hx => srt_mem.mp hx, conn_sub fun x hx => srt_mem.mpr hx⟩
theorem gr_test {p : Nat} {ts : List (Int × Int)} (hE : EndsOk p ts) {J : List Int} (hJ : InT ts.length J) {t : Int} (ht : 0 ≤ t ∧ t < ts.length) : nth (marksM p ts (srt J)) (tieAt ts t).1 = nth (marksM p ts (srt J)) (tieAt ts t).2 ↔ Conn (tiesAt ts J) (tieAt ts t).1 (tieAt ts t).2 := by
  obtain ⟨_, e2⟩ := tie_at ht.1 ht.2
  obtain ⟨⟨a0, a1⟩, b0, b1⟩ := hE _ e2
  rw [nthM p ts hE (srt J) (fun x hx => hJ x (srt_mem.mp hx)) _ _ a0 a1 b0 b1, conn_srt]
theorem gr_ok {p : Nat} {ts : List (Int × Int)} (hE : EndsOk p ts) : ∀ (s J : List Int), Ind p ts J → InT ts.length s → Ind p ts (gr p ts s J) ∧ (∃ K, gr p ts s J = J ++ K ∧ K.Sublist s) ∧ ∀ t ∈ s, Conn (tiesAt ts (gr p ts s J)) (tieAt ts t).1 (tieAt ts t).2
  | [], J, h, _ => ⟨h, ⟨[], by simp [gr], .refl _⟩, fun _ h => (nomatch h)⟩
  | t :: s, J, h, hs => by
    have ht := hs t (List.mem_cons_self ..)
    have hs' : InT ts.length s := fun x hx => hs x (List.mem_cons_of_mem _ hx)
    simp only [gr]
    by_cases c : nth (marksM p ts (srt J)) (tieAt ts t).1 = nth (marksM p ts (srt J)) (tieAt ts t).2
    · rw [if_pos c]
      obtain ⟨k1, ⟨K, k2, k3⟩, k4⟩ := gr_ok hE s J h hs'
      refine ⟨k1, ⟨K, k2, k3.cons t⟩, fun x hx => ?_⟩
      rcases List.mem_cons.mp hx with rfl | hx
      · exact conn_sub (fun y hy => by rw [k2]; exact List.mem_append_left _ hy) ((gr_test hE h.inn ht).mp c)
      · exact k4 x hx
    · rw [if_neg c]
      obtain ⟨k1, ⟨K, k2, k3⟩, k4⟩ := gr_ok hE s (J ++ [t]) (h.snoc hE ht fun z => c ((gr_test hE h.inn ht).mpr z)) hs'
      refine ⟨k1, ⟨t :: K, by rw [k2]; simp, k3.cons₂ t⟩, fun x hx => ?_⟩
      rcases List.mem_cons.mp hx with rfl | hx
      · exact conn_at (by rw [k2]; simp)
      · exact k4 x hx
theorem Ind.le {p : Nat} {ts : List (Int × Int)} (hE : EndsOk p ts) {K J : List Int} (hK : Ind p ts K) (hJ : Ind p ts J) (h : ∀ t ∈ K, Conn (tiesAt ts J) (tieAt ts t).1 (tieAt ts t).2) : K.length ≤ J.length := by
  have : cnt p (tiesAt ts J) ≤ cnt p (tiesAt ts K) := cnt_le (tiesAt_ok hE hK.inn) (tiesAt_ok hE hJ.inn) fun e he => by
    obtain ⟨t, ht, rfl⟩ := List.mem_map.mp he
    exact h t ht
  have := hK.ct
  have := hJ.ct
  omega
def bel (l : List Int) (x : Int) : Nat := (l.filter fun y => decide (y < x)).length
theorem bel_perm {l m : List Int} (h : l.Perm m) (x : Int) : bel l x = bel m x := (h.filter _).length_eq
theorem gale_lex : ∀ {a b : List Int}, a.Pairwise (· < ·) → b.Pairwise (· < ·) → a.length = b.length → (∀ x, bel b x ≤ bel a x) → a ≠ b → HT.lexLt a b = true
  | [], [], _, _, _, _, n => absurd rfl n
  | [], _ :: _, _, _, h, _, _ => by simp at h
  | _ :: _, [], _, _, h, _, _ => by simp at h
  | x :: a, y :: b, ha, hb, hl, hd, n => by
    obtain ⟨a1, a2⟩ := List.pairwise_cons.mp ha
    obtain ⟨b1, b2⟩ := List.pairwise_cons.mp hb
    rw [HT.lexLt_cons]
    by_cases e : x = y
    · subst e
      rw [if_pos rfl]
      refine gale_lex a2 b2 (by simpa using hl) (fun z => ?_) fun q => n (by rw [q])
      have := hd z
      simp only [bel, List.filter_cons] at this ⊢
      split at this
      · simpa using this
      · exact this
    · rw [if_neg e]
      refine decide_eq_true ?_
      rcases Int.lt_or_le x y with z | z
      · exact z
      · exfalso
        have hlt : y < x := by omega
        have := hd (y + 1)
        have h1 : bel (x :: a) (y + 1) = 0 := by
          unfold bel
          rw [List.length_eq_zero_iff, List.filter_eq_nil_iff]
          intro w hw
          rcases List.mem_cons.mp hw with rfl | hw
          · simp; omega
          · have := a1 w hw; simp; omega
        have h2 : 1 ≤ bel (y :: b) (y + 1) := by
          unfold bel
          rw [List.filter_cons_of_pos (by simp; omega)]
          simp
        omega
theorem filter_split {l : List Int} (h : l.Pairwise (· < ·)) (x : Int) : l = (l.filter fun y => decide (y < x)) ++ l.filter fun y => !decide (y < x) := by
  induction l with
  | nil => rfl
  | cons a l ih =>
    obtain ⟨h1, h2⟩ := List.pairwise_cons.mp h
    by_cases c : a < x
    · rw [List.filter_cons_of_pos (by simpa using c), List.filter_cons_of_neg (by simpa using c), List.cons_append, ← ih h2]
    · rw [List.filter_cons_of_neg (by simpa using c), List.filter_cons_of_pos (by simpa using c)]
      have : (l.filter fun y => decide (y < x)) = [] := List.filter_eq_nil_iff.mpr fun y hy => by have := h1 y hy; simp; omega
      rw [this, List.nil_append]
      congr 1
      refine (List.filter_eq_self.mpr fun y hy => ?_).symm
      have := h1 y hy; simp; omega
theorem filter_none {l : List Int} {q : Int → Bool} (h : ∀ x ∈ l, q x = false) : l.filter q = [] := List.filter_eq_nil_iff.mpr fun x hx => by rw [h x hx]; decide
theorem filter_all {l : List Int} {q : Int → Bool} (h : ∀ x ∈ l, q x = true) : l.filter q = l := List.filter_eq_self.mpr h
end Lw

namespace Lw
open DL L2 TL
theorem len_split (l : List Int) (q : Int → Bool) : l.length = (l.filter q).length + (l.filter fun x => !q x).length := by
  induction l with
  | nil => rfl
  | cons a l ih => cases c : q a <;> simp [List.filter_cons, c, ih] <;> omega
theorem iota_rise (n : Nat) : (iota n).Pairwise (· < ·) := by
  unfold iota
  rw [List.pairwise_map]
  exact List.pairwise_lt_range.imp fun h => by omega
section
variable {p : Nat} (hp : 1 ≤ p) {ts : List (Int × Int)} (hE : EndsOk p ts) {T : List Int} (hT : treeB p ts T = true)
include hp hE hT
end
end Lw

namespace Lw
open DL L2 TL
theorem tree_len {p : Nat} (hp : 1 ≤ p) {ts : List (Int × Int)} {N : List Int} (h : treeB p ts N = true) : N.length + 1 = p := by
  have := (treeB_nat.mp h).1
  omega
end Lw

noncomputable section
namespace Lw
open DL
end Lw
end

namespace Lw
open DL L2 TL
theorem blsOf_map : ∀ bs : List Bool, blsOf (bs.map D.bl) = some bs
  | [] => rfl
  | b :: bs => by simp [blsOf, blsOf_map bs]
def upL (lo : Int) (n : Nat) : List Int := (List.range (n - lo).toNat).map fun i : Nat => lo + (i : Int)
theorem upL_mem {lo : Int} {n : Nat} {x : Int} : x ∈ upL lo n ↔ lo ≤ x ∧ x < n := by
  unfold upL
  rw [List.mem_map]
  constructor
  · rintro ⟨i, hi, rfl⟩
    rw [List.mem_range] at hi
    omega
  · rintro ⟨h1, h2⟩
    exact ⟨(x - lo).toNat, List.mem_range.mpr (by omega), by omega⟩
theorem upL_rise (lo : Int) (n : Nat) : (upL lo n).Pairwise (· < ·) := by
  unfold upL
  rw [List.pairwise_map]
  exact List.pairwise_lt_range.imp fun h => by omega
def nxt (k : Nat) (s : List Int) : Int := if k = 0 then 0 else nth s (k - 1 : Nat) + 1
def extA (n k : Nat) (s : List Int) : List (List Int) := (upL (nxt k s) n).map fun t => s ++ [t]
def allA (n : Nat) : Nat → List (List Int)
  | 0 => [[]]
  | k + 1 => (allA n k).flatMap (extA n k)
theorem nth_memN {s : List Int} {i : Nat} (h : i < s.length) : nth s (i : Nat) ∈ s := by
  have : nth s (i : Nat) = s[i] := by simp [nth, List.getD_eq_getElem?_getD, List.getElem?_eq_getElem h]
  rw [this]; exact List.getElem_mem h
theorem allA_mem (n : Nat) : ∀ (k : Nat) (l : List Int), l ∈ allA n k ↔ l.length = k ∧ goodB n l = true
  | 0, l => by
    simp only [allA, List.mem_singleton]
    constructor
    · rintro rfl; exact ⟨rfl, good_iff.mpr ⟨fun _ h => (nomatch h), .nil⟩⟩
    · rintro ⟨h, _⟩; exact List.eq_nil_of_length_eq_zero h
  | k + 1, l => by
    simp only [allA, List.mem_flatMap, extA, List.mem_map, upL_mem]
    constructor
    · rintro ⟨s, hs, t, ⟨t0, t1⟩, rfl⟩
      obtain ⟨h1, h2⟩ := (allA_mem n k s).mp hs
      obtain ⟨h3, h4⟩ := good_iff.mp h2
      have h5 : ∀ x ∈ s, x < t := fun x hx => by
        unfold nxt at t0
        by_cases hk : k = 0
        · subst hk
          rw [List.eq_nil_of_length_eq_zero h1] at hx
          exact nomatch hx
        · rw [if_neg hk] at t0
          obtain ⟨i, hi⟩ := List.getElem?_of_mem hx
          have hi2 := (List.getElem?_eq_some_iff.mp hi).1
          have hn : nth s (k - 1 : Nat) = s[k - 1]'(by omega) := by
            simp [nth, List.getD_eq_getElem?_getD, List.getElem?_eq_getElem (show k - 1 < s.length by omega)]
          have hx' : x = s[i] := by rw [List.getElem?_eq_getElem hi2] at hi; cases hi; rfl
          by_cases e : i = k - 1
          · subst e; omega
          · have := List.pairwise_iff_getElem.mp h4 i (k - 1) hi2 (by omega) (by omega)
            omega
      have t2 : 0 ≤ t := by
        unfold nxt at t0
        by_cases hk : k = 0
        · rw [if_pos hk] at t0; exact t0
        · rw [if_neg hk] at t0
          have hm : nth s (k - 1 : Nat) ∈ s := by
            simp [nth, List.getD_eq_getElem?_getD, List.getElem?_eq_getElem (show k - 1 < s.length by omega)]
          have := (h3 _ hm).1
          omega
      refine ⟨by simp [h1], good_iff.mpr ⟨fun x hx => ?_, ?_⟩⟩
      · rcases List.mem_append.mp hx with z | z
        · exact h3 x z
        · simp at z; subst z; exact ⟨t2, t1⟩
      · rw [List.pairwise_append]
        exact ⟨h4, List.pairwise_singleton _ _, fun x hx y hy => by simp at hy; subst hy; exact h5 x hx⟩
    · rintro ⟨h1, h2⟩
      obtain ⟨h3, h4⟩ := good_iff.mp h2
      have hne : l ≠ [] := by intro z; subst z; simp at h1
      have hl := List.dropLast_concat_getLast hne
      refine ⟨l.dropLast, (allA_mem n k _).mpr ⟨by rw [List.length_dropLast]; omega, good_iff.mpr ⟨fun x hx => h3 x ((List.dropLast_sublist l).subset hx), h4.sublist (List.dropLast_sublist l)⟩⟩, l.getLast hne, ⟨?_, (h3 _ (List.getLast_mem hne)).2⟩, hl⟩
      unfold nxt
      by_cases hk : k = 0
      · rw [if_pos hk]; exact (h3 _ (List.getLast_mem hne)).1
      · rw [if_neg hk]
        have hd : l.dropLast.length = k := by rw [List.length_dropLast]; omega
        have hm : nth l.dropLast (k - 1 : Nat) ∈ l.dropLast := nth_memN (by omega)
        rw [← hl, List.pairwise_append] at h4
        have := h4.2.2 _ hm (l.getLast hne) (List.mem_singleton.mpr rfl)
        omega
theorem lex_app : ∀ {a b : List Int}, a.length = b.length → HT.lexLt a b = true → ∀ x y, HT.lexLt (a ++ x) (b ++ y) = true
  | [], [], _, h, _, _ => by rw [HT.lexLt_nil_nil] at h; cases h
  | [], _ :: _, h, _, _, _ => by simp at h
  | _ :: _, [], h, _, _, _ => by simp at h
  | a :: as, b :: bs, hl, h, x, y => by
    rw [List.cons_append, List.cons_append, HT.lexLt_cons]
    rw [HT.lexLt_cons] at h
    by_cases e : a = b
    · rw [if_pos e] at h ⊢
      exact lex_app (by simpa using hl) h x y
    · rw [if_neg e] at h ⊢
      exact h
theorem lex_one : ∀ (s : List Int) {t u : Int}, t < u → HT.lexLt (s ++ [t]) (s ++ [u]) = true
  | [], t, u, h => by
    rw [List.nil_append, List.nil_append, HT.lexLt_cons, if_neg (by omega)]
    simpa using h
  | a :: s, t, u, h => by
    rw [List.cons_append, List.cons_append, HT.lexLt_cons, if_pos rfl]
    exact lex_one s h
theorem lex_irr (a : List Int) : HT.lexLt a a = false := by
  cases q : HT.lexLt a a with
  | false => rfl
  | true => have := NtL.lex_asym _ _ q; rw [q] at this; cases this
theorem allA_len (n : Nat) : ∀ k : Nat, (allA n k).length ≤ n ^ k
  | 0 => by simp [allA]
  | k + 1 => by
    rw [allA, List.length_flatMap]
    have : ∀ l : List (List Int), (∀ s ∈ l, (extA n k s).length ≤ n) → (l.map fun s => (extA n k s).length).sum ≤ l.length * n := fun l => by
      induction l with
      | nil => intro _; simp
      | cons s l ih =>
        intro h
        have h1 := h s (List.mem_cons_self ..)
        have h2 := ih fun x hx => h x (List.mem_cons_of_mem _ hx)
        simp only [List.map_cons, List.sum_cons, List.length_cons, Nat.succ_mul]
        omega
    have h1 := this (allA n k) fun s hs => by
      unfold extA upL
      simp only [List.length_map, List.length_range]
      have : 0 ≤ nxt k s := by
        unfold nxt
        obtain ⟨h1, h2⟩ := (allA_mem n k s).mp hs
        split
        · omega
        · have hm : nth s (k - 1 : Nat) ∈ s := by
            simp [nth, List.getD_eq_getElem?_getD, List.getElem?_eq_getElem (show k - 1 < s.length by omega)]
          have := (good_in h2 _ hm).1
          omega
      omega
    have h2 := Nat.mul_le_mul_right n (allA_len n k)
    rw [Nat.pow_succ]
    exact Nat.le_trans h1 h2
end Lw

namespace Lw
open DL L2 TL
def KLt (L : List Int) (t u : Int) : Prop := nth L t < nth L u ∨ (nth L t = nth L u ∧ t < u)
instance (L : List Int) (t u : Int) : Decidable (KLt L t u) := by unfold KLt; infer_instance
theorem split_by {R : Int → Int → Prop} {q : Int → Bool} (hq : ∀ a b, R a b → q b = true → q a = true) : ∀ {l : List Int}, l.Pairwise R → l = l.filter q ++ l.filter fun y => !q y
  | [], _ => rfl
  | a :: l, h => by
    obtain ⟨h1, h2⟩ := List.pairwise_cons.mp h
    cases c : q a with
    | true =>
      rw [List.filter_cons_of_pos c, List.filter_cons_of_neg (by simp [c]), List.cons_append, ← split_by hq h2]
    | false =>
      rw [List.filter_cons_of_neg (by simp [c]), List.filter_cons_of_pos (by simp [c])]
      have : l.filter q = [] := List.filter_eq_nil_iff.mpr fun y hy z => by
        have := hq a y (h1 y hy) z
        rw [c] at this; cases this
      rw [this, List.nil_append]
      congr 1
      refine (List.filter_eq_self.mpr fun y hy => ?_).symm
      cases z : q y with
      | false => rfl
      | true =>
        have := hq a y (h1 y hy) z
        rw [c] at this; cases this
structure Ord (L : List Int) (n : Nat) (O : List Int) : Prop where
  pm : O.Perm (iota n)
  lt : O.Pairwise (KLt L)
theorem Ord.mem {L : List Int} {n : Nat} {O : List Int} (h : Ord L n O) {x : Int} : x ∈ O ↔ 0 ≤ x ∧ x < n := by rw [h.pm.mem_iff, iota_mem]
section
variable {L : List Int} {p : Nat} {ts : List (Int × Int)} {O : List Int}
end
end Lw

namespace Lw
open DL L2
theorem at_ok (s : List Int) (k : Int) (hk : 0 ≤ k) : ∃ c : Int, g_law_at [.sc (s.map D.int), .int k] = .ok (.int c) := by
  by_cases h : k < s.length
  · obtain ⟨a, e, _⟩ := DL.atI_of hk h
    exact ⟨a, by simp [g_law_at, runF, f_law_at, h, e]⟩
  · exact ⟨0, by simp [g_law_at, runF, f_law_at, h]⟩
end Lw

namespace Lw
open DL L2
end Lw

namespace Lw
open DL L2
def stA (c k : Int) : Int := (c % e60 + 977 * k + 1) * 48271 % 2147483647
def stB (c k : Int) : Int := stA c k * stA c k % 2147483629
def stF (c k : Int) : Int := (stB c k + 40692 * (k + 3)) * 1583458089 % 2147483629 / 8
theorem stF_nn (c k : Int) : 0 ≤ stF c k := by unfold stF; omega
theorem stir_ok (c k : Int) : g_law_stir [.int c, .int k] = .ok (.int (stF c k)) := by
  have h1 : 0 ≤ stA c k ∧ stA c k < 2147483647 := by unfold stA; omega
  have a1 : -18446744073709551616 < stA c k := by omega
  have a2 : stA c k < 18446744073709551616 := by omega
  have e1 : (c % e60 + 977 * k + 1) * 48271 % 2147483647 = stA c k := rfl
  have e2 : stA c k * stA c k % 2147483629 = stB c k := rfl
  have e3 : (stB c k + 40692 * (k + 3)) * 1583458089 % 2147483629 / 8 = stF c k := rfl
  simp [g_law_stir, runF, f_law_stir, e1, a1, a2, e2, e3]
theorem opPow_18 : opPow (.int 10) (.int 18) = some (.int 1000000000000000000) := by
  rw [opPow_eq, if_pos (by unfold CPow; decide)]; rfl
theorem nums_l1 (s : List Int) (start most : Int) (hs : s.length ≤ 1000) (h0 : 0 ≤ start) (hm : 0 < most) (hm2 : most ≤ 1000) (y4 y5 : D) :
    ∃ (l : List Int) (z4 z5 : D), (l.length : Int) ≤ most ∧ forL (gtN 4) f_law_numbers_v3_l1 (rng start (s.length - start).toNat) [.sc (s.map D.int), .int start, .int most, .ol [], y4, y5] = .nx [.sc (s.map D.int), .int start, .int most, .ol (l.map D.int), z4, z5] := by
  obtain ⟨g', e, l, z4, z5, h1, rfl⟩ := for_rngN (s := 4) (b := f_law_numbers_v3_l1) (lo := start) (n := (s.length - start).toNat)
    (fun i g => ∃ (l : List Int) (y4 y5 : D), (l.length : Int) ≤ most ∧ g = [.sc (s.map D.int), .int start, .int most, .ol (l.map D.int), y4, y5])
    (g := [.sc (s.map D.int), .int start, .int most, .ol [], y4, y5]) ⟨[], y4, y5, by simp; omega, rfl⟩ (fun i g hi ⟨l, y4, y5, hl, hg⟩ => by
      subst hg
      obtain ⟨c, ec, _⟩ := DL.atI_of (l := s) (i := start + (i : Int)) (by omega) (by omega)
      by_cases q : (l.length : Int) < most
      · have hlim : l.length < lim := by rw [lim_eq]; omega
        refine ⟨_, .inl ?_, l ++ [c % 1000000000000000000], .int (start + (i : Int)), .int (c % 1000000000000000000), by simp; omega, rfl⟩
        simp [f_law_numbers_v3_l1, ec, opPow_18, q, hlim]
      · have hat := Int.emod_lt_of_pos (start + (i : Int)) hm
        have hat0 : 0 ≤ (start + (i : Int)) % most := Int.emod_nonneg _ (by omega)
        obtain ⟨a, ea, _⟩ := DL.atI_of (l := l) (i := (start + (i : Int)) % most) hat0 (by omega)
        have hix : L2.ixN (l.map D.int).length ((start + (i : Int)) % most) = some ((start + (i : Int)) % most).toNat := ixN_nat hat0 (by simp; omega)
        refine ⟨_, .inl ?_, l.set ((start + (i : Int)) % most).toNat ((a * 10007 + c % 1000000000000000000) % 1000000000000000000), .int (start + (i : Int)), .int (c % 1000000000000000000), by simpa using hl, rfl⟩
        simp at hix
        simp [f_law_numbers_v3_l1, ec, opPow_18, q, hm, ea, hix])
  exact ⟨l, z4, z5, h1, e⟩
theorem nums_ok (s : List Int) (start most : Int) (hs : s.length ≤ 1000) (h0 : 0 ≤ start) (h00 : start ≤ 1000) (hm : 0 < most) (hm2 : most ≤ 1000) :
    ∃ l : List Int, (l.length : Int) ≤ most ∧ g_law_numbers_v3 [.sc (s.map D.int), .int start, .int most] = .ok (.ol (l.map D.int)) := by
  obtain ⟨l, z4, z5, h1, e⟩ := nums_l1 s start most hs h0 hm hm2 .un .un
  have b4 : rgOk start := rgOk_of (by omega) (by omega)
  have b5 : rgOk (s.length : Int) := rgOk_of (by omega) (by omega)
  exact ⟨l, h1, by simp [g_law_numbers_v3, runF, f_law_numbers_v3, b4, b5, e]⟩
theorem in_two (a b c : Int) : cIn (.int a) (.ls [.int b, .int c]) = some (decide (a ∈ [b, c])) := by
  have := cIn_ls (a := a) (ns := [b, c])
  simpa using this
theorem digits_l1 (x0 x1 x2 : D) (p whole : Int) (hp : 0 < p) (hp2 : p ≤ 1000) : ∀ (n : Nat) (lo : Int) (r : Int) (l : List (Int × Int)) (y7 : D), 0 ≤ lo → lo + n ≤ 1000 → l.length + n ≤ 1000 → EndsOk p l →
    ∃ (r' : Int) (l' : List (Int × Int)) (z7 : D), l'.length = l.length + n ∧ EndsOk p l' ∧ forL (gtN 7) f_law_digits_l1 (rng lo n) [x0, x1, x2, .int p, .int whole, .ol (l.map dP), .int r, y7] = .nx [x0, x1, x2, .int p, .int whole, .ol (l'.map dP), .int r', z7]
  | 0, lo, c, l, y8, _, _, _, hE => ⟨c, l, y8, by omega, hE, by simp [rng_zero, forL]⟩
  | n + 1, lo, c, l, y8, h0, h1, h2, hE => by
    have a4 : p < 1073741824 := by omega
    have a5 : -18446744073709551616 < p := by omega
    have a6 : p < 18446744073709551616 := by omega
    have a7 : 0 < p * p := Int.mul_pos hp hp
    have a8 : p * p < 1073741824 := by
      have : p * p ≤ 1000 * 1000 := Int.mul_le_mul hp2 hp2 (by omega) (by omega)
      omega
    have hlim : l.length < lim := by rw [lim_eq]; omega
    by_cases hB : c ∈ [0, -1]
    · have hB' : c = 0 ∨ c = -1 := by simpa using hB
      have o1 := Int.emod_nonneg (stF whole (2 * lo)) (by omega : p ≠ 0)
      have o2 := Int.emod_lt_of_pos (stF whole (2 * lo)) hp
      have p1 := Int.emod_nonneg (stF whole (2 * lo + 1)) (by omega : p ≠ 0)
      have p2 := Int.emod_lt_of_pos (stF whole (2 * lo + 1)) hp
      obtain ⟨c', l', z8, h3, h4, h5⟩ := digits_l1 x0 x1 x2 p whole hp hp2 n (lo + 1) (c / (p * p)) (l ++ [(stF whole (2 * lo) % p, stF whole (2 * lo + 1) % p)]) (.int lo) (by omega) (by omega) (by simp; omega) (hE.app (.one ⟨⟨o1, o2⟩, p1, p2⟩))
      refine ⟨c', l', z8, by simp at h3; omega, h4, ?_⟩
      rw [← h5]
      simp [rng_succ, forL, f_law_digits_l1, in_two, hB', hp, a4, a5, a6, a7, a8, stir_ok, hlim]
    · have hB' : ¬ (c = 0 ∨ c = -1) := by simpa using hB
      have o1 := Int.emod_nonneg c (by omega : p ≠ 0)
      have o2 := Int.emod_lt_of_pos c hp
      have p1 := Int.emod_nonneg (c / p) (by omega : p ≠ 0)
      have p2 := Int.emod_lt_of_pos (c / p) hp
      obtain ⟨c', l', z8, h3, h4, h5⟩ := digits_l1 x0 x1 x2 p whole hp hp2 n (lo + 1) (c / (p * p)) (l ++ [(c % p, c / p % p)]) (.int lo) (by omega) (by omega) (by simp; omega) (hE.app (.one ⟨⟨o1, o2⟩, p1, p2⟩))
      refine ⟨c', l', z8, by simp at h3; omega, h4, ?_⟩
      rw [← h5]
      simp [rng_succ, forL, f_law_digits_l1, in_two, hB', hp, a4, a5, a6, a7, a8, hlim]
theorem digits_ok (c most tm : Int) (h1 : 1 ≤ most) (h2 : most ≤ 1000) (h3 : 0 ≤ tm) (h4 : tm ≤ 500) :
    ∃ (p : Int) (l : List (Int × Int)), 1 ≤ p ∧ p ≤ most ∧ (l.length : Int) ≤ tm ∧ EndsOk p l ∧ g_law_digits [.int c, .int most, .int tm] = .ok (.tp [.int p, .ls (l.map dP)]) := by
  have m0 := Int.emod_nonneg c (by omega : most ≠ 0)
  have m1 := Int.emod_lt_of_pos c (by omega : 0 < most)
  have n0 := Int.emod_nonneg (c / most) (by omega : tm + 1 ≠ 0)
  have n1 := Int.emod_lt_of_pos (c / most) (by omega : 0 < tm + 1)
  obtain ⟨c', l, z8, l1, l2, l3⟩ := digits_l1 (.int c) (.int most) (.int tm) (1 + c % most) (c / most) (by omega) (by omega) (c / most % (tm + 1)).toNat 0 (c / most / (tm + 1)) [] .un (by omega) (by omega) (by simp; omega) (fun _ h => nomatch h)
  simp at l1 l3
  have a0 : 0 < most := by omega
  have a1 : most < 1073741824 := by omega
  have a2 : 0 < tm + 1 := by omega
  have a3 : tm + 1 < 1073741824 := by omega
  have hr : rgOk (c / most % (tm + 1)) := rgOk_of (by omega) (by omega)
  refine ⟨1 + c % most, l, by omega, by omega, by omega, l2, ?_⟩
  simp [g_law_digits, runF, f_law_digits, a0, a1, a2, a3, hr, l3, frzAt]
theorem web3_l1 (x0 x1 x2 x3 : D) (p : Int) (hp : 0 < p) (hp2 : p ≤ 1000) : ∀ (ns : List Int) (k : Nat) (l : List (Int × Int)) (y6 y7 y8 y9 : D), l.length + ns.length ≤ 1000 → EndsOk p l →
    ∃ (l' : List (Int × Int)) (z6 z7 z8 z9 : D), l'.length = l.length + ns.length ∧ EndsOk p l' ∧ forL (gtT 2 (gtCons (gtN 6) (gtCons (gtN 7) (gtNil)))) f_law_web_v3_l1 (enm k (ns.map D.int)) [x0, x1, x2, x3, .int p, .ol (l.map dP), y6, y7, y8, y9] = .nx [x0, x1, x2, x3, .int p, .ol (l'.map dP), z6, z7, z8, z9]
  | [], k, l, y6, y7, y8, y9, _, hE => ⟨l, y6, y7, y8, y9, by simp, hE, by simp [enm, forL]⟩
  | n :: ns, k, l, y6, y7, y8, y9, h2, hE => by
    have a4 : p < 1073741824 := by omega
    have hlim : l.length < lim := by rw [lim_eq]; simp at h2; omega
    have fin : ∀ (a b : Int), (0 ≤ a ∧ a < p) → (0 ≤ b ∧ b < p) →
        f_law_web_v3_l1 [x0, x1, x2, x3, .int p, .ol (l.map dP), .int k, .int n, y8, y9] = .nx [x0, x1, x2, x3, .int p, .ol ((l ++ [if stF n 4 % 2 = 0 then (a, b) else (b, a)]).map dP), .int k, .int n, .int a, .int b] →
        ∃ (l' : List (Int × Int)) (z6 z7 z8 z9 : D), l'.length = l.length + (n :: ns).length ∧ EndsOk p l' ∧ forL (gtT 2 (gtCons (gtN 6) (gtCons (gtN 7) (gtNil)))) f_law_web_v3_l1 (enm k ((n :: ns).map D.int)) [x0, x1, x2, x3, .int p, .ol (l.map dP), y6, y7, y8, y9] = .nx [x0, x1, x2, x3, .int p, .ol (l'.map dP), z6, z7, z8, z9] := fun a b ha hb e => by
      obtain ⟨l', z6, z7, z8, z9, h3, h4, h5⟩ := web3_l1 x0 x1 x2 x3 p hp hp2 ns (k + 1) (l ++ [if stF n 4 % 2 = 0 then (a, b) else (b, a)]) (.int k) (.int n) (.int a) (.int b) (by simp at h2 ⊢; omega) (hE.app (by
        by_cases q : stF n 4 % 2 = 0
        · rw [if_pos q]; exact .one ⟨ha, hb⟩
        · rw [if_neg q]; exact .one ⟨hb, ha⟩))
      refine ⟨l', z6, z7, z8, z9, by simp at h3 ⊢; omega, h4, ?_⟩
      rw [← h5]
      simp [forL, enm, e]
    have two : stF n 4 % 2 = 0 ∨ stF n 4 % 2 = 1 := by omega
    by_cases hB : ((k : Int) + 1 < p ∧ 0 < stF n 3 % 8)
    · have k1 : (0 : Int) < (k : Int) + 1 := by omega
      have o1 := Int.emod_nonneg (stF n 1) (by omega : (k : Int) + 1 ≠ 0)
      have o2 := Int.emod_lt_of_pos (stF n 1) k1
      refine fin (stF n 1 % ((k : Int) + 1)) ((k : Int) + 1) ⟨o1, by omega⟩ ⟨by omega, hB.1⟩ ?_
      rcases two with q | q <;> simp [f_law_web_v3_l1, stir_ok, hp, a4, hB.1, hB.2, k1, q, hlim]
    · have o1 := Int.emod_nonneg (stF n 1) (by omega : p ≠ 0)
      have o2 := Int.emod_lt_of_pos (stF n 1) hp
      have p1 := Int.emod_nonneg (stF n 2) (by omega : p ≠ 0)
      have p2 := Int.emod_lt_of_pos (stF n 2) hp
      refine fin (stF n 1 % p) (stF n 2 % p) ⟨o1, o2⟩ ⟨p1, p2⟩ ?_
      by_cases c1 : (k : Int) + 1 < p
      · have c2 : ¬ 0 < stF n 3 % 8 := fun z => hB ⟨c1, z⟩
        rcases two with q | q <;> simp [f_law_web_v3_l1, stir_ok, hp, a4, c1, c2, q, hlim]
      · rcases two with q | q <;> simp [f_law_web_v3_l1, stir_ok, hp, a4, c1, q, hlim]
theorem web3_ok (s : List Int) (most tm : Int) (hs : s.length ≤ 1000) (h1 : 1 ≤ most) (h2 : most ≤ 1000) (h3 : 1 ≤ tm) (h4 : tm ≤ 500) :
    ∃ (p : Int) (l : List (Int × Int)), 1 ≤ p ∧ p ≤ most ∧ (l.length : Int) ≤ tm ∧ EndsOk p l ∧ g_law_web_v3 [.sc (s.map D.int), .int most, .int tm] = .ok (.tp [.int p, .ls (l.map dP)]) := by
  obtain ⟨c, ec⟩ := at_ok s 0 (by omega)
  obtain ⟨c1, ec1⟩ := at_ok s 1 (by omega)
  by_cases q : c % 2 = 0
  · obtain ⟨p, l, l1, l2, l3, l4, e⟩ := digits_ok c1 most tm h1 h2 (by omega) h4
    exact ⟨p, l, l1, l2, l3, l4, by simp [g_law_web_v3, runF, f_law_web_v3, ec, q, ec1, e]⟩
  · obtain ⟨ns, n1, en⟩ := nums_ok s 1 tm hs (by omega) (by omega) (by omega) (by omega)
    have m0 := Int.emod_nonneg (c / 2) (by omega : most ≠ 0)
    have m1 := Int.emod_lt_of_pos (c / 2) (by omega : 0 < most)
    obtain ⟨l, z6, z7, z8, z9, l1, l2, l3⟩ := web3_l1 (.sc (s.map D.int)) (.int most) (.int tm) (.int c) (1 + c / 2 % most) (by omega) (by omega) ns 0 [] .un .un .un .un (by simp; omega) (fun _ h => nomatch h)
    have a0 : 0 < most := by omega
    refine ⟨1 + c / 2 % most, l, by omega, by omega, by simp at l1; omega, l2, ?_⟩
    simp at l3
    simp [g_law_web_v3, runF, f_law_web_v3, ec, q, en, a0, l3, frzAt]
end Lw

namespace Lw
open DL L2 TL
def hj (m : List Int) (t : Int × Int) : List Int := m.map fun x => if x = nth m t.2 then nth m t.1 else x
theorem hj_step (m : List Int) (t : Int × Int) : hj m t = stepL m t := by
  unfold hj stepL
  split
  · rename_i h
    conv => rhs; rw [← List.map_id m]
    refine List.map_congr_left fun x _ => ?_
    split
    · rename_i h2; rw [h2]; exact h
    · rfl
  · rfl
theorem marksL_snoc (p : Nat) (ts : List (Int × Int)) (J : List Int) (t : Int) : marksL p ts (J ++ [t]) = hj (marksL p ts J) (tieAt ts t) := by
  rw [hj_step]
  simp [marksL, List.foldl_append]
end Lw

namespace Lw
open DL L2 TL
theorem nodup_leG2 {α : Type} [DecidableEq α] : ∀ {l m : List α}, l.Nodup → (∀ x ∈ l, x ∈ m) → l.length ≤ m.length
  | [], _, _, _ => Nat.zero_le _
  | a :: l, m, h, k => by
    obtain ⟨h1, h2⟩ := List.nodup_cons.mp h
    have ha := k a (List.mem_cons_self ..)
    have := nodup_leG2 (l := l) (m := m.erase a) h2 fun x hx => (List.mem_erase_of_ne (fun (e : x = a) => h1 (e ▸ hx))).mpr (k x (List.mem_cons_of_mem _ hx))
    rw [List.length_erase_of_mem ha] at this
    have := List.length_pos_of_mem ha
    simp only [List.length_cons]
    omega
def extF (p : Nat) (ts : List (Int × Int)) (k : Nat) (s : List Int) : List (List Int) := ((upL (nxt k s) ts.length).filter fun t => !decide (nth (marksL p ts s) (tieAt ts t).1 = nth (marksL p ts s) (tieAt ts t).2)).map fun t => s ++ [t]
def allF (p : Nat) (ts : List (Int × Int)) : Nat → List (List Int)
  | 0 => [[]]
  | k + 1 => (allF p ts k).flatMap (extF p ts k)
section
variable {p : Nat} {ts : List (Int × Int)}
theorem testL (hE : EndsOk p ts) {J : List Int} (hJ : InT ts.length J) {t : Int} (ht : 0 ≤ t ∧ t < ts.length) : nth (marksL p ts J) (tieAt ts t).1 = nth (marksL p ts J) (tieAt ts t).2 ↔ Conn (tiesAt ts J) (tieAt ts t).1 (tieAt ts t).2 := by
  obtain ⟨_, e2⟩ := tie_at ht.1 ht.2
  obtain ⟨⟨a0, a1⟩, b0, b1⟩ := hE _ e2
  exact nthL p ts hE J hJ _ _ a0 a1 b0 b1
theorem allF_sub : ∀ (k : Nat) {l : List Int}, l ∈ allF p ts k → l ∈ allA ts.length k
  | 0, l, h => h
  | k + 1, l, h => by
    rw [allF, List.mem_flatMap] at h
    rw [allA, List.mem_flatMap]
    obtain ⟨s, hs, hl⟩ := h
    refine ⟨s, allF_sub k hs, ?_⟩
    unfold extF at hl
    unfold extA
    obtain ⟨t, ht, e⟩ := List.mem_map.mp hl
    exact List.mem_map.mpr ⟨t, (List.mem_filter.mp ht).1, e⟩
theorem allF_ind (hE : EndsOk p ts) : ∀ (k : Nat) {l : List Int}, l ∈ allF p ts k → Ind p ts l
  | 0, l, h => by
    simp [allF] at h; subst h; exact ind_nil p ts
  | k + 1, l, h => by
    rw [allF, List.mem_flatMap] at h
    obtain ⟨s, hs, hl⟩ := h
    have hI := allF_ind hE k hs
    unfold extF at hl
    obtain ⟨t, ht, rfl⟩ := List.mem_map.mp hl
    obtain ⟨h1, h2⟩ := List.mem_filter.mp ht
    have hin := good_in ((allA_mem _ _ _).mp (allF_sub (k + 1) (l := s ++ [t]) (by
      rw [allF, List.mem_flatMap]
      exact ⟨s, hs, hl⟩))).2
    have ht' := hin t (by simp)
    refine hI.snoc hE ht' fun c => ?_
    rw [← testL hE hI.inn ht'] at c
    simp [c] at h2
theorem allF_has (hE : EndsOk p ts) : ∀ (k : Nat) {l : List Int}, l ∈ allA ts.length k → Ind p ts l → l ∈ allF p ts k
  | 0, l, h, _ => h
  | k + 1, l, h, hI => by
    rw [allA, List.mem_flatMap] at h
    rw [allF, List.mem_flatMap]
    obtain ⟨s, hs, hl⟩ := h
    unfold extA at hl
    obtain ⟨t, ht, rfl⟩ := List.mem_map.mp hl
    have hnd := hI.nd
    rw [List.nodup_append] at hnd
    have hIs := hI.sub hE hnd.1 fun x hx => List.mem_append_left _ hx
    have ht' := hI.inn t (by simp)
    refine ⟨s, allF_has hE k hs hIs, ?_⟩
    unfold extF
    refine List.mem_map.mpr ⟨t, List.mem_filter.mpr ⟨ht, ?_⟩, rfl⟩
    have : ¬ Conn (tiesAt ts s) (tieAt ts t).1 (tieAt ts t).2 := fun c => by
      have e : cnt p (tiesAt ts s) = cnt p (tiesAt ts (s ++ [t])) := cnt_eq (tiesAt_ok hE hIs.inn) (tiesAt_ok hE hI.inn)
        (fun e he => by
          obtain ⟨u, hu, rfl⟩ := List.mem_map.mp he
          exact conn_at (List.mem_append_left _ hu))
        (fun e he => by
          obtain ⟨u, hu, rfl⟩ := List.mem_map.mp he
          rcases List.mem_append.mp hu with z | z
          · exact conn_at z
          · simp at z; subst z; exact c)
      have h1 := hIs.ct
      have h2 := hI.ct
      simp at h2
      omega
    rw [← testL hE hIs.inn ht'] at this
    simp [this]
theorem allF_lex : ∀ k : Nat, (allF p ts k).Pairwise fun a b => HT.lexLt a b = true
  | 0 => List.pairwise_singleton _ _
  | k + 1 => by
    rw [allF, List.pairwise_flatMap]
    refine ⟨fun s hs => ?_, ?_⟩
    · unfold extF
      rw [List.pairwise_map]
      exact ((upL_rise _ _).filter _).imp fun h => lex_one s h
    · have ih := allF_lex k
      refine List.Pairwise.imp_of_mem (fun {a b} ha hb h x hx y hy => ?_) ih
      unfold extF at hx hy
      obtain ⟨t, _, rfl⟩ := List.mem_map.mp hx
      obtain ⟨u, _, rfl⟩ := List.mem_map.mp hy
      have h1 := ((allA_mem _ k a).mp (allF_sub k ha)).1
      have h2 := ((allA_mem _ k b).mp (allF_sub k hb)).1
      exact lex_app (by omega) h _ _
theorem allF_trees (hp : 1 ≤ p) (hE : EndsOk p ts) : allF p ts (p - 1) = trees p ts := by
  have hr := allF_lex (p := p) (ts := ts) (p - 1)
  have hd : (allF p ts (p - 1)).Nodup := hr.imp fun {a b} h e => by
    subst e
    rw [lex_irr] at h; cases h
  have hm : ∀ l, l ∈ allF p ts (p - 1) ↔ l ∈ trees p ts := fun l => by
    rw [trees_mem hp]
    constructor
    · intro h
      obtain ⟨h1, h2⟩ := (allA_mem _ _ _).mp (allF_sub _ h)
      have := (allF_ind hE _ h).ct
      exact treeB_nat.mpr ⟨by omega, h2, by omega⟩
    · intro h
      obtain ⟨h1, h2, h3⟩ := treeB_nat.mp h
      exact allF_has hE _ ((allA_mem _ _ _).mpr ⟨by omega, h2⟩) (tree_ind h hp)
  have hp2 := (List.perm_ext_iff_of_nodup hd (trees_nodup p ts)).mpr hm
  have hrise : Rise (allF p ts (p - 1)) := hr.imp fun {a b} h => NtL.lex_asym _ _ h
  exact rise_one hp2 hrise (srtL_rise _)
theorem allF_len (k : Nat) : (allF p ts k).length ≤ (allA ts.length k).length :=
  have hd : (allF p ts k).Nodup := (allF_lex k).imp fun {a b} h e => by
    subst e
    rw [lex_irr] at h; cases h
  nodup_leG2 hd fun x hx => allF_sub k hx
end
def dH (p : Nat) (ts : List (Int × Int)) (s : List Int) : D := .tp [.tp (s.map D.int), .tp ((marksL p ts s).map D.int)]
theorem fmax_spec : ∀ (s : List Int) (a : Int), a ≤ s.foldl max a ∧ (∀ x ∈ s, x ≤ s.foldl max a) ∧ (s.foldl max a = a ∨ s.foldl max a ∈ s)
  | [], a => ⟨Int.le_refl _, fun _ h => (nomatch h), .inl rfl⟩
  | b :: s, a => by
    obtain ⟨h1, h2, h3⟩ := fmax_spec s (max a b)
    simp only [List.foldl_cons]
    refine ⟨by omega, fun x hx => ?_, ?_⟩
    · rcases List.mem_cons.mp hx with rfl | hx
      · omega
      · exact h2 x hx
    · rcases h3 with h | h
      · by_cases c : a ≤ b
        · right; rw [h, show max a b = b by omega]; exact List.mem_cons_self ..
        · left; rw [h]; omega
      · exact .inr (List.mem_cons_of_mem _ h)
theorem last_max {s : List Int} {k : Nat} (hs : s.length = k) (hk : 0 < k) (hr : s.Pairwise (· < ·)) : ∀ x ∈ s, x ≤ nth s (k - 1 : Nat) := fun x hx => by
  obtain ⟨i, hi⟩ := List.getElem?_of_mem hx
  have hi2 := (List.getElem?_eq_some_iff.mp hi).1
  have hn : nth s (k - 1 : Nat) = s[k - 1]'(by omega) := by
    simp [nth, List.getD_eq_getElem?_getD, List.getElem?_eq_getElem (show k - 1 < s.length by omega)]
  have hx' : x = s[i] := by rw [List.getElem?_eq_getElem hi2] at hi; cases hi; rfl
  by_cases e : i = k - 1
  · subst e; omega
  · have := List.pairwise_iff_getElem.mp hr i (k - 1) hi2 (by omega) (by omega)
    omega
theorem max_nxt {n k : Nat} {s : List Int} (h : s ∈ allA n k) : s.foldl max (-1) + 1 = nxt k s := by
  obtain ⟨h1, h2⟩ := (allA_mem _ _ s).mp h
  obtain ⟨h3, h4⟩ := good_iff.mp h2
  unfold nxt
  by_cases hk : k = 0
  · rw [if_pos hk]
    rw [List.eq_nil_of_length_eq_zero (by omega : s.length = 0)]
    rfl
  · rw [if_neg hk]
    obtain ⟨f1, f2, f3⟩ := fmax_spec s (-1)
    have hm : nth s (k - 1 : Nat) ∈ s := nth_memN (by omega)
    have l := last_max h1 (by omega) h4
    have := f2 _ hm
    have := (h3 _ hm).1
    rcases f3 with e | e
    · omega
    · have := l _ e
      omega
theorem upL_len (lo : Int) (n : Nat) (h : 0 ≤ lo) : (upL lo n).length ≤ n := by unfold upL; simp only [List.length_map, List.length_range]; omega
theorem trees3_l2 (x0 x2 x3 : D) (p : Nat) (hp : 1 ≤ p) (hp2 : p ≤ 1000) (ts : List (Int × Int)) (hE : EndsOk p ts) (s : List Int) (hs : s.length ≤ 1000) : ∀ (l : List Int) (A : List (List Int)) (y7 y8 y9 y10 : D), InT ts.length l → A.length + l.length ≤ 900000 →
    ∃ z7 z8 z9 z10, forL (gtN 7) f_law_trees_v3_l2 (l.map D.int) [x0, .ls (ts.map dP), x2, x3, .ol (A.map (dH p ts)), .tp (s.map D.int), .tp ((marksL p ts s).map D.int), y7, y8, y9, y10, .un] = .nx [x0, .ls (ts.map dP), x2, x3, .ol ((A ++ (l.filter fun t => !decide (nth (marksL p ts s) (tieAt ts t).1 = nth (marksL p ts s) (tieAt ts t).2)).map fun t => s ++ [t]).map (dH p ts)), .tp (s.map D.int), .tp ((marksL p ts s).map D.int), z7, z8, z9, z10, .un]
  | [], A, y7, y8, y9, y10, _, _ => ⟨y7, y8, y9, y10, by simp [forL]⟩
  | t :: l, A, y7, y8, y9, y10, hl, hA => by
    obtain ⟨t0, t1⟩ := hl t (List.mem_cons_self ..)
    have hl' : InT ts.length l := fun x hx => hl x (List.mem_cons_of_mem _ hx)
    obtain ⟨e1, e2⟩ := tie_at t0 t1
    obtain ⟨⟨a0, a1⟩, b0, b1⟩ := hE _ e2
    have ml := marksL_len p ts s
    have ea := nth_at (m := marksL p ts s) a0 (by omega)
    have eb := nth_at (m := marksL p ts s) b0 (by omega)
    by_cases c : nth (marksL p ts s) (tieAt ts t).1 = nth (marksL p ts s) (tieAt ts t).2
    · obtain ⟨z7, z8, z9, z10, ih⟩ := trees3_l2 x0 x2 x3 p hp hp2 ts hE s hs l A (.int t) (.int (nth (marksL p ts s) (tieAt ts t).1)) (.int (nth (marksL p ts s) (tieAt ts t).2)) y10 hl' (by simp at hA ⊢; omega)
      refine ⟨z7, z8, z9, z10, ?_⟩
      rw [List.filter_cons_of_neg (by simpa using c), ← ih]
      simp [forL, f_law_trees_v3_l2, e1, dP, ea, eb, c]
    · obtain ⟨z7, z8, z9, z10, ih⟩ := trees3_l2 x0 x2 x3 p hp hp2 ts hE s hs l (A ++ [s ++ [t]]) (.int t) (.int (nth (marksL p ts s) (tieAt ts t).1)) (.int (nth (marksL p ts s) (tieAt ts t).2)) (.tp ((marksL p ts (s ++ [t])).map D.int)) hl' (by simp at hA ⊢; omega)
      refine ⟨z7, z8, z9, z10, ?_⟩
      have eL : ∀ F : List Int, A ++ (t :: F).map (fun t => s ++ [t]) = A ++ [s ++ [t]] ++ F.map fun t => s ++ [t] := fun F => by simp
      rw [List.filter_cons_of_pos (by simpa using c), eL, ← ih]
      have lc : ∀ x10 : D, lcL (gtN 11) tYesG f_law_trees_v3_c1 [x0, .ls (ts.map dP), x2, x3, .ol (A.map (dH p ts)), .tp (s.map D.int), .tp ((marksL p ts s).map D.int), .int t, .int (nth (marksL p ts s) (tieAt ts t).1), .int (nth (marksL p ts s) (tieAt ts t).2), x10, .un] ((marksL p ts s).map D.int) = .ok ((marksL p ts (s ++ [t])).map D.int) := fun x10 => by
        rw [marksL_snoc]
        unfold hj
        rw [← map_int]
        refine lcL_mapN _ fun x _ => ?_
        by_cases c : x = nth (marksL p ts s) (tieAt ts t).2 <;> simp [f_law_trees_v3_c1, c]
      have bl : (marksL p ts s).length ≤ lim := by rw [lim_eq]; omega
      have bl2 : (marksL p ts (s ++ [t])).length ≤ lim := by rw [marksL_len, lim_eq]; omega
      have bs : s.length + 1 ≤ lim := by rw [lim_eq]; omega
      have bA : A.length < lim := by rw [lim_eq]; simp at hA; omega
      simp [forL, f_law_trees_v3_l2, e1, dP, ea, eb, c, lc, bl, bl2, bs, bA, dH]
theorem trees3_l3 (x0 x2 x3 : D) (p : Nat) (hp : 1 ≤ p) (hp2 : p ≤ 1000) (ts : List (Int × Int)) (hE : EndsOk p ts) (ht : ts.length ≤ 100) (k : Nat) (hk : k ≤ 900) : ∀ (l A : List (List Int)) (y5 y6 y7 y8 y9 y10 : D), (∀ s ∈ l, s ∈ allF p ts k) → A.length + ts.length * l.length ≤ 900000 →
    ∃ z5 z6 z7 z8 z9 z10, forL (gtT 2 (gtCons (gtN 5) (gtCons (gtN 6) (gtNil)))) f_law_trees_v3_l3 (l.map (dH p ts)) [x0, .ls (ts.map dP), x2, x3, .ol (A.map (dH p ts)), y5, y6, y7, y8, y9, y10, .un] = .nx [x0, .ls (ts.map dP), x2, x3, .ol ((A ++ l.flatMap (extF p ts k)).map (dH p ts)), z5, z6, z7, z8, z9, z10, .un]
  | [], A, y5, y6, y7, y8, y9, y10, _, _ => ⟨y5, y6, y7, y8, y9, y10, by simp [forL]⟩
  | s :: l, A, y5, y6, y7, y8, y9, y10, hl, hA => by
    have hsA := allF_sub k (hl s (List.mem_cons_self ..))
    obtain ⟨h1, h2⟩ := (allA_mem _ _ s).mp hsA
    have mx := max_nxt hsA
    have nx0 : 0 ≤ nxt k s ∧ nxt k s ≤ 1000 := by
      obtain ⟨f1, f2, f3⟩ := fmax_spec s (-1)
      have hin := good_in h2
      rcases f3 with e | e
      · omega
      · have := hin _ e; omega
    have ul := upL_len (nxt k s) ts.length nx0.1
    have el : (extF p ts k s).length ≤ ts.length := by
      unfold extF
      rw [List.length_map]
      exact Nat.le_trans (List.length_filter_le ..) ul
    rw [List.length_cons, Nat.mul_succ] at hA
    obtain ⟨w7, w8, w9, w10, e⟩ := trees3_l2 x0 x2 x3 p hp hp2 ts hE s (by omega) (upL (nxt k s) ts.length) A y7 y8 y9 y10 (fun x hx => by have := upL_mem.mp hx; omega) (by omega)
    obtain ⟨z5, z6, z7, z8, z9, z10, ih⟩ := trees3_l3 x0 x2 x3 p hp hp2 ts hE ht k hk l (A ++ extF p ts k s) (.tp (s.map D.int)) (.tp ((marksL p ts s).map D.int)) w7 w8 w9 w10 (fun q hq => hl q (List.mem_cons_of_mem _ hq)) (by simp; omega)
    refine ⟨z5, z6, z7, z8, z9, z10, ?_⟩
    rw [List.flatMap_cons, ← List.append_assoc, ← ih]
    have ee : ((upL (nxt k s) ts.length).filter fun t => !decide (nth (marksL p ts s) (tieAt ts t).1 = nth (marksL p ts s) (tieAt ts t).2)).map (fun t => s ++ [t]) = extF p ts k s := rfl
    rw [ee] at e
    have r1 : rgOk (nxt k s) := rgOk_of (by omega) (by omega)
    have r2 : rgOk (ts.length : Int) := rgOk_of (by omega) (by omega)
    have er : rng (nxt k s) ((ts.length : Int) - nxt k s).toNat = (upL (nxt k s) ts.length).map D.int := by rw [rng_map]; rfl
    have bs : 1 + s.length ≤ lim := by rw [lim_eq]; omega
    have mx2 : (D.int (-1) :: s.map D.int) = D.int (-1) :: s.map D.int := rfl
    simp only [List.map_append] at e
    simp [forL, f_law_trees_v3_l3, dH, mx, r1, r2, er, bs, e]
theorem trees3_l4 (x0 : D) (p : Nat) (hp : 1 ≤ p) (hp2 : p ≤ 6) (ts : List (Int × Int)) (hE : EndsOk p ts) (ht : ts.length ≤ 12) : ∀ (n k : Nat) (y3 y4 y5 y6 y7 y8 y9 y10 : D), k + n ≤ 5 →
    ∃ z3 z4 z5 z6 z7 z8 z9 z10, forL (gtN 3) f_law_trees_v3_l4 (rng k n) [x0, .ls (ts.map dP), .ls ((allF p ts k).map (dH p ts)), y3, y4, y5, y6, y7, y8, y9, y10, .un] = .nx [x0, .ls (ts.map dP), .ls ((allF p ts (k + n)).map (dH p ts)), z3, z4, z5, z6, z7, z8, z9, z10, .un]
  | 0, k, y3, y4, y5, y6, y7, y8, y9, y10, _ => ⟨y3, y4, y5, y6, y7, y8, y9, y10, by simp [rng_zero, forL]⟩
  | n + 1, k, y3, y4, y5, y6, y7, y8, y9, y10, h => by
    have big : (allF p ts k).length ≤ 12 ^ 4 := Nat.le_trans (allF_len k) (Nat.le_trans (allA_len ts.length k) (Nat.le_trans (Nat.pow_le_pow_left ht k) (Nat.pow_le_pow_right (by omega) (by omega))))
    have e4 : (12 : Nat) ^ 4 = 20736 := by decide
    have hm : ts.length * (allF p ts k).length ≤ 12 * 20736 := Nat.mul_le_mul ht (by omega)
    obtain ⟨v5, v6, v7, v8, v9, v10, e⟩ := trees3_l3 x0 (.ls ((allF p ts k).map (dH p ts))) (.int k) p hp (by omega) ts hE (by omega) k (by omega) (allF p ts k) [] y5 y6 y7 y8 y9 y10 (fun _ h => h) (by simp; omega)
    obtain ⟨z3, z4, z5, z6, z7, z8, z9, z10, ih⟩ := trees3_l4 x0 p hp hp2 ts hE ht n (k + 1) (.int k) (.ls ((allF p ts (k + 1)).map (dH p ts))) v5 v6 v7 v8 v9 v10 (by omega)
    refine ⟨z3, z4, z5, z6, z7, z8, z9, z10, ?_⟩
    rw [show k + (n + 1) = k + 1 + n by omega, ← ih]
    have ea : (allF p ts k).flatMap (extF p ts k) = allF p ts (k + 1) := rfl
    simp only [List.map_nil, List.nil_append, ea] at e
    have r : rng (k : Int) (n + 1) = .int k :: rng ((k : Int) + 1) n := rng_succ ..
    have dull : ∀ l : List (List Int), nods (l.map (dH p ts)) = true ∧ frzs (l.map (dH p ts)) = l.map (dH p ts) := fun l => by
      induction l with
      | nil => exact ⟨rfl, rfl⟩
      | cons a l ih => simp [dH, ih.1, ih.2]
    obtain ⟨d1, d2⟩ := dull (allF p ts (k + 1))
    simp [r, forL, f_law_trees_v3_l4, e, frzAt, d1, d2]
theorem trees3_ok (p : Nat) (hp : 1 ≤ p) (hp2 : p ≤ 6) (ts : List (Int × Int)) (hE : EndsOk p ts) (ht : ts.length ≤ 12) : g_law_trees_v3 [.int p, .ls (ts.map dP)] = .ok (.ol ((trees p ts).map dT)) := by
  obtain ⟨z3, z4, z5, z6, z7, z8, z9, z10, e⟩ := trees3_l4 (.int p) p hp hp2 ts hE ht (p - 1) 0 .un .un .un .un .un .un .un .un (by omega)
  have hr : rgOk ((p : Int) - 1) := rgOk_of (by omega) (by omega)
  have hr2 : rgOk (p : Int) := rgOk_of (by omega) (by omega)
  have en : ((p : Int) - 1).toNat = p - 1 := by omega
  have hb : (allF p ts (p - 1)).length ≤ 12 ^ 5 := Nat.le_trans (allF_len _) (Nat.le_trans (allA_len ts.length (p - 1)) (Nat.le_trans (Nat.pow_le_pow_left ht _) (Nat.pow_le_pow_right (by omega) (by omega))))
  have e5 : (12 : Nat) ^ 5 = 248832 := by decide
  have hl : (allF p ts (p - 1)).length ≤ lim := by rw [lim_eq]; omega
  have h3 : (p : Int) ≤ 1000000 := by omega
  have lc : ∀ x0 x1 x2 x3 x4 x7 x8 x9 x10 x11 : D, lcL (gtT 2 (gtCons (gtN 5) (gtCons (gtN 6) (gtNil)))) tYesG f_law_trees_v3_c5 [x0, x1, x2, x3, x4, .un, .un, x7, x8, x9, x10, x11] ((allF p ts (p - 1)).map (dH p ts)) = .ok ((trees p ts).map dT) := fun x0 x1 x2 x3 x4 x7 x8 x9 x10 x11 => by
    rw [← allF_trees hp hE]
    refine lcL_map _ fun s _ => ⟨[x0, x1, x2, x3, x4, .tp (s.map D.int), .tp ((marksL p ts s).map D.int), x7, x8, x9, x10, x11], rfl, by simp [f_law_trees_v3_c5, dT]⟩
  simp only [Nat.zero_add, allF] at e
  have m0 : marksL p ts [] = iota p := rfl
  simp only [List.map_cons, List.map_nil, dH, m0] at e
  have e' : forL (gtN 3) f_law_trees_v3_l4 (rng 0 (p - 1)) [.int p, .ls (ts.map dP), .ls [.tp [.tp [], .tp ((iota p).map D.int)]], .un, .un, .un, .un, .un, .un, .un, .un, .un] = .nx [.int p, .ls (ts.map dP), .ls ((allF p ts (p - 1)).map (dH p ts)), z3, z4, z5, z6, z7, z8, z9, z10, .un] := e
  rw [rng_iota] at e'
  simp [g_law_trees_v3, runF, f_law_trees_v3, hr, hr2, h3, rng_iota, en, e', hl, lc]
end Lw

noncomputable section
namespace Lw
open DL
end Lw
end

namespace Lw
open DL L2 TL
end Lw

namespace Lw
open DL L2 TL Classical
theorem conn_snoc' {ts : List (Int × Int)} {J : List Int} {t : Int} {i j : Int} : Conn (tiesAt ts (J ++ [t])) i j ↔ Conn (tiesAt ts J) i j ∨ (Conn (tiesAt ts J) i (tieAt ts t).1 ∧ Conn (tiesAt ts J) (tieAt ts t).2 j) ∨ (Conn (tiesAt ts J) i (tieAt ts t).2 ∧ Conn (tiesAt ts J) (tieAt ts t).1 j) := by
  rw [tiesAt_snoc]; exact conn_snoc
end Lw

namespace Lw
open DL L2 TL
section
variable {p : Nat} (hp : 1 ≤ p) {ts : List (Int × Int)} (hE : EndsOk p ts) {T : List Int} (hT : treeB p ts T = true) (L : List Int)
include hp hE hT
end
end Lw

namespace Lw
open DL L2 TL
section
variable {p : Nat} {ts : List (Int × Int)}
theorem gr_q (hE : EndsOk p ts) {s J : List Int} (hJ : Ind p ts J) (hs : InT ts.length s) {q : Int → Bool} (sp : s = s.filter q ++ s.filter fun y => !q y) :
    ((gr p ts s J).filter q).length + J.length = (gr p ts (s.filter q) J).length + (J.filter q).length := by
  have h1 : InT ts.length (s.filter q) := fun y hy => hs y (List.mem_filter.mp hy).1
  have h2 : InT ts.length (s.filter fun y => !q y) := fun y hy => hs y (List.mem_filter.mp hy).1
  have e : gr p ts s J = gr p ts (s.filter fun y => !q y) (gr p ts (s.filter q) J) := by
    rw [← gr_app, ← sp]
  obtain ⟨i1, ⟨K1, k1, q1⟩, _⟩ := gr_ok hE (s.filter q) J hJ h1
  obtain ⟨i2, ⟨K2, k2, q2⟩, _⟩ := gr_ok hE (s.filter fun y => !q y) (gr p ts (s.filter q) J) i1 h2
  rw [e, k2, k1]
  simp only [List.filter_append, List.length_append]
  rw [filter_all (l := K1) fun y hy => (List.mem_filter.mp (q1.subset hy)).2, filter_none (l := K2) fun y hy => by have := (List.mem_filter.mp (q2.subset hy)).2; simpa using this]
  simp
  omega
theorem dom_q (hE : EndsOk p ts) {s J : List Int} (hJ : Ind p ts J) (hs : InT ts.length s) {q : Int → Bool} (sp : s = s.filter q ++ s.filter fun y => !q y) {T : List Int} (hT : Ind p ts T) (hJT : ∀ x ∈ J, x ∈ T) (hTs : ∀ x ∈ T, x ∈ J ∨ x ∈ s) :
    (T.filter q).length ≤ ((gr p ts s J).filter q).length := by
  have g := gr_q hE hJ hs sp
  have h1 : InT ts.length (s.filter q) := fun y hy => hs y (List.mem_filter.mp hy).1
  obtain ⟨i1, ⟨K1, k1, q1⟩, c1⟩ := gr_ok hE (s.filter q) J hJ h1
  have pJ : (T.filter fun x => decide (x ∈ J)).Perm J := by
    refine (List.perm_ext_iff_of_nodup (hT.nd.sublist List.filter_sublist) hJ.nd).mpr fun x => ?_
    rw [List.mem_filter, decide_eq_true_eq]
    exact ⟨fun h => h.2, fun h => ⟨hJT x h, h⟩⟩
  have eT : (T.filter q).length = (J.filter q).length + ((T.filter fun x => !decide (x ∈ J)).filter q).length := by
    rw [len_split (T.filter q) (fun x => decide (x ∈ J)), ← (pJ.filter q).length_eq, List.filter_filter, List.filter_filter, List.filter_filter, List.filter_filter]
    congr 1
    · congr 1; refine List.filter_congr fun x _ => ?_; rw [Bool.and_comm]
    · congr 1; refine List.filter_congr fun x _ => ?_; rw [Bool.and_comm]
  have hM : Ind p ts (J ++ (T.filter fun x => !decide (x ∈ J)).filter q) := by
    refine hT.sub hE ?_ fun x hx => ?_
    · refine List.nodup_append.mpr ⟨hJ.nd, (hT.nd.sublist List.filter_sublist).sublist List.filter_sublist, fun a ha b hb e => ?_⟩
      subst e
      have := (List.mem_filter.mp (List.mem_filter.mp hb).1).2
      simp [ha] at this
    · rcases List.mem_append.mp hx with h | h
      · exact hJT x h
      · exact (List.mem_filter.mp (List.mem_filter.mp h).1).1
  have le := hM.le hE i1 fun t ht => by
    rcases List.mem_append.mp ht with h | h
    · exact conn_at (by rw [k1]; exact List.mem_append_left _ h)
    · obtain ⟨h5, h6⟩ := List.mem_filter.mp h
      obtain ⟨h7, h8⟩ := List.mem_filter.mp h5
      refine c1 t (List.mem_filter.mpr ⟨?_, h6⟩)
      rcases hTs t h7 with h9 | h9
      · simp [h9] at h8
      · exact h9
  rw [List.length_append] at le
  omega
def gi (p : Nat) (ts : List (Int × Int)) (ins : List Int) : List Int → List Int → Option (List Int)
  | [], J => some J
  | t :: s, J => if nth (marksL p ts J) (tieAt ts t).1 = nth (marksL p ts J) (tieAt ts t).2 then (if t ∈ ins then none else gi p ts ins s J) else gi p ts ins s (J ++ [t])
theorem gi_app (ins : List Int) : ∀ (s r J : List Int), gi p ts ins (s ++ r) J = (gi p ts ins s J).bind (gi p ts ins r)
  | [], r, J => rfl
  | t :: s, r, J => by
    simp only [List.cons_append, gi]
    split
    · split
      · rfl
      · exact gi_app ins s r J
    · exact gi_app ins s r (J ++ [t])
theorem gi_out (hE : EndsOk p ts) (ins : List Int) : ∀ (s J : List Int), InT ts.length J → InT ts.length s → (∀ x ∈ s, x ∉ ins) → gi p ts ins s J = some (gr p ts s J)
  | [], J, _, _, _ => rfl
  | t :: s, J, hJ, hs, h => by
    have ht := hs t (List.mem_cons_self ..)
    have hs' : InT ts.length s := fun x hx => hs x (List.mem_cons_of_mem _ hx)
    have h' : ∀ x ∈ s, x ∉ ins := fun x hx => h x (List.mem_cons_of_mem _ hx)
    have e : (nth (marksL p ts J) (tieAt ts t).1 = nth (marksL p ts J) (tieAt ts t).2) ↔ (nth (marksM p ts (srt J)) (tieAt ts t).1 = nth (marksM p ts (srt J)) (tieAt ts t).2) := (testL hE hJ ht).trans (gr_test hE hJ ht).symm
    simp only [gi, gr]
    by_cases c : nth (marksL p ts J) (tieAt ts t).1 = nth (marksL p ts J) (tieAt ts t).2
    · rw [if_pos c, if_neg (h t (List.mem_cons_self ..)), if_pos (e.mp c)]
      exact gi_out hE ins s J hJ hs' h'
    · rw [if_neg c, if_neg fun z => c (e.mpr z)]
      exact gi_out hE ins s (J ++ [t]) (fun x hx => by
        rcases List.mem_append.mp hx with h | h
        · exact hJ x h
        · rw [List.mem_singleton.mp h]; exact ht) hs' h'
theorem ind_not {J : List Int} (hE : EndsOk p ts) {t : Int} (hJ : Ind p ts J) (ht : 0 ≤ t ∧ t < ts.length) (c : Conn (tiesAt ts J) (tieAt ts t).1 (tieAt ts t).2) : ¬ Ind p ts (J ++ [t]) := fun h => by
  have h1 := h.ct
  have h2 := hJ.ct
  have h3 := cnt_same (p := p) (es := tiesAt ts J) (t := tieAt ts t) (by rw [← tiesAt_snoc]; exact tiesAt_ok hE h.inn) c
  rw [tiesAt_snoc, h3] at h1
  simp at h1
  omega
theorem gi_in (hE : EndsOk p ts) (ins : List Int) : ∀ (s J : List Int), Ind p ts J → InT ts.length s → (∀ x ∈ s, x ∈ ins) → (gi p ts ins s J = some (J ++ s) ∧ Ind p ts (J ++ s)) ∨ (gi p ts ins s J = none ∧ ¬ Ind p ts (J ++ s))
  | [], J, hJ, _, _ => .inl ⟨by simp [gi], by simpa using hJ⟩
  | t :: s, J, hJ, hs, h => by
    have ht := hs t (List.mem_cons_self ..)
    have hs' : InT ts.length s := fun x hx => hs x (List.mem_cons_of_mem _ hx)
    have h' : ∀ x ∈ s, x ∈ ins := fun x hx => h x (List.mem_cons_of_mem _ hx)
    simp only [gi]
    have ea : J ++ t :: s = J ++ [t] ++ s := by simp
    by_cases c : nth (marksL p ts J) (tieAt ts t).1 = nth (marksL p ts J) (tieAt ts t).2
    · rw [if_pos c, if_pos (h t (List.mem_cons_self ..))]
      refine .inr ⟨rfl, fun z => ?_⟩
      have c' := (testL hE hJ.inn ht).mp c
      have z1 : Ind p ts (J ++ [t]) := z.sub hE (by
        have := z.nd
        rw [ea] at this
        exact (List.nodup_append.mp this).1) fun x hx => by rw [ea]; exact List.mem_append_left _ hx
      exact ind_not hE hJ ht c' z1
    · rw [if_neg c, ea]
      exact gi_in hE ins s (J ++ [t]) (hJ.snoc hE ht fun z => c ((testL hE hJ.inn ht).mpr z)) hs' h'
def grow (p : Nat) (ts : List (Int × Int)) (ins outs O : List Int) : Option (List Int) :=
  match gi p ts ins (ins ++ O.filter fun t => !decide (t ∈ ins) && !decide (t ∈ outs)) [] with
  | none => none
  | some J => if J.length + 1 < p then none else some (srt J)
def wth (p : Nat) (ts : List (Int × Int)) (ins outs : List Int) : List (List Int) := (trees p ts).filter fun T => ins.all (fun t => decide (t ∈ T)) && !outs.any (fun t => decide (t ∈ T))
theorem wth_mem (hp : 1 ≤ p) {ins outs T : List Int} : T ∈ wth p ts ins outs ↔ treeB p ts T = true ∧ (∀ t ∈ ins, t ∈ T) ∧ ∀ t ∈ outs, t ∉ T := by
  unfold wth
  rw [List.mem_filter, trees_mem hp]
  simp
theorem grow_ok (hp : 1 ≤ p) (hE : EndsOk p ts) {ins outs O : List Int} (hi : InT ts.length ins) (hn : ins.Nodup) (hO : O.Perm (iota ts.length)) (hd : ∀ x ∈ ins, x ∉ outs) :
    (grow p ts ins outs O = none ∧ wth p ts ins outs = []) ∨ ∃ J, Ind p ts ins ∧ J = gr p ts (O.filter fun t => !decide (t ∈ ins) && !decide (t ∈ outs)) ins ∧ grow p ts ins outs O = some (srt J) ∧ srt J ∈ wth p ts ins outs ∧ Ind p ts J := by
  have hOm : ∀ {x : Int}, x ∈ O ↔ 0 ≤ x ∧ x < ts.length := fun {x} => by rw [hO.mem_iff, iota_mem]
  have hs : InT ts.length (O.filter fun t => !decide (t ∈ ins) && !decide (t ∈ outs)) := fun x hx => hOm.mp (List.mem_filter.mp hx).1
  have nil : ∀ {l : List (List Int)}, (∀ a ∈ l, False) → l = [] := fun {l} h => List.eq_nil_iff_forall_not_mem.mpr h
  unfold grow
  rw [gi_app]
  rcases gi_in hE ins ins [] (ind_nil p ts) hi (fun _ h => h) with ⟨h1, h2⟩ | ⟨h1, h2⟩
  · simp only [List.nil_append] at h1 h2
    rw [h1]
    simp only [Option.bind_some]
    rw [gi_out hE ins _ ins hi hs (fun x hx => by have := (List.mem_filter.mp hx).2; simp at this; exact this.1)]
    obtain ⟨i1, ⟨K, k1, k2⟩, c1⟩ := gr_ok hE (O.filter fun t => !decide (t ∈ ins) && !decide (t ∈ outs)) ins h2 hs
    have hc := i1.ct
    have hcp := cnt_pos hp (tiesAt ts (gr p ts (O.filter fun t => !decide (t ∈ ins) && !decide (t ∈ outs)) ins))
    simp only
    by_cases c : (gr p ts (O.filter fun t => !decide (t ∈ ins) && !decide (t ∈ outs)) ins).length + 1 < p
    · left
      rw [if_pos c]
      refine ⟨rfl, nil fun T hT => ?_⟩
      obtain ⟨t1, t2, t3⟩ := (wth_mem hp).mp hT
      have hI := tree_ind t1 hp
      have := hI.le hE i1 fun t ht => by
        by_cases m : t ∈ ins
        · exact conn_at (by rw [k1]; exact List.mem_append_left _ m)
        · refine c1 t (List.mem_filter.mpr ⟨hOm.mpr (hI.inn t ht), ?_⟩)
          simp only [m, decide_false, Bool.not_false, Bool.true_and, Bool.not_eq_true', decide_eq_false_iff_not]
          exact fun z => t3 t z ht
      have := tree_len hp t1
      omega
    · right
      rw [if_neg c]
      refine ⟨_, h2, rfl, rfl, (wth_mem hp).mpr ⟨treeB_nat.mpr ⟨by rw [srt_len]; omega, srt_good i1.inn i1.nd, by rw [cnt_srt hE i1.inn]; omega⟩, fun t ht => srt_mem.mpr (by rw [k1]; exact List.mem_append_left _ ht), fun t ht z => ?_⟩, i1⟩
      have z := srt_mem.mp z
      rw [k1] at z
      rcases List.mem_append.mp z with z | z
      · exact hd t z ht
      · have := (List.mem_filter.mp (k2.subset z)).2
        simp [ht] at this
  · simp only [List.nil_append] at h2
    left
    rw [h1]
    refine ⟨rfl, nil fun T hT => ?_⟩
    obtain ⟨t1, t2, t3⟩ := (wth_mem hp).mp hT
    exact h2 ((tree_ind t1 hp).sub hE hn t2)
theorem wth_rise (ins outs : List Int) : Rise (wth p ts ins outs) := List.Pairwise.sublist List.filter_sublist (srtL_rise _)
theorem wth_nodup (ins outs : List Int) : (wth p ts ins outs).Nodup := (trees_nodup p ts).sublist List.filter_sublist
theorem first_of {L : List (List Int)} (hr : Rise L) (hn : L.Nodup) {R : List Int} (hR : R ∈ L) (h : ∀ T ∈ L, T ≠ R → HT.lexLt R T = true) : L.head? = some R := by
  match L, hR with
  | a :: L, hR =>
    by_cases e : a = R
    · rw [e]; rfl
    · exfalso
      have h1 := h a (List.mem_cons_self ..) e
      have h2 := (List.pairwise_cons.mp hr).1 R (by rcases List.mem_cons.mp hR with q | q; exact absurd q.symm e; exact q)
      rw [h1] at h2; cases h2
theorem last_of {L : List (List Int)} (hr : Rise L) (hn : L.Nodup) {R : List Int} (hR : R ∈ L) (h : ∀ T ∈ L, T ≠ R → HT.lexLt T R = true) : L.getLast? = some R := by
  obtain ⟨L1, L2, e⟩ := List.append_of_mem hR
  cases L2 with
  | nil => rw [e]; simp
  | cons b L2 =>
    exfalso
    rw [e] at hr hn h
    have h1 := h b (by simp) (by
      intro z; subst z
      have := (List.nodup_append.mp hn).2.1
      simp at this)
    have h2 := (List.pairwise_cons.mp (List.pairwise_append.mp hr).2.1).1 b (List.mem_cons_self ..)
    rw [h1] at h2; cases h2
theorem least_law (hp : 1 ≤ p) (hE : EndsOk p ts) {ins outs : List Int} (hi : InT ts.length ins) (hn : ins.Nodup) (hd : ∀ x ∈ ins, x ∉ outs) : grow p ts ins outs (iota ts.length) = (wth p ts ins outs).head? := by
  rcases grow_ok hp hE hi hn (.refl _) hd with ⟨h1, h2⟩ | ⟨J, h0, h1, h2, h3, h4⟩
  · rw [h1, h2]; rfl
  · rw [h2]
    refine (first_of (wth_rise _ _) (wth_nodup _ _) h3 fun T hT ne => ?_).symm
    obtain ⟨t1, t2, t3⟩ := (wth_mem hp).mp hT
    have hI := tree_ind t1 hp
    obtain ⟨r1, _, _⟩ := (wth_mem hp).mp h3
    have l1 := tree_len hp t1
    have l2 := tree_len hp r1
    have hs : InT ts.length ((iota ts.length).filter fun t => !decide (t ∈ ins) && !decide (t ∈ outs)) := fun x hx => iota_mem.mp (List.mem_filter.mp hx).1
    refine gale_lex (good_iff.mp (treeB_nat.mp r1).2.1).2 (good_iff.mp (treeB_nat.mp t1).2.1).2 (by omega) (fun x => ?_) ne.symm
    rw [bel_perm (srt_perm J), h1]
    refine dom_q (s := (iota ts.length).filter fun t => !decide (t ∈ ins) && !decide (t ∈ outs)) hE h0 hs (q := fun y => decide (y < x)) (filter_split ((iota_rise _).filter _) x) hI t2 fun t ht => ?_
    by_cases m : t ∈ ins
    · exact .inl m
    · refine .inr (List.mem_filter.mpr ⟨iota_mem.mpr (hI.inn t ht), ?_⟩)
      simp only [m, decide_false, Bool.not_false, Bool.true_and, Bool.not_eq_true', decide_eq_false_iff_not]
      exact fun z => t3 t z ht
theorem great_law (hp : 1 ≤ p) (hE : EndsOk p ts) {ins outs : List Int} (hi : InT ts.length ins) (hn : ins.Nodup) (hd : ∀ x ∈ ins, x ∉ outs) : grow p ts ins outs (iota ts.length).reverse = (wth p ts ins outs).getLast? := by
  rcases grow_ok hp hE hi hn (List.reverse_perm _) hd with ⟨h1, h2⟩ | ⟨J, h0, h1, h2, h3, h4⟩
  · rw [h1, h2]; rfl
  · rw [h2]
    refine (last_of (wth_rise _ _) (wth_nodup _ _) h3 fun T hT ne => ?_).symm
    obtain ⟨t1, t2, t3⟩ := (wth_mem hp).mp hT
    have hI := tree_ind t1 hp
    obtain ⟨r1, _, _⟩ := (wth_mem hp).mp h3
    have l1 := tree_len hp t1
    have l2 := tree_len hp r1
    rw [srt_len] at l2
    have hs : InT ts.length ((iota ts.length).reverse.filter fun t => !decide (t ∈ ins) && !decide (t ∈ outs)) := fun x hx => iota_mem.mp (List.mem_reverse.mp (List.mem_filter.mp hx).1)
    refine gale_lex (good_iff.mp (treeB_nat.mp t1).2.1).2 (good_iff.mp (treeB_nat.mp r1).2.1).2 (by rw [srt_len]; omega) (fun x => ?_) ne
    rw [bel_perm (srt_perm J)]
    have hr : ((iota ts.length).reverse.filter fun t => !decide (t ∈ ins) && !decide (t ∈ outs)).Pairwise (fun a b : Int => b < a) := (List.pairwise_reverse.mpr (iota_rise _)).filter _
    have d := dom_q (s := (iota ts.length).reverse.filter fun t => !decide (t ∈ ins) && !decide (t ∈ outs)) hE h0 hs (q := fun y => !decide (y < x)) (split_by (R := fun a b : Int => b < a) (fun a b hab hb => by simp at hb ⊢; omega) hr) hI t2 fun t ht => by
      by_cases m : t ∈ ins
      · exact .inl m
      · refine .inr (List.mem_filter.mpr ⟨List.mem_reverse.mpr (iota_mem.mpr (hI.inn t ht)), ?_⟩)
        simp only [m, decide_false, Bool.not_false, Bool.true_and, Bool.not_eq_true', decide_eq_false_iff_not]
        exact fun z => t3 t z ht
    rw [← h1] at d
    have s1 := len_split J fun y => decide (y < x)
    have s2 := len_split T fun y => decide (y < x)
    unfold bel
    omega
end
end Lw

namespace Lw
open DL L2 TL
theorem heads_behind_ok (m : List Int) (hm : m.length ≤ 1000) (t : Int × Int) : g_heads_behind [.ls (m.map D.int), .int (nth m t.1), .int (nth m t.2)] = .ok (.ol ((hj m t).map D.int)) := by
  have bl : m.length ≤ lim := by rw [lim_eq]; omega
  have lc : ∀ x0 : D, lcL (gtN 3) tYesG f_heads_behind_c1 [x0, .int (nth m t.1), .int (nth m t.2), .un] (m.map D.int) = .ok ((hj m t).map D.int) := fun x0 => by
    unfold hj
    rw [← map_int]
    refine lcL_mapN m fun x _ => ?_
    by_cases c : x = nth m t.2 <;> simp [f_heads_behind_c1, c]
  simp [g_heads_behind, runF, f_heads_behind, lc, bl]
section
variable {p : Nat} {ts : List (Int × Int)}
theorem grownby_l1 (hp2 : p ≤ 1000) (hE : EndsOk p ts) (ins : List Int) (x2 x3 : D) : ∀ (s J : List Int) (y6 y7 y8 : D), InT ts.length s → J.length + s.length ≤ 900 →
    (∃ J' z6 z7 z8, gi p ts ins s J = some J' ∧ forL (gtN 6) f_grown_by_l1 (s.map D.int) [.ob 14 [.int p, .ls (ts.map dP)], .tp (ins.map D.int), x2, x3, .ol (J.map D.int), .ls ((marksL p ts J).map D.int), y6, y7, y8] = .nx [.ob 14 [.int p, .ls (ts.map dP)], .tp (ins.map D.int), x2, x3, .ol (J'.map D.int), .ls ((marksL p ts J').map D.int), z6, z7, z8]) ∨
    (gi p ts ins s J = none ∧ forL (gtN 6) f_grown_by_l1 (s.map D.int) [.ob 14 [.int p, .ls (ts.map dP)], .tp (ins.map D.int), x2, x3, .ol (J.map D.int), .ls ((marksL p ts J).map D.int), y6, y7, y8] = .rt .non)
  | [], J, y6, y7, y8, _, _ => .inl ⟨J, y6, y7, y8, rfl, by simp [forL]⟩
  | t :: s, J, y6, y7, y8, hs, hl => by
    obtain ⟨t0, t1⟩ := hs t (List.mem_cons_self ..)
    have hs' : InT ts.length s := fun x hx => hs x (List.mem_cons_of_mem _ hx)
    obtain ⟨e1, e2⟩ := tie_at t0 t1
    obtain ⟨⟨a0, a1⟩, b0, b1⟩ := hE _ e2
    have ml := marksL_len p ts J
    have ea := nth_at (m := marksL p ts J) a0 (by omega)
    have eb := nth_at (m := marksL p ts J) b0 (by omega)
    have hb := heads_behind_ok (marksL p ts J) (by omega) (tieAt ts t)
    rw [← marksL_snoc] at hb
    have hl' : J.length < lim := by rw [lim_eq]; simp at hl; omega
    by_cases c : nth (marksL p ts J) (tieAt ts t).1 = nth (marksL p ts J) (tieAt ts t).2
    · by_cases m : t ∈ ins
      · refine .inr ⟨by simp only [gi]; rw [if_pos c, if_pos m], ?_⟩
        simp [forL, f_grown_by_l1, e1, dP, ea, eb, c, m]
      · have eg : gi p ts ins (t :: s) J = gi p ts ins s J := by simp only [gi]; rw [if_pos c, if_neg m]
        have ef : forL (gtN 6) f_grown_by_l1 ((t :: s).map D.int) [.ob 14 [.int p, .ls (ts.map dP)], .tp (ins.map D.int), x2, x3, .ol (J.map D.int), .ls ((marksL p ts J).map D.int), y6, y7, y8] = forL (gtN 6) f_grown_by_l1 (s.map D.int) [.ob 14 [.int p, .ls (ts.map dP)], .tp (ins.map D.int), x2, x3, .ol (J.map D.int), .ls ((marksL p ts J).map D.int), .int t, .int (nth (marksL p ts J) (tieAt ts t).1), .int (nth (marksL p ts J) (tieAt ts t).2)] := by
          simp [forL, f_grown_by_l1, e1, dP, ea, eb, c, m]
        rw [eg, ef]
        exact grownby_l1 hp2 hE ins x2 x3 s J _ _ _ hs' (by simp at hl; omega)
    · have eg : gi p ts ins (t :: s) J = gi p ts ins s (J ++ [t]) := by simp only [gi]; rw [if_neg c]
      have ef : forL (gtN 6) f_grown_by_l1 ((t :: s).map D.int) [.ob 14 [.int p, .ls (ts.map dP)], .tp (ins.map D.int), x2, x3, .ol (J.map D.int), .ls ((marksL p ts J).map D.int), y6, y7, y8] = forL (gtN 6) f_grown_by_l1 (s.map D.int) [.ob 14 [.int p, .ls (ts.map dP)], .tp (ins.map D.int), x2, x3, .ol ((J ++ [t]).map D.int), .ls ((marksL p ts (J ++ [t])).map D.int), .int t, .int (nth (marksL p ts J) (tieAt ts t).1), .int (nth (marksL p ts J) (tieAt ts t).2)] := by
        simp [forL, f_grown_by_l1, e1, dP, ea, eb, c, hb, hl']
      rw [eg, ef]
      exact grownby_l1 hp2 hE ins x2 x3 s (J ++ [t]) _ _ _ hs' (by simp at hl ⊢; omega)
def dO : Option (List Int) → D
  | none => .non
  | some U => .tp (U.map D.int)
theorem gi_len (ins : List Int) : ∀ (s J J' : List Int), gi p ts ins s J = some J' → J'.length ≤ J.length + s.length
  | [], J, J', h => by simp only [gi, Option.some.injEq] at h; subst h; simp
  | t :: s, J, J', h => by
    simp only [gi] at h
    split at h
    · split at h
      · cases h
      · have := gi_len ins s J J' h; simp; omega
    · have := gi_len ins s (J ++ [t]) J' h; simp at this ⊢; omega
theorem grown_by_ok (hp : 1 ≤ p) (hp2 : p ≤ 1000) (hE : EndsOk p ts) (ins outs O : List Int) (hi : InT ts.length ins) (hO : InT ts.length O) (h1 : ins.length ≤ 100) (h2 : O.length ≤ 100) :
    g_grown_by [.ob 14 [.int p, .ls (ts.map dP)], .tp (ins.map D.int), .tp (outs.map D.int), .ls (O.map D.int)] = .ok (dO (grow p ts ins outs O)) := by
  have hr : rgOk (p : Int) := rgOk_of (by omega) (by omega)
  have hp4 : (p : Int) ≤ 1000000 := by omega
  have bi : ins.length ≤ lim := by rw [lim_eq]; omega
  have lf := List.length_filter_le (fun t => !decide (t ∈ ins) && !decide (t ∈ outs)) O
  have lc : ∀ x4 x5 x6 x7 x8 : D, lcL (gtN 6) f_grown_by_c1t f_grown_by_c1 [.ob 14 [.int p, .ls (ts.map dP)], .tp (ins.map D.int), .tp (outs.map D.int), .ls (O.map D.int), x4, x5, x6, x7, x8] (O.map D.int) = .ok ((O.filter fun t => !decide (t ∈ ins) && !decide (t ∈ outs)).map D.int) := fun x4 x5 x6 x7 x8 => by
    refine lcL_filterN _ fun x _ => ?_
    refine ⟨?_, fun _ => by simp [f_grown_by_c1]⟩
    by_cases m : x ∈ ins <;> simp [f_grown_by_c1t, m]
  have bo : (O.filter fun t => !decide (t ∈ ins) && !decide (t ∈ outs)).length ≤ lim := by rw [lim_eq]; omega
  have bo2 : O.length ≤ lim := by rw [lim_eq]; omega
  have bs : ins.length + (O.filter fun t => !decide (t ∈ ins) && !decide (t ∈ outs)).length ≤ lim := by rw [lim_eq]; omega
  have hs : InT ts.length (ins ++ O.filter fun t => !decide (t ∈ ins) && !decide (t ∈ outs)) := fun x hx => by
    rcases List.mem_append.mp hx with h | h
    · exact hi x h
    · exact hO x (List.mem_filter.mp h).1
  have mn : marksL p ts [] = iota p := by simp [marksL]
  unfold grow
  rcases grownby_l1 hp2 hE ins (.tp (outs.map D.int)) (.ls (O.map D.int)) (ins ++ O.filter fun t => !decide (t ∈ ins) && !decide (t ∈ outs)) [] .un .un .un hs (by simp; omega) with ⟨J', z6, z7, z8, e1, e2⟩ | ⟨e1, e2⟩
  · rw [mn, List.map_append] at e2
    rw [e1]
    have lj := gi_len ins _ _ _ e1
    simp at lj
    have cs := caSorted3_ls J'
    have bj : (srt J').length ≤ lim := by rw [srt_len, lim_eq]; omega
    by_cases c : J'.length + 1 < p
    · have c' : (J'.length : Int) < (p : Int) - 1 := by omega
      simp only [if_pos c, dO]
      simp [g_grown_by, runF, f_grown_by, hr, hp4, rng_iota, bi, lc, bo, bo2, bs, -List.map_append] at e2 ⊢
      simp [e2, c']
    · have c' : ¬ (J'.length : Int) < (p : Int) - 1 := by omega
      simp only [if_neg c, dO]
      simp [g_grown_by, runF, f_grown_by, hr, hp4, rng_iota, bi, lc, bo, bo2, bs, -List.map_append] at e2 ⊢
      simp [e2, c', bj]
  · rw [mn, List.map_append] at e2
    rw [e1]
    simp only [dO]
    simp [g_grown_by, runF, f_grown_by, hr, hp4, rng_iota, bi, lc, bo, bo2, bs, -List.map_append] at e2 ⊢
    simp [e2]
theorem len_sset_app {a b : List Int} (ha : a.Nodup) (hb : b.Nodup) : (sset (a ++ b)).length < a.length + b.length ↔ ∃ x ∈ a, x ∈ b := by
  constructor
  · intro h
    apply Classical.byContradiction
    intro n
    have nd : (a ++ b).Nodup := List.nodup_append.mpr ⟨ha, hb, fun x hx y hy e => n ⟨x, hx, e ▸ hy⟩⟩
    have := nodup_le nd fun x hx => (sset_mem x (a ++ b)).mpr hx
    simp at this
    omega
  · rintro ⟨x, h1, h2⟩
    have nd := rise_nodup (sset_rise (a ++ b))
    have := nodup_le (m := a ++ b.erase x) nd fun y hy => by
      rcases List.mem_append.mp ((sset_mem y (a ++ b)).mp hy) with h | h
      · exact List.mem_append_left _ h
      · by_cases e : y = x
        · rw [e]; exact List.mem_append_left _ h1
        · exact List.mem_append_right _ ((List.mem_erase_of_ne e).mpr h)
    rw [List.length_append, List.length_erase_of_mem h2] at this
    have := List.length_pos_of_mem h2
    omega
def shr (ins outs : List Int) : Bool := ins.any fun x => decide (x ∈ outs)
theorem shr_iff {ins outs : List Int} : shr ins outs = true ↔ ∃ x ∈ ins, x ∈ outs := by simp [shr]
theorem made_LT {o : D} (l : List Int) (ho : LT o l) (h : goodB ts.length l = true) : g_made_set [.ob 14 [.int p, .ls (ts.map dP)], o] = .ok (.tp (l.map D.int)) := by
  rcases ho with rfl | rfl
  · rw [made_set_ls, if_pos h]
  · rw [made_set_tp, if_pos h]
theorem looked_ok {o o2 : D} (ins outs : List Int) (ho : LT o ins) (ho2 : LT o2 outs) (h1 : goodB ts.length ins = true) (h2 : goodB ts.length outs = true) (l1 : ins.length ≤ 100) (l2 : outs.length ≤ 100) :
    g_looked_at_sets [.ob 14 [.int p, .ls (ts.map dP)], o, o2] = .ok (if shr ins outs = true then .non else .tp [.tp (ins.map D.int), .tp (outs.map D.int)]) := by
  have m1 := made_LT (p := p) ins ho h1
  have m2 := made_LT (p := p) outs ho2 h2
  have b1 : ins.length + outs.length ≤ lim := by rw [lim_eq]; omega
  have b2 : ins.length + outs.length ≤ 4000 := by omega
  have ti : tpI (.tp (ins.map D.int ++ outs.map D.int)) = some (ins ++ outs) := by rw [← List.map_append]; exact tpI_tp _
  have key := len_sset_app (good_nodup h1) (good_nodup h2)
  cases c : shr ins outs with
  | true =>
    have c' : ((sset (ins ++ outs)).length : Int) < (ins.length : Int) + outs.length := by have := key.mpr (shr_iff.mp c); omega
    rcases ho with rfl | rfl <;> rcases ho2 with rfl | rfl <;> simp [g_looked_at_sets, runF, f_looked_at_sets, m1, m2, b1, b2, ti, c']
  | false =>
    have c' : ¬ ((sset (ins ++ outs)).length : Int) < (ins.length : Int) + outs.length := fun z => by
      have := shr_iff.mpr (key.mp (by omega))
      rw [c] at this; cases this
    have l3 : 2 ≤ lim := by rw [lim_eq]; omega
    rcases ho with rfl | rfl <;> rcases ho2 with rfl | rfl <;> simp [g_looked_at_sets, runF, f_looked_at_sets, m1, m2, b1, b2, ti, c', l3]
theorem wth_shr (hp : 1 ≤ p) {ins outs : List Int} (h : shr ins outs = true) : wth p ts ins outs = [] := by
  obtain ⟨x, h1, h2⟩ := shr_iff.mp h
  exact List.eq_nil_iff_forall_not_mem.mpr fun T hT => by
    obtain ⟨_, t2, t3⟩ := (wth_mem hp).mp hT
    exact t3 x h2 (t2 x h1)
theorem iotaR_rev (n : Nat) : iotaR n = (iota n).reverse := by
  apply List.ext_getElem
  · simp [iotaR, iota]
  · intro i h1 h2
    simp [iotaR, iota] at h1 ⊢
    omega
theorem least_with_ok (hp : 1 ≤ p) (hp2 : p ≤ 1000) (hE : EndsOk p ts) (ht : ts.length ≤ 100) {o o2 : D} (ins outs : List Int) (ho : LT o ins) (ho2 : LT o2 outs) (h1 : goodB ts.length ins = true) (h2 : goodB ts.length outs = true) (l1 : ins.length ≤ 100) (l2 : outs.length ≤ 100) :
    g_least_with [.ob 14 [.int p, .ls (ts.map dP)], o, o2] = .ok (dO (wth p ts ins outs).head?) := by
  have lo := looked_ok (p := p) (ts := ts) ins outs ho ho2 h1 h2 l1 l2
  cases c : shr ins outs with
  | true =>
    rw [if_pos c] at lo
    rw [wth_shr hp c]
    rcases ho with rfl | rfl <;> rcases ho2 with rfl | rfl <;> simp [g_least_with, runF, f_least_with, lo, dO]
  | false =>
    rw [if_neg (by rw [c]; simp)] at lo
    have hd : ∀ x ∈ ins, x ∉ outs := fun x hx hy => by have := shr_iff.mpr ⟨x, hx, hy⟩; rw [c] at this; cases this
    have hr : rgOk (ts.length : Int) := rgOk_of (by omega) (by omega)
    have hr2 : (ts.length : Int) ≤ 1000000 := by omega
    have gb := grown_by_ok hp hp2 hE ins outs (iota ts.length) (good_in h1) (fun x hx => iota_mem.mp hx) l1 (by simpa using ht)
    rw [least_law hp hE (good_in h1) (good_nodup h1) hd] at gb
    cases hq : (wth p ts ins outs).head? <;> rw [hq] at gb <;> simp only [dO] at gb ⊢ <;>
    rcases ho with rfl | rfl <;> rcases ho2 with rfl | rfl <;> simp [g_least_with, runF, f_least_with, lo, hr, hr2, rng_iota, gb]
theorem great_with_ok (hp : 1 ≤ p) (hp2 : p ≤ 1000) (hE : EndsOk p ts) (ht : ts.length ≤ 100) {o o2 : D} (ins outs : List Int) (ho : LT o ins) (ho2 : LT o2 outs) (h1 : goodB ts.length ins = true) (h2 : goodB ts.length outs = true) (l1 : ins.length ≤ 100) (l2 : outs.length ≤ 100) :
    g_greatest_with [.ob 14 [.int p, .ls (ts.map dP)], o, o2] = .ok (dO (wth p ts ins outs).getLast?) := by
  have lo := looked_ok (p := p) (ts := ts) ins outs ho ho2 h1 h2 l1 l2
  cases c : shr ins outs with
  | true =>
    rw [if_pos c] at lo
    rw [wth_shr hp c]
    rcases ho with rfl | rfl <;> rcases ho2 with rfl | rfl <;> simp [g_greatest_with, runF, f_greatest_with, lo, dO]
  | false =>
    rw [if_neg (by rw [c]; simp)] at lo
    have hd : ∀ x ∈ ins, x ∉ outs := fun x hx hy => by have := shr_iff.mpr ⟨x, hx, hy⟩; rw [c] at this; cases this
    have hr : rgOk (ts.length : Int) := rgOk_of (by omega) (by omega)
    have hr2 : (ts.length : Int) ≤ 1000000 := by omega
    have gb := grown_by_ok hp hp2 hE ins outs (iota ts.length).reverse (good_in h1) (fun x hx => iota_mem.mp (List.mem_reverse.mp hx)) l1 (by simpa using ht)
    rw [great_law hp hE (good_in h1) (good_nodup h1) hd, ← iotaR_rev] at gb
    cases hq : (wth p ts ins outs).getLast? <;> rw [hq] at gb <;> simp only [dO] at gb ⊢ <;>
    rcases ho with rfl | rfl <;> rcases ho2 with rfl | rfl <;> simp [g_greatest_with, runF, f_greatest_with, lo, hr, hr2, gb]
end
def Blw (lo : Int) (A : List Int) : Prop := A.Pairwise (· < ·) ∧ ∀ x ∈ A, 0 ≤ x ∧ x < lo
theorem Blw.mono {lo hi : Int} {A : List Int} (h : Blw lo A) (l : lo ≤ hi) : Blw hi A := ⟨h.1, fun x hx => by have := h.2 x hx; omega⟩
theorem Blw.snoc {lo : Int} {A : List Int} (h : Blw lo A) (l : 0 ≤ lo) : Blw (lo + 1) (A ++ [lo]) := by
  refine ⟨List.pairwise_append.mpr ⟨h.1, List.pairwise_singleton .., fun a ha b hb => ?_⟩, fun x hx => ?_⟩
  · rw [List.mem_singleton.mp hb]; exact (h.2 a ha).2
  · rcases List.mem_append.mp hx with q | q
    · have := h.2 x q; omega
    · rw [List.mem_singleton.mp q]; omega
end Lw

namespace Dt
def sm : Nat → (Nat → Int) → Int
  | 0, _ => 0
  | n + 1, f => sm n f + f n
def sg (i : Nat) : Int := if i % 2 = 0 then 1 else -1
theorem sg_succ (i : Nat) : sg (i + 1) = - sg i := by unfold sg; split <;> split <;> omega
theorem sm_congr {f g : Nat → Int} : ∀ {n : Nat}, (∀ i, i < n → f i = g i) → sm n f = sm n g
  | 0, _ => rfl
  | n + 1, h => by simp only [sm]; rw [sm_congr fun i hi => h i (by omega), h n (by omega)]
theorem sm_zero {f : Nat → Int} : ∀ {n : Nat}, (∀ i, i < n → f i = 0) → sm n f = 0
  | 0, _ => rfl
  | n + 1, h => by simp only [sm]; rw [sm_zero fun i hi => h i (by omega), h n (by omega)]; rfl
theorem sm_lin (s t : Int) (f g : Nat → Int) : ∀ n, sm n (fun i => s * f i + t * g i) = s * sm n f + t * sm n g
  | 0 => by simp [sm]
  | n + 1 => by simp only [sm]; rw [sm_lin s t f g n]; simp only [Int.mul_add]; omega
theorem sm_one {f : Nat → Int} {k : Nat} : ∀ {n : Nat}, k < n → (∀ i, i < n → i ≠ k → f i = 0) → sm n f = f k
  | n + 1, hk, h => by
    simp only [sm]
    by_cases e : k = n
    · subst e
      rw [sm_zero fun i hi => h i (by omega) (by omega)]; omega
    · rw [sm_one (by omega) fun i hi hn => h i (by omega) hn, h n (by omega) (by omega)]; omega
theorem sm_two {f : Nat → Int} {k : Nat} : ∀ {n : Nat}, k + 1 < n → (∀ i, i < n → i ≠ k → i ≠ k + 1 → f i = 0) → sm n f = f k + f (k + 1)
  | n + 1, hk, h => by
    simp only [sm]
    by_cases e : k + 1 = n
    · subst e
      rw [sm_one (k := k) (by omega) fun i hi hn => h i (by omega) hn (by omega)]
    · rw [sm_two (by omega) fun i hi h1 h2 => h i (by omega) h1 h2, h n (by omega) (by omega) (by omega)]; omega
abbrev Mx := Nat → Nat → Int
def del (i : Nat) (A : Mx) : Mx := fun r => A (if r < i then r else r + 1)
def det : Nat → Nat → Mx → Int
  | 0, _, _ => 1
  | n + 1, c, A => sm (n + 1) fun i => sg i * A i c * det n (c + 1) (del i A)
theorem det_congr : ∀ {n c : Nat} {A B : Mx}, (∀ r j, r < n → c ≤ j → j < c + n → A r j = B r j) → det n c A = det n c B
  | 0, _, _, _, _ => rfl
  | n + 1, c, A, B, h => by
    simp only [det]
    refine sm_congr fun i hi => ?_
    rw [h i c hi (by omega) (by omega)]
    congr 1
    refine det_congr fun r j hr h1 h2 => ?_
    unfold del
    exact h _ j (by split <;> omega) (by omega) (by omega)
def upd (A : Mx) (k : Nat) (x : Nat → Int) : Mx := fun r => if r = k then x else A r
theorem upd_self (A : Mx) (k : Nat) : upd A k (A k) = A := by funext r; unfold upd; split <;> simp_all
theorem upd_at (A : Mx) (k : Nat) (x : Nat → Int) : upd A k x k = x := by simp [upd]
theorem upd_ne {A : Mx} {k r : Nat} {x : Nat → Int} (h : r ≠ k) : upd A k x r = A r := by simp [upd, h]
theorem upd_upd (A : Mx) (k : Nat) (x y : Nat → Int) : upd (upd A k x) k y = upd A k y := by funext r; unfold upd; split <;> simp_all
theorem upd_comm (A : Mx) {k l : Nat} (h : k ≠ l) (x y : Nat → Int) : upd (upd A k x) l y = upd (upd A l y) k x := by
  funext r; unfold upd; split <;> split <;> simp_all
theorem del_upd_same (A : Mx) (k : Nat) (x : Nat → Int) : del k (upd A k x) = del k A := by
  funext r; unfold del upd
  split <;> rw [if_neg (by omega)]
theorem del_upd_lt (A : Mx) {i k : Nat} (h : i < k) (x : Nat → Int) : del i (upd A k x) = upd (del i A) (k - 1) x := by
  funext r; unfold del upd
  by_cases e : r = k - 1
  · rw [if_pos e, if_pos (by split <;> omega)]
  · rw [if_neg e, if_neg (by split <;> omega)]
theorem del_upd_gt (A : Mx) {i k : Nat} (h : k < i) (x : Nat → Int) : del i (upd A k x) = upd (del i A) k x := by
  funext r; unfold del upd
  by_cases e : r = k
  · rw [if_pos e, if_pos (by split <;> omega)]
  · rw [if_neg e, if_neg (by split <;> omega)]
theorem det_lin (s t : Int) (x y : Nat → Int) : ∀ {n c k : Nat} (A : Mx), k < n → det n c (upd A k fun j => s * x j + t * y j) = s * det n c (upd A k x) + t * det n c (upd A k y)
  | n + 1, c, k, A, hk => by
    simp only [det]
    rw [← sm_lin]
    refine sm_congr fun i hi => ?_
    by_cases e : i = k
    · subst e
      rw [del_upd_same, del_upd_same, del_upd_same, upd_at, upd_at, upd_at]
      generalize det n (c + 1) (del i A) = d
      simp only [Int.mul_add, Int.add_mul]
      rw [show sg i * (s * x c) * d = s * (sg i * x c * d) by ac_rfl, show sg i * (t * y c) * d = t * (sg i * y c * d) by ac_rfl]
    · rw [upd_ne e, upd_ne e, upd_ne e]
      rcases Nat.lt_or_ge i k with h | h
      · rw [del_upd_lt A h, del_upd_lt A h, del_upd_lt A h, det_lin s t x y (del i A) (by omega)]
        simp only [Int.mul_add]
        rw [show sg i * A i c * (s * det n (c + 1) (upd (del i A) (k - 1) x)) = s * (sg i * A i c * det n (c + 1) (upd (del i A) (k - 1) x)) by ac_rfl,
          show sg i * A i c * (t * det n (c + 1) (upd (del i A) (k - 1) y)) = t * (sg i * A i c * det n (c + 1) (upd (del i A) (k - 1) y)) by ac_rfl]
      · have h : k < i := by omega
        rw [del_upd_gt A h, del_upd_gt A h, del_upd_gt A h, det_lin s t x y (del i A) (by omega)]
        simp only [Int.mul_add]
        rw [show sg i * A i c * (s * det n (c + 1) (upd (del i A) k x)) = s * (sg i * A i c * det n (c + 1) (upd (del i A) k x)) by ac_rfl,
          show sg i * A i c * (t * det n (c + 1) (upd (del i A) k y)) = t * (sg i * A i c * det n (c + 1) (upd (del i A) k y)) by ac_rfl]
theorem det_mul (s : Int) (x : Nat → Int) {n c k : Nat} (A : Mx) (hk : k < n) : det n c (upd A k fun j => s * x j) = s * det n c (upd A k x) := by
  have h := det_lin (c := c) s 0 x x A hk
  simp only [Int.zero_mul, Int.add_zero] at h
  exact h
theorem det_add (x y : Nat → Int) {n c k : Nat} (A : Mx) (hk : k < n) : det n c (upd A k fun j => x j + y j) = det n c (upd A k x) + det n c (upd A k y) := by
  have h := det_lin (c := c) 1 1 x y A hk
  simp only [Int.one_mul] at h
  exact h
theorem det_adj : ∀ {n c k : Nat} {A : Mx}, k + 1 < n → A k = A (k + 1) → det n c A = 0
  | n + 1, c, k, A, hk, h => by
    simp only [det]
    rw [sm_two hk]
    · have e : del k A = del (k + 1) A := by
        funext r; unfold del
        by_cases q : r = k
        · subst q; rw [if_neg (by omega), if_pos (by omega)]; exact h.symm
        · congr 1
          split <;> split <;> omega
      rw [e, sg_succ, h]
      rw [show -sg k * A (k + 1) c * det n (c + 1) (del (k + 1) A) = - (sg k * A (k + 1) c * det n (c + 1) (del (k + 1) A)) by rw [Int.neg_mul, Int.neg_mul]]
      omega
    · intro i hi h1 h2
      have : det n (c + 1) (del i A) = 0 := by
        rcases Nat.lt_or_ge i k with q | q
        · refine det_adj (k := k - 1) (by omega) ?_
          unfold del
          rw [if_neg (by omega), if_neg (by omega), show k - 1 + 1 = k by omega]
          exact h
        · refine det_adj (k := k) (by omega) ?_
          unfold del
          rw [if_pos (by omega), if_pos (by omega)]
          exact h
      rw [this, Int.mul_zero]
theorem det_swap_adj {n c k : Nat} (A : Mx) (hk : k + 1 < n) (x y : Nat → Int) : det n c (upd (upd A k x) (k + 1) y) = - det n c (upd (upd A k y) (k + 1) x) := by
  have h0 : det n c (upd (upd A k fun j => x j + y j) (k + 1) fun j => x j + y j) = 0 := det_adj hk (by rw [upd_ne (by omega), upd_at, upd_at])
  rw [det_add _ _ _ hk, upd_comm _ (by omega), det_add _ _ _ (by omega), upd_comm _ (by omega) (fun j => x j + y j), det_add _ _ _ (by omega)] at h0
  have e1 : det n c (upd (upd A (k + 1) x) k x) = 0 := det_adj hk (by rw [upd_at, upd_ne (by omega), upd_at])
  have e2 : det n c (upd (upd A (k + 1) y) k y) = 0 := det_adj hk (by rw [upd_at, upd_ne (by omega), upd_at])
  rw [e1, e2] at h0
  rw [upd_comm A (show k ≠ k + 1 by omega) x y, upd_comm A (show k ≠ k + 1 by omega) y x]
  omega
theorem det_eq : ∀ (d : Nat) {n c r : Nat} {A : Mx}, r + d + 1 < n → A r = A (r + d + 1) → det n c A = 0
  | 0, n, c, r, A, hs, h => det_adj hs h
  | d + 1, n, c, r, A, hs, h => by
    have e : A = upd (upd A (r + d + 1) (A (r + d + 1))) (r + d + 1 + 1) (A (r + d + 1 + 1)) := by rw [upd_self, upd_self]
    rw [e, det_swap_adj (k := r + d + 1) A (by omega)]
    have : det n c (upd (upd A (r + d + 1) (A (r + d + 1 + 1))) (r + d + 1 + 1) (A (r + d + 1))) = 0 := by
      refine det_eq d (r := r) (by omega) ?_
      rw [upd_ne (by omega), upd_ne (by omega), upd_ne (by omega), upd_at]
      exact h
    rw [this]; rfl
theorem det_same {n c r s : Nat} {A : Mx} (hr : r < n) (hs : s < n) (hn : r ≠ s) (h : A r = A s) : det n c A = 0 := by
  rcases Nat.lt_or_ge r s with q | q
  · exact det_eq (s - r - 1) (r := r) (by omega) (by rw [show r + (s - r - 1) + 1 = s by omega]; exact h)
  · exact det_eq (r - s - 1) (r := s) (by omega) (by rw [show s + (r - s - 1) + 1 = r by omega]; exact h.symm)
theorem det_op {n c r s : Nat} (A : Mx) (hr : r < n) (hs : s < n) (hn : r ≠ s) (t : Int) : det n c (upd A s fun j => A s j + t * A r j) = det n c A := by
  have h := det_lin (c := c) 1 t (A s) (A r) A hs
  simp only [Int.one_mul] at h
  rw [h, upd_self]
  have : det n c (upd A s (A r)) = 0 := det_same hr hs hn (by rw [upd_ne hn, upd_at])
  rw [this]; omega
theorem det_ops {n c r : Nat} (A : Mx) (hr : r < n) (w : Nat → Int) (hw : w r = 0) : det n c (fun s j => A s j + w s * A r j) = det n c A := by
  have key : ∀ k, k ≤ n → det n c (fun s j => if s < k then A s j + w s * A r j else A s j) = det n c A := by
    intro k
    induction k with
    | zero => intro _; exact det_congr fun s j _ _ _ => by simp
    | succ k ih =>
      intro hk
      rw [← ih (by omega)]
      by_cases e : k = r
      · subst e
        refine det_congr fun s j _ _ _ => ?_
        by_cases q : s = k
        · subst q; rw [if_pos (by omega), if_neg (by omega), hw]; omega
        · by_cases q2 : s < k
          · rw [if_pos (by omega), if_pos q2]
          · rw [if_neg (by omega), if_neg q2]
      · have h := det_op (n := n) (c := c) (fun s j => if s < k then A s j + w s * A r j else A s j) hr (by omega : k < n) (fun z => e z.symm) (w k)
        rw [← h]
        refine det_congr fun s j _ _ _ => ?_
        unfold upd
        by_cases q : s = k
        · subst q
          rw [if_pos (by omega), if_pos rfl, if_neg (by omega)]
          congr 2
          by_cases q3 : r < s
          · rw [if_pos q3, hw]; omega
          · rw [if_neg q3]
        · rw [if_neg q]
          dsimp only
          by_cases q2 : s < k
          · rw [if_pos (by omega), if_pos q2]
          · rw [if_neg (by omega), if_neg q2]
  rw [← key n (Nat.le_refl n)]
  exact det_congr fun s j hs _ _ => by rw [if_pos hs]
theorem det_swap {n c r s : Nat} (A : Mx) (hr : r < n) (hs : s < n) (hn : r ≠ s) : det n c (fun i => A (if i = r then s else if i = s then r else i)) = - det n c A := by
  have e : (fun i => A (if i = r then s else if i = s then r else i)) = upd (upd A r (A s)) s (A r) := by
    funext i; unfold upd
    have hn' : ¬ s = r := fun z => hn z.symm
    by_cases q : i = s
    · subst q; simp [hn']
    · by_cases q2 : i = r
      · subst q2; simp [hn]
      · simp [q, q2]
  rw [e]
  have h0 : det n c (upd (upd A r fun j => A r j + A s j) s fun j => A r j + A s j) = 0 := det_same hr hs hn (by rw [upd_ne hn, upd_at, upd_at])
  rw [det_add _ _ _ hs, upd_comm _ hn, det_add _ _ _ hr, upd_comm _ hn (fun j => A r j + A s j), det_add _ _ _ hr] at h0
  have e1 : det n c (upd (upd A s (A r)) r (A r)) = 0 := det_same hr hs hn (by rw [upd_at, upd_ne (fun z => hn z.symm), upd_at])
  have e2 : det n c (upd (upd A s (A s)) r (A s)) = 0 := det_same hr hs hn (by rw [upd_at, upd_ne (fun z => hn z.symm), upd_at])
  have e3 : upd (upd A s (A s)) r (A r) = A := by rw [upd_self, upd_self]
  rw [e1, e2, e3] at h0
  rw [upd_comm _ hn]
  omega
def pr : Nat → (Nat → Int) → Int
  | 0, _ => 1
  | n + 1, w => pr n w * w n
theorem det_scale {n c : Nat} (A : Mx) (w : Nat → Int) : det n c (fun r j => w r * A r j) = pr n w * det n c A := by
  have key : ∀ k, k ≤ n → det n c (fun r j => if r < k then w r * A r j else A r j) = pr k w * det n c A := by
    intro k
    induction k with
    | zero => intro _; rw [pr, Int.one_mul]; exact det_congr fun s j _ _ _ => by simp
    | succ k ih =>
      intro hk
      have h := det_mul (n := n) (c := c) (k := k) (w k) (A k) (fun r j => if r < k then w r * A r j else A r j) (by omega)
      have e1 : det n c (upd (fun r j => if r < k then w r * A r j else A r j) k (A k)) = det n c (fun r j => if r < k then w r * A r j else A r j) := det_congr fun s j _ _ _ => by
        unfold upd
        by_cases q : s = k
        · subst q; rw [if_pos rfl, if_neg (by omega)]
        · rw [if_neg q]
      rw [e1, ih (by omega)] at h
      rw [pr, show pr k w * w k * det n c A = w k * (pr k w * det n c A) by ac_rfl, ← h]
      refine det_congr fun s j _ _ _ => ?_
      unfold upd
      by_cases q : s = k
      · subst q; rw [if_pos (by omega), if_pos rfl]
      · rw [if_neg q]
        dsimp only
        by_cases q2 : s < k
        · rw [if_pos (by omega), if_pos q2]
        · rw [if_neg (by omega), if_neg q2]
  rw [← key n (Nat.le_refl n)]
  exact det_congr fun s j hs _ _ => by rw [if_pos hs]
theorem pr_const (p : Int) : ∀ n, pr n (fun _ => p) = p ^ n
  | 0 => by simp [pr]
  | n + 1 => by rw [pr, pr_const p n, Int.pow_succ]
theorem det_shift : ∀ (n c : Nat) (A : Mx), det n (c + 1) A = det n c fun r j => A r (j + 1)
  | 0, _, _ => rfl
  | n + 1, c, A => by
    simp only [det]
    refine sm_congr fun i hi => ?_
    rw [det_shift n (c + 1) (del i A)]
    rfl
theorem det_head {n c : Nat} {A : Mx} (h : ∀ r, 0 < r → r ≤ n → A r c = 0) : det (n + 1) c A = A 0 c * det n (c + 1) fun r => A (r + 1) := by
  simp only [det]
  rw [sm_one (k := 0) (by omega) fun i hi hn => by rw [h i (by omega) (by omega)]; simp]
  have e : del 0 A = fun r => A (r + 1) := by funext r; unfold del; rw [if_neg (by omega)]
  rw [e]
  show 1 * _ * _ = _
  rw [Int.one_mul]
theorem det_nil {n c : Nat} {A : Mx} (h : ∀ r, r ≤ n → A r c = 0) : det (n + 1) c A = 0 := by
  simp only [det]
  exact sm_zero fun i hi => by rw [h i (by omega)]; simp
theorem det_chio {m c : Nat} (A : Mx) : A 0 c * det m (c + 1) (fun r j => A 0 c * A (r + 1) j - A (r + 1) c * A 0 j) = A 0 c ^ m * det (m + 1) c A := by
  have h1 := det_head (n := m) (c := c) (A := fun r j => if r = 0 then A 0 j else A 0 c * A r j - A r c * A 0 j) fun r h _ => by
    show (if r = 0 then A 0 c else A 0 c * A r c - A r c * A 0 c) = 0
    rw [if_neg (by omega), Int.mul_comm]; omega
  have e1 : det m (c + 1) (fun r => (fun r j => if r = 0 then A 0 j else A 0 c * A r j - A r c * A 0 j) (r + 1)) = det m (c + 1) (fun r j => A 0 c * A (r + 1) j - A (r + 1) c * A 0 j) := det_congr fun r j _ _ _ => by
    show (if r + 1 = 0 then A 0 j else _) = _
    rw [if_neg (by omega)]
  rw [e1] at h1
  have h1' : det (m + 1) c (fun r j => if r = 0 then A 0 j else A 0 c * A r j - A r c * A 0 j) = A 0 c * det m (c + 1) (fun r j => A 0 c * A (r + 1) j - A (r + 1) c * A 0 j) := h1
  rw [← h1']
  have h2 := det_ops (n := m + 1) (c := c) (r := 0) (fun r j => (if r = 0 then 1 else A 0 c) * A r j) (by omega) (fun r => if r = 0 then 0 else - A r c) (by simp)
  have h3 := det_scale (n := m + 1) (c := c) A (fun r => if r = 0 then 1 else A 0 c)
  have h4 : ∀ k, pr (k + 1) (fun r => if r = 0 then 1 else A 0 c) = A 0 c ^ k := by
    intro k
    induction k with
    | zero => simp [pr]
    | succ k ih => rw [pr, ih, if_neg (by omega), Int.pow_succ]
  rw [h4] at h3
  rw [← h3, ← h2]
  refine det_congr fun r j _ _ _ => ?_
  by_cases q : r = 0
  · subst q; simp
  · simp only [if_neg q, if_true, Int.one_mul, Int.neg_mul]
    omega
end Dt

namespace Dt
theorem det_1 (A : Mx) (c : Nat) : det 1 c A = A 0 c := by
  simp [det, sm, sg]
def ex (k : Nat) (ρ : Nat → Nat) (i : Nat) : Nat := if i < k then i else ρ (i - k)
structure Bar (n k : Nat) (A A' E : Mx) (s ahead : Int) : Prop where
  hs : det n 0 A = s * det n 0 A'
  ss : s = 1 ∨ s = -1
  ha : ahead = det k 0 A'
  hn : ahead ≠ 0
  hE : ∀ (m : Nat) (ρ γ : Nat → Nat), det (m + 1) 0 (fun i j => E (ρ i) (γ j)) = det (k + m + 1) 0 (fun i j => A' (ex k ρ i) (ex k γ j)) * ahead ^ m
theorem bar_start (n : Nat) (A : Mx) : Bar n 0 A A A 1 1 where
  hs := by rw [Int.one_mul]
  ss := .inl rfl
  ha := rfl
  hn := by decide
  hE := fun m ρ γ => by
    rw [Int.one_pow, Int.mul_one, Nat.zero_add]
    rfl
def sw (k f i : Nat) : Nat := if i = k then f else if i = f then k else i
theorem bar_swap {n k : Nat} {A A' E : Mx} {s ahead : Int} (h : Bar n k A A' E s ahead) {f : Nat} (hk : k < f) (hf : f < n) : Bar n k A (fun r => A' (sw k f r)) (fun r => E (sw k f r)) (-s) ahead where
  hs := by
    have := det_swap (n := n) (c := 0) A' (show k < n by omega) hf (by omega)
    have e : det n 0 (fun r => A' (sw k f r)) = - det n 0 A' := this
    rw [e, h.hs, Int.neg_mul_neg]
  ss := by rcases h.ss with e | e <;> rw [e] <;> simp
  ha := by
    rw [h.ha]
    refine det_congr fun r j hr _ _ => ?_
    show A' r j = A' (sw k f r) j
    unfold sw
    rw [if_neg (by omega), if_neg (by omega)]
  hn := h.hn
  hE := fun m ρ γ => by
    have := h.hE m (fun i => sw k f (ρ i)) γ
    refine this.trans ?_
    congr 1
    refine det_congr fun r j _ _ _ => ?_
    have e : ex k (fun i => sw k f (ρ i)) r = sw k f (ex k ρ r) := by
      unfold ex
      by_cases q : r < k
      · rw [if_pos q, if_pos q]; unfold sw; rw [if_neg (by omega), if_neg (by omega)]
      · rw [if_neg q, if_neg q]
    rw [e]
theorem bar_piv {n k : Nat} {A A' E : Mx} {s ahead : Int} (h : Bar n k A A' E s ahead) : E k k = det (k + 1) 0 A' := by
  have := h.hE 0 (fun _ => k) (fun _ => k)
  rw [det_1, Int.pow_zero, Int.mul_one] at this
  rw [this]
  refine det_congr fun r j hr _ hj => ?_
  have e : ∀ i, i < k + 1 → ex k (fun _ => k) i = i := fun i hi => by
    unfold ex
    by_cases q : i < k
    · rw [if_pos q]
    · rw [if_neg q]; show k = i; omega
  rw [e r hr, e j (by omega)]
theorem bar_ent {n k : Nat} {A A' E : Mx} {s ahead : Int} (h : Bar n k A A' E s ahead) (r c : Nat) : E r c = det (k + 1) 0 (fun i j => A' (ex k (fun _ => r) i) (ex k (fun _ => c) j)) := by
  have := h.hE 0 (fun _ => r) (fun _ => c)
  rw [det_1, Int.pow_zero, Int.mul_one] at this
  exact this
def nx (E : Mx) (k : Nat) (ahead : Int) : Mx := fun r c => (E r c * E k k - E r k * E k c) / ahead
theorem bar_div {n k : Nat} {A A' E : Mx} {s ahead : Int} (h : Bar n k A A' E s ahead) (hp : E k k ≠ 0) (m : Nat) (ρ γ : Nat → Nat) :
    det (m + 1) 0 (fun r j => E k k * E (ρ r) (γ j) - E (ρ r) k * E k (γ j)) = E k k ^ m * (det (k + 1 + m + 1) 0 (fun i j => A' (ex (k + 1) ρ i) (ex (k + 1) γ j)) * ahead ^ (m + 1)) := by
  have h1 := h.hE (m + 1) (fun i => if i = 0 then k else ρ (i - 1)) (fun i => if i = 0 then k else γ (i - 1))
  have h2 := det_chio (m := m + 1) (c := 0) (fun i j => E (if i = 0 then k else ρ (i - 1)) (if j = 0 then k else γ (j - 1)))
  rw [h1, det_shift] at h2
  simp only [if_pos, Nat.add_one_ne_zero, if_false, Nat.add_sub_cancel] at h2
  have e : det (k + (m + 1) + 1) 0 (fun i j => A' (ex k (fun i => if i = 0 then k else ρ (i - 1)) i) (ex k (fun i => if i = 0 then k else γ (i - 1)) j)) = det (k + 1 + m + 1) 0 (fun i j => A' (ex (k + 1) ρ i) (ex (k + 1) γ j)) := by
    rw [show k + (m + 1) + 1 = k + 1 + m + 1 by omega]
    have q : ∀ (ρ : Nat → Nat) (i : Nat), ex k (fun i => if i = 0 then k else ρ (i - 1)) i = ex (k + 1) ρ i := fun ρ i => by
      unfold ex
      by_cases q1 : i < k
      · rw [if_pos q1, if_pos (by omega)]
      · rw [if_neg q1]
        dsimp only
        by_cases q2 : i - k = 0
        · rw [if_pos q2, if_pos (by omega)]; omega
        · rw [if_neg q2, if_neg (by omega), show i - k - 1 = i - (k + 1) by omega]
    simp only [q]
  rw [e] at h2
  rw [Int.pow_succ, Int.mul_comm (E k k ^ m) (E k k), Int.mul_assoc] at h2
  exact Int.eq_of_mul_eq_mul_left hp h2
theorem bar_exact {n k : Nat} {A A' E : Mx} {s ahead : Int} (h : Bar n k A A' E s ahead) (hp : E k k ≠ 0) (r c : Nat) : E r c * E k k - E r k * E k c = ahead * nx E k ahead r c ∧ nx E k ahead r c = det (k + 1 + 1) 0 (fun i j => A' (ex (k + 1) (fun _ => r) i) (ex (k + 1) (fun _ => c) j)) := by
  have h1 := bar_div h hp 0 (fun _ => r) (fun _ => c)
  rw [det_1, Int.pow_zero, Int.one_mul, Int.pow_succ, Int.pow_zero, Int.one_mul] at h1
  have h2 : E r c * E k k - E r k * E k c = det (k + 1 + 0 + 1) 0 (fun i j => A' (ex (k + 1) (fun _ => r) i) (ex (k + 1) (fun _ => c) j)) * ahead := by
    rw [← h1, Int.mul_comm (E r c)]
  have h3 : nx E k ahead r c = det (k + 1 + 0 + 1) 0 (fun i j => A' (ex (k + 1) (fun _ => r) i) (ex (k + 1) (fun _ => c) j)) := by
    unfold nx
    rw [h2, Int.mul_ediv_cancel _ h.hn]
  exact ⟨by rw [h3, h2, Int.mul_comm], h3⟩
theorem bar_next {n k : Nat} {A A' E : Mx} {s ahead : Int} (h : Bar n k A A' E s ahead) (hp : E k k ≠ 0) : Bar n (k + 1) A A' (nx E k ahead) s (E k k) where
  hs := h.hs
  ss := h.ss
  ha := bar_piv h
  hn := hp
  hE := fun m ρ γ => by
    have h1 := bar_div h hp m ρ γ
    have h2 : det (m + 1) 0 (fun r j => E k k * E (ρ r) (γ j) - E (ρ r) k * E k (γ j)) = ahead ^ (m + 1) * det (m + 1) 0 (fun i j => nx E k ahead (ρ i) (γ j)) := by
      rw [← pr_const ahead (m + 1), ← det_scale]
      refine det_congr fun r j _ _ _ => ?_
      show _ = ahead * nx E k ahead (ρ r) (γ j)
      rw [← (bar_exact h hp (ρ r) (γ j)).1, Int.mul_comm (E k k)]
    rw [h2] at h1
    have h3 : ahead ^ (m + 1) ≠ 0 := Int.pow_ne_zero h.hn
    refine Int.eq_of_mul_eq_mul_left h3 (h1.trans ?_)
    generalize det (k + 1 + m + 1) 0 (fun i j => A' (ex (k + 1) ρ i) (ex (k + 1) γ j)) = d
    ac_rfl
theorem bar_none {n k : Nat} {A A' E : Mx} {s ahead : Int} (h : Bar n k A A' E s ahead) (hk : k < n) (hz : ∀ r, k ≤ r → r < n → E r k = 0) : det n 0 A = 0 := by
  have h1 := h.hE (n - k - 1) (fun i => k + i) (fun i => k + i)
  have h0 : det (n - k - 1 + 1) 0 (fun i j => E (k + i) (k + j)) = 0 := det_nil (c := 0) fun r hr => by
    show E (k + r) (k + 0) = 0
    exact hz (k + r) (by omega) (by omega)
  rw [h0] at h1
  rw [show k + (n - k - 1) + 1 = n by omega] at h1
  have e : det n 0 (fun i j => A' (ex k (fun i => k + i) i) (ex k (fun i => k + i) j)) = det n 0 A' := by
    have q : ∀ i, ex k (fun i => k + i) i = i := fun i => by
      unfold ex
      by_cases q : i < k
      · rw [if_pos q]
      · rw [if_neg q]; show k + (i - k) = i; omega
    simp only [q]
  rw [e] at h1
  rcases Int.mul_eq_zero.mp h1.symm with h2 | h2
  · rw [h.hs, h2, Int.mul_zero]
  · exact absurd h2 (Int.pow_ne_zero h.hn)
theorem bar_end {n : Nat} {A A' E : Mx} {s ahead : Int} (h : Bar n n A A' E s ahead) : det n 0 A = s * ahead := by rw [h.hs, h.ha]
def fac : Nat → Nat
  | 0 => 1
  | n + 1 => (n + 1) * fac n
theorem sm_abs (f : Nat → Int) (b : Nat) : ∀ n, (∀ i, i < n → (f i).natAbs ≤ b) → (sm n f).natAbs ≤ n * b
  | 0, _ => by simp [sm]
  | n + 1, h => by
    have h1 := sm_abs f b n fun i hi => h i (by omega)
    have h2 := h n (by omega)
    have h3 := Int.natAbs_add_le (sm n f) (f n)
    simp only [sm]
    rw [Nat.add_mul, Nat.one_mul]
    omega
theorem sg_abs (i : Nat) : (sg i).natAbs = 1 := by unfold sg; split <;> rfl
theorem det_abs (B : Nat) : ∀ {n c : Nat} {A : Mx}, (∀ r j, r < n → c ≤ j → j < c + n → (A r j).natAbs ≤ B) → (det n c A).natAbs ≤ fac n * B ^ n
  | 0, _, _, _ => by simp [det, fac]
  | n + 1, c, A, h => by
    simp only [det]
    refine Nat.le_trans (sm_abs _ (B * (fac n * B ^ n)) (n + 1) fun i hi => ?_) ?_
    · rw [Int.natAbs_mul, Int.natAbs_mul, sg_abs, Nat.one_mul]
      refine Nat.mul_le_mul (h i c hi (by omega) (by omega)) (det_abs B fun r j hr h1 h2 => ?_)
      unfold del
      exact h _ j (by split <;> omega) (by omega) (by omega)
    · rw [fac, Nat.pow_succ, Nat.mul_assoc]
      refine Nat.le_of_eq ?_
      congr 1
      ac_rfl
theorem bar_abs {n k : Nat} {A A' E : Mx} {s ahead : Int} (h : Bar n k A A' E s ahead) (B : Nat) (hB : ∀ r c, r < n → c < n → (A' r c).natAbs ≤ B) (hk : k < n) {r c : Nat} (hr : r < n) (hc : c < n) : (E r c).natAbs ≤ fac (k + 1) * B ^ (k + 1) := by
  rw [bar_ent h r c]
  refine det_abs B fun i j hi _ hj => hB _ _ ?_ ?_
  · unfold ex; split <;> omega
  · unfold ex; split <;> omega
theorem bar_rows {n k : Nat} {A A' E : Mx} {s ahead : Int} (h : Bar n k A A' E s ahead) (B : Nat) (hB : ∀ r c, r < n → c < n → (A' r c).natAbs ≤ B) {f : Nat} (hk : k < n) (hf : f < n) : ∀ r c, r < n → c < n → (A' (sw k f r) c).natAbs ≤ B := fun r c hr hc => hB _ _ (by unfold sw; split; exact hf; split <;> omega) hc
end Dt

namespace Lw
open DL L2 TL
def dR (l : List Int) : D := .ls (l.map D.int)
theorem dull_R (l : List Int) : dull (dR l) := by
  refine ⟨?_, ?_, ?_, ?_, ?_, ?_⟩ <;> simp [dR]
theorem bR (L : List (List Int)) : brws (L.map dR) = L.map dR ∧ frzs (L.map dR) = L.map dR ∧ plns (L.map dR) = L.map dR ∧ nods (L.map dR) = true ∧ shd (L.map dR) = true ∧ ploks (L.map dR) = true := dulls dull_R L
def rowN (L : List (List Int)) (r : Nat) : List Int := L.getD r []
def ent (L : List (List Int)) (r c : Nat) : Int := (rowN L r).getD c 0
structure Sq (n : Nat) (L : List (List Int)) : Prop where
  len : L.length = n
  row : ∀ l ∈ L, l.length = n
theorem Sq.rowl {n : Nat} {L : List (List Int)} (h : Sq n L) {r : Nat} (hr : r < n) : (rowN L r).length = n := by
  have : rowN L r = L[r]'(by rw [h.len]; exact hr) := by unfold rowN; rw [List.getD_eq_getElem?_getD, List.getElem?_eq_getElem (by rw [h.len]; exact hr)]; rfl
  rw [this]
  exact h.row _ (List.getElem_mem _)
theorem at_row {L : List (List Int)} {r : Nat} (hr : r < L.length) : atI (L.map dR) (r : Int) = some (dR (rowN L r)) := by
  rw [DL.atI_map, DL.atI_natG (j := r) rfl hr, List.getElem?_eq_getElem hr]
  unfold rowN
  rw [List.getD_eq_getElem?_getD, List.getElem?_eq_getElem hr]
  rfl
theorem at_num {l : List Int} {c : Nat} (hc : c < l.length) : atI (l.map D.int) (c : Int) = some (.int (l.getD c 0)) := by
  rw [DL.atI_map, DL.atI_natG (j := c) rfl hc, List.getElem?_eq_getElem hc, List.getD_eq_getElem?_getD, List.getElem?_eq_getElem hc]
  rfl
theorem at_ent {n : Nat} {L : List (List Int)} (h : Sq n L) {r c : Nat} (hr : r < n) (hc : c < n) : atI ((rowN L r).map D.int) (c : Int) = some (.int (ent L r c)) := at_num (by rw [h.rowl hr]; exact hc)
theorem look_tab_ok {n : Nat} {L : List (List Int)} (h : Sq n L) : g_look_at_table [.ls (L.map dR)] = .ok .non := by
  have key : ∀ (M : List (List Int)) (y1 : D), (∀ l ∈ M, l.length = n) → ∃ z1, forL (gtN 1) f_look_at_table_l1 (M.map dR) [.ls (L.map dR), y1] = .nx [.ls (L.map dR), z1] := by
    intro M
    induction M with
    | nil => exact fun y1 _ => ⟨y1, by simp [forL]⟩
    | cons l M ih =>
      intro y1 hM
      obtain ⟨z1, e⟩ := ih (dR l) fun x hx => hM x (List.mem_cons_of_mem _ hx)
      refine ⟨z1, ?_⟩
      rw [← e]
      have hl := hM l (List.mem_cons_self ..)
      have hL := h.len
      simp [forL, f_look_at_table_l1, dR, hl, hL]
  obtain ⟨z1, e⟩ := key L .un h.row
  simp [g_look_at_table, runF, f_look_at_table, e]
theorem first_l1 {n : Nat} {L : List (List Int)} (h : Sq n L) (hn : n ≤ 1000) (k : Nat) (hk : k < n) : ∀ (m lo : Nat) (y2 : D), lo + m ≤ n →
    (∃ r, lo ≤ r ∧ r < lo + m ∧ ent L r k ≠ 0 ∧ (∀ i, lo ≤ i → i < r → ent L i k = 0) ∧ forL (gtN 2) f_first_row_with_l1 (rng lo m) [.ls (L.map dR), .int k, y2] = .rt (.int r)) ∨
    ((∀ i, lo ≤ i → i < lo + m → ent L i k = 0) ∧ ∃ z2, forL (gtN 2) f_first_row_with_l1 (rng lo m) [.ls (L.map dR), .int k, y2] = .nx [.ls (L.map dR), .int k, z2])
  | 0, lo, y2, _ => .inr ⟨fun i h1 h2 => absurd h2 (by omega), y2, by simp [rng_zero, forL]⟩
  | m + 1, lo, y2, hm => by
    have e1 := at_row (L := L) (r := lo) (by rw [h.len]; omega)
    have e2 := at_ent h (r := lo) (c := k) (by omega) hk
    by_cases c : ent L lo k = 0
    · rw [c] at e2
      have step : forL (gtN 2) f_first_row_with_l1 (rng lo (m + 1)) [.ls (L.map dR), .int k, y2] = forL (gtN 2) f_first_row_with_l1 (rng ((lo : Int) + 1) m) [.ls (L.map dR), .int k, .int lo] := by
        rw [rng_succ]
        simp [forL, f_first_row_with_l1, e1, dR, e2]
      rw [step]
      rcases first_l1 h hn k hk m (lo + 1) (.int lo) (by omega) with ⟨r, r1, r2, r3, r4, r5⟩ | ⟨r1, z2, r2⟩
      · left
        refine ⟨r, by omega, by omega, r3, fun i h1 h2 => ?_, r5⟩
        by_cases q : i = lo
        · rw [q]; exact c
        · exact r4 i (by omega) h2
      · right
        refine ⟨fun i h1 h2 => ?_, z2, r2⟩
        by_cases q : i = lo
        · rw [q]; exact c
        · exact r1 i (by omega) (by omega)
    · left
      refine ⟨lo, Nat.le_refl _, by omega, c, fun i h1 h2 => absurd h2 (by omega), ?_⟩
      rw [rng_succ]
      simp [forL, f_first_row_with_l1, e1, dR, e2, c]
theorem first_ok {n : Nat} {L : List (List Int)} (h : Sq n L) (hn : n ≤ 1000) (k : Nat) (hk : k < n) :
    (∃ r, k ≤ r ∧ r < n ∧ ent L r k ≠ 0 ∧ (∀ i, k ≤ i → i < r → ent L i k = 0) ∧ g_first_row_with [.ls (L.map dR), .int k] = .ok (.int r)) ∨
    ((∀ i, k ≤ i → i < n → ent L i k = 0) ∧ g_first_row_with [.ls (L.map dR), .int k] = .ok .non) := by
  have r1 : rgOk (k : Int) := rgOk_of (by omega) (by omega)
  have r2 : rgOk (n : Int) := rgOk_of (by omega) (by omega)
  have hL := h.len
  have en : ((n : Int) - (k : Int)).toNat = n - k := by omega
  rcases first_l1 h hn k hk (n - k) k .un (by omega) with ⟨r, q1, q2, q3, q4, q5⟩ | ⟨q1, z2, q2⟩
  · exact .inl ⟨r, q1, by omega, q3, q4, by simp [g_first_row_with, runF, f_first_row_with, r1, r2, hL, en, q5]⟩
  · exact .inr ⟨fun i h1 h2 => q1 i h1 (by omega), by simp [g_first_row_with, runF, f_first_row_with, r1, r2, hL, en, q2]⟩
theorem opDiv_exact {a : Int} (h : divOk a) (q : Int) : opDiv (.int (a * q)) (.int a) = some (.int q) := by
  show (if divOk a then some (D.int (if 0 < a then a * q / a else (a * q).fdiv a)) else none) = _
  rw [if_pos h]
  split
  · rw [Int.mul_ediv_cancel_left q h.1]
  · rw [Int.mul_fdiv_cancel_left q h.1]
def Sm (x : Int) : Prop := x.natAbs.log2 < 9000
theorem Sm.mul {x y : Int} (hx : Sm x) (hy : Sm y) : mulOk x y := by
  have h : x.natAbs.log2 + y.natAbs.log2 < 100000000 := by
    unfold Sm at hx hy
    omega
  simp only [mulOk]
  exact Or.inr h
theorem opMul_Sm {x y : Int} (hx : Sm x) (hy : Sm y) : opMul (.int x) (.int y) = some (.int (x * y)) := by rw [opMul_eq, if_pos (hx.mul hy)]
theorem opMul_zeros {k : Nat} (hk : k ≤ 1000) : opMul (.ls [.int 0]) (.int ((k : Int) + 1)) = some (.ol ((List.replicate (k + 1) (0 : Int)).map D.int)) := by
  have e : ((k : Int) + 1).toNat = k + 1 := by omega
  have h1 : (k : Int) + 1 < 9223372036854775808 := by omega
  have h2 : -9223372036854775808 ≤ (k : Int) + 1 := by omega
  have h3 : k + 1 ≤ lim := by rw [lim_eq]; omega
  have h4 : ∀ m : Nat, (List.replicate m [D.int 0]).flatten = (List.replicate m (0 : Int)).map D.int := by
    intro m
    induction m with
    | zero => rfl
    | succ m ih => simp only [List.replicate_succ, List.flatten_cons, ih, List.map_cons]; rfl
  generalize hz : (k : Int) + 1 = z at *
  simp [opMul, h1, h2, h3, h4, e, -List.map_replicate]
def nr (n k : Nat) (q : List Int → Nat → Int) (R : List Int) : List Int := List.replicate (k + 1) (0 : Int) ++ (List.range (n - (k + 1))).map fun i => q R (k + 1 + i)
theorem clr_l1 (x0 x3 : D) {n k : Nat} (kk : Int) (hkk : kk = k) {P R : List Int} {ahead : Int} (hn : n ≤ 1000) (hk : k < n) (hP : P.length = n) (hR : R.length = n) (ha : divOk ahead) (sP : ∀ j, k ≤ j → j < n → Sm (P.getD j 0)) (sR : ∀ j, k ≤ j → j < n → Sm (R.getD j 0)) (q : Nat → Int)
    (hq : ∀ j, k < j → j < n → R.getD j 0 * P.getD k 0 - R.getD k 0 * P.getD j 0 = ahead * q j) : ∀ (m lo : Nat) (A : List Int) (y7 : D), k < lo → lo + m = n → A.length + m ≤ 5000 →
    ∃ z7, forL (gtN 7) f_cleared_l1 (rng lo m) [x0, .int kk, .int ahead, x3, .ls (P.map D.int), .ls (R.map D.int), .ol (A.map D.int), y7] = .nx [x0, .int kk, .int ahead, x3, .ls (P.map D.int), .ls (R.map D.int), .ol ((A ++ (List.range m).map fun i => q (lo + i)).map D.int), z7]
  | 0, lo, A, y7, _, _, _ => ⟨y7, by simp [rng_zero, forL]⟩
  | m + 1, lo, A, y7, h1, h2, h3 => by
    have a1 := at_num (l := R) (c := lo) (by omega)
    have a2 := at_num (l := P) (c := k) (by omega)
    have a3 := at_num (l := R) (c := k) (by omega)
    rw [← hkk] at a2 a3
    have a4 := at_num (l := P) (c := lo) (by omega)
    have m1 := opMul_Sm (sR lo (by omega) (by omega)) (sP k (Nat.le_refl k) hk)
    have m2 := opMul_Sm (sR k (Nat.le_refl k) hk) (sP lo (by omega) (by omega))
    have d1 := opDiv_exact ha (q lo)
    rw [← hq lo h1 (by omega)] at d1
    have bA : A.length < lim := by rw [lim_eq]; omega
    obtain ⟨z7, ih⟩ := clr_l1 x0 x3 kk hkk hn hk hP hR ha sP sR q hq m (lo + 1) (A ++ [q lo]) (.int lo) (by omega) (by omega) (by simp; omega)
    refine ⟨z7, ?_⟩
    have el : A ++ (List.range (m + 1)).map (fun i => q (lo + i)) = A ++ [q lo] ++ (List.range m).map fun i => q (lo + 1 + i) := by
      rw [List.range_succ_eq_map]
      simp [List.map_map, Function.comp_def, Nat.add_assoc, Nat.add_comm 1]
    rw [el, ← ih, rng_succ]
    simp [forL, f_cleared_l1, a1, a2, a3, a4, m1, m2, d1, bA, -List.getD_eq_getElem?_getD]
theorem clr_l2 (x0 : D) {n k : Nat} (kk : Int) (hkk : kk = k) {P : List Int} {ahead : Int} (hn : n ≤ 1000) (hk : k < n) (hP : P.length = n) (ha : divOk ahead) (sP : ∀ j, k ≤ j → j < n → Sm (P.getD j 0)) (q : List Int → Nat → Int) : ∀ (M T : List (List Int)) (y5 y6 y7 : D), T.length + M.length ≤ 5000 →
    (∀ R ∈ M, R.length = n ∧ (∀ j, k ≤ j → j < n → Sm (R.getD j 0)) ∧ ∀ j, k < j → j < n → R.getD j 0 * P.getD k 0 - R.getD k 0 * P.getD j 0 = ahead * q R j) →
    ∃ z5 z6 z7, forL (gtN 5) f_cleared_l2 (M.map dR) [x0, .int kk, .int ahead, .ol (T.map dR), .ls (P.map D.int), y5, y6, y7] = .nx [x0, .int kk, .int ahead, .ol ((T ++ M.map (nr n k q)).map dR), .ls (P.map D.int), z5, z6, z7] := by
  intro M
  induction M with
  | nil => exact fun T y5 y6 y7 _ _ => ⟨y5, y6, y7, by simp [forL]⟩
  | cons R M IH =>
    intro T y5 y6 y7 h1 h2
    obtain ⟨r1, r2, r3⟩ := h2 R (List.mem_cons_self ..)
    have hr1 : rgOk (kk + 1) := rgOk_of (by omega) (by omega)
    have hr2 : rgOk (n : Int) := rgOk_of (by omega) (by omega)
    have en : ((n : Int) - (kk + 1)).toNat = n - (k + 1) := by omega
    have oz := opMul_zeros (k := k) (by omega)
    rw [← hkk] at oz
    obtain ⟨w7, e⟩ := clr_l1 x0 (.ol (T.map dR)) kk hkk hn hk hP r1 ha sP r2 (q R) r3 (n - (k + 1)) (k + 1) (List.replicate (k + 1) 0) y7 (by omega) (by omega) (by simp; omega)
    obtain ⟨z5, z6, z7, ih⟩ := IH (T ++ [nr n k q R]) (dR R) (dR (nr n k q R)) w7 (by simp at h1 ⊢; omega) (fun x hx => h2 x (List.mem_cons_of_mem _ hx))
    refine ⟨z5, z6, z7, ?_⟩
    have el : T ++ (R :: M).map (nr n k q) = T ++ [nr n k q R] ++ M.map (nr n k q) := by simp
    rw [el, ← ih]
    have bT : T.length < lim := by rw [lim_eq]; simp at h1; omega
    rw [show List.replicate (k + 1) (0 : Int) ++ (List.range (n - (k + 1))).map (fun i => q R (k + 1 + i)) = nr n k q R from rfl] at e
    have ec : (((k + 1 : Nat) : Int)) = kk + 1 := by omega
    rw [ec] at e
    obtain ⟨b1, b2, b3, b4, b5, b6⟩ := bR T
    have l1 : 1 ≤ lim := by rw [lim_eq]; omega
    rw [List.map_cons, forL_cons]
    simp only [dR] at e ⊢
    simp [f_cleared_l2, dR, oz, r1, hr1, hr2, en, e, l1, frzAt, bT, -List.map_replicate]
theorem cleared_ok {n k : Nat} (kk : Int) (hkk : kk = k) (hn : n ≤ 1000) (hk : k < n) {L : List (List Int)} (h : Sq n L) {ahead : Int} (ha : divOk ahead) (sP : ∀ j, k ≤ j → j < n → Sm (ent L k j)) (q : List Int → Nat → Int)
    (hq : ∀ R ∈ L.drop (k + 1), (∀ j, k ≤ j → j < n → Sm (R.getD j 0)) ∧ ∀ j, k < j → j < n → R.getD j 0 * ent L k k - R.getD k 0 * ent L k j = ahead * q R j) :
    g_cleared [.ls (L.map dR), .int kk, .int ahead] = .ok (.ol (((L.drop (k + 1)).map (nr n k q)).map dR)) := by
  have ar := at_row (L := L) (r := k) (by rw [h.len]; exact hk)
  rw [← hkk] at ar
  have hl : L.length = n := h.len
  obtain ⟨z5, z6, z7, e⟩ := clr_l2 (.ls (L.map dR)) kk hkk hn hk (h.rowl hk) ha sP q (L.drop (k + 1)) [] .un .un .un (by simp; omega) fun R hR => ⟨h.row R (List.mem_of_mem_drop hR), (hq R hR).1, (hq R hR).2⟩
  have cf : cut L (some (kk + 1)) none = L.drop (k + 1) := by rw [cut_from L (kk + 1) (by omega), show (kk + 1).toNat = k + 1 by omega]
  have bl : (L.drop (k + 1)).length ≤ lim := by rw [List.length_drop, lim_eq]; omega
  have br := bR (L.drop (k + 1))
  simp only [dR, List.map_nil, List.nil_append] at ar e br ⊢
  simp [g_cleared, runF, f_cleared, ar, cf, bl, br, e, -List.map_drop, -List.map_map, -List.length_drop]
end Lw

namespace Lw
open DL L2 TL
theorem body_end (kk : Int) (k n : Nat) (hkk : kk = k) (hn : n ≤ 1000) (hk : k < n) (x0 y6 : D) {L : List (List Int)} (hL : L.length = n) (s ahead : Int) (y5 : D) {M : List (List Int)} (hM : M.length = n - (k + 1)) (hcl : g_cleared [.ls (L.map dR), .int kk, .int ahead] = .ok (.ol (M.map dR)))
    {L2 : List (List Int)} (hL2 : L2 = L.take (k + 1) ++ M) (hS : Sq n L2) {e : Int} (he : e = ent L2 k k) :
    sSeq (sFrz 1 (sAsg 1 (eBin opAdd (eSl (eVar 1) (ePart none) (ePart (some (eBin opAdd (eVar 4) (eC (.int 1)))))) (eOwn g_cleared (aCons (eVar 1) (aCons (eVar 4) (aCons (eVar 3) (aNil)))))))) (sAsgF 3 (eBin opIx (eBin opIx (eVar 1) (eVar 4)) (eVar 4))) [x0, .ol (L.map dR), .int s, .int ahead, .int kk, y5, y6] =
      .nx [x0, .ol (L2.map dR), .int s, .int e, .int kk, y5, y6] := by
  have ar := at_row (L := L2) (r := k) (by rw [hS.len]; exact hk)
  have ae := at_ent hS hk hk
  rw [← hkk] at ar ae
  rw [← he] at ae
  have ct : cut L none (some (kk + 1)) = L.take (k + 1) := by rw [cut_to L (kk + 1) (by omega), show (kk + 1).toNat = k + 1 by omega]
  have b1 : (L.take (k + 1)).length + M.length ≤ lim := by rw [List.length_take, hM, lim_eq]; omega
  have r1 := bR L
  have r2 := bR (L.take (k + 1))
  have r3 := bR M
  have r4 := bR L2
  have el : (L.take (k + 1)).map dR ++ M.map dR = L2.map dR := by rw [hL2, List.map_append]
  have b2 : (L.take (k + 1)).length ≤ lim := by rw [List.length_take, lim_eq]; omega
  simp only [dR] at ar ae el r1 r2 r3 r4 hcl ⊢
  simp [frzAt, r1, r2, r3, r4, ct, hcl, b1, b2, el, ar, ae, -List.map_take, -List.map_append, -List.length_take]
def swL (L : List (List Int)) (k f : Nat) : List (List Int) := (L.set k (rowN L f)).set f (rowN L k)
theorem swL_row {n : Nat} {L : List (List Int)} (h : L.length = n) {k f r : Nat} (hk : k < n) (hf : f < n) (hr : r < n) : rowN (swL L k f) r = rowN L (Dt.sw k f r) := by
  unfold swL Dt.sw
  have g : ∀ (M : List (List Int)) (i : Nat), rowN M i = (M[i]?).getD [] := fun M i => by unfold rowN; rw [List.getD_eq_getElem?_getD]
  rw [g (List.set _ _ _)]
  by_cases q1 : r = f
  · subst q1
    rw [List.getElem?_set_self (by rw [List.length_set]; omega)]
    by_cases q2 : r = k
    · subst q2; simp
    · rw [if_neg q2, if_pos rfl]; rfl
  · rw [List.getElem?_set_ne (fun z => q1 z.symm)]
    by_cases q2 : r = k
    · subst q2
      rw [List.getElem?_set_self (by omega), if_pos rfl]; rfl
    · rw [List.getElem?_set_ne (fun z => q2 z.symm), if_neg q2, if_neg q1, ← g]
theorem swL_sq {n : Nat} {L : List (List Int)} (h : Sq n L) {k f : Nat} (hk : k < n) (hf : f < n) : Sq n (swL L k f) where
  len := by unfold swL; rw [List.length_set, List.length_set, h.len]
  row := fun l hl => by
    unfold swL at hl
    rcases List.mem_or_eq_of_mem_set hl with hl | rfl
    · rcases List.mem_or_eq_of_mem_set hl with hl | rfl
      · exact h.row l hl
      · exact h.rowl hf
    · exact h.rowl hk
def nwL (n : Nat) (L : List (List Int)) (k : Nat) (q : List Int → Nat → Int) : List (List Int) := L.take (k + 1) ++ (L.drop (k + 1)).map (nr n k q)
theorem nr_len {n k : Nat} (hk : k < n) (q : List Int → Nat → Int) (R : List Int) : (nr n k q R).length = n := by unfold nr; simp; omega
theorem nwL_sq {n : Nat} {L : List (List Int)} (h : Sq n L) {k : Nat} (hk : k < n) (q : List Int → Nat → Int) : Sq n (nwL n L k q) where
  len := by unfold nwL; rw [List.length_append, List.length_map, List.length_take, List.length_drop, h.len]; omega
  row := fun l hl => by
    unfold nwL at hl
    rcases List.mem_append.mp hl with hl | hl
    · exact h.row l (List.mem_of_mem_take hl)
    · obtain ⟨R, _, rfl⟩ := List.mem_map.mp hl
      exact nr_len hk q R
theorem nwL_lo {n : Nat} {L : List (List Int)} (h : Sq n L) {k r : Nat} (hr : r ≤ k) (hk : k < n) (q : List Int → Nat → Int) : rowN (nwL n L k q) r = rowN L r := by
  unfold nwL rowN
  rw [List.getD_eq_getElem?_getD, List.getElem?_append_left (by rw [List.length_take, h.len]; omega), List.getElem?_take_of_lt (by omega), List.getD_eq_getElem?_getD]
theorem nwL_hi {n : Nat} {L : List (List Int)} (h : Sq n L) {k r : Nat} (hr : k < r) (hn : r < n) (q : List Int → Nat → Int) : rowN (nwL n L k q) r = nr n k q (rowN L r) := by
  unfold nwL rowN
  have ht : (L.take (k + 1)).length = k + 1 := by rw [List.length_take, h.len]; omega
  rw [List.getD_eq_getElem?_getD, List.getElem?_append_right (by omega), ht, List.getElem?_map, List.getElem?_drop, show k + 1 + (r - (k + 1)) = r by omega, List.getD_eq_getElem?_getD, List.getElem?_eq_getElem (by rw [h.len]; exact hn)]
  rfl
theorem nr_get {n k : Nat} (q : List Int → Nat → Int) (R : List Int) {c : Nat} (hc : k < c) (hn : c < n) : (nr n k q R).getD c 0 = q R c := by
  unfold nr
  rw [List.getD_eq_getElem?_getD, List.getElem?_append_right (by rw [List.length_replicate]; omega), List.length_replicate, List.getElem?_map, List.getElem?_range (by omega)]
  show q R (k + 1 + (c - (k + 1))) = _
  rw [show k + 1 + (c - (k + 1)) = c by omega]
theorem fac_mono (B : Nat) (hB : 1 ≤ B) {k n : Nat} (h : k ≤ n) : Dt.fac k * B ^ k ≤ Dt.fac n * B ^ n := by
  induction n with
  | zero => rw [Nat.le_zero.mp h]; exact Nat.le_refl _
  | succ n ih =>
    by_cases e : k = n + 1
    · rw [e]; exact Nat.le_refl _
    · refine Nat.le_trans (ih (by omega)) ?_
      rw [Dt.fac, Nat.pow_succ]
      exact Nat.mul_le_mul (Nat.le_mul_of_pos_left _ (by omega)) (Nat.le_mul_of_pos_right _ hB)
theorem Sm_of {x : Int} {b : Nat} (h : x.natAbs ≤ b) (hb : b < 2 ^ 9000) : Sm x := by
  unfold Sm
  by_cases e : x.natAbs = 0
  · rw [e]; decide
  · exact (Nat.log2_lt e).mpr (Nat.lt_of_le_of_lt h hb)
theorem turn_ok {n k : Nat} (kk : Int) (hkk : kk = k) (hn : n ≤ 1000) (hk : k < n) {A A' E : Dt.Mx} {s ahead : Int} {L : List (List Int)} (B : Nat) (hB1 : 1 ≤ B) (hB : Dt.fac n * B ^ n < 2 ^ 9000) (hL : Sq n L) (b : Dt.Bar n k A A' E s ahead)
    (hA : ∀ r c, r < n → c < n → (A' r c).natAbs ≤ B) (hE : ∀ r c, k ≤ r → r < n → k ≤ c → c < n → ent L r c = E r c) (hp : E k k ≠ 0) :
    ∃ (q : List Int → Nat → Int) (L2 : List (List Int)), L2 = nwL n L k q ∧ g_cleared [.ls (L.map dR), .int kk, .int ahead] = .ok (.ol (((L.drop (k + 1)).map (nr n k q)).map dR)) ∧ ent L2 k k = E k k ∧
      Dt.Bar n (k + 1) A A' (Dt.nx E k ahead) s (E k k) ∧ ∀ r c, k + 1 ≤ r → r < n → k + 1 ≤ c → c < n → ent L2 r c = Dt.nx E k ahead r c := by
  let q : List Int → Nat → Int := fun R j => (R.getD j 0 * ent L k k - R.getD k 0 * ent L k j) / ahead
  have small : ∀ r c, k ≤ r → r < n → k ≤ c → c < n → Sm (ent L r c) := fun r c h1 h2 h3 h4 => by
    rw [hE r c h1 h2 h3 h4]
    exact Sm_of (Nat.le_trans (Dt.bar_abs b B hA hk h2 h4) (fac_mono B hB1 (by omega))) hB
  have hah : divOk ahead := by
    refine ⟨b.hn, .inr ?_⟩
    have : Sm ahead := by
      rw [b.ha]
      exact Sm_of (Nat.le_trans (Dt.det_abs B fun r j h1 _ h3 => hA r j (by omega) (by omega)) (fac_mono B hB1 (by omega))) hB
    exact this
  have hrow : ∀ R ∈ L.drop (k + 1), ∃ r, k + 1 ≤ r ∧ r < n ∧ R = rowN L r := fun R hR => by
    obtain ⟨i, hi, e⟩ := List.mem_iff_getElem.mp hR
    rw [List.length_drop, hL.len] at hi
    refine ⟨k + 1 + i, by omega, by omega, ?_⟩
    rw [← e, List.getElem_drop]
    unfold rowN
    rw [List.getD_eq_getElem?_getD, List.getElem?_eq_getElem (by rw [hL.len]; omega)]; rfl
  have qv : ∀ r c, k + 1 ≤ r → r < n → k ≤ c → c < n → q (rowN L r) c = Dt.nx E k ahead r c := fun r c h1 h2 h3 h4 => by
    show (ent L r c * ent L k k - ent L r k * ent L k c) / ahead = (E r c * E k k - E r k * E k c) / ahead
    rw [hE r c (by omega) h2 h3 h4, hE k k (Nat.le_refl k) hk (Nat.le_refl k) hk, hE r k (by omega) h2 (Nat.le_refl k) hk, hE k c (Nat.le_refl k) hk h3 h4]
  refine ⟨q, nwL n L k q, rfl, cleared_ok kk hkk hn hk hL hah (fun j h1 h2 => small k j (Nat.le_refl k) hk h1 h2) q (fun R hR => ?_), ?_, Dt.bar_next b hp, fun r c h1 h2 h3 h4 => ?_⟩
  · obtain ⟨r, h1, h2, rfl⟩ := hrow R hR
    refine ⟨fun j h3 h4 => small r j (by omega) h2 h3 h4, fun j h3 h4 => ?_⟩
    rw [qv r j h1 h2 (by omega) h4]
    have := (Dt.bar_exact b hp r j).1
    show ent L r j * ent L k k - ent L r k * ent L k j = _
    rw [hE r j (by omega) h2 (by omega) h4, hE k k (Nat.le_refl k) hk (Nat.le_refl k) hk, hE r k (by omega) h2 (Nat.le_refl k) hk, hE k j (Nat.le_refl k) hk (by omega) h4]
    exact this
  · unfold ent
    rw [nwL_lo hL (Nat.le_refl k) hk q]
    exact hE k k (Nat.le_refl k) hk (Nat.le_refl k) hk
  · unfold ent
    rw [nwL_hi hL (by omega) h2 q, nr_get q _ (by omega) h4]
    exact qv r c h1 h2 (by omega) h4
theorem body_same (kk : Int) (k n : Nat) (hkk : kk = k) (hn : n ≤ 1000) (hk : k < n) (x0 y6 : D) {L : List (List Int)} (hL : L.length = n) (s ahead : Int) (y5 : D) {M : List (List Int)} (hM : M.length = n - (k + 1)) (hcl : g_cleared [.ls (L.map dR), .int kk, .int ahead] = .ok (.ol (M.map dR)))
    {L2 : List (List Int)} (hL2 : L2 = L.take (k + 1) ++ M) (hS : Sq n L2) {e : Int} (he : e = ent L2 k k) (hf : g_first_row_with [.ls (L.map dR), .int kk] = .ok (.int kk)) :
    f_determinant_l1 [x0, .ol (L.map dR), .int s, .int ahead, .int kk, y5, y6] = .nx [x0, .ol (L2.map dR), .int s, .int e, .int kk, .int kk, y6] := by
  have be := body_end kk k n hkk hn hk x0 y6 hL s ahead (.int kk) hM hcl hL2 hS he
  rw [← be]
  have r1 := bR L
  have cd : calD g_first_row_with [.bo (L.map dR), .int kk] = .ok (.int kk) := by
    simp [calD, r1, hf]
  show sSeq _ (sSeq _ (sSeq _ _)) _ = _
  have ev : (sAsgF 5 (eOwn g_first_row_with (aCons (eVar 1) (aCons (eVar 4) (aNil))))) [x0, .ol (L.map dR), .int s, .int ahead, .int kk, y5, y6] = .nx [x0, .ol (L.map dR), .int s, .int ahead, .int kk, .int kk, y6] := by
    simp [r1, cd]
  unfold sSeq
  rw [ev]
  simp
theorem body_swap (kk ff : Int) (k f n : Nat) (hkk : kk = k) (hff : ff = f) (hn : n ≤ 1000) (hk : k < n) (hfk : k < f) (hfn : f < n) (x0 y6 : D) {L : List (List Int)} (hS0 : Sq n L) (s ahead : Int) (y5 : D) {M : List (List Int)} (hM : M.length = n - (k + 1)) (hcl : g_cleared [.ls ((swL L k f).map dR), .int kk, .int ahead] = .ok (.ol (M.map dR)))
    {L2 : List (List Int)} (hL2 : L2 = (swL L k f).take (k + 1) ++ M) (hS : Sq n L2) {e : Int} (he : e = ent L2 k k) (hf : g_first_row_with [.ls (L.map dR), .int kk] = .ok (.int ff)) :
    f_determinant_l1 [x0, .ol (L.map dR), .int s, .int ahead, .int kk, y5, y6] = .nx [x0, .ol (L2.map dR), .int (-s), .int e, .int kk, .int ff, y6] := by
  have be := body_end kk k n hkk hn hk x0 y6 (swL_sq hS0 hk hfn).len (-s) ahead (.int ff) hM hcl hL2 hS he
  rw [← be]
  have r1 := bR L
  have cd : calD g_first_row_with [.bo (L.map dR), .int kk] = .ok (.int ff) := by
    simp [calD, r1, hf]
  have ak := at_row (L := L) (r := k) (by rw [hS0.len]; exact hk)
  have af := at_row (L := L) (r := f) (by rw [hS0.len]; exact hfn)
  rw [← hkk] at ak
  rw [← hff] at af
  have ik : ixN L.length kk = some k := by rw [ixN_nat (by omega) (by rw [hS0.len]; omega), show kk.toNat = k by omega]
  have jf : ixN L.length ff = some f := by rw [ixN_nat (by omega) (by rw [hS0.len]; omega), show ff.toNat = f by omega]
  have ne : ¬ ff = kk := by omega
  have l2 : 2 ≤ lim := by rw [lim_eq]; omega
  have ev : (sAsgF 5 (eOwn g_first_row_with (aCons (eVar 1) (aCons (eVar 4) (aNil))))) [x0, .ol (L.map dR), .int s, .int ahead, .int kk, y5, y6] = .nx [x0, .ol (L.map dR), .int s, .int ahead, .int kk, .int ff, y6] := by
    simp [r1, cd]
  have ev2 : (sSwp 1 (eVar 4) (eVar 5) (eTup (aConsO (eBin opIx (eVar 1) (eVar 5)) (aConsO (eBin opIx (eVar 1) (eVar 4)) (aNil))))) [x0, .ol (L.map dR), .int s, .int ahead, .int kk, .int ff, y6] = .nx [x0, .ol ((swL L k f).map dR), .int s, .int ahead, .int kk, .int ff, y6] := by
    have e : ((L.map dR).set k (dR (rowN L f))).set f (dR (rowN L k)) = (swL L k f).map dR := by unfold swL; rw [List.map_set, List.map_set]
    simp only [dR] at e ak af r1 ⊢
    simp [r1, ak, af, ik, jf, l2, e]
  show sSeq _ (sSeq _ (sSeq _ _)) _ = _
  unfold sSeq
  rw [ev]
  simp [ne, ev2, -sSwp_]
theorem det_loop (x0 : D) {n : Nat} (hn : n ≤ 1000) {A : Dt.Mx} (B : Nat) (hB1 : 1 ≤ B) (hB : Dt.fac n * B ^ n < 2 ^ 9000) : ∀ (m k : Nat) (L : List (List Int)) (A' E : Dt.Mx) (s ahead : Int) (y4 y5 : D), k + m = n → Sq n L → Dt.Bar n k A A' E s ahead →
    (∀ r c, r < n → c < n → (A' r c).natAbs ≤ B) → (∀ r c, k ≤ r → r < n → k ≤ c → c < n → ent L r c = E r c) →
    (∃ (L' : List (List Int)) (s' a' : Int) (z4 z5 : D), forL (gtN 4) f_determinant_l1 (rng k m) [x0, .ol (L.map dR), .int s, .int ahead, y4, y5, .un] = .nx [x0, .ol (L'.map dR), .int s', .int a', z4, z5, .un] ∧ Dt.det n 0 A = s' * a' ∧ (s' = 1 ∨ s' = -1)) ∨
    (forL (gtN 4) f_determinant_l1 (rng k m) [x0, .ol (L.map dR), .int s, .int ahead, y4, y5, .un] = .rt (.int 0) ∧ Dt.det n 0 A = 0) := by
  intro m
  induction m with
  | zero =>
    intro k L A' E s ahead y4 y5 hk hS b hA hE
    have hk : k = n := by omega
    subst hk
    exact .inl ⟨L, s, ahead, y4, y5, by simp [rng_zero, forL], Dt.bar_end b, b.ss⟩
  | succ m IH =>
    intro k L A' E s ahead y4 y5 hkm hS b hA hE
    have hk : k < n := by omega
    have r1 := bR L
    rw [rng_succ]
    generalize hkk : (k : Int) = kk
    have hkk' : kk = k := hkk.symm
    have hk1 : kk + 1 = ((k + 1 : Nat) : Int) := by omega
    rcases first_ok hS hn k hk with ⟨f, f1, f2, f3, f4, f5⟩ | ⟨f1, f2⟩
    · rw [hkk] at f5
      by_cases e : f = k
      · subst e
        rw [hkk] at f5
        have hp : E f f ≠ 0 := by rw [← hE f f (Nat.le_refl f) hk (Nat.le_refl f) hk]; exact f3
        obtain ⟨q, L2, e1, e2, e3, e4, e5⟩ := turn_ok kk hkk' hn hk B hB1 hB hS b hA hE hp
        have bs := body_same kk f n hkk' hn hk x0 .un hS.len s ahead y5 (by rw [List.length_map, List.length_drop, hS.len]) e2 e1 (by rw [e1]; exact nwL_sq hS hk q) e3.symm f5
        rw [hk1]
        have st : forL (gtN 4) f_determinant_l1 (.int kk :: rng ((f + 1 : Nat) : Int) m) [x0, .ol (L.map dR), .int s, .int ahead, y4, y5, .un] = forL (gtN 4) f_determinant_l1 (rng ((f + 1 : Nat) : Int) m) [x0, .ol (L2.map dR), .int s, .int (E f f), .int kk, .int kk, .un] := by
          rw [forL_cons]
          simp only [gtN_, List.set_cons_succ, List.set_cons_zero, bs]
        rw [st]
        exact IH (f + 1) L2 A' _ s _ _ _ (by omega) (by rw [e1]; exact nwL_sq hS hk q) e4 hA e5
      · have hfk : k < f := by omega
        have b' := Dt.bar_swap b hfk f2
        have hS' := swL_sq hS hk f2
        have hE' : ∀ r c, k ≤ r → r < n → k ≤ c → c < n → ent (swL L k f) r c = E (Dt.sw k f r) c := fun r c h1 h2 h3 h4 => by
          have hb : k ≤ Dt.sw k f r ∧ Dt.sw k f r < n := by refine ⟨?_, ?_⟩ <;> (unfold Dt.sw; split; omega; split <;> omega)
          rw [← hE (Dt.sw k f r) c hb.1 hb.2 h3 h4]
          unfold ent
          rw [swL_row hS.len hk f2 h2]
        have hp : E (Dt.sw k f k) k ≠ 0 := by
          have : Dt.sw k f k = f := by unfold Dt.sw; rw [if_pos rfl]
          rw [this, ← hE f k f1 f2 (Nat.le_refl k) hk]; exact f3
        have hA' := Dt.bar_rows b B hA hk f2
        obtain ⟨q, L2, e1, e2, e3, e4, e5⟩ := turn_ok kk hkk' hn hk B hB1 hB hS' b' hA' hE' hp
        have bs := body_swap kk f k f n hkk' rfl hn hk hfk f2 x0 .un hS s ahead y5 (by rw [List.length_map, List.length_drop, hS'.len]) e2 e1 (by rw [e1]; exact nwL_sq hS' hk q) e3.symm f5
        rw [hk1]
        have st : forL (gtN 4) f_determinant_l1 (.int kk :: rng ((k + 1 : Nat) : Int) m) [x0, .ol (L.map dR), .int s, .int ahead, y4, y5, .un] = forL (gtN 4) f_determinant_l1 (rng ((k + 1 : Nat) : Int) m) [x0, .ol (L2.map dR), .int (-s), .int (E (Dt.sw k f k) k), .int kk, .int f, .un] := by
          rw [forL_cons]
          simp only [gtN_, List.set_cons_succ, List.set_cons_zero, bs]
        rw [st]
        exact IH (k + 1) L2 _ _ (-s) _ _ _ (by omega) (by rw [e1]; exact nwL_sq hS' hk q) e4 hA' e5
    · right
      rw [hkk] at f2
      have cd : calD g_first_row_with [.bo (L.map dR), .int kk] = .ok .non := by
        simp [calD, r1, f2]
      refine ⟨?_, Dt.bar_none b hk fun r h1 h2 => by rw [← hE r k h1 h2 (Nat.le_refl k) hk]; exact f1 r h1 h2⟩
      rw [forL_cons]
      simp [f_determinant_l1, r1, cd]
theorem determinant_ok {n : Nat} (hn : n ≤ 1000) {L : List (List Int)} (hL : Sq n L) (B : Nat) (hB1 : 1 ≤ B) (hB : Dt.fac n * B ^ n < 2 ^ 9000) (hA : ∀ r c, r < n → c < n → (ent L r c).natAbs ≤ B) :
    g_determinant [.ls (L.map dR)] = .ok (.int (Dt.det n 0 (ent L))) := by
  have lt := look_tab_ok hL
  have r1 := bR L
  have hr : rgOk (n : Int) := rgOk_of (by omega) (by omega)
  have hl := hL.len
  have bl : L.length ≤ lim := by rw [hl, lim_eq]; omega
  have bn : n ≤ lim := by rw [lim_eq]; omega
  have lc : ∀ x1 x2 x3 x4 x5 : D, lcL (gtN 6) tYesG f_determinant_c1 [.ls (L.map dR), x1, x2, x3, x4, x5, .un] (L.map dR) = .ok (L.map fun l => .ol (l.map D.int)) := fun x1 x2 x3 x4 x5 => by
    refine lcL_mapN _ fun l hl' => ?_
    have : l.length ≤ lim := by rw [hL.row l hl', lim_eq]; omega
    simp [f_determinant_c1, dR, this]
  have f1 : frzs (L.map fun l => D.ol (l.map D.int)) = L.map dR := by
    clear lc bl hl lt r1 hA hL
    induction L with
    | nil => rfl
    | cons a L ih => simp only [List.map_cons, frzs_cons, frz_ol, frzs_I, ih]; rfl
  have f2 : nods (L.map fun l => D.ol (l.map D.int)) = true := by
    clear lc bl hl lt r1 hA hL f1
    induction L with
    | nil => rfl
    | cons a L ih => simp only [List.map_cons, nods, nod, nods_I, ih]; rfl
  rcases det_loop (.ls (L.map dR)) hn B hB1 hB n 0 L (ent L) (ent L) 1 1 .un .un (by omega) hL (Dt.bar_start n (ent L)) hA (fun _ _ _ _ _ _ => rfl) with ⟨L', s', a', z4, z5, e, h1, h2⟩ | ⟨e, h1⟩
  · rw [h1]
    have om : opMul (.int s') (.int a') = some (.int (s' * a')) := by
      rw [opMul_eq, if_pos]
      simp only [mulOk]
      left; left
      rcases h2 with h2 | h2 <;> rw [h2] <;> decide
    simp only [Int.natCast_zero, Int.cast_ofNat_Int] at e
    simp [g_determinant, runF, f_determinant, lt, lc, f1, f2, bn, r1, hl, hr, e, om]
  · rw [h1]
    simp only [Int.natCast_zero, Int.cast_ofNat_Int] at e
    simp [g_determinant, runF, f_determinant, lt, lc, f1, f2, bn, r1, hl, hr, e]
end Lw

namespace Dt
abbrev Ed := Nat × Nat
def iv (b : Prop) [Decidable b] : Int := if b then 1 else 0
theorem iv_t {b : Prop} [Decidable b] (h : b) : iv b = 1 := if_pos h
theorem iv_f {b : Prop} [Decidable b] (h : ¬ b) : iv b = 0 := if_neg h
def xv (e : Ed) (j : Nat) : Int := iv (j = e.1) - iv (j = e.2)
def Xm (m : Nat → Nat) (e : Ed) (i : Nat) : Int := iv (m e.1 = i) - iv (m e.2 = i)
def Rw (m : Nat → Nat) : List Ed → Mx
  | [], _, _ => 0
  | e :: es, i, j => Xm m e i * xv e j + Rw m es i j
def Mat (m : Nat → Nat) (es : List Ed) : Mx := fun i j => if m i = i then Rw m es i j else iv (j = i) - iv (j = m i)
def D (n : Nat) (m : Nat → Nat) (es : List Ed) : Int := det n 0 (Mat m es)
structure Lab (n : Nat) (m : Nat → Nat) : Prop where
  le : ∀ i, i ≤ n → m i ≤ n
  id : ∀ i, i ≤ n → m (m i) = m i
  top : m n = n
def mrg (a b : Nat) (m : Nat → Nat) (v : Nat) : Nat := if m v = a then b else m v
theorem Lab.mrg {n : Nat} {m : Nat → Nat} (h : Lab n m) {a b : Nat} (ha : a ≠ n) (hb : b ≤ n) (hm : m b = b) (hn : a ≠ b) : Lab n (mrg a b m) where
  le := fun i hi => by
    unfold Dt.mrg; split
    · exact hb
    · exact h.le i hi
  id := fun i hi => by
    unfold Dt.mrg
    by_cases q : m i = a
    · rw [if_pos q, hm, if_neg (fun z => hn z.symm)]
    · rw [if_neg q, h.id i hi, if_neg q]
  top := by
    unfold Dt.mrg
    rw [h.top, if_neg (fun z => ha z.symm)]
theorem D_loop {n : Nat} {m : Nat → Nat} {e : Ed} (es : List Ed) (h : m e.1 = m e.2) : D n m (e :: es) = D n m es := by
  unfold D
  refine det_congr fun r j _ _ _ => ?_
  unfold Mat
  have : Xm m e r = 0 := by unfold Xm; rw [h]; omega
  simp only [Rw, this, Int.zero_mul, Int.zero_add]
theorem Rw_swap (m : Nat → Nat) (x y : Nat) (es : List Ed) : Rw m ((x, y) :: es) = Rw m ((y, x) :: es) := by
  funext i j
  have h1 : Xm m (x, y) i = - Xm m (y, x) i := by unfold Xm; dsimp only; omega
  have h2 : xv (x, y) j = - xv (y, x) j := by unfold xv; dsimp only; omega
  simp only [Rw, h1, h2, Int.neg_mul_neg]
theorem D_swap (n : Nat) (m : Nat → Nat) (x y : Nat) (es : List Ed) : D n m ((x, y) :: es) = D n m ((y, x) :: es) := by
  unfold D Mat; rw [Rw_swap]
theorem Rw_mrg_b (m : Nat → Nat) {a b : Nat} (hn : a ≠ b) : ∀ (es : List Ed) (j : Nat), Rw (mrg a b m) es b j = Rw m es b j + Rw m es a j
  | [], j => rfl
  | e :: es, j => by
    have q : ∀ v, iv (mrg a b m v = b) = iv (m v = b) + iv (m v = a) := fun v => by
      unfold mrg
      by_cases h : m v = a
      · rw [if_pos h, iv_t rfl, iv_t h, iv_f (by rw [h]; exact hn)]; rfl
      · rw [if_neg h, iv_f h]; omega
    have h1 : Xm (mrg a b m) e b = Xm m e b + Xm m e a := by unfold Xm; rw [q, q]; omega
    simp only [Rw, Rw_mrg_b m hn es j, h1, Int.add_mul]
    omega
theorem Rw_mrg_o (m : Nat → Nat) {a b i : Nat} (h1 : i ≠ a) (h2 : i ≠ b) : ∀ (es : List Ed) (j : Nat), Rw (mrg a b m) es i j = Rw m es i j
  | [], j => rfl
  | e :: es, j => by
    have q : ∀ v, iv (mrg a b m v = i) = iv (m v = i) := fun v => by
      unfold mrg
      by_cases h : m v = a
      · rw [if_pos h, iv_f (fun z => h2 z.symm), iv_f (by rw [h]; exact fun z => h1 z.symm)]
      · rw [if_neg h]
    have h3 : Xm (mrg a b m) e i = Xm m e i := by unfold Xm; rw [q, q]
    simp only [Rw, Rw_mrg_o m h1 h2 es j, h3]
theorem det_op' {n c r s : Nat} (A : Mx) (hs : s < n) (t : Int) (h : t = 0 ∨ (r < n ∧ r ≠ s)) : det n c (upd A s fun j => A s j + t * A r j) = det n c A := by
  rcases h with h | ⟨h1, h2⟩
  · subst h
    have : upd A s (fun j => A s j + 0 * A r j) = A := by
      funext i j; unfold upd
      by_cases q : i = s
      · subst q; rw [if_pos rfl]; omega
      · rw [if_neg q]
    rw [this]
  · exact det_op A h1 hs h2 t
theorem D_step {n : Nat} {m : Nat → Nat} (L : Lab n m) {x y : Nat} (hx : x ≤ n) (hy : y ≤ n) (es : List Ed) (hn : m x ≠ m y) (ha : m x ≠ n) : D n m ((x, y) :: es) = D n m es + D n (mrg (m x) (m y) m) es := by
  have maa := L.id x hx
  have mbb := L.id y hy
  have hxn : x ≠ n := fun z => ha (by rw [z]; exact L.top)
  have la : m x < n := by have := L.le x hx; omega
  have lb := L.le y hy
  have hyb : y ≠ m y → y < n := fun h => by
    rcases Nat.lt_or_ge y n with q | q
    · exact q
    · have : y = n := by omega
      exact absurd (by rw [this]; exact L.top.symm) h
  generalize hma : m x = a at *
  generalize hmb : m y = b at *
  have hba : ¬ b = a := fun z => hn z.symm
  unfold D
  -- the row of b with that of a added
  let C : (Nat → Int) → Mx := fun v i j => if i = a then v j else if i = b then Mat m es b j + Mat m es a j else Mat m es i j
  have hC : ∀ v, C v = upd (C fun _ => 0) a v := fun v => by
    funext i j; show (if i = a then _ else _) = upd _ _ _ _ _
    unfold upd
    by_cases q : i = a
    · rw [if_pos q, if_pos q]
    · rw [if_neg q, if_neg q]; show _ = if i = a then _ else _; rw [if_neg q]
  have s1 : det n 0 (Mat m ((x, y) :: es)) = det n 0 (C fun j => xv (x, y) j + Mat m es a j) := by
    rw [← det_ops (Mat m ((x, y) :: es)) la (fun i => iv (i = b)) (iv_f hn)]
    refine det_congr fun i j _ _ _ => ?_
    have ra : Mat m ((x, y) :: es) a j = xv (x, y) j + Mat m es a j := by
      unfold Mat
      rw [if_pos maa, if_pos maa]
      simp only [Rw, Xm, hma, hmb]
      rw [iv_t trivial, iv_f hba]; omega
    by_cases q : i = a
    · subst q
      rw [iv_f hn, ra]
      show _ = if i = i then xv (x, y) j + Mat m es i j else _
      rw [if_pos rfl]; omega
    · show _ = if i = a then _ else _
      rw [if_neg q]
      by_cases q2 : i = b
      · subst q2
        rw [if_pos rfl, iv_t rfl, ra]
        unfold Mat
        rw [if_pos mbb, if_pos mbb]
        simp only [Rw, Xm, hma, hmb]
        rw [iv_t trivial, iv_f hn, if_pos maa]; omega
      · rw [if_neg q2, iv_f q2]
        unfold Mat
        by_cases q3 : m i = i
        · rw [if_pos q3, if_pos q3]
          simp only [Rw, Xm, hma, hmb]
          rw [iv_f (fun z => q z.symm), iv_f (fun z => q2 z.symm)]; omega
        · rw [if_neg q3, if_neg q3]; omega
  have s2 : det n 0 (C fun j => xv (x, y) j + Mat m es a j) = det n 0 (C (xv (x, y))) + det n 0 (C (Mat m es a)) := by
    rw [hC, det_add _ _ _ la, ← hC, ← hC]
  have s3 : det n 0 (C (Mat m es a)) = det n 0 (Mat m es) := by
    rw [← det_ops (Mat m es) la (fun i => iv (i = b)) (iv_f hn)]
    refine det_congr fun i j _ _ _ => ?_
    show (if i = a then _ else _) = _
    by_cases q : i = a
    · subst q; rw [if_pos rfl, iv_f hn]; omega
    · rw [if_neg q]
      by_cases q2 : i = b
      · subst q2; rw [if_pos rfl, iv_t rfl]; omega
      · rw [if_neg q2, iv_f q2]; omega
  let Y : Nat → Int := fun j => iv (j = a) - iv (j = b)
  have s4 : det n 0 (C (xv (x, y))) = det n 0 (C Y) := by
    have cr : ∀ (v : Nat → Int) (i j : Nat), i ≠ a → m i ≠ i → C v i j = iv (j = i) - iv (j = m i) := fun v i j h1 h2 => by
      show (if i = a then _ else if i = b then _ else Mat m es i j) = _
      rw [if_neg h1, if_neg (fun z => h2 (by rw [z]; exact mbb))]
      unfold Mat; rw [if_neg h2]
    have o1 := det_op' (n := n) (c := 0) (r := x) (s := a) (C Y) la (if x = a then 0 else 1) (by
      by_cases q : x = a
      · left; rw [if_pos q]
      · right; exact ⟨by omega, q⟩)
    have e1 : upd (C Y) a (fun j => C Y a j + (if x = a then 0 else 1) * C Y x j) = C (fun j => iv (j = x) - iv (j = b)) := by
      rw [hC (fun j => iv (j = x) - iv (j = b)), hC Y, upd_upd]
      congr 1
      funext j
      rw [← hC Y]
      show (if a = a then Y j else _) + _ = _
      rw [if_pos rfl]
      by_cases q : x = a
      · rw [if_pos q, q]; show iv (j = a) - iv (j = b) + 0 * _ = _; omega
      · rw [if_neg q, cr Y x j q (by rw [hma]; exact fun z => q z.symm), hma]
        show iv (j = a) - iv (j = b) + 1 * _ = _
        omega
    rw [e1] at o1
    rw [← o1]
    have o2 := det_op' (n := n) (c := 0) (r := y) (s := a) (C (fun j => iv (j = x) - iv (j = b))) la (if y = b then 0 else -1) (by
      by_cases q : y = b
      · left; rw [if_pos q]
      · right; exact ⟨hyb q, fun z => hba (by rw [← hmb, z]; exact maa)⟩)
    rw [← o2]
    have e2 : upd (C (fun j => iv (j = x) - iv (j = b))) a (fun j => C (fun j => iv (j = x) - iv (j = b)) a j + (if y = b then 0 else -1) * C (fun j => iv (j = x) - iv (j = b)) y j) = C (xv (x, y)) := by
      rw [hC (xv (x, y)), hC (fun j => iv (j = x) - iv (j = b)), upd_upd]
      congr 1
      funext j
      rw [← hC (fun j => iv (j = x) - iv (j = b))]
      show (if a = a then iv (j = x) - iv (j = b) else _) + _ = iv (j = x) - iv (j = y)
      rw [if_pos rfl]
      by_cases q : y = b
      · rw [if_pos q, q]; omega
      · rw [if_neg q, cr (fun j => iv (j = x) - iv (j = b)) y j (fun z => hba (by rw [← hmb, z]; exact maa)) (by rw [hmb]; exact fun z => q z.symm), hmb]
        omega
    rw [e2]
  have s5 : det n 0 (C Y) = det n 0 (Mat (mrg a b m) es) := by
    rw [← det_ops (C Y) la (fun i => iv (m i = a ∧ i ≠ a)) (iv_f (fun z => z.2 rfl))]
    refine det_congr fun i j _ _ _ => ?_
    have ra : C Y a j = iv (j = a) - iv (j = b) := by show (if a = a then _ else _) = _; rw [if_pos rfl]
    rw [ra]
    show (if i = a then Y j else if i = b then Mat m es b j + Mat m es a j else Mat m es i j) + _ = _
    by_cases q : i = a
    · subst q
      rw [if_pos rfl, iv_f (fun z => z.2 rfl)]
      unfold Mat mrg
      rw [if_pos maa, if_neg hba]
      show iv (j = i) - iv (j = b) + 0 * _ = _
      omega
    · rw [if_neg q]
      by_cases q2 : i = b
      · subst q2
        rw [if_pos rfl, iv_f (by rw [mbb]; exact fun z => hba z.1)]
        have : mrg a i m i = i := by unfold mrg; rw [mbb, if_neg hba]
        unfold Mat
        rw [if_pos this, if_pos mbb, if_pos maa, Rw_mrg_b m hn es j]
        omega
      · rw [if_neg q2]
        by_cases q3 : m i = a
        · rw [iv_t ⟨q3, q⟩]
          have h1 : m i ≠ i := by rw [q3]; exact fun z => q z.symm
          have h2 : mrg a b m i = b := by unfold mrg; rw [if_pos q3]
          unfold Mat
          rw [if_neg h1, h2, if_neg (fun z => q2 z.symm), q3]
          omega
        · rw [iv_f (fun z => q3 z.1)]
          have h2 : mrg a b m i = m i := by unfold mrg; rw [if_neg q3]
          unfold Mat
          rw [h2]
          by_cases q4 : m i = i
          · rw [if_pos q4, if_pos q4, Rw_mrg_o m q q2 es j]; omega
          · rw [if_neg q4, if_neg q4]; omega
  rw [s1, s2, s3, s4, s5]
  omega
theorem det_unit : ∀ (n c : Nat), det n c (fun r j => iv (j = r + c)) = 1
  | 0, _ => rfl
  | n + 1, c => by
    rw [det_head fun r h _ => iv_f (by omega)]
    have := det_unit n (c + 1)
    have e : det n (c + 1) (fun r => (fun r j => iv (j = r + c)) (r + 1)) = det n (c + 1) (fun r j => iv (j = r + (c + 1))) := det_congr fun r j _ _ _ => by
      show iv (j = r + 1 + c) = _
      rw [show r + 1 + c = r + (c + 1) by omega]
    rw [e, this]
    show iv (c = 0 + c) * 1 = 1
    rw [iv_t (by omega)]; rfl
theorem D_nil {n : Nat} {m : Nat → Nat} (L : Lab n m) : D n m [] = if ∀ i, i ≤ n → m i = m n then 1 else 0 := by
  unfold D
  by_cases h : ∀ i, i ≤ n → m i = m n
  · rw [if_pos h, ← det_unit n 0]
    refine det_congr fun r j hr _ hj => ?_
    have := h r (by omega)
    rw [L.top] at this
    unfold Mat
    rw [this, if_neg (by omega), iv_f (by omega : ¬ j = n)]
    rw [show r + 0 = r by omega]; omega
  · rw [if_neg h]
    have : ∃ i, i < n ∧ m i = i := by
      apply Classical.byContradiction
      intro z
      refine h fun i hi => ?_
      rw [L.top]
      apply Classical.byContradiction
      intro q
      have h1 := L.le i hi
      exact z ⟨m i, by omega, L.id i hi⟩
    obtain ⟨i, hi, e⟩ := this
    have h2 := det_mul (n := n) (c := 0) 0 (fun _ => 0) (Mat m []) hi
    simp only [Int.zero_mul] at h2
    rw [← h2]
    refine det_congr fun r j _ _ _ => ?_
    unfold upd
    by_cases q : r = i
    · rw [if_pos q, q]; unfold Mat; rw [if_pos e]; rfl
    · rw [if_neg q]
def Cg (n : Nat) : (Nat → Nat) → List Ed → Nat
  | u, [] => if ∀ i, i ≤ n → u i = u n then 1 else 0
  | u, e :: es => Cg n u es + if u e.1 = u e.2 then 0 else Cg n (mrg (u e.1) (u e.2) u) es
def EdOk (n : Nat) (es : List Ed) : Prop := ∀ e ∈ es, e.1 ≤ n ∧ e.2 ≤ n
def Ker (n : Nat) (u v : Nat → Nat) : Prop := ∀ i j, i ≤ n → j ≤ n → (u i = u j ↔ v i = v j)
theorem mrg_eq {a b : Nat} {u : Nat → Nat} {i j : Nat} : mrg a b u i = mrg a b u j ↔ u i = u j ∨ (u i = a ∧ u j = b) ∨ (u i = b ∧ u j = a) := by
  unfold mrg
  by_cases h1 : u i = a <;> by_cases h2 : u j = a
  · rw [if_pos h1, if_pos h2]; exact ⟨fun _ => .inl (h1.trans h2.symm), fun _ => rfl⟩
  · rw [if_pos h1, if_neg h2]
    constructor
    · exact fun h => .inr (.inl ⟨h1, h.symm⟩)
    · rintro (h | h | h)
      · exact absurd (h ▸ h1) h2
      · exact h.2.symm
      · exact absurd h.2 h2
  · rw [if_neg h1, if_pos h2]
    constructor
    · exact fun h => .inr (.inr ⟨h, h2⟩)
    · rintro (h | h | h)
      · exact absurd (h.trans h2) h1
      · exact absurd h.1 h1
      · exact h.1
  · rw [if_neg h1, if_neg h2]
    constructor
    · exact .inl
    · rintro (h | h | h)
      · exact h
      · exact absurd h.1 h1
      · exact absurd h.2 h2
theorem Ker.mrg {n : Nat} {u v : Nat → Nat} (h : Ker n u v) {x y : Nat} (hx : x ≤ n) (hy : y ≤ n) : Ker n (mrg (u x) (u y) u) (mrg (v x) (v y) v) := fun i j hi hj => by
  rw [mrg_eq, mrg_eq, h i j hi hj, h i x hi hx, h j y hj hy, h i y hi hy, h j x hj hx]
theorem Ker.turn {n : Nat} {u : Nat → Nat} {x y : Nat} : Ker n (Dt.mrg (u x) (u y) u) (Dt.mrg (u y) (u x) u) := fun i j _ _ => by
  rw [mrg_eq, mrg_eq]
  constructor <;> (rintro (h | h | h); exact .inl h; exact .inr (.inr h); exact .inr (.inl h))
theorem Cg_ker {n : Nat} : ∀ (es : List Ed) {u v : Nat → Nat}, EdOk n es → Ker n u v → Cg n u es = Cg n v es
  | [], u, v, _, h => by
    have : (∀ i, i ≤ n → u i = u n) ↔ ∀ i, i ≤ n → v i = v n := ⟨fun q i hi => (h i n hi (Nat.le_refl n)).mp (q i hi), fun q i hi => (h i n hi (Nat.le_refl n)).mpr (q i hi)⟩
    unfold Cg
    by_cases q : ∀ i, i ≤ n → u i = u n
    · rw [if_pos q, if_pos (this.mp q)]
    · rw [if_neg q, if_neg fun z => q (this.mpr z)]
  | e :: es, u, v, ok, h => by
    obtain ⟨o1, o2⟩ := ok e (List.mem_cons_self ..)
    have ok' : EdOk n es := fun x hx => ok x (List.mem_cons_of_mem _ hx)
    unfold Cg
    rw [Cg_ker es ok' h, Cg_ker es ok' (h.mrg o1 o2)]
    have := h e.1 e.2 o1 o2
    by_cases q : u e.1 = u e.2
    · rw [if_pos q, if_pos (this.mp q)]
    · rw [if_neg q, if_neg fun z => q (this.mpr z)]
theorem D_count {n : Nat} : ∀ (es : List Ed) {m : Nat → Nat}, EdOk n es → Lab n m → D n m es = Cg n m es
  | [], m, _, L => by
    rw [D_nil L]
    unfold Cg
    split <;> rfl
  | (x, y) :: es, m, ok, L => by
    obtain ⟨o1, o2⟩ := ok (x, y) (List.mem_cons_self ..)
    have ok' : EdOk n es := fun x hx => ok x (List.mem_cons_of_mem _ hx)
    unfold Cg
    by_cases q : m x = m y
    · rw [if_pos q, D_loop es q, D_count es ok' L]; rfl
    · rw [if_neg q]
      by_cases q2 : m x = n
      · have q3 : m y ≠ n := fun z => q (q2.trans z.symm)
        rw [D_swap, D_step L o2 o1 es (fun z => q z.symm) q3, D_count es ok' L, D_count es ok' (L.mrg q3 (L.le x o1) (L.id x o1) fun z => q z.symm), Cg_ker es ok' (Ker.turn (u := m) (x := y) (y := x))]
        exact (Int.natCast_add _ _).symm
      · rw [D_step L o1 o2 es q q2, D_count es ok' L, D_count es ok' (L.mrg q2 (L.le y o2) (L.id y o2) q)]
        exact (Int.natCast_add _ _).symm
theorem Cg_map {n k : Nat} {π : Nat → Nat} (h1 : ∀ i, i ≤ n → π i ≤ k) (h2 : ∀ j, j ≤ k → ∃ i, i ≤ n ∧ π i = j) : ∀ (es : List Ed) (u : Nat → Nat), Cg k u (es.map fun e => (π e.1, π e.2)) = Cg n (fun i => u (π i)) es
  | [], u => by
    have : (∀ j, j ≤ k → u j = u k) ↔ ∀ i, i ≤ n → u (π i) = u (π n) := by
      constructor
      · intro q i hi
        rw [q (π i) (h1 i hi), q (π n) (h1 n (Nat.le_refl n))]
      · intro q j hj
        obtain ⟨i, hi, rfl⟩ := h2 j hj
        obtain ⟨l, hl, e⟩ := h2 k (Nat.le_refl k)
        rw [q i hi, ← e, q l hl]
    simp only [List.map_nil, Cg]
    by_cases q : ∀ j, j ≤ k → u j = u k
    · rw [if_pos q, if_pos (this.mp q)]
    · rw [if_neg q, if_neg fun z => q (this.mpr z)]
  | e :: es, u => by
    simp only [List.map_cons, Cg]
    rw [Cg_map h1 h2 es u, Cg_map h1 h2 es (mrg (u (π e.1)) (u (π e.2)) u)]
    rfl
end Dt

namespace Lw
open DL L2 TL
def tn (t : Int × Int) : Dt.Ed := (t.1.toNat, t.2.toNat)
def eds (ts : List (Int × Int)) (outs : List Int) : Nat → Nat → List Dt.Ed
  | _, 0 => []
  | k, d + 1 => if (k : Int) ∈ outs then eds ts outs (k + 1) d else tn (tieAt ts k) :: eds ts outs (k + 1) d
def flt (ins : List Int) (k : Nat) (T : List Int) : List Int := T.filter fun x => decide (x < (k : Int)) && !decide (x ∈ ins)
theorem flt_mem {ins T : List Int} {k : Nat} {x : Int} : x ∈ flt ins k T ↔ x ∈ T ∧ x < k ∧ x ∉ ins := by simp [flt]
theorem flt_same {ins T : List Int} {k : Nat} (h : (k : Int) ∉ T ∨ (k : Int) ∈ ins) : flt ins (k + 1) T = flt ins k T := by
  unfold flt
  refine List.filter_congr fun x hx => ?_
  rw [Bool.eq_iff_iff]
  simp only [Bool.and_eq_true, decide_eq_true_eq, Bool.not_eq_true', decide_eq_false_iff_not]
  constructor
  · rintro ⟨h1, h2⟩
    refine ⟨?_, h2⟩
    by_cases e : x = k
    · subst e
      rcases h with h | h
      · exact absurd hx h
      · exact absurd h h2
    · omega
  · rintro ⟨h1, h2⟩; exact ⟨by omega, h2⟩
theorem flt_more {ins T : List Int} {k : Nat} (hr : T.Pairwise (· < ·)) (h : (k : Int) ∈ T) (h2 : (k : Int) ∉ ins) : flt ins (k + 1) T = flt ins k T ++ [(k : Int)] := by
  refine rise_uniq (hr.filter _) (List.pairwise_append.mpr ⟨hr.filter _, List.pairwise_singleton .., fun a ha b hb => by rw [List.mem_singleton.mp hb]; exact (flt_mem.mp ha).2.1⟩) fun x => ?_
  rw [flt_mem, List.mem_append, flt_mem, List.mem_singleton]
  constructor
  · rintro ⟨q1, q2, q3⟩
    by_cases e : x = k
    · exact .inr e
    · exact .inl ⟨q1, by omega, q3⟩
  · rintro (⟨q1, q2, q3⟩ | q)
    · exact ⟨q1, by omega, q3⟩
    · subst q; exact ⟨h, by omega, h2⟩
section
variable {p : Nat} {ts : List (Int × Int)}
theorem tn_ok (hE : EndsOk p ts) {k : Nat} (hk : k < ts.length) : (tn (tieAt ts k)).1 ≤ p - 1 ∧ (tn (tieAt ts k)).2 ≤ p - 1 ∧ (((tn (tieAt ts k)).1 : Nat) : Int) = (tieAt ts k).1 ∧ (((tn (tieAt ts k)).2 : Nat) : Int) = (tieAt ts k).2 := by
  obtain ⟨_, e2⟩ := tie_at (ts := ts) (i := (k : Int)) (by omega) (by omega)
  obtain ⟨⟨a0, a1⟩, b0, b1⟩ := hE _ e2
  unfold tn
  refine ⟨?_, ?_, ?_, ?_⟩ <;> dsimp only <;> omega
theorem len_splitG {α : Type} (l : List α) (q : α → Bool) : l.length = (l.filter q).length + (l.filter fun x => !q x).length := by
  induction l with
  | nil => rfl
  | cons a l ih => cases h : q a <;> simp [List.filter_cons, h, ih] <;> omega
theorem one_of {L : List (List Int)} (nd : L.Nodup) {a : List Int} (h : ∀ x ∈ L, x = a) (ha : a ∈ L) : L.length = 1 := by
  match L, ha with
  | [x], _ => rfl
  | x :: y :: L, _ =>
    have e1 := h x (by simp)
    have e2 := h y (by simp)
    rw [e1, e2] at nd
    simp at nd
theorem cg_wth (hp : 1 ≤ p) (hE : EndsOk p ts) {ins outs : List Int} (hd : ∀ x ∈ ins, x ∉ outs) : ∀ (d k : Nat) (s : List Int) (u : Nat → Nat), k + d = ts.length → Ind p ts (ins ++ s) → (∀ x ∈ s, (0 ≤ x ∧ x < k) ∧ x ∉ ins ∧ x ∉ outs) → s.Pairwise (· < ·) →
    (∀ i j : Nat, i ≤ p - 1 → j ≤ p - 1 → (u i = u j ↔ Conn (tiesAt ts (ins ++ s)) i j)) →
    Dt.Cg (p - 1) u (eds ts outs k d) = ((wth p ts ins outs).filter fun T => decide (flt ins k T = s)).length
  | 0, k, s, u, hk, hI, hs, hr, hu => by
    have full : ∀ T ∈ wth p ts ins outs, flt ins k T = s → T = srt (ins ++ s) := fun T hT e => by
      obtain ⟨t1, t2, t3⟩ := (wth_mem hp).mp hT
      have tI := tree_ind t1 hp
      refine rise_uniq (good_iff.mp (treeB_nat.mp t1).2.1).2 (srt_lt hI.nd) fun x => ?_
      rw [srt_mem, List.mem_append]
      constructor
      · intro hx
        by_cases m : x ∈ ins
        · exact .inl m
        · right; rw [← e]; have := tI.inn x hx; exact flt_mem.mpr ⟨hx, by omega, m⟩
      · rintro (h | h)
        · exact t2 x h
        · rw [← e] at h; exact (flt_mem.mp h).1
    have con : ((ins ++ s).length : Int) = (p : Int) - 1 ∧ cnt p (tiesAt ts (ins ++ s)) = 1 ↔ ∀ i, i ≤ p - 1 → u i = u (p - 1) := by
      have c1 := cnt_one hp (tiesAt_ok hE hI.inn)
      have ct := hI.ct
      constructor
      · rintro ⟨_, h⟩ i hi
        exact (hu i (p - 1) hi (Nat.le_refl _)).mpr (c1.mp h i (p - 1 : Nat) (by omega) (by omega) (by omega) (by omega))
      · intro h
        have : cnt p (tiesAt ts (ins ++ s)) = 1 := c1.mpr fun i j i0 i1 j0 j1 => by
          have e1 := h i.toNat (by omega)
          have e2 := h j.toNat (by omega)
          have := (hu i.toNat j.toNat (by omega) (by omega)).mp (e1.trans e2.symm)
          rw [Int.toNat_of_nonneg i0, Int.toNat_of_nonneg j0] at this
          exact this
        exact ⟨by omega, this⟩
    unfold eds Dt.Cg
    by_cases q : ∀ i, i ≤ p - 1 → u i = u (p - 1)
    · rw [if_pos q]
      obtain ⟨q1, q2⟩ := con.mpr q
      have hT : srt (ins ++ s) ∈ wth p ts ins outs := (wth_mem hp).mpr ⟨treeB_nat.mpr ⟨by rw [srt_len]; exact q1, srt_good hI.inn hI.nd, by rw [cnt_srt hE hI.inn]; exact q2⟩, fun t ht => srt_mem.mpr (List.mem_append_left _ ht), fun t ht z => by
        rcases List.mem_append.mp (srt_mem.mp z) with h | h
        · exact hd t h ht
        · exact (hs t h).2.2 ht⟩
      refine (one_of ((wth_nodup ins outs).filter _) (a := srt (ins ++ s)) (fun x hx => ?_) ?_).symm
      · obtain ⟨h1, h2⟩ := List.mem_filter.mp hx
        exact full x h1 (of_decide_eq_true h2)
      · refine List.mem_filter.mpr ⟨hT, decide_eq_true ?_⟩
        refine rise_uniq ((srt_lt hI.nd).filter _) hr fun x => ?_
        show x ∈ flt ins k (srt (ins ++ s)) ↔ _
        rw [flt_mem, srt_mem, List.mem_append]
        constructor
        · rintro ⟨h | h, _, n⟩
          · exact absurd h n
          · exact h
        · intro h; obtain ⟨h1, h2, _⟩ := hs x h; exact ⟨.inr h, h1.2, h2⟩
    · rw [if_neg q]
      symm
      rw [List.length_eq_zero_iff, List.filter_eq_nil_iff]
      intro T hT e
      have e := of_decide_eq_true e
      have := full T hT e
      obtain ⟨t1, _, _⟩ := (wth_mem hp).mp hT
      obtain ⟨h1, _, h3⟩ := treeB_nat.mp t1
      rw [this, srt_len] at h1
      rw [this, cnt_srt hE hI.inn] at h3
      exact q (con.mp ⟨h1, h3⟩)
  | d + 1, k, s, u, hk, hI, hs, hr, hu => by
    have hs' : ∀ x ∈ s, (0 ≤ x ∧ x < ((k + 1 : Nat) : Int)) ∧ x ∉ ins ∧ x ∉ outs := fun x hx => by
      obtain ⟨h1, h2⟩ := hs x hx
      exact ⟨by omega, h2⟩
    have ih := cg_wth hp hE hd d (k + 1) s u (by omega) hI hs' hr hu
    unfold eds
    by_cases ho : (k : Int) ∈ outs
    · rw [if_pos ho, ih]
      congr 1
      refine List.filter_congr fun T hT => ?_
      rw [flt_same (.inl ((wth_mem hp).mp hT |>.2.2 _ ho))]
    · rw [if_neg ho]
      obtain ⟨o1, o2, o3, o4⟩ := tn_ok hE (k := k) (by omega)
      have key := hu _ _ o1 o2
      rw [o3, o4] at key
      unfold Dt.Cg
      rw [ih]
      have trees : ∀ T ∈ wth p ts ins outs, T.Pairwise (· < ·) ∧ Ind p ts T ∧ ∀ t ∈ ins, t ∈ T := fun T hT => by
        obtain ⟨t1, t2, _⟩ := (wth_mem hp).mp hT
        exact ⟨(good_iff.mp (treeB_nat.mp t1).2.1).2, tree_ind t1 hp, t2⟩
      by_cases hi : (k : Int) ∈ ins
      · rw [if_pos (key.mpr (conn_at (List.mem_append_left _ hi))), Nat.add_zero]
        congr 1
        refine List.filter_congr fun T hT => ?_
        rw [flt_same (.inr hi)]
      · by_cases c : u (tn (tieAt ts k)).1 = u (tn (tieAt ts k)).2
        · rw [if_pos c, Nat.add_zero]
          congr 1
          refine List.filter_congr fun T hT => ?_
          obtain ⟨r1, r2, r3⟩ := trees T hT
          rw [decide_eq_decide]
          have nk : (k : Int) ∈ T → flt ins k T = s → False := fun hkT e => by
            have hsT : ∀ x ∈ ins ++ s ++ [(k : Int)], x ∈ T := fun x hx => by
              rcases List.mem_append.mp hx with h | h
              · rcases List.mem_append.mp h with h | h
                · exact r3 x h
                · rw [← e] at h; exact (flt_mem.mp h).1
              · rw [List.mem_singleton.mp h]; exact hkT
            have nd : (ins ++ s ++ [(k : Int)]).Nodup := List.nodup_append.mpr ⟨hI.nd, by simp, fun a ha b hb e => by
              rw [List.mem_singleton.mp hb] at e
              subst e
              rcases List.mem_append.mp ha with h | h
              · exact hi h
              · have := (hs _ h).1.2; omega⟩
            exact ind_not hE hI ⟨by omega, by omega⟩ (key.mp c) (r2.sub hE nd hsT)
          constructor
          · intro e
            have : (k : Int) ∉ T := fun h => by
              have : (k : Int) ∈ flt ins (k + 1) T := flt_mem.mpr ⟨h, by omega, hi⟩
              rw [e] at this
              have := (hs _ this).1.2
              omega
            rw [← flt_same (.inl this)]; exact e
          · intro e
            rw [flt_same (.inl fun h => nk h e)]; exact e
        · rw [if_neg c]
          have cn : ¬ Conn (tiesAt ts (ins ++ s)) (tieAt ts k).1 (tieAt ts k).2 := fun z => c (key.mpr z)
          have hI2 : Ind p ts (ins ++ (s ++ [(k : Int)])) := by
            rw [← List.append_assoc]
            exact hI.snoc hE ⟨by omega, by omega⟩ cn
          have ih2 := cg_wth hp hE hd d (k + 1) (s ++ [(k : Int)]) (Dt.mrg (u (tn (tieAt ts k)).1) (u (tn (tieAt ts k)).2) u) (by omega) hI2 (fun x hx => by
              rcases List.mem_append.mp hx with h | h
              · exact hs' x h
              · rw [List.mem_singleton.mp h]; exact ⟨⟨by omega, by omega⟩, hi, ho⟩)
            (List.pairwise_append.mpr ⟨hr, List.pairwise_singleton .., fun a ha b hb => by rw [List.mem_singleton.mp hb]; exact (hs a ha).1.2⟩)
            (fun i j hi hj => by
              rw [← List.append_assoc, conn_snoc', Dt.mrg_eq, hu i j hi hj, hu i _ hi o1, hu j _ hj o2, hu i _ hi o2, hu j _ hj o1, o3, o4]
              constructor
              · rintro (h | ⟨h1, h2⟩ | ⟨h1, h2⟩)
                · exact .inl h
                · exact .inr (.inl ⟨h1, h2.symm⟩)
                · exact .inr (.inr ⟨h1, h2.symm⟩)
              · rintro (h | ⟨h1, h2⟩ | ⟨h1, h2⟩)
                · exact .inl h
                · exact .inr (.inl ⟨h1, h2.symm⟩)
                · exact .inr (.inr ⟨h1, h2.symm⟩))
          rw [ih2, len_splitG ((wth p ts ins outs).filter fun T => decide (flt ins k T = s)) (fun T : List Int => !decide ((k : Int) ∈ T)), List.filter_filter, List.filter_filter]
          congr 2
          · refine List.filter_congr fun T hT => ?_
            rw [Bool.eq_iff_iff]
            simp only [Bool.and_eq_true, decide_eq_true_eq, Bool.not_eq_true', decide_eq_false_iff_not]
            constructor
            · intro e
              have : (k : Int) ∉ T := fun h => by
                have : (k : Int) ∈ flt ins (k + 1) T := flt_mem.mpr ⟨h, by omega, hi⟩
                rw [e] at this
                have := (hs _ this).1.2
                omega
              exact ⟨this, by rw [← flt_same (.inl this)]; exact e⟩
            · rintro ⟨h1, h2⟩
              rw [flt_same (.inl h1)]; exact h2
          · refine List.filter_congr fun T hT => ?_
            obtain ⟨r1, r2, r3⟩ := trees T hT
            rw [Bool.eq_iff_iff]
            simp only [Bool.and_eq_true, decide_eq_true_eq, Bool.not_not]
            constructor
            · intro e
              have hkT : (k : Int) ∈ T := by
                have : (k : Int) ∈ flt ins (k + 1) T := by rw [e]; simp
                exact (flt_mem.mp this).1
              rw [flt_more r1 hkT hi] at e
              exact ⟨hkT, (List.append_inj' e rfl).1⟩
            · rintro ⟨h1, h2⟩
              rw [flt_more r1 h1 hi, h2]
theorem count_wth (hp : 1 ≤ p) (hE : EndsOk p ts) {ins outs : List Int} (hd : ∀ x ∈ ins, x ∉ outs) (hI : Ind p ts ins) {u : Nat → Nat}
    (hu : ∀ i j : Nat, i ≤ p - 1 → j ≤ p - 1 → (u i = u j ↔ Conn (tiesAt ts ins) i j)) : Dt.Cg (p - 1) u (eds ts outs 0 ts.length) = (wth p ts ins outs).length := by
  have := cg_wth hp hE hd ts.length 0 [] u (by omega) (by rw [List.append_nil]; exact hI) (fun _ h => nomatch h) .nil (by rw [List.append_nil]; exact hu)
  rw [this]
  congr 1
  refine List.filter_eq_self.mpr fun T hT => decide_eq_true ?_
  refine List.eq_nil_iff_forall_not_mem.mpr fun x hx => ?_
  obtain ⟨h1, h2, _⟩ := flt_mem.mp hx
  have := (tree_ind ((wth_mem hp).mp hT).1 hp).inn x h1
  omega
theorem wth_all (p : Nat) (ts : List (Int × Int)) : wth p ts [] [] = trees p ts := by
  unfold wth
  exact List.filter_eq_self.mpr fun T _ => by simp
end
end Lw

namespace Lw
open DL L2 TL
def dO' (l : List Int) : D := .ol (l.map D.int)
def up1 (T : List (List Int)) (a c : Nat) (v : Int) : List (List Int) := T.set a ((rowN T a).set c (ent T a c + v))
theorem up1_sq {n : Nat} {T : List (List Int)} (h : Sq n T) {a : Nat} (ha : a < n) (c : Nat) (v : Int) : Sq n (up1 T a c v) where
  len := by unfold up1; rw [List.length_set, h.len]
  row := fun l hl => by
    unfold up1 at hl
    rcases List.mem_or_eq_of_mem_set hl with hl | rfl
    · exact h.row l hl
    · rw [List.length_set]; exact h.rowl ha
theorem up1_ent {n : Nat} {T : List (List Int)} (h : Sq n T) {a c i j : Nat} (ha : a < n) (hc : c < n) (hi : i < n) (v : Int) : ent (up1 T a c v) i j = ent T i j + if i = a ∧ j = c then v else 0 := by
  unfold ent up1 rowN
  have hr := h.rowl ha
  unfold rowN at hr
  rw [List.getD_eq_getElem?_getD (l := List.set _ _ _)]
  by_cases q : i = a
  · subst q
    rw [List.getElem?_set_self (by rw [h.len]; exact hi)]
    simp only [Option.getD_some]
    rw [List.getD_eq_getElem?_getD (l := List.set _ _ _)]
    by_cases q2 : j = c
    · subst q2
      rw [List.getElem?_set_self (by omega)]
      simp [ent, rowN]
    · rw [List.getElem?_set_ne (fun z => q2 z.symm), if_neg (fun z => q2 z.2), ← List.getD_eq_getElem?_getD]; omega
  · rw [List.getElem?_set_ne (fun z => q z.symm), if_neg (fun z => q z.1), ← List.getD_eq_getElem?_getD]; omega
theorem aug_ok (op : Int → Int → Int) {n : Nat} {T : List (List Int)} (h : Sq n T) (x0 x1 : D) (a b c d : Int) (x5 : D) (k1 k2 : Nat) (hk1 : k1 < n) (hk2 : k2 < n) (hn : n ≤ 1000) (j1 j2 : Nat)
    (h1 : [x0, x1, .ol (T.map dO'), .int a, .int b, x5][j1]? = some (.int (k1 : Int))) (h2 : [x0, x1, .ol (T.map dO'), .int a, .int b, x5][j2]? = some (.int (k2 : Int))) :
    sAug2 op 2 j1 j2 (eC (.int 1)) [x0, x1, .ol (T.map dO'), .int a, .int b, x5] = .nx [x0, x1, .ol ((T.set k1 ((rowN T k1).set k2 (op (ent T k1 k2) 1))).map dO'), .int a, .int b, x5] := by
  have hl := h.len
  have i1 : ixN (T.map dO').length (k1 : Int) = some k1 := by rw [ixN_nat (by omega) (by rw [List.length_map, hl]; omega)]; rfl
  have g1 : (T.map dO')[k1]? = some (.ol ((rowN T k1).map D.int)) := by
    rw [List.getElem?_map, List.getElem?_eq_getElem (by omega)]
    unfold rowN
    rw [List.getD_eq_getElem?_getD, List.getElem?_eq_getElem (by omega)]
    rfl
  have g2 : ((rowN T k1).map D.int)[k2]? = some (.int (ent T k1 k2)) := by
    have hr := h.rowl hk1
    rw [List.getElem?_map, List.getElem?_eq_getElem (by omega)]
    unfold ent
    rw [List.getD_eq_getElem?_getD, List.getElem?_eq_getElem (by omega)]
    rfl
  rw [sAug2_, h1, h2]
  simp only [List.getElem?_cons_succ, List.getElem?_cons_zero, i1, g1]
  rw [if_pos ⟨by omega, by omega⟩]
  have e2 : ((k2 : Int)).toNat = k2 := rfl
  rw [e2, g2]
  simp only [eC_, Res.st_ok, opd_int, List.set_cons_succ, List.set_cons_zero]
  congr 3
  · congr 1
    rw [List.map_set]
    congr 1
    unfold dO'
    rw [List.map_set]
theorem pull_ent (a b i j : Nat) (e : Dt.Ed) (he : e = (a, b)) (hn : a ≠ b) : (if i = a ∧ j = a then (1 : Int) else 0) + (if i = b ∧ j = b then 1 else 0) + (if i = a ∧ j = b then -1 else 0) + (if i = b ∧ j = a then -1 else 0) = Dt.Xm (fun v => v) e i * Dt.xv e j := by
  subst he
  have hn' : ¬ b = a := fun z => hn z.symm
  unfold Dt.Xm Dt.xv Dt.iv
  dsimp only
  by_cases h1 : i = a <;> by_cases h2 : i = b <;> by_cases h3 : j = a <;> by_cases h4 : j = b
  all_goals first
    | (exfalso; omega)
    | (have q1 : ∀ x, (x = i) = (i = x) := fun x => propext ⟨Eq.symm, Eq.symm⟩
       simp only [q1, h1, h2, h3, h4, hn, hn', and_true, and_false, true_and, false_and, if_true, if_false]
       try omega)
theorem pulls_l1 {n : Nat} (hn : n ≤ 1000) (x0 x1 : D) : ∀ (es : List (Int × Int)) (T : List (List Int)) (y3 y4 : D), Sq n T → EndsOk n es →
    ∃ (T' : List (List Int)) (z3 z4 : D), Sq n T' ∧ (∀ i j, i < n → j < n → ent T' i j = ent T i j + Dt.Rw (fun v => v) (es.map tn) i j) ∧
      forL (gtT 2 (gtCons (gtN 3) (gtCons (gtN 4) (gtNil)))) f_pulls_l1 (es.map dP) [x0, x1, .ol (T.map dO'), y3, y4, .un] = .nx [x0, x1, .ol (T'.map dO'), z3, z4, .un] := by
  intro es
  induction es with
  | nil => exact fun T y3 y4 hT _ => ⟨T, y3, y4, hT, fun i j _ _ => by simp [Dt.Rw], by simp [forL]⟩
  | cons e es IH =>
    intro T y3 y4 hT hE
    obtain ⟨⟨a0, a1⟩, b0, b1⟩ := hE e (List.mem_cons_self ..)
    have hE' : EndsOk n es := fun x hx => hE x (List.mem_cons_of_mem _ hx)
    obtain ⟨a, ha⟩ : ∃ a : Nat, e.1 = a := ⟨e.1.toNat, by omega⟩
    obtain ⟨b, hb⟩ : ∃ b : Nat, e.2 = b := ⟨e.2.toNat, by omega⟩
    have te : tn e = (a, b) := by unfold tn; rw [ha, hb]; rfl
    have la : a < n := by omega
    have lb : b < n := by omega
    by_cases c : a = b
    · subst c
      obtain ⟨T', z3, z4, i1, i2, i3⟩ := IH T (.int a) (.int a) hT hE'
      refine ⟨T', z3, z4, i1, fun i j hi hj => ?_, ?_⟩
      · rw [i2 i j hi hj, List.map_cons]
        have : Dt.Xm (fun v => v) (tn e) i = 0 := by unfold Dt.Xm; rw [te]; dsimp only; omega
        simp only [Dt.Rw, this]; omega
      · rw [← i3, List.map_cons, forL_cons]
        simp [f_pulls_l1, dP, ha, hb]
    · have s1 := up1_sq hT la a 1
      have s2 := up1_sq s1 lb b 1
      have s3 := up1_sq s2 la b (-1)
      have s4 := up1_sq s3 lb a (-1)
      obtain ⟨T', z3, z4, i1, i2, i3⟩ := IH _ (.int a) (.int b) s4 hE'
      refine ⟨T', z3, z4, i1, fun i j hi hj => ?_, ?_⟩
      · rw [i2 i j hi hj, up1_ent s3 lb la hi, up1_ent s2 la lb hi, up1_ent s1 lb lb hi, up1_ent hT la la hi, List.map_cons]
        have := pull_ent a b i j (tn e) te c
        simp only [Dt.Rw]
        rw [← this]
        omega
      · rw [← i3, List.map_cons, forL_cons]
        have g1 := aug_ok (fun a b => a + b) hT x0 x1 a b 0 0 .un a a la la hn 3 3 rfl rfl
        have g2 := aug_ok (fun a b => a + b) s1 x0 x1 a b 0 0 .un b b lb lb hn 4 4 rfl rfl
        have g3 := aug_ok (fun a b => a - b) s2 x0 x1 a b 0 0 .un a b la lb hn 3 4 rfl rfl
        have g4 := aug_ok (fun a b => a - b) s3 x0 x1 a b 0 0 .un b a lb la hn 4 3 rfl rfl
        have ne : ¬ (a : Int) = b := by omega
        have q3 : ∀ (M : List (List Int)) (k1 k2 : Nat), M.set k1 ((rowN M k1).set k2 ((fun a b : Int => a - b) (ent M k1 k2) 1)) = up1 M k1 k2 (-1) := fun M k1 k2 => rfl
        have q1 : ∀ (M : List (List Int)) (k1 k2 : Nat), M.set k1 ((rowN M k1).set k2 ((fun a b : Int => a + b) (ent M k1 k2) 1)) = up1 M k1 k2 1 := fun M k1 k2 => rfl
        rw [q1] at g1 g2
        rw [q3] at g3 g4
        simp [f_pulls_l1, dP, ha, hb, ne, g1, g2, g3, g4, -sAug2_]
def zrs (n : Nat) : List (List Int) := List.replicate n (List.replicate n 0)
theorem zrs_sq (n : Nat) : Sq n (zrs n) := ⟨by simp [zrs], fun l hl => by rw [(List.mem_replicate.mp hl).2]; simp⟩
theorem zrs_ent (n : Nat) {i j : Nat} (hi : i < n) (hj : j < n) : ent (zrs n) i j = 0 := by
  unfold ent rowN zrs
  rw [List.getD_eq_getElem?_getD, List.getD_eq_getElem?_getD, List.getElem?_replicate, if_pos hi]
  simp [hj]
theorem pulls_ok {n : Nat} (nn : Int) (hnn : nn = n) (hn : n ≤ 900) (es : List (Int × Int)) (hE : EndsOk n es) : ∃ T : List (List Int), Sq n T ∧ (∀ i j, i < n → j < n → ent T i j = Dt.Rw (fun v => v) (es.map tn) i j) ∧ g_pulls [.int nn, .ls (es.map dP)] = .ok (.ol (T.map dO')) := by
  obtain ⟨T, z3, z4, h1, h2, h3⟩ := pulls_l1 (by omega) (.int nn) (.ls (es.map dP)) es (zrs n) .un .un (zrs_sq n) hE
  refine ⟨T, h1, fun i j hi hj => by rw [h2 i j hi hj, zrs_ent n hi hj]; omega, ?_⟩
  have hr : rgOk nn := rgOk_of (by omega) (by omega)
  have oz : ∀ z : Int, z = n → opMul (.ls [.int 0]) (.int z) = some (.ol ((List.replicate n (0 : Int)).map D.int)) := fun z hz => by
    have e : z.toNat = n := by omega
    have h1 : z < 9223372036854775808 := by omega
    have h2 : -9223372036854775808 ≤ z := by omega
    have h3 : n ≤ lim := by rw [lim_eq]; omega
    have h4 : ∀ m : Nat, (List.replicate m [D.int 0]).flatten = (List.replicate m (0 : Int)).map D.int := by
      intro m
      induction m with
      | zero => rfl
      | succ m ih => simp only [List.replicate_succ, List.flatten_cons, ih, List.map_cons]; rfl
    simp [opMul, h1, h2, h3, h4, e, -List.map_replicate]
  have lc : ∀ x2 x3 x4 x5 : D, lcL (gtN 5) tYesG f_pulls_c1 [.int nn, .ls (es.map dP), x2, x3, x4, x5] ((iota n).map D.int) = .ok ((zrs n).map dO') := fun x2 x3 x4 x5 => by
    have e : (zrs n).map dO' = (iota n).map fun _ => dO' (List.replicate n 0) := by
      unfold zrs
      have hl : (iota n).length = n := by simp [iota]
      apply List.ext_getElem
      · simp [hl]
      · intro i h1 h2; simp
    rw [e]
    refine lcL_mapN _ fun x _ => ?_
    have o := oz nn hnn
    have l1 : 1 ≤ lim := by rw [lim_eq]; omega
    simp [f_pulls_c1, o, l1, dO', -List.map_replicate]
  have b1 : n ≤ lim := by rw [lim_eq]; omega
  have b2 : (zrs n).length ≤ lim := by rw [(zrs_sq n).len]; exact b1
  have et : rng 0 nn.toNat = (iota n).map D.int := by rw [show nn.toNat = n by omega, rng_iota]
  simp [g_pulls, runF, f_pulls, hr, et, lc, b1, h3]
end Lw

namespace Lw
open DL L2 TL
theorem cut_last8 {α : Type} (l : List α) : cut l none (some (-1)) = l.dropLast := by
  rw [List.dropLast_eq_take]
  unfold cut
  have : HT.sIx l.length l.length (some (-1)) = l.length - 1 := by simp [HT.sIx]; omega
  rw [this]
  simp [HT.sIx]
theorem fO (T : List (List Int)) : frzs (T.map dO') = T.map dR ∧ nods (T.map dO') = true := by
  induction T with
  | nil => exact ⟨rfl, rfl⟩
  | cons a T ih => simp only [List.map_cons, frzs_cons, nods, nod, ih.1, ih.2]; exact ⟨by simp [dO', dR], by simp [dO']⟩
theorem without_ok8 {T : List (List Int)} (hl : T.length ≤ 1000) (hr : ∀ l ∈ T, l.length ≤ 1000) : g_without_last [.ls (T.map dR)] = .ok (.ol ((T.dropLast.map List.dropLast).map dO')) := by
  have ct := cut_last8 T
  have b1 : T.dropLast.length ≤ lim := by rw [List.length_dropLast, lim_eq]; omega
  have r1 := bR T.dropLast
  have lc : ∀ x0 : D, lcL (gtN 1) tYesG f_without_last_c1 [x0, .un] (T.dropLast.map dR) = .ok ((T.dropLast.map List.dropLast).map dO') := fun x0 => by
    rw [List.map_map]
    refine lcL_mapN _ fun l hl' => ?_
    have c2 := cut_last8 l
    simp [f_without_last_c1, dR, dO', c2]
  have b2 : T.length - 1 ≤ lim := by rw [lim_eq]; omega
  simp [g_without_last, runF, f_without_last, ct, b1, b2, r1, lc, -List.map_map, -List.length_dropLast, -List.map_dropLast]
theorem drop_sq {n : Nat} {T : List (List Int)} (h : Sq (n + 1) T) : Sq n (T.dropLast.map List.dropLast) where
  len := by rw [List.length_map, List.length_dropLast, h.len]; rfl
  row := fun l hl => by
    obtain ⟨m, hm, rfl⟩ := List.mem_map.mp hl
    rw [List.length_dropLast, h.row m (List.dropLast_sublist _ |>.subset hm)]; rfl
theorem drop_ent {n : Nat} {T : List (List Int)} (h : Sq (n + 1) T) {i j : Nat} (hi : i < n) (hj : j < n) : ent (T.dropLast.map List.dropLast) i j = ent T i j := by
  have hl := h.len
  have hr := h.rowl (r := i) (by omega)
  unfold ent
  have e : rowN (T.dropLast.map List.dropLast) i = (rowN T i).dropLast := by
    unfold rowN
    rw [List.getD_eq_getElem?_getD, List.getElem?_map, List.dropLast_eq_take, List.getElem?_take_of_lt (by omega), List.getElem?_eq_getElem (by omega), List.getD_eq_getElem?_getD, List.getElem?_eq_getElem (by omega)]
    rfl
  rw [e, List.getD_eq_getElem?_getD, List.dropLast_eq_take, List.getElem?_take_of_lt (by omega), List.getD_eq_getElem?_getD]
theorem Rw_abs (m : Nat → Nat) (i j : Nat) : ∀ es : List Dt.Ed, (Dt.Rw m es i j).natAbs ≤ es.length
  | [] => by simp [Dt.Rw]
  | e :: es => by
    have ih := Rw_abs m i j es
    have h1 : (Dt.Xm m e i * Dt.xv e j).natAbs ≤ 1 := by
      rw [Int.natAbs_mul]
      have a : (Dt.Xm m e i).natAbs ≤ 1 := by unfold Dt.Xm Dt.iv; split <;> split <;> simp
      have b : (Dt.xv e j).natAbs ≤ 1 := by unfold Dt.xv Dt.iv; split <;> split <;> simp
      exact Nat.mul_le_mul a b
    have := Int.natAbs_add_le (Dt.Xm m e i * Dt.xv e j) (Dt.Rw m es i j)
    simp only [Dt.Rw, List.length_cons]
    omega
theorem fac64 : Dt.fac 14 * 64 ^ 14 < 2 ^ 9000 := by decide +kernel
theorem pulls_det {p : Nat} (hp : 1 ≤ p) (hp2 : p ≤ 15) (nn : Int) (hnn : nn = p) (es : List (Int × Int)) (hE : EndsOk p es) (hl : es.length ≤ 64) :
    ∃ T : List (List Int), g_pulls [.int nn, .ls (es.map dP)] = .ok (.ol (T.map dO')) ∧ g_without_last [.ls (T.map dR)] = .ok (.ol ((T.dropLast.map List.dropLast).map dO')) ∧
      g_determinant [.ls ((T.dropLast.map List.dropLast).map dR)] = .ok (.int (Dt.Cg (p - 1) (fun v => v) (es.map tn))) := by
  obtain ⟨T, h1, h2, h3⟩ := pulls_ok nn hnn (by omega) es hE
  obtain ⟨n, rfl⟩ : ∃ n, p = n + 1 := ⟨p - 1, by omega⟩
  refine ⟨T, h3, without_ok8 (by rw [h1.len]; omega) (fun l hl' => by rw [h1.row l hl']; omega), ?_⟩
  have hb : Dt.fac n * 64 ^ n < 2 ^ 9000 := Nat.lt_of_le_of_lt (fac_mono 64 (by decide) (by omega)) fac64
  rw [determinant_ok (by omega) (drop_sq h1) 64 (by decide) hb fun r c hr hc => by
    rw [drop_ent h1 hr hc, h2 r c (by omega) (by omega)]
    refine Nat.le_trans (Rw_abs _ r c _) ?_
    rw [List.length_map]; exact hl]
  have ok : Dt.EdOk n (es.map tn) := fun e he => by
    obtain ⟨t, ht, rfl⟩ := List.mem_map.mp he
    obtain ⟨⟨a0, a1⟩, b0, b1⟩ := hE t ht
    unfold tn; dsimp only; omega
  have L : Dt.Lab n (fun v => v) := ⟨fun _ h => h, fun _ _ => rfl, rfl⟩
  have := Dt.D_count (es.map tn) ok L
  rw [show n + 1 - 1 = n from rfl, ← this]
  congr 2
  unfold Dt.D
  refine Dt.det_congr fun r j hr _ hj => ?_
  rw [drop_ent h1 hr (by omega), h2 r j (by omega) (by omega)]
  unfold Dt.Mat
  rw [if_pos rfl]
theorem eds_all (ts : List (Int × Int)) : ∀ (d k : Nat), k + d = ts.length → eds ts [] k d = (ts.drop k).map tn
  | 0, k, h => by rw [List.drop_eq_nil_of_le (by omega)]; rfl
  | d + 1, k, h => by
    unfold eds
    rw [if_neg (by simp), eds_all ts d (k + 1) (by omega), List.drop_eq_getElem_cons (by omega : k < ts.length), List.map_cons]
    congr 1
    unfold tieAt
    simp [List.getElem?_eq_getElem (show k < ts.length by omega)]
theorem tree_count_ok {p : Nat} (hp : 1 ≤ p) (hp2 : p ≤ 15) (ts : List (Int × Int)) (hE : EndsOk p ts) (hl : ts.length ≤ 64) :
    g_tree_count [.ob 14 [.int p, .ls (ts.map dP)]] = .ok (.int (trees p ts).length) := by
  obtain ⟨T, h1, h2, h3⟩ := pulls_det hp hp2 p rfl ts hE hl
  have hc : Dt.Cg (p - 1) (fun v => v) (ts.map tn) = (trees p ts).length := by
    have := count_wth hp hE (ins := []) (outs := []) (fun _ h => nomatch h) (ind_nil p ts) (u := fun v => v) (fun i j _ _ => ⟨fun h => by rw [h]; exact .refl _, fun h => by have := conn_nil h; omega⟩)
    rw [eds_all ts ts.length 0 (by omega), wth_all] at this
    exact this
  rw [hc] at h3
  have f1 := fO T
  have f2 := fO (T.dropLast.map List.dropLast)
  generalize hP : (p : Int) = pp at *
  have g1 : g_pull_table [.ob 14 [.int pp, .ls (ts.map dP)]] = .ok (.ol (T.map dO')) := by
    simp [g_pull_table, runF, f_pull_table, h1]
  simp [g_tree_count, runF, f_tree_count, g1, f1, f2, h2, h3, -List.map_map, -List.map_dropLast]
end Lw

namespace Lw
open DL L2
structure Canon (p : Nat) (m : List Int) : Prop where
  len : m.length = p
  le : ∀ i : Int, 0 ≤ i → i < p → 0 ≤ nth m i ∧ nth m i ≤ i ∧ nth m (nth m i) = nth m i
def piece (p : Nat) (m : List Int) (k : Int) : List Int := (iota p).filter fun i => decide (nth m i = k)
def pieces (p : Nat) (m : List Int) : List (List Int) := (sset m).map (piece p m)
theorem pieces_c3 (p : Int) (ts : List (Int × Int)) (h1 : 1 ≤ p) (h2 : p ≤ 1000) (x1 : D) (m : List Int) (hm : m.length = p.toNat) (k : Int) :
    (f_pieces_of_c3 [.ob 14 [.int p, .ls (ts.map dP)], x1, .ls (m.map D.int), .int k, .un]).bind kp = .ok (.ol ((piece p.toNat m k).map D.int)) := by
  have hr : rgOk p := rgOk_of (by omega) (by omega)
  have b : p.toNat ≤ lim := by rw [lim_eq]; omega
  have lc : lcL (gtN 4) f_pieces_of_c1t f_pieces_of_c1 [.ob 14 [.int p, .ls (ts.map dP)], x1, .ls (m.map D.int), .int k, .un] ((iota p.toNat).map D.int) = .ok ((piece p.toNat m k).map D.int) := by
    refine lcL_filterN (iota p.toNat) fun i hi => ?_
    obtain ⟨i0, i1⟩ := iota_mem.mp hi
    have ea := nth_at (m := m) i0 (by omega)
    exact ⟨by simp [f_pieces_of_c1t, ea], fun _ => by simp [f_pieces_of_c1]⟩
  simp [f_pieces_of_c3, hr, rng_iota, lc, b]
theorem pieces_ok {o : D} (p : Int) (ts : List (Int × Int)) (hE : EndsOk p ts) (h1 : 1 ≤ p) (h2 : p ≤ 60) (l : List Int) (ho : o = .ls (l.map D.int) ∨ o = .tp (l.map D.int)) :
    g_pieces_of [.ob 14 [.int p, .ls (ts.map dP)], o] = if goodB ts.length l = true then .ok (.ol ((pieces p.toNat (marksM p.toNat ts l)).map fun l => .ol (l.map D.int))) else .xc 2 := by
  have ms1 := made_set_ls p ts l
  have ms2 := made_set_tp p ts l
  by_cases h : goodB ts.length l = true
  · rw [if_pos h] at ms1 ms2 ⊢
    have mo := marks_ok_tp p ts hE h1 (by omega) l (good_in h)
    have ml : (marksM p.toNat ts l).length = p.toNat := marksM_len ..
    have lc : ∀ x1 : D, lcL (gtN 3) tYesG f_pieces_of_c3 [.ob 14 [.int p, .ls (ts.map dP)], x1, .ls ((marksM p.toNat ts l).map D.int), .un, .un] ((sset (marksM p.toNat ts l)).map D.int) = .ok ((sset (marksM p.toNat ts l)).map fun k => .ol ((piece p.toNat (marksM p.toNat ts l) k).map D.int)) := fun x1 =>
      lcL_mapN _ fun k _ => pieces_c3 p ts h1 (by omega) x1 _ ml k
    have b1 : p.toNat < 64 := by omega
    have b2 : (sset (marksM p.toNat ts l)).length ≤ lim := by
      have := nodup_le (m := marksM p.toNat ts l) (rise_nodup (sset_rise (marksM p.toNat ts l))) fun x hx => (sset_mem x _).mp hx
      rw [lim_eq]; omega
    have e : (pieces p.toNat (marksM p.toNat ts l)).map (fun l => D.ol (l.map D.int)) = (sset (marksM p.toNat ts l)).map fun k => .ol ((piece p.toNat (marksM p.toNat ts l) k).map D.int) := by
      unfold pieces; rw [List.map_map]; rfl
    rw [e]
    rcases ho with rfl | rfl <;> simp [g_pieces_of, runF, f_pieces_of, ms1, ms2, mo, ml, lc, b1, b2]
  · rw [if_neg h] at ms1 ms2 ⊢
    rcases ho with rfl | rfl <;> simp [g_pieces_of, runF, f_pieces_of, ms1, ms2]
section
variable (L : List (List Int))
@[simp] theorem brws_OO : brws (L.map fun l => D.ol (l.map D.int)) = L.map fun l => .bo (l.map D.int) := by induction L <;> simp [*]
@[simp] theorem frzs_OO : frzs (L.map fun l => D.ol (l.map D.int)) = L.map fun l => .ls (l.map D.int) := by induction L <;> simp [*]
@[simp] theorem nods_OO : nods (L.map fun l => D.ol (l.map D.int)) = true := by induction L <;> simp [*]
@[simp] theorem shd_LL : shd (L.map fun l => D.ls (l.map D.int)) = true := by induction L <;> simp [*]
@[simp] theorem brws_LL : brws (L.map fun l => D.ls (l.map D.int)) = L.map fun l => .ls (l.map D.int) := by induction L <;> simp [*]
@[simp] theorem frzs_LL : frzs (L.map fun l => D.ls (l.map D.int)) = L.map fun l => .ls (l.map D.int) := by induction L <;> simp [*]
@[simp] theorem nods_LL : nods (L.map fun l => D.ls (l.map D.int)) = true := by induction L <;> simp [*]
theorem toPys_BB : toPys (L.map fun l => D.bo (l.map D.int)) = toPys (L.map fun l => D.ls (l.map D.int)) := by
  induction L with
  | nil => rfl
  | cons a L ih => simp [toPys, toPy_bo, ih]
end
@[simp] theorem pyEq_LL (L M : List (List Int)) : pyEq (.ls (L.map fun l => .ls (l.map D.int))) (.ls (M.map fun l => .ls (l.map D.int))) = some (decide (L = M)) := enc_int.ls.ls.eq (by omega) L M
@[simp] theorem pyEq_BL (L M : List (List Int)) : pyEq (.ls (L.map fun l => .bo (l.map D.int))) (.ls (M.map fun l => .ls (l.map D.int))) = some (decide (L = M)) := by
  rw [← pyEq_LL]
  simp [pyEq, toPy, toPys_BB]
end Lw

namespace Lw
open DL L2 TL
theorem valG_put {β : Type} (k j : Int) (v : β) : ∀ l : List (Int × β), valG (putG l k v) j = if j = k then some v else valG l j := by
  intro l
  unfold putG
  by_cases h : (l.any fun kv => decide (kv.1 = k)) = true
  · rw [if_pos h]
    induction l with
    | nil => simp at h
    | cons a l ih =>
      unfold valG at ih ⊢
      by_cases q : a.1 = k
      · by_cases z : j = k
        · rw [List.map_cons, if_pos q, List.find?_cons_of_pos (by simp [q, z]), if_pos z]; rfl
        · have e : ∀ l : List (Int × β), List.find? (fun kv => decide (kv.1 = j)) (l.map fun kv => if kv.1 = k then (kv.1, v) else kv) = List.find? (fun kv => decide (kv.1 = j)) l := by
            intro l
            induction l with
            | nil => rfl
            | cons b l ih2 =>
              rw [List.map_cons]
              by_cases w : b.1 = k
              · rw [if_pos w, List.find?_cons_of_neg (by simp [w]; exact fun y => z y.symm), List.find?_cons_of_neg (by simp [w]; exact fun y => z y.symm), ih2]
              · rw [if_neg w]
                by_cases w2 : b.1 = j
                · rw [List.find?_cons_of_pos (by simp [w2]), List.find?_cons_of_pos (by simp [w2])]
                · rw [List.find?_cons_of_neg (by simp [w2]), List.find?_cons_of_neg (by simp [w2]), ih2]
          rw [if_neg z, e]
      · have h' : (l.any fun kv => decide (kv.1 = k)) = true := by simpa [q] using h
        have ih := ih h'
        rw [List.map_cons, if_neg q]
        by_cases w : a.1 = j
        · rw [List.find?_cons_of_pos (by simp [w]), List.find?_cons_of_pos (by simp [w]), if_neg (fun z => q (w.trans z))]
        · rw [List.find?_cons_of_neg (by simp [w]), List.find?_cons_of_neg (by simp [w])]; exact ih
  · rw [if_neg h]
    have hn : ∀ a ∈ l, a.1 ≠ k := fun a ha e => h (List.any_eq_true.mpr ⟨a, ha, by simpa using e⟩)
    clear h
    induction l with
    | nil =>
      unfold valG
      by_cases z : j = k
      · rw [if_pos z]; simp [z]
      · rw [if_neg z]
        have : ¬ k = j := fun y => z y.symm
        simp [this]
    | cons a l ih =>
      have q := hn a (List.mem_cons_self ..)
      have ih := ih fun b hb => hn b (List.mem_cons_of_mem _ hb)
      unfold valG at ih ⊢
      rw [List.cons_append]
      by_cases w : a.1 = j
      · rw [List.find?_cons_of_pos (by simp [w]), List.find?_cons_of_pos (by simp [w]), if_neg (fun z => q (w.trans z))]
      · rw [List.find?_cons_of_neg (by simp [w]), List.find?_cons_of_neg (by simp [w])]; exact ih
theorem putG_len {β : Type} (l : List (Int × β)) (k : Int) (v : β) : (putG l k v).length ≤ l.length + 1 := by
  unfold putG; split <;> simp
def IntD (A : List (Int × D)) : Prop := ∀ x ∈ A, ∃ n : Int, x.2 = .int n
theorem IntD.put {A : List (Int × D)} (h : IntD A) (k n : Int) : IntD (putG A k (.int n)) := fun x hx => by
  unfold putG at hx
  split at hx
  · obtain ⟨y, hy, rfl⟩ := List.mem_map.mp hx
    by_cases q : y.1 = k
    · rw [if_pos q]; exact ⟨n, rfl⟩
    · rw [if_neg q]; exact h y hy
  · rcases List.mem_append.mp hx with hx | hx
    · exact h x hx
    · rw [List.mem_singleton.mp hx]; exact ⟨n, rfl⟩
theorem IntD.all {A : List (Int × D)} (h : IntD A) : ((ddV A).all fun d => !own1 d) = true ∧ brws (ddV A) = ddV A := by
  induction A with
  | nil => exact ⟨rfl, rfl⟩
  | cons a A ih =>
    obtain ⟨n, e⟩ := h a (List.mem_cons_self ..)
    obtain ⟨i1, i2⟩ := ih fun x hx => h x (List.mem_cons_of_mem _ hx)
    unfold ddV at *
    simp only [List.map_cons, List.all_cons, e, i1, brws_cons, i2]
    exact ⟨rfl, rfl⟩
theorem cw_l1 (x0 x1 x2 x3 x4 x5 x8 x10 x11 x12 : D) (k : Int) : ∀ (P : List Int) (A : List (Int × D)) (y9 : D), IntD A → A.length + P.length ≤ 5000 →
    ∃ (A' : List (Int × D)) (z9 : D), IntD A' ∧ A'.length ≤ A.length + P.length ∧ (∀ j, valG A' j = if j ∈ P then some (.int k) else valG A j) ∧
      forL (gtN 9) f_count_with_l1 (P.map D.int) [x0, x1, x2, x3, x4, x5, .od (ddK A) (ddV A), .int k, x8, y9, x10, x11, x12] = .nx [x0, x1, x2, x3, x4, x5, .od (ddK A') (ddV A'), .int k, x8, z9, x10, x11, x12] := by
  intro P
  induction P with
  | nil => exact fun A y9 hA _ => ⟨A, y9, hA, by simp, fun j => by simp, by simp [forL]⟩
  | cons o P IH =>
    intro A y9 hA hl
    simp only [List.length_cons] at hl
    have pl := putG_len A o (D.int k)
    obtain ⟨A', z9, i1, i2, i3, i4⟩ := IH (putG A o (.int k)) (.int o) (hA.put o k) (by omega)
    refine ⟨A', z9, i1, by simp; omega, fun j => ?_, ?_⟩
    · rw [i3 j, valG_put]
      by_cases q : j ∈ P
      · rw [if_pos q, if_pos (List.mem_cons_of_mem _ q)]
      · rw [if_neg q]
        by_cases q2 : j = o
        · rw [if_pos q2, if_pos (by rw [q2]; exact List.mem_cons_self ..)]
        · rw [if_neg q2, if_neg (by simp [q, q2])]
    · rw [← i4, List.map_cons, forL_cons]
      obtain ⟨a1, a2⟩ := hA.all
      have kl : (ddK A).length < lim := by unfold ddK; rw [List.length_map, lim_eq]; omega
      have pk := putD_k A o (.int k)
      have pd := putD_d A o (.int k)
      rw [← pk, ← pd]
      simp [f_count_with_l1, a1, kl]
theorem cw_l2 (x0 x1 x2 x3 x4 x5 x10 x11 x12 : D) (p : Nat) (hp2 : p ≤ 60) (m : List Int) : ∀ (S : List Int) (kn : Nat) (A : List (Int × D)) (y7 y8 y9 : D), S.Nodup → IntD A → A.length + 60 * S.length ≤ 4000 →
    ∃ (A' : List (Int × D)) (z7 z8 z9 : D), IntD A' ∧ (∀ j, valG A' j = if (0 ≤ j ∧ j < p) ∧ nth m j ∈ S then some (.int ((kn + S.idxOf (nth m j) : Nat) : Int)) else valG A j) ∧
      forL (gtT 2 (gtCons (gtN 7) (gtCons (gtN 8) (gtNil)))) f_count_with_l2 (enm kn ((S.map (piece p m)).map dR)) [x0, x1, x2, x3, x4, x5, .od (ddK A) (ddV A), y7, y8, y9, x10, x11, x12] = .nx [x0, x1, x2, x3, x4, x5, .od (ddK A') (ddV A'), z7, z8, z9, x10, x11, x12] := by
  intro S
  induction S with
  | nil => exact fun kn A y7 y8 y9 _ hA _ => ⟨A, y7, y8, y9, hA, fun j => by rw [if_neg (by simp)], by simp [enm, forL]⟩
  | cons x S IH =>
    intro kn A y7 y8 y9 nd hA hl
    obtain ⟨nx, nd'⟩ := List.nodup_cons.mp nd
    simp only [List.length_cons] at hl
    have pl : (piece p m x).length ≤ p := by
      unfold piece
      have := List.length_filter_le (fun i => decide (nth m i = x)) (iota p)
      simpa using this
    have pm : ∀ j, j ∈ piece p m x ↔ (0 ≤ j ∧ j < p) ∧ nth m j = x := fun j => by unfold piece; rw [List.mem_filter, iota_mem, decide_eq_true_eq]
    obtain ⟨A1, w9, h1, h2, h3, h4⟩ := cw_l1 x0 x1 x2 x3 x4 x5 (dR (piece p m x)) x10 x11 x12 (kn : Int) (piece p m x) A y9 hA (by omega)
    obtain ⟨A', z7, z8, z9, i1, i2, i3⟩ := IH (kn + 1) A1 (.int kn) (dR (piece p m x)) w9 nd' h1 (by omega)
    refine ⟨A', z7, z8, z9, i1, fun j => ?_, ?_⟩
    · rw [i2 j, h3 j]
      by_cases r : 0 ≤ j ∧ j < p
      · by_cases q : nth m j ∈ S
        · rw [if_pos ⟨r, q⟩, if_pos ⟨r, List.mem_cons_of_mem _ q⟩]
          have ne : ¬ x = nth m j := fun e => nx (e ▸ q)
          rw [List.idxOf_cons]
          have : (x == nth m j) = false := by simp [ne]
          rw [this]
          simp only [cond_false]
          congr 3
          omega
        · rw [if_neg (fun z => q z.2)]
          by_cases q2 : nth m j = x
          · rw [if_pos ((pm j).mpr ⟨r, q2⟩), if_pos ⟨r, by rw [q2]; exact List.mem_cons_self ..⟩, q2, List.idxOf_cons]
            simp
          · rw [if_neg (fun z => q2 ((pm j).mp z).2), if_neg (fun z => by rcases List.mem_cons.mp z.2 with z | z; exact q2 z; exact q z)]
      · rw [if_neg (fun z => r z.1), if_neg (fun z => r ((pm j).mp z).1), if_neg (fun z => r z.1)]
    · rw [← i3, List.map_cons, List.map_cons, enm, forL_cons]
      generalize hkn : ((kn : Nat) : Int) = kk at *
      simp only [dR] at h4 ⊢
      simp [f_count_with_l2, h4]
def plc (m : List Int) (i : Nat) : Nat := (sset m).idxOf (nth m i)
def tsP (m : List Int) (ts : List (Int × Int)) (outs : List Int) : List (Int × Int) := ((iota ts.length).filter fun i => !decide (i ∈ outs)).map fun i => (((plc m (tn (tieAt ts i)).1 : Nat) : Int), ((plc m (tn (tieAt ts i)).2 : Nat) : Int))
theorem tsP_eds (m : List Int) (ts : List (Int × Int)) (outs : List Int) : (tsP m ts outs).map tn = (eds ts outs 0 ts.length).map fun e => (plc m e.1, plc m e.2) := by
  have key : ∀ d k, eds ts outs k d = ((((List.range d).map fun i : Nat => ((k + i : Nat) : Int)).filter fun i => !decide (i ∈ outs)).map fun i => tn (tieAt ts i)) := by
    intro d
    induction d with
    | zero => intro k; rfl
    | succ d ih =>
      intro k
      rw [List.range_succ_eq_map, List.map_cons, List.map_map]
      have e : (fun i : Nat => ((k + i : Nat) : Int)) ∘ Nat.succ = fun i : Nat => ((k + 1 + i : Nat) : Int) := by funext i; simp; omega
      rw [e]
      unfold eds
      by_cases h : ((k : Nat) : Int) ∈ outs
      · rw [if_pos h, ih (k + 1), List.filter_cons_of_neg (by simpa using h)]
      · rw [if_neg h, ih (k + 1), List.filter_cons_of_pos (by simpa using h)]; rfl
  rw [key, List.map_map]
  unfold tsP
  rw [List.map_map]
  have : (List.range ts.length).map (fun i : Nat => ((0 + i : Nat) : Int)) = iota ts.length := by unfold iota; simp
  rw [this]
  refine List.map_congr_left fun i _ => ?_
  show tn (((plc m (tn (tieAt ts i)).1 : Nat) : Int), ((plc m (tn (tieAt ts i)).2 : Nat) : Int)) = _
  unfold tn
  rfl
theorem nods_b9 (bs : List Bool) : nods (bs.map D.bl) = true ∧ frzs (bs.map D.bl) = bs.map D.bl := by
  induction bs with
  | nil => exact ⟨rfl, rfl⟩
  | cons b bs ih => simp [ih]
theorem caAny_b9 (bs : List Bool) : caAny [.ls (bs.map D.bl)] = some (.bl (bs.any id)) := by
  have : ∀ bs : List Bool, blsOf (bs.map D.bl) = some bs := fun bs => by induction bs with
    | nil => rfl
    | cons b bs ih => simp [blsOf, ih]
  simp [caAny, this]
theorem made_LT9 {p : Nat} {ts : List (Int × Int)} {o : D} (l : List Int) (ho : LT o l) (h : goodB ts.length l = true) : g_made_set [.ob 14 [.int p, .ls (ts.map dP)], o] = .ok (.tp (l.map D.int)) := by
  rcases ho with rfl | rfl
  · rw [made_set_ls, if_pos h]
  · rw [made_set_tp, if_pos h]
theorem idxOf_inj {l : List Int} {x y : Int} (hx : x ∈ l) (hy : y ∈ l) (h : l.idxOf x = l.idxOf y) : x = y := by
  have h1 := List.getElem_idxOf (List.idxOf_lt_length_of_mem hx)
  have h2 := List.getElem_idxOf (List.idxOf_lt_length_of_mem hy)
  rw [← h1, ← h2]
  simp only [h]
theorem count_with_ok {p : Nat} (hp : 1 ≤ p) (hp2 : p ≤ 15) (ts : List (Int × Int)) (hE : EndsOk p ts) (ht : ts.length ≤ 64) {o o2 : D} (ins outs : List Int) (ho : LT o ins) (ho2 : LT o2 outs) (h1 : goodB ts.length ins = true) (h2 : goodB ts.length outs = true) :
    g_count_with [.ob 14 [.int p, .ls (ts.map dP)], o, o2] = .ok (.int (wth p ts ins outs).length) := by
  have hin := good_in h1
  have nd := good_nodup h1
  have li : ins.length ≤ 64 := by
    have : ins.length ≤ (iota ts.length).length := nodup_le nd fun x hx => iota_mem.mpr (hin x hx)
    rw [show (iota ts.length).length = ts.length by simp [iota]] at this
    omega
  have m1 := made_LT9 (p := p) ins ho h1
  have m2 := made_LT9 (p := p) outs ho2 h2
  have pk := pieces_ok p ts hE (by omega) (by omega) ins (.inr rfl)
  rw [if_pos h1, show (p : Int).toNat = p from rfl] at pk
  generalize hm : marksM p ts ins = m at pk
  have ml : m.length = p := by rw [← hm]; exact marksM_len ..
  have pk' : g_pieces_of [.ob 14 [.int p, .ls (ts.map dP)], .tp (ins.map D.int)] = .ok (.ol ((pieces p m).map dO')) := pk
  have hq : (pieces p m).length = (sset m).length := by unfold pieces; rw [List.length_map]
  have hc := cntM p ts hE ins hin
  rw [hm] at hc
  have hcl := cnt_lo p ins.length (tiesAt ts ins) (by simp [tiesAt]) (tiesAt_ok hE hin)
  have hcp := cnt_pos hp (tiesAt ts ins)
  have hcu : (sset m).length ≤ p := by
    rw [hc]
    have := cnt_le (p := p) (es := []) (fs := tiesAt ts ins) (fun _ h => nomatch h) (tiesAt_ok hE hin) (fun _ h => nomatch h)
    rw [cnt_nil] at this
    exact this
  have fp := fO (pieces p m)
  have rp := bR (pieces p m)
  have wnil : ¬ Ind p ts ins → wth p ts ins outs = [] := fun h => List.eq_nil_iff_forall_not_mem.mpr fun T hT => by
    obtain ⟨t1, t2, _⟩ := (wth_mem hp).mp hT
    exact h ((tree_ind t1 hp).sub hE nd t2)
  by_cases c : (ins.length : Int) = (p : Int) - ((sset m).length : Int)
  · have hI : Ind p ts ins := ⟨nd, hin, by omega⟩
    have lcA : ∀ x1 x2 x5 x6 x7 x8 x9 x10 x12 : D, lcL (gtN 11) tYesG f_count_with_c1 [.ob 14 [.int p, .ls (ts.map dP)], x1, x2, .tp (ins.map D.int), .tp (outs.map D.int), x5, x6, x7, x8, x9, x10, .un, x12] (ins.map D.int) = .ok ((ins.map fun t => decide (t ∈ outs)).map D.bl) := fun x1 x2 x5 x6 x7 x8 x9 x10 x12 => by
      rw [List.map_map]
      refine lcL_mapN _ fun x _ => ?_
      simp [f_count_with_c1]
    have n1 := nods_b9 (ins.map fun t => decide (t ∈ outs))
    have ca : caAny [.ls ((ins.map fun t => decide (t ∈ outs)).map D.bl)] = some (.bl (ins.any fun t => decide (t ∈ outs))) := by rw [caAny_b9]; simp
    have bi : ins.length ≤ lim := by rw [lim_eq]; omega
    cases sh : ins.any fun t => decide (t ∈ outs) with
    | true =>
      rw [sh] at ca
      have w0 : wth p ts ins outs = [] := List.eq_nil_iff_forall_not_mem.mpr fun T hT => by
        obtain ⟨_, t2, t3⟩ := (wth_mem hp).mp hT
        obtain ⟨x, q1, q2⟩ := List.any_eq_true.mp sh
        exact t3 x (of_decide_eq_true q2) (t2 x q1)
      rw [w0]
      rcases ho with rfl | rfl <;> rcases ho2 with rfl | rfl <;> simp [g_count_with, runF, f_count_with, m1, m2, pk', fp, hq, c, lcA, n1, ca, bi, -List.map_map]
    | false =>
      rw [sh] at ca
      have hd : ∀ x ∈ ins, x ∉ outs := fun x hx hy => by
        have : (ins.any fun t => decide (t ∈ outs)) = true := List.any_eq_true.mpr ⟨x, hx, by simpa using hy⟩
        rw [sh] at this; cases this
      have key : ∀ x1 x2 x10 x11 x12 : D, ∃ (A' : List (Int × D)) (z7 z8 z9 : D), IntD A' ∧ (∀ j, valG A' j = if (0 ≤ j ∧ j < p) ∧ nth m j ∈ sset m then some (.int ((0 + (sset m).idxOf (nth m j) : Nat) : Int)) else valG [] j) ∧
          forL (gtT 2 (gtCons (gtN 7) (gtCons (gtN 8) (gtNil)))) f_count_with_l2 (enm 0 ((pieces p m).map dR)) [.ob 14 [.int p, .ls (ts.map dP)], x1, x2, .tp (ins.map D.int), .tp (outs.map D.int), .ls ((pieces p m).map dR), .od [] [], .un, .un, .un, x10, x11, x12] = .nx [.ob 14 [.int p, .ls (ts.map dP)], x1, x2, .tp (ins.map D.int), .tp (outs.map D.int), .ls ((pieces p m).map dR), .od (ddK A') (ddV A'), z7, z8, z9, x10, x11, x12] := fun x1 x2 x10 x11 x12 =>
        cw_l2 _ x1 x2 _ _ _ x10 x11 x12 p (by omega) m (sset m) 0 [] .un .un .un (rise_nodup (sset_rise m)) (fun _ h => nomatch h) (by simp; omega)
      obtain ⟨A', z7, z8, z9, k1, k2, k3⟩ := key o o2 .un .un .un
      have plcv : ∀ a : Int, 0 ≤ a → a < p → valG A' a = some (.int ((plc m a.toNat : Nat) : Int)) := fun a a0 a1 => by
        have hmem : nth m a ∈ sset m := (sset_mem _ _).mpr (nth_mem a0 (by omega))
        rw [k2 a, if_pos ⟨⟨a0, a1⟩, hmem⟩]
        unfold plc
        rw [Int.toNat_of_nonneg a0, Nat.zero_add]
      have plt : ∀ i : Nat, i < p → plc m i < (sset m).length := fun i hi => by
        unfold plc
        exact List.idxOf_lt_length_of_mem ((sset_mem _ _).mpr (nth_mem (by omega) (by omega)))
      have bw := k1.all.2
      have l2 : 2 ≤ lim := by rw [lim_eq]; omega
      have lcT : ∀ x1 x2 x10 x11 x12 : D, lcL (gtT 2 (gtCons (gtN 11) (gtCons (gtN 12) (gtNil)))) f_count_with_c4t f_count_with_c4 [.ob 14 [.int p, .ls (ts.map dP)], x1, x2, .tp (ins.map D.int), .tp (outs.map D.int), .ls ((pieces p m).map dR), .od (ddK A') (ddV A'), z7, z8, z9, x10, x11, x12] (enm 0 (ts.map dP)) = .ok ((tsP m ts outs).map dP) := fun x1 x2 x10 x11 x12 => by
        rw [enm_iota]
        unfold tsP
        rw [List.map_map]
        refine lcL_filter _ fun i hi => ?_
        obtain ⟨i0, i1⟩ := iota_mem.mp hi
        obtain ⟨_, e2⟩ := tie_at i0 i1
        obtain ⟨⟨a0, a1⟩, b0, b1⟩ := hE _ e2
        have va := plcv _ a0 a1
        have vb := plcv _ b0 b1
        have da : opDG (.bd (ddK A') (ddV A')) (.int (tieAt ts i).1) = some (.int ((plc m (tieAt ts i).1.toNat : Nat) : Int)) := by rw [opDG_dd, va]
        have db : opDG (.bd (ddK A') (ddV A')) (.int (tieAt ts i).2) = some (.int ((plc m (tieAt ts i).2.toNat : Nat) : Int)) := by rw [opDG_dd, vb]
        refine ⟨[.ob 14 [.int p, .ls (ts.map dP)], x1, x2, .tp (ins.map D.int), .tp (outs.map D.int), .ls ((pieces p m).map dR), .od (ddK A') (ddV A'), z7, z8, z9, x10, .int i, dP (tieAt ts i)], by simp, by simp [f_count_with_c4t], fun _ => ?_⟩
        simp [f_count_with_c4, dP, bw, da, db, l2, tn]
      have hEq : EndsOk ((sset m).length : Int) (tsP m ts outs) := fun t htm => by
        unfold tsP at htm
        obtain ⟨i, hi, rfl⟩ := List.mem_map.mp htm
        obtain ⟨i0, i1⟩ := iota_mem.mp (List.mem_filter.mp hi).1
        obtain ⟨_, e2⟩ := tie_at i0 i1
        obtain ⟨⟨a0, a1⟩, b0, b1⟩ := hE _ e2
        have q1 := plt (tn (tieAt ts i)).1 (by unfold tn; dsimp only; omega)
        have q2 := plt (tn (tieAt ts i)).2 (by unfold tn; dsimp only; omega)
        dsimp only
        omega
      have hlt : (tsP m ts outs).length ≤ ts.length := by
        unfold tsP
        rw [List.length_map]
        have := List.length_filter_le (fun i => !decide (i ∈ outs)) (iota ts.length)
        rw [show (iota ts.length).length = ts.length by simp [iota]] at this
        exact this
      obtain ⟨T, p1, p2, p3⟩ := pulls_det (p := (sset m).length) (by rw [hc]; exact hcp) (by omega) ((sset m).length : Int) rfl (tsP m ts outs) hEq (by omega)
      have cg : Dt.Cg ((sset m).length - 1) (fun v => v) ((tsP m ts outs).map tn) = (wth p ts ins outs).length := by
        rw [tsP_eds, Dt.Cg_map (n := p - 1) (k := (sset m).length - 1) (π := plc m) (fun i hi => by have := plt i (by omega); omega) (fun j hj => by
          have hjl : j < (sset m).length := by rw [hc] at *; omega
          have hmem : (sset m)[j] ∈ m := (sset_mem _ _).mp (List.getElem_mem hjl)
          obtain ⟨x1, x2⟩ := idx_nth hmem
          refine ⟨m.idxOf (sset m)[j], by omega, ?_⟩
          unfold plc
          rw [x2]
          exact (rise_nodup (sset_rise m)).idxOf_getElem j hjl)]
        refine count_wth hp hE hd hI fun i j hi hj => ?_
        have n1 := nthM p ts hE ins hin i j (by omega) (by omega) (by omega) (by omega)
        rw [hm] at n1
        rw [← n1]
        show plc m i = plc m j ↔ _
        unfold plc
        exact ⟨fun h => idxOf_inj ((sset_mem _ _).mpr (nth_mem (by omega) (by omega))) ((sset_mem _ _).mpr (nth_mem (by omega) (by omega))) h, fun h => by rw [h]⟩
      rw [cg] at p3
      have f1 := fO T
      have f2 := fO (T.dropLast.map List.dropLast)
      have bts : ts.length ≤ lim := by rw [lim_eq]; omega
      have btp : (tsP m ts outs).length ≤ lim := by rw [lim_eq]; omega
      have ben : (enm 0 (ts.map dP)).length ≤ lim := by rw [enm_len, List.length_map]; exact bts
      rcases ho with rfl | rfl <;> rcases ho2 with rfl | rfl <;> simp [g_count_with, runF, f_count_with, m1, m2, pk', fp, rp, hq, c, lcA, n1, ca, bi, k3, lcT, p1, p2, p3, f1, f2, ben, bts, btp, -List.map_map, -List.map_dropLast]
  · rw [wnil fun h => c (by have := h.ct; omega)]
    rcases ho with rfl | rfl <;> rcases ho2 with rfl | rfl <;> simp [g_count_with, runF, f_count_with, m1, m2, pk', fp, hq, c]
end Lw

noncomputable section
namespace Lw
open DL
end Lw
end

namespace Lw
open DL L2 TL
theorem split_byG {α : Type} {R : α → α → Prop} {q : α → Bool} (hq : ∀ a b, R a b → q b = true → q a = true) : ∀ {l : List α}, l.Pairwise R → l = l.filter q ++ l.filter fun y => !q y
  | [], _ => rfl
  | a :: l, h => by
    obtain ⟨h1, h2⟩ := List.pairwise_cons.mp h
    cases c : q a with
    | true =>
      rw [List.filter_cons_of_pos c, List.filter_cons_of_neg (by simp [c]), List.cons_append, ← split_byG hq h2]
    | false =>
      rw [List.filter_cons_of_neg (by simp [c]), List.filter_cons_of_pos (by simp [c])]
      have : l.filter q = [] := List.filter_eq_nil_iff.mpr fun y hy z => by
        have := hq a y (h1 y hy) z
        rw [c] at this; cases this
      rw [this, List.nil_append]
      congr 1
      refine (List.filter_eq_self.mpr fun y hy => ?_).symm
      cases z : q y with
      | false => rfl
      | true =>
        have := hq a y (h1 y hy) z
        rw [c] at this; cases this
theorem lex_pre : ∀ (l a b : List Int), HT.lexLt (l ++ a) (l ++ b) = HT.lexLt a b
  | [], _, _ => rfl
  | x :: l, a, b => by
    rw [List.cons_append, List.cons_append, HT.lexLt_cons, if_pos rfl, lex_pre l a b]
section
variable {p : Nat} {ts : List (Int × Int)}
theorem pre_of {kept shut : List Int} {k : Int} (hk : kept.Pairwise (· < ·)) (hk2 : ∀ x ∈ kept, 0 ≤ x ∧ x < k) (all : ∀ x : Int, 0 ≤ x → x < k → x ∈ kept ∨ x ∈ shut) (hp : 1 ≤ p) {T : List Int} (hT : T ∈ wth p ts kept shut) : T = kept ++ T.filter (fun y => !decide (y < k)) := by
  obtain ⟨t1, t2, t3⟩ := (wth_mem hp).mp hT
  have hr := (good_iff.mp (treeB_nat.mp t1).2.1).2
  have hi := (tree_ind t1 hp).inn
  have e : T.filter (fun y => decide (y < k)) = kept := by
    refine rise_uniq (hr.filter _) hk fun x => ?_
    rw [List.mem_filter, decide_eq_true_eq]
    constructor
    · rintro ⟨h1, h2⟩
      rcases all x (hi x h1).1 h2 with h | h
      · exact h
      · exact absurd h1 (t3 x h)
    · exact fun h => ⟨t2 x h, (hk2 x h).2⟩
  have := filter_split hr k
  rw [e] at this
  exact this
theorem wth_split (hp : 1 ≤ p) {kept shut : List Int} {k : Int} (hk : kept.Pairwise (· < ·)) (hk2 : ∀ x ∈ kept, 0 ≤ x ∧ x < k) (all : ∀ x : Int, 0 ≤ x → x < k → x ∈ kept ∨ x ∈ shut) :
    wth p ts kept shut = wth p ts (kept ++ [k]) shut ++ wth p ts kept (shut ++ [k]) := by
  have e1 : wth p ts (kept ++ [k]) shut = (wth p ts kept shut).filter fun T => decide (k ∈ T) := by
    unfold wth
    rw [List.filter_filter]
    refine List.filter_congr fun T _ => ?_
    rw [List.all_append]
    simp only [List.all_cons, List.all_nil, Bool.and_true]
    cases (kept.all fun t => decide (t ∈ T)) <;> cases decide (k ∈ T) <;> simp
  have e2 : wth p ts kept (shut ++ [k]) = (wth p ts kept shut).filter fun T => !decide (k ∈ T) := by
    unfold wth
    rw [List.filter_filter]
    refine List.filter_congr fun T _ => ?_
    rw [List.any_append]
    simp only [List.any_cons, List.any_nil, Bool.or_false, Bool.not_or]
    cases (kept.all fun t => decide (t ∈ T)) <;> cases decide (k ∈ T) <;> simp
  rw [e1, e2]
  refine split_byG (R := fun a b : List Int => decide (k ∈ b) = true → decide (k ∈ a) = true) (fun a b h hb => h hb) ?_
  refine List.Pairwise.imp_of_mem (fun {a b} ha hb h => ?_) (wth_rise kept shut)
  intro kb
  have kb := of_decide_eq_true kb
  apply decide_eq_true
  apply Classical.byContradiction
  intro ka
  have pa := pre_of hk hk2 all hp ha
  have pb := pre_of hk hk2 all hp hb
  have ra := (good_iff.mp (treeB_nat.mp ((wth_mem hp).mp ha).1).2.1).2
  have rb := (good_iff.mp (treeB_nat.mp ((wth_mem hp).mp hb).1).2.1).2
  have la := tree_len hp ((wth_mem hp).mp ha).1
  have lb := tree_len hp ((wth_mem hp).mp hb).1
  have l1 := congrArg List.length pa
  have l2 := congrArg List.length pb
  rw [List.length_append] at l1 l2
  generalize hA : a.filter (fun y => !decide (y < k)) = A at pa l1
  generalize hB : b.filter (fun y => !decide (y < k)) = B at pb l2
  have kB : k ∈ B := by
    rw [← hB]
    exact List.mem_filter.mpr ⟨kb, by simp⟩
  have geA : ∀ x ∈ A, k < x := fun x hx => by
    rw [← hA] at hx
    obtain ⟨h1, h2⟩ := List.mem_filter.mp hx
    simp at h2
    have : x ≠ k := fun e => ka (e ▸ h1)
    omega
  have geB : ∀ x ∈ B, k ≤ x := fun x hx => by
    rw [← hB] at hx
    obtain ⟨h1, h2⟩ := List.mem_filter.mp hx
    simp at h2
    exact h2
  have rB : B.Pairwise (· < ·) := by rw [← hB]; exact rb.filter _
  rw [pa, pb, lex_pre] at h
  match B, kB, geB, rB, l2 with
  | y :: B', kB, geB, rB, l2 =>
    have hy : y = k := by
      rcases List.mem_cons.mp kB with e | e
      · exact e.symm
      · have := (List.pairwise_cons.mp rB).1 k e
        have := geB y (List.mem_cons_self ..)
        omega
    match A, geA, l1 with
    | [], _, l1 => simp at l1 l2; omega
    | z :: A', geA, _ =>
      have hz := geA z (List.mem_cons_self ..)
      rw [HT.lexLt_cons, if_neg (by omega)] at h
      have : y < z := by omega
      simp [this] at h
def Blk (p : Nat) (ts : List (Int × Int)) (off : Nat) (W : List (List Int)) : Prop := ∀ i, i < W.length → (trees p ts)[off + i]? = W[i]?
theorem blk_left {off : Nat} {A B : List (List Int)} (h : Blk p ts off (A ++ B)) : Blk p ts off A := fun i hi => by
  rw [h i (by rw [List.length_append]; omega), List.getElem?_append_left hi]
theorem blk_right {off : Nat} {A B : List (List Int)} (h : Blk p ts off (A ++ B)) : Blk p ts (off + A.length) B := fun i hi => by
  have := h (A.length + i) (by rw [List.length_append]; omega)
  rw [List.getElem?_append_right (by omega), show A.length + i - A.length = i by omega] at this
  rw [← this]
  congr 1; omega
theorem wth_end (hp : 1 ≤ p) {kept shut : List Int} (hk : kept.Pairwise (· < ·)) (hk2 : ∀ x ∈ kept, 0 ≤ x ∧ x < (ts.length : Int)) (all : ∀ x : Int, 0 ≤ x → x < ts.length → x ∈ kept ∨ x ∈ shut) {T : List Int} (hT : T ∈ wth p ts kept shut) : T = kept := by
  have e := pre_of hk hk2 all hp hT
  have hi := (tree_ind ((wth_mem hp).mp hT).1 hp).inn
  have : T.filter (fun y => !decide (y < (ts.length : Int))) = [] := List.filter_eq_nil_iff.mpr fun x hx => by have := hi x hx; simp; omega
  rw [this, List.append_nil] at e
  exact e
structure Cut (n : Nat) (k : Nat) (kept shut : List Int) : Prop where
  kr : kept.Pairwise (· < ·)
  sr : shut.Pairwise (· < ·)
  kin : ∀ x ∈ kept, 0 ≤ x ∧ x < (k : Int)
  sin : ∀ x ∈ shut, 0 ≤ x ∧ x < (k : Int)
  all : ∀ x : Int, 0 ≤ x → x < k → x ∈ kept ∨ x ∈ shut
theorem snoc_rise {l : List Int} {k : Nat} (h : l.Pairwise (· < ·)) (hi : ∀ x ∈ l, 0 ≤ x ∧ x < (k : Int)) : (l ++ [(k : Int)]).Pairwise (· < ·) ∧ ∀ x ∈ l ++ [(k : Int)], 0 ≤ x ∧ x < ((k + 1 : Nat) : Int) := by
  refine ⟨List.pairwise_append.mpr ⟨h, List.pairwise_singleton .., fun a ha b hb => by rw [List.mem_singleton.mp hb]; exact (hi a ha).2⟩, fun x hx => ?_⟩
  rcases List.mem_append.mp hx with q | q
  · have := hi x q; omega
  · rw [List.mem_singleton.mp q]; omega
theorem Cut.in {n k : Nat} {kept shut : List Int} (h : Cut n k kept shut) : Cut n (k + 1) (kept ++ [(k : Int)]) shut where
  kr := (snoc_rise h.kr h.kin).1
  sr := h.sr
  kin := (snoc_rise h.kr h.kin).2
  sin := fun x hx => by have := h.sin x hx; omega
  all := fun x h1 h2 => by
    by_cases e : x = k
    · left; rw [e]; simp
    · rcases h.all x h1 (by omega) with q | q
      · exact .inl (List.mem_append_left _ q)
      · exact .inr q
theorem Cut.out {n k : Nat} {kept shut : List Int} (h : Cut n k kept shut) : Cut n (k + 1) kept (shut ++ [(k : Int)]) where
  kr := h.kr
  sr := (snoc_rise h.sr h.sin).1
  kin := fun x hx => by have := h.kin x hx; omega
  sin := (snoc_rise h.sr h.sin).2
  all := fun x h1 h2 => by
    by_cases e : x = k
    · right; rw [e]; simp
    · rcases h.all x h1 (by omega) with q | q
      · exact .inl q
      · exact .inr (List.mem_append_left _ q)
theorem cut_count (hp : 1 ≤ p) (hp2 : p ≤ 15) (hE : EndsOk p ts) (ht : ts.length ≤ 64) {k : Nat} (hk : k < ts.length) {kept shut : List Int} (h : Cut ts.length k kept shut) :
    g_count_with [.ob 14 [.int p, .ls (ts.map dP)], .tp ((kept ++ [(k : Int)]).map D.int), .tp (shut.map D.int)] = .ok (.int (wth p ts (kept ++ [(k : Int)]) shut).length) :=
  count_with_ok hp hp2 ts hE ht _ _ (.inr rfl) (.inr rfl) (good_iff.mpr ⟨fun x hx => by have := h.in.kin x hx; omega, h.in.kr⟩) (good_iff.mpr ⟨fun x hx => by have := h.sin x hx; omega, h.sr⟩)
theorem ta_loop (hp : 1 ≤ p) (hp2 : p ≤ 15) (hE : EndsOk p ts) (ht : ts.length ≤ 64) (N : Nat) : ∀ (m k : Nat) (kept shut : List Int) (num : Int) (j off : Nat) (y4 y5 : D), k + m = ts.length → Cut ts.length k kept shut → Blk p ts off (wth p ts kept shut) → num = j → j < (wth p ts kept shut).length → off + j = N → kept.length + m ≤ 100 → shut.length + m ≤ 100 →
    ∃ (R : List Int) (z1 z3 z4 z5 : D), (trees p ts)[N]? = some R ∧ forL (gtN 4) f_tree_at_l1 (rng k m) [.ob 14 [.int p, .ls (ts.map dP)], .int num, .tp (kept.map D.int), .tp (shut.map D.int), y4, y5] = .nx [.ob 14 [.int p, .ls (ts.map dP)], z1, .tp (R.map D.int), z3, z4, z5] := by
  intro m
  induction m with
  | zero =>
    intro k kept shut num j off y4 y5 hk hC hB hj hjl hN _ _
    have hk : k = ts.length := by omega
    subst hk
    have e : (wth p ts kept shut)[j] = kept := wth_end hp hC.kr hC.kin hC.all (List.getElem_mem hjl)
    refine ⟨kept, .int num, .tp (shut.map D.int), y4, y5, ?_, by simp [rng_zero, forL]⟩
    rw [← hN, hB j hjl, List.getElem?_eq_getElem hjl, e]
  | succ m IH =>
    intro k kept shut num j off y4 y5 hk hC hB hj hjl hN lk ls
    have cc := cut_count hp hp2 hE ht (k := k) (by omega) hC
    have sp := wth_split (p := p) (ts := ts) hp hC.kr hC.kin hC.all
    rw [sp] at hB hjl
    rw [List.length_append] at hjl
    have b1 : kept.length + 1 ≤ lim := by rw [lim_eq]; omega
    have b2 : shut.length + 1 ≤ lim := by rw [lim_eq]; omega
    have l1 : 1 ≤ lim := by rw [lim_eq]; omega
    have kin := hC.in
    have kout := hC.out
    rw [rng_succ]
    have hk1 : (k : Int) + 1 = ((k + 1 : Nat) : Int) := by omega
    rw [hk1]
    generalize hkk : (k : Int) = kk at *
    generalize hw : (wth p ts (kept ++ [kk]) shut).length = w at *
    by_cases c : j < w
    · obtain ⟨R, z1, z3, z4, z5, i1, i2⟩ := IH (k + 1) (kept ++ [kk]) shut num j off (.int kk) (.int w) (by omega) kin (blk_left hB) hj (by omega) hN (by simp; omega) (by omega)
      refine ⟨R, z1, z3, z4, z5, i1, ?_⟩
      rw [← i2, forL_cons]
      have c' : num < (w : Int) := by omega
      generalize hwi : (w : Int) = wi at *
      simp only [List.map_append, List.map_cons, List.map_nil] at cc ⊢
      simp [f_tree_at_l1, cc, b1, b2, l1, c']
    · obtain ⟨R, z1, z3, z4, z5, i1, i2⟩ := IH (k + 1) kept (shut ++ [kk]) (num - w) (j - w) (off + w) (.int kk) (.int w) (by omega) kout (by have := blk_right hB; rw [hw] at this; exact this) (by omega) (by omega) (by omega) (by omega) (by simp; omega)
      refine ⟨R, z1, z3, z4, z5, i1, ?_⟩
      rw [← i2, forL_cons]
      have c' : ¬ num < (w : Int) := by omega
      generalize hwi : (w : Int) = wi at *
      simp only [List.map_append, List.map_cons, List.map_nil] at cc ⊢
      simp [f_tree_at_l1, cc, b1, b2, l1, c']
theorem cut0 : Cut ts.length 0 [] [] := ⟨.nil, .nil, (fun _ h => nomatch h), (fun _ h => nomatch h), fun x h1 h2 => absurd h2 (by omega)⟩
theorem blk0 : Blk p ts 0 (wth p ts [] []) := fun i _ => by rw [wth_all, Nat.zero_add]
theorem tree_at_ok (hp : 1 ≤ p) (hp2 : p ≤ 15) (hE : EndsOk p ts) (ht : ts.length ≤ 64) (num : Int) (N : Nat) (hN : num = N) (hl : N < (trees p ts).length) :
    g_tree_at [.ob 14 [.int p, .ls (ts.map dP)], .int num] = .ok (dT ((trees p ts)[N]'hl)) := by
  have tc := tree_count_ok hp hp2 ts hE ht
  obtain ⟨R, z1, z3, z4, z5, h1, h2⟩ := ta_loop hp hp2 hE ht N ts.length 0 [] [] num N 0 .un .un (by omega) cut0 blk0 hN (by rw [wth_all]; exact hl) (by omega) (by simp; omega) (by simp; omega)
  rw [List.getElem?_eq_getElem hl] at h1
  have h1 := Option.some.inj h1
  rw [h1]
  have hr : rgOk (ts.length : Int) := rgOk_of (by omega) (by omega)
  have c1 : ¬ num < 0 := by omega
  have c2 : ¬ ((trees p ts).length : Int) ≤ num := by omega
  generalize ((trees p ts).length : Int) = tl at tc c2
  simp only [List.map_nil, Int.natCast_zero, Int.cast_ofNat_Int] at h2
  simp [g_tree_at, runF, f_tree_at, tc, c1, c2, hr, h2, dT]
theorem no_loop (hp : 1 ≤ p) (hp2 : p ≤ 15) (hE : EndsOk p ts) (ht : ts.length ≤ 64) {o : D} {T : List Int} (ho : LT o T) : ∀ (m k : Nat) (kept shut : List Int) (num : Int) (off : Nat) (y5 : D), k + m = ts.length → Cut ts.length k kept shut → Blk p ts off (wth p ts kept shut) → num = off → T ∈ wth p ts kept shut → kept.length + m ≤ 100 → shut.length + m ≤ 100 →
    ∃ (N : Nat) (z3 z4 z5 : D), (trees p ts)[N]? = some T ∧ forL (gtN 5) f_number_of_l1 (rng k m) [.ob 14 [.int p, .ls (ts.map dP)], o, .int num, .tp (kept.map D.int), .tp (shut.map D.int), y5] = .nx [.ob 14 [.int p, .ls (ts.map dP)], o, .int N, z3, z4, z5] := by
  intro m
  induction m with
  | zero =>
    intro k kept shut num off y5 hk hC hB hn hT _ _
    have hk : k = ts.length := by omega
    subst hk
    obtain ⟨i, hi, e⟩ := List.mem_iff_getElem.mp hT
    have nd := wth_nodup (p := p) (ts := ts) kept shut
    have all : ∀ S ∈ wth p ts kept shut, S = kept := fun S hS => wth_end hp hC.kr hC.kin hC.all hS
    have l1 := one_of nd all (by have e := all T hT; rw [e] at hT; exact hT)
    have i0 : i = 0 := by omega
    subst i0
    refine ⟨off, .tp (kept.map D.int), .tp (shut.map D.int), y5, ?_, by rw [hn]; simp [rng_zero, forL]⟩
    have := hB 0 hi
    rw [List.getElem?_eq_getElem hi, e, Nat.add_zero] at this
    exact this
  | succ m IH =>
    intro k kept shut num off y5 hk hC hB hn hT lk ls
    have cc := cut_count hp hp2 hE ht (k := k) (by omega) hC
    have sp := wth_split (p := p) (ts := ts) hp hC.kr hC.kin hC.all
    rw [sp] at hB
    have hT' := hT
    rw [sp] at hT'
    have b1 : kept.length + 1 ≤ lim := by rw [lim_eq]; omega
    have b2 : shut.length + 1 ≤ lim := by rw [lim_eq]; omega
    have l1 : 1 ≤ lim := by rw [lim_eq]; omega
    have kin := hC.in
    have kout := hC.out
    rw [rng_succ]
    have hk1 : (k : Int) + 1 = ((k + 1 : Nat) : Int) := by omega
    rw [hk1]
    generalize hkk : (k : Int) = kk at *
    by_cases c : kk ∈ T
    · have hT1 : T ∈ wth p ts (kept ++ [kk]) shut := by
        rcases List.mem_append.mp hT' with q | q
        · exact q
        · exact absurd c (((wth_mem hp).mp q).2.2 kk (by simp))
      obtain ⟨N, z3, z4, z5, i1, i2⟩ := IH (k + 1) (kept ++ [kk]) shut num off (.int kk) (by omega) kin (blk_left hB) hn hT1 (by simp; omega) (by omega)
      refine ⟨N, z3, z4, z5, i1, ?_⟩
      rw [← i2, forL_cons]
      rcases ho with rfl | rfl <;> simp [f_number_of_l1, c, b1, l1]
    · have hT2 : T ∈ wth p ts kept (shut ++ [kk]) := by
        rcases List.mem_append.mp hT' with q | q
        · exact absurd (((wth_mem hp).mp q).2.1 kk (by simp)) c
        · exact q
      have hB2 := blk_right hB
      generalize hw : (wth p ts (kept ++ [kk]) shut).length = w at cc hB2
      obtain ⟨N, z3, z4, z5, i1, i2⟩ := IH (k + 1) kept (shut ++ [kk]) (num + w) (off + w) (.int kk) (by omega) kout hB2 (by omega) hT2 (by omega) (by simp; omega)
      refine ⟨N, z3, z4, z5, i1, ?_⟩
      rw [← i2, forL_cons]
      generalize hwi : (w : Int) = wi at *
      simp only [List.map_append, List.map_cons, List.map_nil] at cc ⊢
      rcases ho with rfl | rfl <;> simp [f_number_of_l1, c, cc, b1, b2, l1]
theorem number_of_ok (hp : 1 ≤ p) (hp2 : p ≤ 15) (hE : EndsOk p ts) (ht : ts.length ≤ 64) {o : D} {T : List Int} (ho : LT o T) (N : Nat) (h : (trees p ts)[N]? = some T) :
    g_number_of [.ob 14 [.int p, .ls (ts.map dP)], o] = .ok (.int N) := by
  have hT : T ∈ trees p ts := List.mem_of_getElem? h
  have it := is_tree_LT p ts hE (by omega) (by omega) T ho
  rw [(trees_mem hp).mp hT] at it
  obtain ⟨M, z3, z4, z5, h1, h2⟩ := no_loop hp hp2 hE ht ho ts.length 0 [] [] 0 0 .un (by omega) cut0 blk0 rfl (by rw [wth_all]; exact hT) (by simp; omega) (by simp; omega)
  have e : M = N := by
    have nd := trees_nodup p ts
    exact (List.getElem?_inj (List.getElem?_eq_some_iff.mp h1).1 nd).mp (h1.trans h.symm)
  rw [e] at h2
  have hr : rgOk (ts.length : Int) := rgOk_of (by omega) (by omega)
  have rn : g_refuse_no_tree [.ob 14 [.int p, .ls (ts.map dP)], o] = .ok .non := by
    rcases ho with rfl | rfl <;> simp [g_refuse_no_tree, runF, f_refuse_no_tree, it]
  generalize hNN : (N : Int) = nn at h2 ⊢
  simp only [List.map_nil, Int.natCast_zero, Int.cast_ofNat_Int] at h2
  rcases ho with rfl | rfl <;> simp [g_number_of, runF, f_number_of, rn, hr, h2]
end
end Lw

noncomputable section
namespace Lw
open DL
end Lw
end

namespace Lw
open DL L2 TL
end Lw

namespace Lw
open DL L2 TL
theorem forL_step {tg : D → Env → Option Env} {b : Env → Out} {d : D} {ds : List D} {g g1 g' : Env} (h : tg d g = some g1) (hb : b g1 = .nx g') : forL tg b (d :: ds) g = forL tg b ds g' := by
  rw [forL_cons, h]
  simp only [hb]
end Lw

namespace Lw
open DL L2 TL
end Lw

noncomputable section
namespace Lw
open DL
end Lw
end

namespace Lw
open DL L2 TL
section
variable {p : Nat} {ts : List (Int × Int)}
end
end Lw

noncomputable section
namespace Lw
open DL
end Lw
end

namespace Lw
open DL L2 TL
section
variable {p : Nat} {ts : List (Int × Int)}
def ahd (W : List (List Int)) (k : Nat) : Option (List Int) := if k = 0 then none else W[k - 1]?
theorem next_ok31 (hp : 1 ≤ p) (hp2 : p ≤ 15) (hE : EndsOk p ts) (ht : ts.length ≤ 64) {o : D} {T : List Int} (ho : LT o T) (k : Nat) (h : (trees p ts)[k]? = some T) :
    g_next_tree [.ob 14 [.int p, .ls (ts.map dP)], o] = .ok (dO (trees p ts)[k + 1]?) := by
  have nk := number_of_ok hp hp2 hE ht ho k h
  have tc := tree_count_ok hp hp2 ts hE ht
  obtain ⟨hk, _⟩ := List.getElem?_eq_some_iff.mp h
  by_cases c : k + 1 < (trees p ts).length
  · have ta := tree_at_ok hp hp2 hE ht ((k : Int) + 1) (k + 1) (by omega) c
    have c' : ¬ (k : Int) + 1 = (trees p ts).length := by omega
    rw [List.getElem?_eq_getElem c]
    generalize ((trees p ts).length : Int) = tl at tc c'
    generalize (k : Int) = kk at nk ta c'
    generalize (trees p ts)[k + 1] = U at ta
    simp only [dT] at ta
    rcases ho with rfl | rfl <;> simp [g_next_tree, runF, f_next_tree, nk, tc, c', ta, dO]
  · have c' : (k : Int) + 1 = (trees p ts).length := by omega
    rw [List.getElem?_eq_none (by omega)]
    generalize ((trees p ts).length : Int) = tl at tc c'
    generalize (k : Int) = kk at nk c'
    rcases ho with rfl | rfl <;> simp [g_next_tree, runF, f_next_tree, nk, tc, c', dO]
theorem ahead_ok (hp : 1 ≤ p) (hp2 : p ≤ 15) (hE : EndsOk p ts) (ht : ts.length ≤ 64) {o : D} {T : List Int} (ho : LT o T) (k : Nat) (h : (trees p ts)[k]? = some T) :
    g_tree_ahead [.ob 14 [.int p, .ls (ts.map dP)], o] = .ok (dO (ahd (trees p ts) k)) := by
  have nk := number_of_ok hp hp2 hE ht ho k h
  obtain ⟨hk, _⟩ := List.getElem?_eq_some_iff.mp h
  unfold ahd
  by_cases c : k = 0
  · subst c
    rcases ho with rfl | rfl <;> simp at nk <;> simp [g_tree_ahead, runF, f_tree_ahead, nk, dO]
  · have ta := tree_at_ok hp hp2 hE ht ((k : Int) - 1) (k - 1) (by omega) (by omega)
    have c' : ¬ (k : Int) = 0 := by omega
    rw [if_neg c, List.getElem?_eq_getElem (by omega)]
    generalize (k : Int) = kk at nk ta c'
    generalize (trees p ts)[k - 1] = U at ta
    simp only [dT] at ta
    rcases ho with rfl | rfl <;> simp [g_tree_ahead, runF, f_tree_ahead, nk, c', ta, dO]
end
end Lw

namespace Lw
open DL L2 TL
theorem forL_nil {tg : D → Env → Option Env} {b : Env → Out} {g : Env} : forL tg b [] g = .nx g := rfl
end Lw

noncomputable section
namespace Lw
open DL L2
theorem seq_to {f u : Env → Out} {g g1 : Env} {o : Out} (h : f g = .nx g1) (h2 : u g1 = o) : sSeq f u g = o := by
  rw [sSeq_, h]
  exact h2
end Lw
end

noncomputable section
namespace Lw
open DL L2 TL
open PySem (Str PyData)
section
variable {p : Nat} {ts : List (Int × Int)}
theorem num_no34 (hp : 1 ≤ p) (hp2 : p ≤ 15) (hE : EndsOk p ts) {T : List Int} (hT : treeB p ts T = false) : g_number_of [.ob 14 [.int p, .ls (ts.map dP)], .ls (T.map D.int)] = .xc 4 := by
  have it := is_tree_LT p ts hE (by omega) (by omega) T (.inl rfl)
  rw [hT] at it
  have rn : g_refuse_no_tree [.ob 14 [.int p, .ls (ts.map dP)], .ls (T.map D.int)] = .xc 4 := by
    simp [g_refuse_no_tree, runF, f_refuse_no_tree, it]
  simp [g_number_of, runF, f_number_of, rn]
theorem nxt_no34 (hp : 1 ≤ p) (hp2 : p ≤ 15) (hE : EndsOk p ts) {T : List Int} (hT : treeB p ts T = false) : g_next_tree [.ob 14 [.int p, .ls (ts.map dP)], .ls (T.map D.int)] = .xc 4 := by
  have n := num_no34 hp hp2 hE hT
  simp [g_next_tree, runF, f_next_tree, n]
theorem ahd_no34 (hp : 1 ≤ p) (hp2 : p ≤ 15) (hE : EndsOk p ts) {T : List Int} (hT : treeB p ts T = false) : g_tree_ahead [.ob 14 [.int p, .ls (ts.map dP)], .ls (T.map D.int)] = .xc 4 := by
  have n := num_no34 hp hp2 hE hT
  simp [g_tree_ahead, runF, f_tree_ahead, n]
theorem sets_no1 {A B : List Int} (hA : goodB ts.length A = false) : g_looked_at_sets [.ob 14 [.int p, .ls (ts.map dP)], .ls (A.map D.int), .ls (B.map D.int)] = .xc 2 := by
  have m := made_set_ls p ts A
  rw [hA] at m
  simp [g_looked_at_sets, runF, f_looked_at_sets, m]
theorem sets_no2 {A B : List Int} (hA : goodB ts.length A = true) (hB : goodB ts.length B = false) : g_looked_at_sets [.ob 14 [.int p, .ls (ts.map dP)], .ls (A.map D.int), .ls (B.map D.int)] = .xc 2 := by
  have m := made_set_ls p ts A
  have m2 := made_set_ls p ts B
  rw [hA] at m
  rw [hB] at m2
  simp [g_looked_at_sets, runF, f_looked_at_sets, m, m2]
theorem with_no34 {A B : List Int} (h : goodB ts.length A = false ∨ goodB ts.length B = false) : g_least_with [.ob 14 [.int p, .ls (ts.map dP)], .ls (A.map D.int), .ls (B.map D.int)] = .xc 2 ∧ g_greatest_with [.ob 14 [.int p, .ls (ts.map dP)], .ls (A.map D.int), .ls (B.map D.int)] = .xc 2 := by
  have s : g_looked_at_sets [.ob 14 [.int p, .ls (ts.map dP)], .ls (A.map D.int), .ls (B.map D.int)] = .xc 2 := by
    cases e : goodB ts.length A with
    | false => exact sets_no1 e
    | true => exact sets_no2 e (h.resolve_left (by rw [e]; simp))
  exact ⟨by simp [g_least_with, runF, f_least_with, s], by simp [g_greatest_with, runF, f_greatest_with, s]⟩
end
theorem run_rt34 {f : Env → Out} {n : Nat} {ds : List D} {g : Env} {d : D} (h : f g = .rt d) (hg : ds ++ List.replicate (n - ds.length) .un = g) : runF f n ds = .ok d := by
  subst hg
  unfold runF
  rw [h]
theorem hh34_4 (d w a b : D) : f_law_told_v8_hh 4 [d, w, a, b, .str "told", .un, .un, .un, .un] = .nx [d, w, a, b, .str "tree", .un, .ls [.bl true, .bl false, .bl false], .int 1, .str "set"] := by kernel_rfl
theorem hh34_2 (d w a b : D) : f_law_told_v8_hh 2 [d, w, a, b, .str "told", .un, .un, .un, .un] = .nx [d, w, a, b, .str "set", .un, .ls [.bl false, .bl true, .bl false], .int 1, .str "set"] := by kernel_rfl
def b34 : Env → Out := sIf (tC2 cEq (eVar 0) (eC (.int 0))) (sExp (eOwn g_number_of (aCons (eVar 1) (aCons (eVar 2) (aNil))))) (sIf (tC2 cEq (eVar 0) (eC (.int 1))) (sExp (eOwn g_next_tree (aCons (eVar 1) (aCons (eVar 2) (aNil))))) (sIf (tC2 cEq (eVar 0) (eC (.int 2))) (sExp (eOwn g_tree_ahead (aCons (eVar 1) (aCons (eVar 2) (aNil))))) (sIf (tC2 cEq (eVar 0) (eC (.int 3))) (sExp (eOwn g_least_with (aCons (eVar 1) (aCons (eVar 2) (aCons (eVar 3) (aNil)))))) (sExp (eOwn g_greatest_with (aCons (eVar 1) (aCons (eVar 2) (aCons (eVar 3) (aNil)))))))))
theorem told_nx {d w a b : D} (h : b34 [d, w, a, b, .str "told", .un, .un, .un, .un] = .nx [d, w, a, b, .str "told", .un, .un, .un, .un]) : g_law_told_v8 [d, w, a, b] = .ok (.str "told") := by
  refine run_rt34 (g := [d, w, a, b, .un, .un, .un, .un, .un]) ?_ rfl
  unfold f_law_told_v8
  refine seq_to (g1 := [d, w, a, b, .str "told", .un, .un, .un, .un]) (by simp) ?_
  refine seq_to (g1 := [d, w, a, b, .str "told", .un, .un, .un, .un]) ?_ (by rfl)
  show sTry b34 f_law_told_v8_hh _ = _
  rw [sTry_, h]
theorem told_4 {d w a b : D} (h : b34 [d, w, a, b, .str "told", .un, .un, .un, .un] = .xc 4 [d, w, a, b, .str "told", .un, .un, .un, .un]) : g_law_told_v8 [d, w, a, b] = .ok (.str "tree") := by
  refine run_rt34 (g := [d, w, a, b, .un, .un, .un, .un, .un]) ?_ rfl
  unfold f_law_told_v8
  refine seq_to (g1 := [d, w, a, b, .str "told", .un, .un, .un, .un]) (by simp) ?_
  refine seq_to ?_ (g1 := [d, w, a, b, .str "tree", .un, .ls [.bl true, .bl false, .bl false], .int 1, .str "set"]) (by rfl)
  show sTry b34 f_law_told_v8_hh _ = _
  rw [sTry_, h]
  exact hh34_4 ..
theorem told_2 {d w a b : D} (h : b34 [d, w, a, b, .str "told", .un, .un, .un, .un] = .xc 2 [d, w, a, b, .str "told", .un, .un, .un, .un]) : g_law_told_v8 [d, w, a, b] = .ok (.str "set") := by
  refine run_rt34 (g := [d, w, a, b, .un, .un, .un, .un, .un]) ?_ rfl
  unfold f_law_told_v8
  refine seq_to (g1 := [d, w, a, b, .str "told", .un, .un, .un, .un]) (by simp) ?_
  refine seq_to ?_ (g1 := [d, w, a, b, .str "set", .un, .ls [.bl false, .bl true, .bl false], .int 1, .str "set"]) (by rfl)
  show sTry b34 f_law_told_v8_hh _ = _
  rw [sTry_, h]
  exact hh34_2 ..
section
variable {p : Nat} {ts : List (Int × Int)}
theorem told_tree (hp : 1 ≤ p) (hp2 : p ≤ 6) (hE : EndsOk p ts) (ht : ts.length ≤ 12) (T : List Int) (k : Nat) (hk : k < 3) : g_law_told_v8 [.int k, .ob 14 [.int p, .ls (ts.map dP)], .ls (T.map D.int), .non] = .ok (.str (if T ∈ trees p ts then "told" else "tree")) := by
  by_cases c : T ∈ trees p ts
  · rw [if_pos c]
    obtain ⟨i, hi, e⟩ := List.getElem_of_mem c
    have h : (trees p ts)[i]? = some T := by rw [List.getElem?_eq_getElem hi, e]
    have n1 := number_of_ok hp (by omega) hE (by omega) (.inl rfl) i h
    have n2 := next_ok31 hp (by omega) hE (by omega) (.inl rfl) i h
    have n3 := ahead_ok hp (by omega) hE (by omega) (.inl rfl) i h
    have dok : ∀ x : Option (List Int), nod (dO x) = true ∨ True := fun _ => .inr trivial
    generalize dO _ = X2 at n2
    generalize dO _ = X3 at n3
    generalize ts.map dP = TT at *
    generalize T.map D.int = TL at *
    refine told_nx ?_
    unfold b34
    match k, hk with
    | 0, _ => simp [n1]
    | 1, _ => simp [n2]
    | 2, _ => simp [n3]
  · rw [if_neg c]
    have hT : treeB p ts T = false := by
      cases e : treeB p ts T with
      | false => rfl
      | true => exact (c ((trees_mem hp).mpr e)).elim
    have n1 := num_no34 hp (by omega) hE hT
    have n2 := nxt_no34 hp (by omega) hE hT
    have n3 := ahd_no34 hp (by omega) hE hT
    generalize ts.map dP = TT at *
    generalize T.map D.int = TL at *
    refine told_4 ?_
    unfold b34
    match k, hk with
    | 0, _ => simp [n1]
    | 1, _ => simp [n2]
    | 2, _ => simp [n3]
theorem told_set {A B : List Int} (h : goodB ts.length A = false ∨ goodB ts.length B = false) (k : Nat) (hk : k = 3 ∨ k = 4) : g_law_told_v8 [.int k, .ob 14 [.int p, .ls (ts.map dP)], .ls (A.map D.int), .ls (B.map D.int)] = .ok (.str "set") := by
  obtain ⟨n1, n2⟩ := with_no34 (p := p) h
  generalize ts.map dP = TT at *
  generalize A.map D.int = AA at *
  generalize B.map D.int = BB at *
  refine told_2 ?_
  unfold b34
  rcases hk with rfl | rfl
  · simp [n1]
  · simp [n2]
theorem told_ok (hp : 1 ≤ p) (hp2 : p ≤ 6) (hE : EndsOk p ts) (ht : ts.length ≤ 12) {A B : List Int} (hA : goodB ts.length A = true) (hB : goodB ts.length B = true) (l1 : A.length ≤ 100) (l2 : B.length ≤ 100) (k : Nat) (hk : k = 3 ∨ k = 4) : g_law_told_v8 [.int k, .ob 14 [.int p, .ls (ts.map dP)], .ls (A.map D.int), .ls (B.map D.int)] = .ok (.str "told") := by
  have n1 := least_with_ok hp (by omega) hE (by omega) A B (.inl rfl) (.inl rfl) hA hB l1 l2
  have n2 := great_with_ok hp (by omega) hE (by omega) A B (.inl rfl) (.inl rfl) hA hB l1 l2
  generalize dO _ = X1 at n1
  generalize dO _ = X2 at n2
  generalize ts.map dP = TT at *
  generalize A.map D.int = AA at *
  generalize B.map D.int = BB at *
  refine told_nx ?_
  unfold b34
  rcases hk with rfl | rfl
  · simp [n1]
  · simp [n2]
end
theorem lm34 : ∀ n : Nat, n ≤ 1000 → n ≤ lim := fun n h => by rw [lim_eq]; omega
theorem addI34 (a b : List Int) (h : a.length + b.length ≤ 1000) : opAdd (.ls (a.map D.int)) (.ls (b.map D.int)) = some (.ol ((a ++ b).map D.int)) := by
  rw [opAdd_ll (by simp; rw [lim_eq]; omega), ← List.map_append]
theorem cutI34 (a : List Int) (lo hi : Option Int) : cut (a.map D.int) lo hi = (cut a lo hi).map D.int := by simp
section
variable {x0 : D} {cell cnt wd other : Int} {at' : Nat} {l : List Int}
def i34_0 : Env → Out := sIf (tC2 cEq (eVar 3) (eC (.int 0))) (sAsg 4 (eView 4 (eBin opAdd (eSl (eVar 4) (ePart none) (ePart (some (eVar 5)))) (eSl (eVar 4) (ePart (some (eBin opAdd (eVar 5) (eC (.int 1))))) (ePart none))))) (sNil)
def i34_1 : Env → Out := sIf (tC2 cEq (eVar 3) (eC (.int 1))) (sAsg 4 (eView 4 (eCall caSorted3 (aCons (eBin opAdd (eVar 4) (eLst (aConsO (eVar 6) (aNil)))) (aNil))))) (sNil)
def i34_2 : Env → Out := sIf (tC2 cEq (eVar 3) (eC (.int 2))) (sAsg 4 (eView 4 (eCall caSorted3 (aCons (eBin opAdd (eView 4 (eBin opAdd (eSl (eVar 4) (ePart none) (ePart (some (eVar 5)))) (eSl (eVar 4) (ePart (some (eBin opAdd (eVar 5) (eC (.int 1))))) (ePart none)))) (eLst (aConsO (eVar 6) (aNil)))) (aNil))))) (sNil)
def i34_3 : Env → Out := sIf (tC2 cEq (eVar 3) (eC (.int 3))) (sAsg 4 (eView 4 (eBin opAdd (eBin opAdd (eSl (eVar 4) (ePart none) (ePart (some (eVar 5)))) (eSl (eVar 4) (ePart (some (eVar 5))) (ePart (some (eBin opAdd (eVar 5) (eC (.int 1))))))) (eSl (eVar 4) (ePart (some (eVar 5))) (ePart none))))) (sNil)
def i34_4 : Env → Out := sIf (tC2 cEq (eVar 3) (eC (.int 4))) (sRvs 4) (sNil)
def i34_5 : Env → Out := sIf (tC2 cEq (eVar 3) (eC (.int 5))) (sAsg 4 (eView 4 (eBin opAdd (eView 4 (eBin opAdd (eSl (eVar 4) (ePart none) (ePart (some (eVar 5)))) (eSl (eVar 4) (ePart (some (eBin opAdd (eVar 5) (eC (.int 1))))) (ePart none)))) (eLst (aConsO (eBin opAdd (eVar 2) (eBin opMod (eOwn g_law_stir (aCons (eVar 1) (aCons (eC (.int 14)) (aNil)))) (eC (.int 3)))) (aNil)))))) (sNil)
def i34_6 : Env → Out := sIf (tC2 cEq (eVar 3) (eC (.int 6))) (sAsg 4 (eView 4 (eBin opAdd (eLst (aConsO (eBin opSub (eUn opNeg (eC (.int 1))) (eBin opMod (eVar 1) (eBin opPow (eC (.int 10)) (eC (.int 30))))) (aNil))) (eSl (eVar 4) (ePart (some (eC (.int 1)))) (ePart none))))) (sNil)
theorem c1_34 (a : List Int) (k : Nat) : cut (a.map D.int) none (some (k : Int)) = (a.take k).map D.int := by rw [cutI34, cut_to _ _ (by omega), Int.toNat_natCast]
theorem c2_34 (a : List Int) (k : Nat) : cut (a.map D.int) (some (k : Int)) none = (a.drop k).map D.int := by rw [cutI34, cut_from _ _ (by omega), Int.toNat_natCast]
theorem c3_34 (a : List Int) (k : Nat) : cut (a.map D.int) (some ((k : Int) + 1)) none = (a.drop (k + 1)).map D.int := by rw [cutI34, cut_from _ _ (by omega)]; rfl
theorem one34 (x : Int) : [D.int x] = [x].map D.int := rfl
theorem fl34 (l : List Int) : flats (l.map D.int) = true := by
  induction l with
  | nil => rfl
  | cons a l ih => simpa [flats] using ih
theorem fz34 (x0 x1 x2 x3 x5 x6 : D) (l : List Int) : frzAt [x0, x1, x2, x3, .ol (l.map D.int), x5, x6] 4 = [x0, x1, x2, x3, .ls (l.map D.int), x5, x6] := by
  obtain ⟨u1, u2, _, u4, _, _⟩ := dulls dull_int l
  generalize l.map D.int = LL at *
  simp [frzAt, u2, u4]
theorem fy34 (x0 x1 x2 x3 x5 x6 : D) (L : List D) : frzAt [x0, x1, x2, x3, .ls L, x5, x6] 4 = [x0, x1, x2, x3, .ls L, x5, x6] := by
  simp [frzAt]
theorem cu34 (l : List Int) (k : Nat) : (cut l (some (k : Int)) (some ((k : Int) + 1))).length ≤ 1 := by
  unfold cut
  rw [List.length_take]
  refine Nat.le_trans (Nat.min_le_left ..) ?_
  rw [HT.sIx_nat, show ((k : Int) + 1) = ((k + 1 : Nat) : Int) from by omega, HT.sIx_nat]
  omega
theorem st34_0 (hl : l.length ≤ 30) : ∃ l2 : List Int, l2.length ≤ l.length + 1 ∧ i34_0 [x0, .int cell, .int cnt, .int wd, .ol (l.map D.int), .int (at' : Int), .int other] = .nx [x0, .int cell, .int cnt, .int wd, .ol (l2.map D.int), .int (at' : Int), .int other] := by
  by_cases h : wd = 0
  · subst h
    refine ⟨l.take at' ++ l.drop (at' + 1), by simp; omega, ?_⟩
    have fz := fz34 x0 (.int cell) (.int cnt) (.int 0) (.int (at' : Int)) (.int other) l
    have fy := fy34 x0 (.int cell) (.int cnt) (.int 0) (.int (at' : Int)) (.int other) (l.map D.int)
    have ct := c1_34 l at'
    have cd := c3_34 l at'
    have oa := addI34 (l.take at') (l.drop (at' + 1)) (by simp; omega)
    obtain ⟨LRu1, LRu2, _, LRu4, _, _⟩ := dulls dull_int (l.take at' ++ l.drop (at' + 1))
    have LRfl := fl34 (l.take at' ++ l.drop (at' + 1))
    obtain ⟨LAu1, LAu2, _, LAu4, _, _⟩ := dulls dull_int (l.take at')
    have LAfl := fl34 (l.take at')
    obtain ⟨LBu1, LBu2, _, LBu4, _, _⟩ := dulls dull_int (l.drop (at' + 1))
    have LBfl := fl34 (l.drop (at' + 1))
    obtain ⟨LLu1, LLu2, _, LLu4, _, _⟩ := dulls dull_int (l)
    have LLfl := fl34 (l)
    generalize (l.take at' ++ l.drop (at' + 1)).map D.int = LR at *
    generalize (l.take at').map D.int = LA at *
    generalize (l.drop (at' + 1)).map D.int = LB at *
    generalize (l).map D.int = LL at *
    simp [i34_0, fz, fy, LRu1, LRu2, LRu4, LAu1, LAu2, LAu4, LBu1, LBu2, LBu4, LLu1, LLu2, LLu4, LRfl, LAfl, LBfl, LLfl, ct, cd, oa]
  · exact ⟨l, by omega, by simp [i34_0, h]⟩
theorem st34_1 (hl : l.length ≤ 30) : ∃ l2 : List Int, l2.length ≤ l.length + 1 ∧ i34_1 [x0, .int cell, .int cnt, .int wd, .ol (l.map D.int), .int (at' : Int), .int other] = .nx [x0, .int cell, .int cnt, .int wd, .ol (l2.map D.int), .int (at' : Int), .int other] := by
  by_cases h : wd = 1
  · subst h
    refine ⟨srt (l ++ [other]), by rw [(srt_perm _).length_eq]; simp, ?_⟩
    have fz := fz34 x0 (.int cell) (.int cnt) (.int 1) (.int (at' : Int)) (.int other) l
    have fy := fy34 x0 (.int cell) (.int cnt) (.int 1) (.int (at' : Int)) (.int other) (l.map D.int)
    have oa := addI34 (l) ([other]) (by simp; omega)
    rw [← one34] at oa
    have so := caSorted3_ls (l ++ [other])
    have l1 := lm34 1 (by decide)
    obtain ⟨LRu1, LRu2, _, LRu4, _, _⟩ := dulls dull_int (srt (l ++ [other]))
    have LRfl := fl34 (srt (l ++ [other]))
    obtain ⟨LAu1, LAu2, _, LAu4, _, _⟩ := dulls dull_int (l ++ [other])
    have LAfl := fl34 (l ++ [other])
    obtain ⟨LLu1, LLu2, _, LLu4, _, _⟩ := dulls dull_int (l)
    have LLfl := fl34 (l)
    generalize (srt (l ++ [other])).map D.int = LR at *
    generalize (l ++ [other]).map D.int = LA at *
    generalize (l).map D.int = LL at *
    simp [i34_1, fz, fy, LRu1, LRu2, LRu4, LAu1, LAu2, LAu4, LLu1, LLu2, LLu4, LRfl, LAfl, LLfl, oa, so, l1]
  · exact ⟨l, by omega, by simp [i34_1, h]⟩
theorem st34_2 (hl : l.length ≤ 30) : ∃ l2 : List Int, l2.length ≤ l.length + 1 ∧ i34_2 [x0, .int cell, .int cnt, .int wd, .ol (l.map D.int), .int (at' : Int), .int other] = .nx [x0, .int cell, .int cnt, .int wd, .ol (l2.map D.int), .int (at' : Int), .int other] := by
  by_cases h : wd = 2
  · subst h
    refine ⟨srt (l.take at' ++ l.drop (at' + 1) ++ [other]), by rw [(srt_perm _).length_eq]; simp; omega, ?_⟩
    have fz := fz34 x0 (.int cell) (.int cnt) (.int 2) (.int (at' : Int)) (.int other) l
    have fy := fy34 x0 (.int cell) (.int cnt) (.int 2) (.int (at' : Int)) (.int other) (l.map D.int)
    have ct := c1_34 l at'
    have cd := c3_34 l at'
    have oa := addI34 (l.take at') (l.drop (at' + 1)) (by simp; omega)
    have ob := addI34 (l.take at' ++ l.drop (at' + 1)) ([other]) (by simp; omega)
    rw [← one34] at ob
    have so := caSorted3_ls (l.take at' ++ l.drop (at' + 1) ++ [other])
    have l1 := lm34 1 (by decide)
    obtain ⟨LRu1, LRu2, _, LRu4, _, _⟩ := dulls dull_int (srt (l.take at' ++ l.drop (at' + 1) ++ [other]))
    have LRfl := fl34 (srt (l.take at' ++ l.drop (at' + 1) ++ [other]))
    obtain ⟨LCu1, LCu2, _, LCu4, _, _⟩ := dulls dull_int (l.take at' ++ l.drop (at' + 1) ++ [other])
    have LCfl := fl34 (l.take at' ++ l.drop (at' + 1) ++ [other])
    obtain ⟨LDu1, LDu2, _, LDu4, _, _⟩ := dulls dull_int (l.take at' ++ l.drop (at' + 1))
    have LDfl := fl34 (l.take at' ++ l.drop (at' + 1))
    obtain ⟨LAu1, LAu2, _, LAu4, _, _⟩ := dulls dull_int (l.take at')
    have LAfl := fl34 (l.take at')
    obtain ⟨LBu1, LBu2, _, LBu4, _, _⟩ := dulls dull_int (l.drop (at' + 1))
    have LBfl := fl34 (l.drop (at' + 1))
    obtain ⟨LLu1, LLu2, _, LLu4, _, _⟩ := dulls dull_int (l)
    have LLfl := fl34 (l)
    generalize (srt (l.take at' ++ l.drop (at' + 1) ++ [other])).map D.int = LR at *
    generalize (l.take at' ++ l.drop (at' + 1) ++ [other]).map D.int = LC at *
    generalize (l.take at' ++ l.drop (at' + 1)).map D.int = LD at *
    generalize (l.take at').map D.int = LA at *
    generalize (l.drop (at' + 1)).map D.int = LB at *
    generalize (l).map D.int = LL at *
    simp [i34_2, fz, fy, LRu1, LRu2, LRu4, LCu1, LCu2, LCu4, LDu1, LDu2, LDu4, LAu1, LAu2, LAu4, LBu1, LBu2, LBu4, LLu1, LLu2, LLu4, LRfl, LCfl, LDfl, LAfl, LBfl, LLfl, ct, cd, oa, ob, so, l1]
  · exact ⟨l, by omega, by simp [i34_2, h]⟩
theorem st34_3 (hl : l.length ≤ 30) : ∃ l2 : List Int, l2.length ≤ l.length + 1 ∧ i34_3 [x0, .int cell, .int cnt, .int wd, .ol (l.map D.int), .int (at' : Int), .int other] = .nx [x0, .int cell, .int cnt, .int wd, .ol (l2.map D.int), .int (at' : Int), .int other] := by
  by_cases h : wd = 3
  · subst h
    refine ⟨l.take at' ++ cut l (some (at' : Int)) (some ((at' : Int) + 1)) ++ l.drop at', by have cu := cu34 l at'; simp; omega, ?_⟩
    have fz := fz34 x0 (.int cell) (.int cnt) (.int 3) (.int (at' : Int)) (.int other) l
    have fy := fy34 x0 (.int cell) (.int cnt) (.int 3) (.int (at' : Int)) (.int other) (l.map D.int)
    have cu := cu34 l at'
    have ct := c1_34 l at'
    have cd := c2_34 l at'
    have ce := cutI34 l (some (at' : Int)) (some ((at' : Int) + 1))
    have oa := addI34 (l.take at') (cut l (some (at' : Int)) (some ((at' : Int) + 1))) (by simp; omega)
    have ob := addI34 (l.take at' ++ cut l (some (at' : Int)) (some ((at' : Int) + 1))) (l.drop at') (by simp; omega)
    obtain ⟨LRu1, LRu2, _, LRu4, _, _⟩ := dulls dull_int (l.take at' ++ cut l (some (at' : Int)) (some ((at' : Int) + 1)) ++ l.drop at')
    have LRfl := fl34 (l.take at' ++ cut l (some (at' : Int)) (some ((at' : Int) + 1)) ++ l.drop at')
    obtain ⟨LDu1, LDu2, _, LDu4, _, _⟩ := dulls dull_int (l.take at' ++ cut l (some (at' : Int)) (some ((at' : Int) + 1)))
    have LDfl := fl34 (l.take at' ++ cut l (some (at' : Int)) (some ((at' : Int) + 1)))
    obtain ⟨LCu1, LCu2, _, LCu4, _, _⟩ := dulls dull_int (cut l (some (at' : Int)) (some ((at' : Int) + 1)))
    have LCfl := fl34 (cut l (some (at' : Int)) (some ((at' : Int) + 1)))
    obtain ⟨LAu1, LAu2, _, LAu4, _, _⟩ := dulls dull_int (l.take at')
    have LAfl := fl34 (l.take at')
    obtain ⟨LBu1, LBu2, _, LBu4, _, _⟩ := dulls dull_int (l.drop at')
    have LBfl := fl34 (l.drop at')
    obtain ⟨LLu1, LLu2, _, LLu4, _, _⟩ := dulls dull_int (l)
    have LLfl := fl34 (l)
    generalize (l.take at' ++ cut l (some (at' : Int)) (some ((at' : Int) + 1)) ++ l.drop at').map D.int = LR at *
    generalize (l.take at' ++ cut l (some (at' : Int)) (some ((at' : Int) + 1))).map D.int = LD at *
    generalize (cut l (some (at' : Int)) (some ((at' : Int) + 1))).map D.int = LC at *
    generalize (l.take at').map D.int = LA at *
    generalize (l.drop at').map D.int = LB at *
    generalize (l).map D.int = LL at *
    simp [i34_3, fz, fy, LRu1, LRu2, LRu4, LDu1, LDu2, LDu4, LCu1, LCu2, LCu4, LAu1, LAu2, LAu4, LBu1, LBu2, LBu4, LLu1, LLu2, LLu4, LRfl, LDfl, LCfl, LAfl, LBfl, LLfl, ct, cd, ce, oa, ob]
  · exact ⟨l, by omega, by simp [i34_3, h]⟩
theorem st34_4 (hl : l.length ≤ 30) : ∃ l2 : List Int, l2.length ≤ l.length + 1 ∧ i34_4 [x0, .int cell, .int cnt, .int wd, .ol (l.map D.int), .int (at' : Int), .int other] = .nx [x0, .int cell, .int cnt, .int wd, .ol (l2.map D.int), .int (at' : Int), .int other] := by
  by_cases h : wd = 4
  · subst h
    refine ⟨l.reverse, by simp, ?_⟩
    have fz := fz34 x0 (.int cell) (.int cnt) (.int 4) (.int (at' : Int)) (.int other) l
    have fy := fy34 x0 (.int cell) (.int cnt) (.int 4) (.int (at' : Int)) (.int other) (l.map D.int)
    have rv : (l.map D.int).reverse = l.reverse.map D.int := by rw [List.map_reverse]
    have al : ((l.map D.int).all fun d => !own1 d) = true := by simp
    obtain ⟨LRu1, LRu2, _, LRu4, _, _⟩ := dulls dull_int (l.reverse)
    have LRfl := fl34 (l.reverse)
    obtain ⟨LLu1, LLu2, _, LLu4, _, _⟩ := dulls dull_int (l)
    have LLfl := fl34 (l)
    generalize (l.reverse).map D.int = LR at *
    generalize (l).map D.int = LL at *
    simp [i34_4, fz, fy, LRu1, LRu2, LRu4, LLu1, LLu2, LLu4, LRfl, LLfl, rv, al]
  · exact ⟨l, by omega, by simp [i34_4, h]⟩
theorem st34_5 (hl : l.length ≤ 30) : ∃ l2 : List Int, l2.length ≤ l.length + 1 ∧ i34_5 [x0, .int cell, .int cnt, .int wd, .ol (l.map D.int), .int (at' : Int), .int other] = .nx [x0, .int cell, .int cnt, .int wd, .ol (l2.map D.int), .int (at' : Int), .int other] := by
  by_cases h : wd = 5
  · subst h
    refine ⟨l.take at' ++ l.drop (at' + 1) ++ [cnt + stF cell 14 % 3], by simp; omega, ?_⟩
    have fz := fz34 x0 (.int cell) (.int cnt) (.int 5) (.int (at' : Int)) (.int other) l
    have fy := fy34 x0 (.int cell) (.int cnt) (.int 5) (.int (at' : Int)) (.int other) (l.map D.int)
    have s14 := stir_ok cell 14
    have ct := c1_34 l at'
    have cd := c3_34 l at'
    have oa := addI34 (l.take at') (l.drop (at' + 1)) (by simp; omega)
    have ob := addI34 (l.take at' ++ l.drop (at' + 1)) ([cnt + stF cell 14 % 3]) (by simp; omega)
    rw [← one34] at ob
    have l1 := lm34 1 (by decide)
    obtain ⟨LRu1, LRu2, _, LRu4, _, _⟩ := dulls dull_int (l.take at' ++ l.drop (at' + 1) ++ [cnt + stF cell 14 % 3])
    have LRfl := fl34 (l.take at' ++ l.drop (at' + 1) ++ [cnt + stF cell 14 % 3])
    obtain ⟨LDu1, LDu2, _, LDu4, _, _⟩ := dulls dull_int (l.take at' ++ l.drop (at' + 1))
    have LDfl := fl34 (l.take at' ++ l.drop (at' + 1))
    obtain ⟨LAu1, LAu2, _, LAu4, _, _⟩ := dulls dull_int (l.take at')
    have LAfl := fl34 (l.take at')
    obtain ⟨LBu1, LBu2, _, LBu4, _, _⟩ := dulls dull_int (l.drop (at' + 1))
    have LBfl := fl34 (l.drop (at' + 1))
    obtain ⟨LLu1, LLu2, _, LLu4, _, _⟩ := dulls dull_int (l)
    have LLfl := fl34 (l)
    generalize (l.take at' ++ l.drop (at' + 1) ++ [cnt + stF cell 14 % 3]).map D.int = LR at *
    generalize (l.take at' ++ l.drop (at' + 1)).map D.int = LD at *
    generalize (l.take at').map D.int = LA at *
    generalize (l.drop (at' + 1)).map D.int = LB at *
    generalize (l).map D.int = LL at *
    simp [i34_5, fz, fy, LRu1, LRu2, LRu4, LDu1, LDu2, LDu4, LAu1, LAu2, LAu4, LBu1, LBu2, LBu4, LLu1, LLu2, LLu4, LRfl, LDfl, LAfl, LBfl, LLfl, s14, ct, cd, oa, ob, l1]
  · exact ⟨l, by omega, by simp [i34_5, h]⟩
theorem st34_6 (hl : l.length ≤ 30) : ∃ l2 : List Int, l2.length ≤ l.length + 1 ∧ i34_6 [x0, .int cell, .int cnt, .int wd, .ol (l.map D.int), .int (at' : Int), .int other] = .nx [x0, .int cell, .int cnt, .int wd, .ol (l2.map D.int), .int (at' : Int), .int other] := by
  by_cases h : wd = 6
  · subst h
    refine ⟨[-1 - cell % 10 ^ 30] ++ l.drop 1, by simp, ?_⟩
    have fz := fz34 x0 (.int cell) (.int cnt) (.int 6) (.int (at' : Int)) (.int other) l
    have fy := fy34 x0 (.int cell) (.int cnt) (.int 6) (.int (at' : Int)) (.int other) (l.map D.int)
    have p30 : opPow (.int 10) (.int 30) = some (.int (10 ^ 30)) := by kernel_rfl
    have pp : (0 : Int) < 10 ^ 30 := by decide
    have cd : cut (l.map D.int) (some 1) none = (l.drop 1).map D.int := by rw [cutI34, cut_from _ 1 (by omega)]; rfl
    have oa := addI34 ([-1 - cell % 10 ^ 30]) (l.drop 1) (by simp; omega)
    rw [← one34] at oa
    have l1 := lm34 1 (by decide)
    generalize (10 : Int) ^ 30 = P at *
    obtain ⟨LRu1, LRu2, _, LRu4, _, _⟩ := dulls dull_int ([-1 - cell % P] ++ l.drop 1)
    have LRfl := fl34 ([-1 - cell % P] ++ l.drop 1)
    obtain ⟨LBu1, LBu2, _, LBu4, _, _⟩ := dulls dull_int (l.drop 1)
    have LBfl := fl34 (l.drop 1)
    obtain ⟨LLu1, LLu2, _, LLu4, _, _⟩ := dulls dull_int (l)
    have LLfl := fl34 (l)
    generalize ([-1 - cell % P] ++ l.drop 1).map D.int = LR at *
    generalize (l.drop 1).map D.int = LB at *
    generalize (l).map D.int = LL at *
    simp [i34_6, fz, fy, LRu1, LRu2, LRu4, LBu1, LBu2, LBu4, LLu1, LLu2, LLu4, LRfl, LBfl, LLfl, p30, pp, cd, oa, l1]
  · exact ⟨l, by omega, by simp [i34_6, h]⟩
end
theorem spoilt34 (T : List Int) (hT : T.length ≤ 6) (cell cnt : Int) (hc : 0 ≤ cnt) : ∃ L : List Int, L.length ≤ 40 ∧ g_law_spoilt_v4 [.tp (T.map D.int), .int cell, .int cnt] = .ok (.ol (L.map D.int)) := by
  have lm := lm34
  have s11 := stir_ok cell 11
  have s12 := stir_ok cell 12
  have s13 := stir_ok cell 13
  have s14 := stir_ok cell 14
  have n12 := stF_nn cell 12
  obtain ⟨d1, d2, d3, d4, d5, d6⟩ := dulls dull_int T
  have lT : ((T.map D.int).length : Int) = T.length := by simp
  have pos1 : (0 : Int) < (T.length : Int) + 1 := by omega
  have pos2 : (0 : Int) < cnt + 1 := by omega
  obtain ⟨at', e_at, at0, at1⟩ : ∃ a : Nat, stF cell 12 % ((T.length : Int) + 1) = (a : Int) ∧ 0 ≤ a ∧ a ≤ T.length := by
    have a0 := Int.emod_nonneg (stF cell 12) (b := (T.length : Int) + 1) (by omega)
    have a1 := Int.emod_lt_of_pos (stF cell 12) (b := (T.length : Int) + 1) (by omega)
    exact ⟨(stF cell 12 % ((T.length : Int) + 1)).toNat, by omega, by omega, by omega⟩
  generalize stF cell 11 = w at *
  generalize stF cell 13 = o at *
  generalize stF cell 14 = q at *
  generalize ho : o % (cnt + 1) = other at *
  have c1 : ∀ (a : List Int) (k : Nat), cut (a.map D.int) none (some (k : Int)) = (a.take k).map D.int := fun a k => by rw [cutI34, cut_to _ _ (by omega), Int.toNat_natCast]
  have c2 : ∀ (a : List Int) (k : Nat), cut (a.map D.int) (some (k : Int)) none = (a.drop k).map D.int := fun a k => by rw [cutI34, cut_from _ _ (by omega), Int.toNat_natCast]
  have c3 : ∀ (a : List Int) (k : Nat), cut (a.map D.int) (some ((k : Int) + 1)) none = (a.drop (k + 1)).map D.int := fun a k => by rw [cutI34, cut_from _ _ (by omega)]; rfl
  have head : ∀ {r : Env → Out} {o2 : Out}, r [.tp (T.map D.int), .int cell, .int cnt, .int (w % 8), .ol (T.map D.int), .int (at' : Int), .int other] = o2 →
      sSeq (sAsgF 3 (eBin opMod (eOwn g_law_stir (aCons (eVar 1) (aCons (eC (.int 11)) (aNil)))) (eC (.int 8)))) (sSeq (sAsg 4 (eCall caList (aCons (eVar 0) (aNil)))) (sSeq (sAsgF 5 (eBin opMod (eOwn g_law_stir (aCons (eVar 1) (aCons (eC (.int 12)) (aNil)))) (eBin opAdd (eCall caLen (aCons (eVar 4) (aNil))) (eC (.int 1))))) (sSeq (sAsgF 6 (eBin opMod (eOwn g_law_stir (aCons (eVar 1) (aCons (eC (.int 13)) (aNil)))) (eBin opAdd (eVar 2) (eC (.int 1))))) r))) [.tp (T.map D.int), .int cell, .int cnt, .un, .un, .un, .un] = o2 := fun {r o2} h => by
    generalize T.map D.int = TL at *
    refine seq_to (g1 := [.tp TL, .int cell, .int cnt, .int (w % 8), .un, .un, .un]) (by simp [s11]) ?_
    refine seq_to (g1 := [.tp TL, .int cell, .int cnt, .int (w % 8), .ol TL, .un, .un]) (by simp [d1, d2, d4]) ?_
    refine seq_to (g1 := [.tp TL, .int cell, .int cnt, .int (w % 8), .ol TL, .int (at' : Int), .un]) (by simp [s12, d1, d2, d4, lT, pos1, e_at]) ?_
    exact seq_to (g1 := [.tp TL, .int cell, .int cnt, .int (w % 8), .ol TL, .int (at' : Int), .int other]) (by simp [s13, pos2, ho]) h
  unfold f_law_spoilt_v4 at *
  obtain ⟨L0, b0, e0⟩ := st34_0 (x0 := .tp (T.map D.int)) (cell := cell) (cnt := cnt) (wd := w % 8) (other := other) (at' := at') (l := T) (by omega)
  obtain ⟨L1, b1, e1⟩ := st34_1 (x0 := .tp (T.map D.int)) (cell := cell) (cnt := cnt) (wd := w % 8) (other := other) (at' := at') (l := L0) (by omega)
  obtain ⟨L2, b2, e2⟩ := st34_2 (x0 := .tp (T.map D.int)) (cell := cell) (cnt := cnt) (wd := w % 8) (other := other) (at' := at') (l := L1) (by omega)
  obtain ⟨L3, b3, e3⟩ := st34_3 (x0 := .tp (T.map D.int)) (cell := cell) (cnt := cnt) (wd := w % 8) (other := other) (at' := at') (l := L2) (by omega)
  obtain ⟨L4, b4, e4⟩ := st34_4 (x0 := .tp (T.map D.int)) (cell := cell) (cnt := cnt) (wd := w % 8) (other := other) (at' := at') (l := L3) (by omega)
  obtain ⟨L5, b5, e5⟩ := st34_5 (x0 := .tp (T.map D.int)) (cell := cell) (cnt := cnt) (wd := w % 8) (other := other) (at' := at') (l := L4) (by omega)
  obtain ⟨L6, b6, e6⟩ := st34_6 (x0 := .tp (T.map D.int)) (cell := cell) (cnt := cnt) (wd := w % 8) (other := other) (at' := at') (l := L5) (by omega)
  refine ⟨L6, by omega, run_rt34 (g := [.tp (T.map D.int), .int cell, .int cnt, .un, .un, .un, .un]) ?_ rfl⟩
  unfold f_law_spoilt_v4
  refine head ?_
  refine seq_to e0 (seq_to e1 (seq_to e2 (seq_to e3 (seq_to e4 (seq_to e5 (seq_to e6 ?_))))))
  rfl
theorem pick6 {α : Type} (l : List α) (f : α → D) (m : Int) (h : l ≠ []) : ∃ x ∈ l, atI (l.map f) (m % (l.length : Int)) = some (f x) := by
  have hl : 0 < l.length := List.length_pos_iff.mpr h
  have a0 := Int.emod_nonneg m (b := (l.length : Int)) (by omega)
  have a1 := Int.emod_lt_of_pos m (b := (l.length : Int)) (by omega)
  obtain ⟨k, hk⟩ : ∃ k : Nat, m % (l.length : Int) = k := ⟨(m % (l.length : Int)).toNat, by omega⟩
  have kl : k < l.length := by omega
  refine ⟨l[k], List.getElem_mem kl, ?_⟩
  rw [DL.atI_natG (j := k) hk (by simpa using kl)]
  simp [kl]
theorem no_set34 (cell : Int) (n : Nat) : ∃ B : List Int, B.length ≤ 2 ∧ goodB n B = false ∧ g_law_no_set_v2 [.int cell, .int n] = .ok (.ls (B.map D.int)) := by
  have lm := lm34
  have s15 := stir_ok cell 15
  obtain ⟨B, hB, e⟩ := pick6 [[0, 0], [1, 0], [-1], [(n : Int)], [0, (n : Int) + 5], [(n : Int) - 1, (n : Int)]] (fun l : List Int => D.ls (l.map D.int)) (stF cell 15) (by simp)
  refine ⟨B, ?_, ?_, run_rt34 (g := [.int cell, .int n, .un]) ?_ rfl⟩
  · simp only [List.mem_cons, List.not_mem_nil, or_false] at hB
    rcases hB with rfl | rfl | rfl | rfl | rfl | rfl <;> simp
  · simp only [List.mem_cons, List.not_mem_nil, or_false] at hB
    rcases hB with rfl | rfl | rfl | rfl | rfl | rfl
    · simp [goodB, goodAux]
    · simp [goodB, goodAux]
    · simp [goodB, goodAux]
    · simp [goodB, goodAux]
    · simp [goodB, goodAux]; omega
    · simp [goodB, goodAux]
  · have e : atI [D.ls [D.int 0, .int 0], D.ls [D.int 1, .int 0], D.ls [D.int (-1)], D.ls [D.int (n : Int)], D.ls [D.int 0, .int ((n : Int) + 5)], D.ls [D.int ((n : Int) - 1), .int (n : Int)]] (stF cell 15 % 6) = some (.ls (B.map D.int)) := e
    generalize stF cell 15 = q at *
    generalize B.map D.int = BB at *
    unfold f_law_no_set_v2
    refine seq_to (g1 := [.int cell, .int n, .ls [.ls [D.int 0, .int 0], .ls [D.int 1, .int 0], .ls [D.int (-1)], .ls [D.int (n : Int)], .ls [D.int 0, .int ((n : Int) + 5)], .ls [D.int ((n : Int) - 1), .int (n : Int)]]]) (by simp [lm]) ?_
    simp [s15, e]
def good34 (cell : Int) (n : Nat) : List Int := (iota n).filter fun t => decide (stF cell (16 + t) % 3 = 1)
theorem good34_good (cell : Int) (n : Nat) : goodB n (good34 cell n) = true := by
  obtain ⟨h1, h2⟩ := good_iff.mp (iota_good n)
  exact good_iff.mpr ⟨fun t ht => h1 t (List.mem_filter.mp ht).1, List.Pairwise.sublist List.filter_sublist h2⟩
theorem good34_len (cell : Int) (n : Nat) : (good34 cell n).length ≤ n := Nat.le_trans (List.length_filter_le ..) (by simp [iota])
section
variable {p : Nat} {ts : List (Int × Int)}
theorem l1_34 (hp : 1 ≤ p) (hp2 : p ≤ 6) (hE : EndsOk p ts) (ht : ts.length ≤ 12) (T : List Int) (k : Nat) (hk : k < 3) (x0 x1 x2 x4 x5 x9 x10 x11 x12 x13 : D) :
    f_law_k34_l1 [x0, x1, x2, .ob 14 [.int p, .ls (ts.map dP)], x4, x5, .ls (T.map D.int), .str (if T ∈ trees p ts then "told" else "tree"), .int k, x9, x10, x11, x12, x13] = .nx [x0, x1, x2, .ob 14 [.int p, .ls (ts.map dP)], x4, x5, .ls (T.map D.int), .str (if T ∈ trees p ts then "told" else "tree"), .int k, x9, x10, x11, x12, x13] := by
  have t := told_tree hp hp2 hE ht T k hk
  obtain ⟨d1, d2, d3, d4, d5, d6⟩ := dulls dull_int T
  generalize (if T ∈ trees p ts then ("told" : Str) else "tree") = due at *
  generalize ts.map dP = TT at *
  generalize T.map D.int = TL at *
  simp [f_law_k34_l1, d1, d2, d4, t]
theorem for1_34 (hp : 1 ≤ p) (hp2 : p ≤ 6) (hE : EndsOk p ts) (ht : ts.length ≤ 12) (T : List Int) (x0 x1 x2 x4 x5 y8 x9 x10 x11 x12 x13 : D) :
    forL (gtN 8) f_law_k34_l1 [.int 0, .int 1, .int 2] [x0, x1, x2, .ob 14 [.int p, .ls (ts.map dP)], x4, x5, .ls (T.map D.int), .str (if T ∈ trees p ts then "told" else "tree"), y8, x9, x10, x11, x12, x13] = .nx [x0, x1, x2, .ob 14 [.int p, .ls (ts.map dP)], x4, x5, .ls (T.map D.int), .str (if T ∈ trees p ts then "told" else "tree"), .int 2, x9, x10, x11, x12, x13] := by
  have a := l1_34 hp hp2 hE ht T 0 (by decide) x0 x1 x2 x4 x5 x9 x10 x11 x12 x13
  have b := l1_34 hp hp2 hE ht T 1 (by decide) x0 x1 x2 x4 x5 x9 x10 x11 x12 x13
  have c := l1_34 hp hp2 hE ht T 2 (by decide) x0 x1 x2 x4 x5 x9 x10 x11 x12 x13
  refine (forL_step (by simp) a).trans ?_
  refine (forL_step (by simp) b).trans ?_
  refine (forL_step (by simp) c).trans ?_
  rfl
theorem l4_34 {A B : List Int} (h : goodB ts.length A = false ∨ goodB ts.length B = false) (k : Nat) (hk : k = 3 ∨ k = 4) (x0 x1 x2 x4 x5 x6 x7 x9 x10 x13 : D) :
    f_law_k34_l4 [x0, x1, x2, .ob 14 [.int p, .ls (ts.map dP)], x4, x5, x6, x7, .int k, x9, x10, .ls (A.map D.int), .ls (B.map D.int), x13] = .nx [x0, x1, x2, .ob 14 [.int p, .ls (ts.map dP)], x4, x5, x6, x7, .int k, x9, x10, .ls (A.map D.int), .ls (B.map D.int), x13] := by
  have t := told_set (p := p) h k hk
  obtain ⟨d1, d2, d3, d4, d5, d6⟩ := dulls dull_int A
  obtain ⟨u1, u2, u3, u4, u5, u6⟩ := dulls dull_int B
  generalize ts.map dP = TT at *
  generalize A.map D.int = AA at *
  generalize B.map D.int = BB at *
  simp [f_law_k34_l4, d1, d2, d4, u1, u2, u4, t]
theorem l5_34 (hp : 1 ≤ p) (hp2 : p ≤ 6) (hE : EndsOk p ts) (ht : ts.length ≤ 12) {B G : List Int} (hB : goodB ts.length B = false) (hG : goodB ts.length G = true) (lG : G.length ≤ 100) (k : Nat) (hk : k = 3 ∨ k = 4) (x0 x1 x2 x4 x5 x6 x7 y11 y12 x13 : D) :
    ∃ z11 z12, f_law_k34_l5 [x0, x1, x2, .ob 14 [.int p, .ls (ts.map dP)], x4, x5, x6, x7, .int k, .ls (B.map D.int), .ls (G.map D.int), y11, y12, x13] = .nx [x0, x1, x2, .ob 14 [.int p, .ls (ts.map dP)], x4, x5, x6, x7, .int k, .ls (B.map D.int), .ls (G.map D.int), z11, z12, x13] := by
  have a := l4_34 (p := p) (A := B) (B := G) (.inl hB) k hk x0 x1 x2 x4 x5 x6 x7 (.ls (B.map D.int)) (.ls (G.map D.int)) x13
  have b := l4_34 (p := p) (A := G) (B := B) (.inr hB) k hk x0 x1 x2 x4 x5 x6 x7 (.ls (B.map D.int)) (.ls (G.map D.int)) x13
  have c := l4_34 (p := p) (A := B) (B := B) (.inl hB) k hk x0 x1 x2 x4 x5 x6 x7 (.ls (B.map D.int)) (.ls (G.map D.int)) x13
  have t := told_ok hp hp2 hE ht (A := G) (B := []) hG rfl lG (by decide) k hk
  obtain ⟨d1, d2, d3, d4, d5, d6⟩ := dulls dull_int B
  obtain ⟨u1, u2, u3, u4, u5, u6⟩ := dulls dull_int G
  have l3 := lm34 3 (by decide)
  have l2 := lm34 2 (by decide)
  simp only [List.map_nil] at t
  generalize ts.map dP = TT at *
  generalize B.map D.int = BB at *
  generalize G.map D.int = GG at *
  refine ⟨.ls BB, .ls BB, ?_⟩
  have fl : forL (gtT 2 (gtCons (gtN 11) (gtCons (gtN 12) (gtNil)))) f_law_k34_l4 [.tp [.ls BB, .ls GG], .tp [.ls GG, .ls BB], .tp [.ls BB, .ls BB]] [x0, x1, x2, .ob 14 [.int p, .ls TT], x4, x5, x6, x7, .int k, .ls BB, .ls GG, y11, y12, x13] = .nx [x0, x1, x2, .ob 14 [.int p, .ls TT], x4, x5, x6, x7, .int k, .ls BB, .ls GG, .ls BB, .ls BB, x13] := by
    refine (forL_step (by simp) a).trans ?_
    refine (forL_step (by simp) b).trans ?_
    refine (forL_step (by simp) c).trans ?_
    rfl
  unfold f_law_k34_l5
  refine seq_to (g1 := [x0, x1, x2, .ob 14 [.int p, .ls TT], x4, x5, x6, x7, .int k, .ls BB, .ls GG, .ls BB, .ls BB, x13]) ?_ ?_
  · refine Eq.trans ?_ fl
    simp [l2, l3, d1, d2, d4, u1, u2, u4]
  · simp [t, d1, d2, d4, u1, u2, u4]
end
theorem c2_lc34 (cell : Int) (n : Nat) (x0 x1 x2 x3 x4 x6 x7 x8 x9 x10 x11 x12 : D) : lcL (gtN 13) f_law_k34_c2t f_law_k34_c2 [x0, x1, x2, x3, x4, .int cell, x6, x7, x8, x9, x10, x11, x12, .un] ((iota n).map D.int) = .ok ((good34 cell n).map D.int) := by
  unfold good34
  refine lcL_filterN (iota n) fun t ht => ⟨?_, fun _ => ?_⟩
  · have s := stir_ok cell (16 + t)
    simp [f_law_k34_c2t, s]
  · simp [f_law_k34_c2]
theorem l6_34 {p : Nat} {ts : List (Int × Int)} (hp : 1 ≤ p) (hp2 : p ≤ 6) (hE : EndsOk p ts) (ht : ts.length ≤ 12) (lT : (trees p ts).length ≤ 100000) (cell : Int) (x0 y6 y7 y8 y9 y10 y11 y12 : D) :
    ∃ z6 z7 z8 z9 z10 z11 z12, f_law_k34_l6 [x0, .int p, .ls (ts.map dP), .ob 14 [.int p, .ls (ts.map dP)], .ls ((trees p ts).map dT), .int cell, y6, y7, y8, y9, y10, y11, y12, .un] = .nx [x0, .int p, .ls (ts.map dP), .ob 14 [.int p, .ls (ts.map dP)], .ls ((trees p ts).map dT), .int cell, z6, z7, z8, z9, z10, z11, z12, .un] := by
  obtain ⟨T, hT, oi⟩ : ∃ T : List Int, T.length ≤ 6 ∧ atI ((trees p ts).map dT ++ [.tp []]) 0 = some (.tp (T.map D.int)) := by
    cases e : trees p ts with
    | nil => exact ⟨[], by decide, rfl⟩
    | cons T R =>
      have m : T ∈ trees p ts := by rw [e]; exact List.mem_cons_self ..
      obtain ⟨h1, _⟩ := tree_parts ((trees_mem hp).mp m)
      refine ⟨T, by omega, ?_⟩
      rw [DL.atI_natG (i := 0) (j := 0) rfl (by simp)]
      rfl
  obtain ⟨L, lL, sp⟩ := spoilt34 T hT cell ts.length (by omega)
  obtain ⟨B, lB, hB, ns⟩ := no_set34 cell ts.length
  have hG := good34_good cell ts.length
  have lG := good34_len cell ts.length
  have f1 := for1_34 hp hp2 hE ht L x0 (.int p) (.ls (ts.map dP)) (.ls ((trees p ts).map dT)) (.int cell) y8 y9 y10 y11 y12 .un
  obtain ⟨a11, a12, ea⟩ := l5_34 (p := p) (ts := ts) hp hp2 hE ht hB hG (by omega) 3 (.inl rfl) x0 (.int p) (.ls (ts.map dP)) (.ls ((trees p ts).map dT)) (.int cell) (.ls (L.map D.int)) (.str (if L ∈ trees p ts then "told" else "tree")) y11 y12 .un
  obtain ⟨b11, b12, eb⟩ := l5_34 (p := p) (ts := ts) hp hp2 hE ht hB hG (by omega) 4 (.inr rfl) x0 (.int p) (.ls (ts.map dP)) (.ls ((trees p ts).map dT)) (.int cell) (.ls (L.map D.int)) (.str (if L ∈ trees p ts then "told" else "tree")) a11 a12 .un
  have ci := cIn2_TL L (trees p ts)
  have lm := lm34
  have lc := fun x6 x7 x8 x9 x10 x11 x12 => c2_lc34 cell ts.length x0 (.int p) (.ls (ts.map dP)) (.ob 14 [.int p, .ls (ts.map dP)]) (.ls ((trees p ts).map dT)) x6 x7 x8 x9 x10 x11 x12
  have oa : opAdd (.ls ((trees p ts).map dT)) (.ls [.tp []]) = some (.ol ((trees p ts).map dT ++ [.tp []])) := by
    rw [opAdd_ll (by simp; rw [lim_eq]; omega)]
  obtain ⟨d1, d2, d3, d4, d5, d6⟩ := dulls dull_int L
  obtain ⟨u1, u2, u3, u4, u5, u6⟩ := dulls dull_int (good34 cell ts.length)
  obtain ⟨v1, v2, v3, v4, v5, v6⟩ := dulls dull_int B
  obtain ⟨w1, w2, w3, w4, w5, w6⟩ := dulls (f := dT) (fun l => ⟨rfl, rfl, rfl, rfl, rfl, rfl⟩) (trees p ts)
  have lP : ((ts.map dP).length : Int) = ts.length := by simp
  have rg : rgOk (ts.length : Int) := rgOk_of (by omega) (by omega)
  have rn : rng 0 ts.length = (iota ts.length).map D.int := by rw [rng_map]; simp [iota]
  have lN : (ts.length : Int).toNat = ts.length := by omega
  have lg : ((good34 cell ts.length).map D.int).length ≤ lim := by rw [List.length_map]; exact lm _ (by omega)
  have nz : nods ((trees p ts).map dT ++ [.tp []]) = true := by simp [w4]
  have fz : frzs ((trees p ts).map dT ++ [.tp []]) = (trees p ts).map dT ++ [.tp []] := by simp [w2]
  have lts := lm ts.length (by omega)
  have due : atI [D.str "tree", D.str "told"] (if decide (L ∈ trees p ts) = true then 1 else 0) = some (.str (if L ∈ trees p ts then "told" else "tree")) := by
    by_cases c : L ∈ trees p ts
    · rw [if_pos c, if_pos (by simpa using c)]; rfl
    · rw [if_neg c, if_neg (by simpa using c)]; rfl
  generalize hdd : (if L ∈ trees p ts then ("told" : Str) else "tree") = dd at *
  generalize decide (L ∈ trees p ts) = db at *
  refine ⟨.ls (L.map D.int), .str dd, .int 4, .ls (B.map D.int), .ls ((good34 cell ts.length).map D.int), b11, b12, ?_⟩
  generalize (good34 cell ts.length).map D.int = GG at *
  generalize B.map D.int = BB at *
  generalize L.map D.int = LL at *
  generalize T.map D.int = TL at *
  generalize (trees p ts).map dT = TR at *
  generalize ts.map dP = TT at *
  generalize (ts.length : Int) = N at *
  have l1 := lm 1 (by decide)
  have l2 := lm 2 (by decide)
  unfold f_law_k34_l6
  refine seq_to (g1 := [x0, .int p, .ls TT, .ob 14 [.int p, .ls TT], .ls TR, .int cell, .ls LL, y7, y8, y9, y10, y11, y12, .un]) (by simp [l1, oa, nz, fz, oi, lP, sp, d2, d4]) ?_
  refine seq_to (g1 := [x0, .int p, .ls TT, .ob 14 [.int p, .ls TT], .ls TR, .int cell, .ls LL, .str dd, y8, y9, y10, y11, y12, .un]) ?_ ?_
  · simp [l2, ci, due, d2, d4]
  refine seq_to (g1 := [x0, .int p, .ls TT, .ob 14 [.int p, .ls TT], .ls TR, .int cell, .ls LL, .str dd, .int 2, y9, y10, y11, y12, .un]) ?_ ?_
  · refine Eq.trans ?_ f1
    have rg3 : rgOk 3 := rgOk_of (by omega) (by omega)
    have r3 : rng 0 3 = [.int 0, .int 1, .int 2] := rfl
    simp [rg3, r3]
  refine seq_to (g1 := [x0, .int p, .ls TT, .ob 14 [.int p, .ls TT], .ls TR, .int cell, .ls LL, .str dd, .int 2, .ls BB, y10, y11, y12, .un]) (by simp [lP, ns]) ?_
  refine seq_to (g1 := [x0, .int p, .ls TT, .ob 14 [.int p, .ls TT], .ls TR, .int cell, .ls LL, .str dd, .int 2, .ls BB, .ls GG, y11, y12, .un]) (by simp [lP, rg, rn, lN, lc, lg, lts, u2, u4]) ?_
  have fl : forL (gtN 8) f_law_k34_l5 [.int 3, .int 4] [x0, .int p, .ls TT, .ob 14 [.int p, .ls TT], .ls TR, .int cell, .ls LL, .str dd, .int 2, .ls BB, .ls GG, y11, y12, .un] = .nx [x0, .int p, .ls TT, .ob 14 [.int p, .ls TT], .ls TR, .int cell, .ls LL, .str dd, .int 4, .ls BB, .ls GG, b11, b12, .un] := by
    refine (forL_step (by simp) ea).trans ?_
    refine (forL_step (by simp) eb).trans ?_
    rfl
  refine Eq.trans ?_ fl
  simp [l2]
theorem for6_34 {p : Nat} {ts : List (Int × Int)} (hp : 1 ≤ p) (hp2 : p ≤ 6) (hE : EndsOk p ts) (ht : ts.length ≤ 12) (lT : (trees p ts).length ≤ 100000) (x0 : D) : ∀ (cs : List Int) (y5 y6 y7 y8 y9 y10 y11 y12 : D),
    ∃ z5 z6 z7 z8 z9 z10 z11 z12, forL (gtN 5) f_law_k34_l6 (cs.map D.int) [x0, .int p, .ls (ts.map dP), .ob 14 [.int p, .ls (ts.map dP)], .ls ((trees p ts).map dT), y5, y6, y7, y8, y9, y10, y11, y12, .un] = .nx [x0, .int p, .ls (ts.map dP), .ob 14 [.int p, .ls (ts.map dP)], .ls ((trees p ts).map dT), z5, z6, z7, z8, z9, z10, z11, z12, .un]
  | [], y5, y6, y7, y8, y9, y10, y11, y12 => ⟨y5, y6, y7, y8, y9, y10, y11, y12, rfl⟩
  | c :: cs, y5, y6, y7, y8, y9, y10, y11, y12 => by
    obtain ⟨a6, a7, a8, a9, a10, a11, a12, e⟩ := l6_34 hp hp2 hE ht lT c x0 y6 y7 y8 y9 y10 y11 y12
    obtain ⟨z5, z6, z7, z8, z9, z10, z11, z12, e2⟩ := for6_34 hp hp2 hE ht lT x0 cs (.int c) a6 a7 a8 a9 a10 a11 a12
    exact ⟨z5, z6, z7, z8, z9, z10, z11, z12, (forL_step (by simp) e).trans e2⟩
theorem true_law_k34 (ns : List Int) (h : ns.length ≤ 63) : g_law_k34 [.sc (ns.map D.int)] = .ok (.bl true) := by
  obtain ⟨p', ts, p1, p2, t1, hE, ew⟩ := web3_ok ns 6 12 (by omega) (by omega) (by omega) (by omega) (by omega)
  obtain ⟨p, rfl⟩ : ∃ p : Nat, p' = p := ⟨p'.toNat, by omega⟩
  have hp : 1 ≤ p := by omega
  have ei := web_init_ok p ts (by omega) (by omega) (by omega) hE
  have tr := trees3_ok p hp (by omega) ts hE (by omega)
  have hl := trees_len p ts
  have hb : (trees p ts).length ≤ 100000 := Nat.le_trans hl (Nat.le_trans (Nat.pow_le_pow_right (by omega) (show ts.length ≤ 12 by omega)) (by decide))
  obtain ⟨z5, z6, z7, z8, z9, z10, z11, z12, e⟩ := for6_34 hp (by omega) hE (by omega) hb (.sc (ns.map D.int)) ([0, 1] ++ ns.take 6) .un .un .un .un .un .un .un .un
  have sl : opSl (.sc (ns.map D.int)) none (some 6) = some (.ol ((ns.take 6).map D.int)) := by
    show some (D.ol (cut (ns.map D.int) none (some 6))) = _
    rw [cutI34, cut_to _ 6 (by omega)]
    rfl
  have oa : opAdd (.ls [.int 0, .int 1]) (.ls ((ns.take 6).map D.int)) = some (.ol (([0, 1] ++ ns.take 6).map D.int)) := addI34 [0, 1] (ns.take 6) (by simp; omega)
  obtain ⟨d1, d2, d3, d4, d5, d6⟩ := dulls dull_P ts
  obtain ⟨w1, w2, w3, w4, w5, w6⟩ := dulls (f := dT) (fun l => ⟨rfl, rfl, rfl, rfl, rfl, rfl⟩) (trees p ts)
  obtain ⟨v1, v2, v3, v4, v5, v6⟩ := dulls dull_int ([0, 1] ++ ns.take 6)
  obtain ⟨u1, u2, u3, u4, u5, u6⟩ := dulls dull_int (ns.take 6)
  have l2 := lm34 2 (by decide)
  generalize ([0, 1] ++ ns.take 6).map D.int = CS at *
  generalize (ns.take 6).map D.int = C6 at *
  generalize ns.map D.int = NN at *
  generalize (trees p ts).map dT = TR at *
  generalize ts.map dP = TT at *
  refine run_rt34 (g := [.sc NN, .un, .un, .un, .un, .un, .un, .un, .un, .un, .un, .un, .un, .un]) ?_ rfl
  unfold f_law_k34
  refine seq_to (g1 := [.sc NN, .int p, .ls TT, .un, .un, .un, .un, .un, .un, .un, .un, .un, .un, .un]) (by simp [ew]) ?_
  refine seq_to (g1 := [.sc NN, .int p, .ls TT, .ob 14 [.int p, .ls TT], .un, .un, .un, .un, .un, .un, .un, .un, .un, .un]) (by simp [d1, d2, d4, ei]) ?_
  refine seq_to (g1 := [.sc NN, .int p, .ls TT, .ob 14 [.int p, .ls TT], .ls TR, .un, .un, .un, .un, .un, .un, .un, .un, .un]) (by simp [tr, w2, w4]) ?_
  refine seq_to (g1 := [.sc NN, .int p, .ls TT, .ob 14 [.int p, .ls TT], .ls TR, z5, z6, z7, z8, z9, z10, z11, z12, .un]) ?_ (by simp)
  refine Eq.trans ?_ e
  simp [sl, oa, l2, u2, u4, v1, v2, v4]
end Lw
end

namespace Lw
open PySem L2 DL
def top (i : Nat) : Stmt := PySem.Challenge.pw_spanrow_k34_no_trees_no_sets.main.body.getD i (.Pass ⟨0, 0, 0, 0⟩)
abbrev s_look_at_table : Stmt := top 8
abbrev s_first_row_with : Stmt := top 9
abbrev s_cleared : Stmt := top 10
abbrev s_determinant : Stmt := top 11
abbrev s_Web_init : Stmt := inClass (top 15) 0
abbrev s_made_set : Stmt := top 16
abbrev s_marks_over : Stmt := top 17
abbrev s_pieces_of : Stmt := top 18
abbrev s_pulls : Stmt := top 20
abbrev s_without_last : Stmt := top 21
abbrev s_pull_table : Stmt := top 22
abbrev s_tree_count : Stmt := top 23
abbrev s_count_with : Stmt := top 24
abbrev s_is_tree : Stmt := top 26
abbrev s_refuse_no_tree : Stmt := top 28
abbrev s_tree_at : Stmt := top 29
abbrev s_number_of : Stmt := top 30
abbrev s_next_tree : Stmt := top 31
abbrev s_tree_ahead : Stmt := top 32
abbrev s_heads_behind : Stmt := top 33
abbrev s_grown_by : Stmt := top 34
abbrev s_looked_at_sets : Stmt := top 35
abbrev s_least_with : Stmt := top 36
abbrev s_greatest_with : Stmt := top 37
abbrev s_law_at : Stmt := top 39
abbrev s_law_stir : Stmt := top 40
abbrev s_law_numbers_v3 : Stmt := top 41
abbrev s_law_digits : Stmt := top 42
abbrev s_law_web_v3 : Stmt := top 43
abbrev s_law_trees_v3 : Stmt := top 44
abbrev s_law_spoilt_v4 : Stmt := top 45
abbrev s_law_no_set_v2 : Stmt := top 46
abbrev s_law_told_v8 : Stmt := top 47
abbrev s_law_k34 : Stmt := top 48
abbrev N_look_at_table : List Str := ["table", "row"]
abbrev N_first_row_with : List Str := ["rows", "at", "k"]
abbrev N_cleared : List Str := ["rows", "at", "ahead", "told", "pivot", "row", "made", "j"]
abbrev N_determinant : List Str := ["table", "rows", "sign", "ahead", "at", "found", "row"]
abbrev N_Web_init : List Str := ["self", "places", "ties", "one", "other"]
abbrev N_made_set : List Str := ["web", "ties", "ahead", "tie"]
abbrev N_marks_over : List Str := ["web", "ties", "marks", "tie", "one", "other", "low", "high", "mark"]
abbrev N_pieces_of : List Str := ["web", "ties", "marks", "mark", "place"]
abbrev N_pulls : List Str := ["count", "ties", "table", "one", "other", "place"]
abbrev N_without_last : List Str := ["table", "row"]
abbrev N_pull_table : List Str := ["web"]
abbrev N_tree_count : List Str := ["web"]
abbrev N_count_with : List Str := ["web", "inside", "outside", "kept", "shut", "pieces", "place", "k", "piece", "one", "ties", "tie", "pair"]
abbrev N_is_tree : List Str := ["web", "ties", "ahead", "tie"]
abbrev N_refuse_no_tree : List Str := ["web", "tree"]
abbrev N_tree_at : List Str := ["web", "number", "inside", "outside", "tie", "count"]
abbrev N_number_of : List Str := ["web", "tree", "number", "inside", "outside", "tie"]
abbrev N_next_tree : List Str := ["web", "tree", "number"]
abbrev N_tree_ahead : List Str := ["web", "tree", "number"]
abbrev N_heads_behind : List Str := ["heads", "one", "other", "head"]
abbrev N_grown_by : List Str := ["web", "inside", "outside", "others", "told", "heads", "tie", "one", "other"]
abbrev N_looked_at_sets : List Str := ["web", "inside", "outside", "one", "other"]
abbrev N_least_with : List Str := ["web", "inside", "outside", "sets"]
abbrev N_greatest_with : List Str := ["web", "inside", "outside", "sets"]
abbrev N_law_at : List Str := ["script", "k"]
abbrev N_law_stir : List Str := ["cell", "k", "m"]
abbrev N_law_numbers_v3 : List Str := ["script", "start", "most", "told", "k", "cell"]
abbrev N_law_digits : List Str := ["cell", "most_places", "most_ties", "places", "whole", "ties", "rest", "k"]
abbrev N_law_web_v3 : List Str := ["script", "most_places", "most_ties", "head", "places", "ties", "k", "number", "one", "other"]
abbrev N_law_trees_v3 : List Str := ["places", "ties", "told", "k", "longer", "part", "heads", "tie", "one", "other", "joined_heads", "head"]
abbrev N_law_spoilt_v4 : List Str := ["tree", "cell", "count", "way", "row", "at", "other"]
abbrev N_law_no_set_v2 : List Str := ["cell", "count", "other"]
abbrev N_law_told_v8 : List Str := ["deed", "web", "one", "other", "kind", "e", "kinds", "k", "word"]
abbrev N_law_k34 : List Str := ["script", "places", "ties", "web", "trees", "cell", "odd", "due", "deed", "bad", "good", "one", "other", "tie"]
theorem sc_look_at_table : FnScope ["table", "row"] ["table"] (defScope s_look_at_table) := ⟨rfl, rfl, rfl, by decide +kernel, rfl, by decide +kernel, by decide +kernel⟩
theorem sc_first_row_with : FnScope ["rows", "at", "k"] ["rows", "at"] (defScope s_first_row_with) := ⟨rfl, rfl, rfl, by decide +kernel, rfl, by decide +kernel, by decide +kernel⟩
theorem sc_cleared : FnScope ["rows", "at", "ahead", "told", "pivot", "row", "made", "j"] ["rows", "at", "ahead"] (defScope s_cleared) := ⟨rfl, rfl, rfl, by decide +kernel, rfl, by decide +kernel, by decide +kernel⟩
theorem sc_determinant : FnScope ["table", "rows", "sign", "ahead", "at", "found", "row"] ["table"] (defScope s_determinant) := ⟨rfl, rfl, rfl, by decide +kernel, rfl, by decide +kernel, by decide +kernel⟩
theorem sc_Web_init : FnScope ["self", "places", "ties", "one", "other"] ["self", "places", "ties"] (defScope s_Web_init) := ⟨rfl, rfl, rfl, by decide +kernel, rfl, by decide +kernel, by decide +kernel⟩
theorem sc_made_set : FnScope ["web", "ties", "ahead", "tie"] ["web", "ties"] (defScope s_made_set) := ⟨rfl, rfl, rfl, by decide +kernel, rfl, by decide +kernel, by decide +kernel⟩
theorem sc_marks_over : FnScope ["web", "ties", "marks", "tie", "one", "other", "low", "high", "mark"] ["web", "ties"] (defScope s_marks_over) := ⟨rfl, rfl, rfl, by decide +kernel, rfl, by decide +kernel, by decide +kernel⟩
theorem sc_pieces_of : FnScope ["web", "ties", "marks", "mark", "place"] ["web", "ties"] (defScope s_pieces_of) := ⟨rfl, rfl, rfl, by decide +kernel, rfl, by decide +kernel, by decide +kernel⟩
theorem sc_pulls : FnScope ["count", "ties", "table", "one", "other", "place"] ["count", "ties"] (defScope s_pulls) := ⟨rfl, rfl, rfl, by decide +kernel, rfl, by decide +kernel, by decide +kernel⟩
theorem sc_without_last : FnScope ["table", "row"] ["table"] (defScope s_without_last) := ⟨rfl, rfl, rfl, by decide +kernel, rfl, by decide +kernel, by decide +kernel⟩
theorem sc_pull_table : FnScope ["web"] ["web"] (defScope s_pull_table) := ⟨rfl, rfl, rfl, by decide +kernel, rfl, by decide +kernel, by decide +kernel⟩
theorem sc_tree_count : FnScope ["web"] ["web"] (defScope s_tree_count) := ⟨rfl, rfl, rfl, by decide +kernel, rfl, by decide +kernel, by decide +kernel⟩
theorem sc_count_with : FnScope ["web", "inside", "outside", "kept", "shut", "pieces", "place", "k", "piece", "one", "ties", "tie", "pair"] ["web", "inside", "outside"] (defScope s_count_with) := ⟨rfl, rfl, rfl, by decide +kernel, rfl, by decide +kernel, by decide +kernel⟩
theorem sc_is_tree : FnScope ["web", "ties", "ahead", "tie"] ["web", "ties"] (defScope s_is_tree) := ⟨rfl, rfl, rfl, by decide +kernel, rfl, by decide +kernel, by decide +kernel⟩
theorem sc_refuse_no_tree : FnScope ["web", "tree"] ["web", "tree"] (defScope s_refuse_no_tree) := ⟨rfl, rfl, rfl, by decide +kernel, rfl, by decide +kernel, by decide +kernel⟩
theorem sc_tree_at : FnScope ["web", "number", "inside", "outside", "tie", "count"] ["web", "number"] (defScope s_tree_at) := ⟨rfl, rfl, rfl, by decide +kernel, rfl, by decide +kernel, by decide +kernel⟩
theorem sc_number_of : FnScope ["web", "tree", "number", "inside", "outside", "tie"] ["web", "tree"] (defScope s_number_of) := ⟨rfl, rfl, rfl, by decide +kernel, rfl, by decide +kernel, by decide +kernel⟩
theorem sc_next_tree : FnScope ["web", "tree", "number"] ["web", "tree"] (defScope s_next_tree) := ⟨rfl, rfl, rfl, by decide +kernel, rfl, by decide +kernel, by decide +kernel⟩
theorem sc_tree_ahead : FnScope ["web", "tree", "number"] ["web", "tree"] (defScope s_tree_ahead) := ⟨rfl, rfl, rfl, by decide +kernel, rfl, by decide +kernel, by decide +kernel⟩
theorem sc_heads_behind : FnScope ["heads", "one", "other", "head"] ["heads", "one", "other"] (defScope s_heads_behind) := ⟨rfl, rfl, rfl, by decide +kernel, rfl, by decide +kernel, by decide +kernel⟩
theorem sc_grown_by : FnScope ["web", "inside", "outside", "others", "told", "heads", "tie", "one", "other"] ["web", "inside", "outside", "others"] (defScope s_grown_by) := ⟨rfl, rfl, rfl, by decide +kernel, rfl, by decide +kernel, by decide +kernel⟩
theorem sc_looked_at_sets : FnScope ["web", "inside", "outside", "one", "other"] ["web", "inside", "outside"] (defScope s_looked_at_sets) := ⟨rfl, rfl, rfl, by decide +kernel, rfl, by decide +kernel, by decide +kernel⟩
theorem sc_least_with : FnScope ["web", "inside", "outside", "sets"] ["web", "inside", "outside"] (defScope s_least_with) := ⟨rfl, rfl, rfl, by decide +kernel, rfl, by decide +kernel, by decide +kernel⟩
theorem sc_greatest_with : FnScope ["web", "inside", "outside", "sets"] ["web", "inside", "outside"] (defScope s_greatest_with) := ⟨rfl, rfl, rfl, by decide +kernel, rfl, by decide +kernel, by decide +kernel⟩
theorem sc_law_at : FnScope ["script", "k"] ["script", "k"] (defScope s_law_at) := ⟨rfl, rfl, rfl, by decide +kernel, rfl, by decide +kernel, by decide +kernel⟩
theorem sc_law_stir : FnScope ["cell", "k", "m"] ["cell", "k"] (defScope s_law_stir) := ⟨rfl, rfl, rfl, by decide +kernel, rfl, by decide +kernel, by decide +kernel⟩
theorem sc_law_numbers_v3 : FnScope ["script", "start", "most", "told", "k", "cell"] ["script", "start", "most"] (defScope s_law_numbers_v3) := ⟨rfl, rfl, rfl, by decide +kernel, rfl, by decide +kernel, by decide +kernel⟩
theorem sc_law_digits : FnScope ["cell", "most_places", "most_ties", "places", "whole", "ties", "rest", "k"] ["cell", "most_places", "most_ties"] (defScope s_law_digits) := ⟨rfl, rfl, rfl, by decide +kernel, rfl, by decide +kernel, by decide +kernel⟩
theorem sc_law_web_v3 : FnScope ["script", "most_places", "most_ties", "head", "places", "ties", "k", "number", "one", "other"] ["script", "most_places", "most_ties"] (defScope s_law_web_v3) := ⟨rfl, rfl, rfl, by decide +kernel, rfl, by decide +kernel, by decide +kernel⟩
theorem sc_law_trees_v3 : FnScope ["places", "ties", "told", "k", "longer", "part", "heads", "tie", "one", "other", "joined_heads", "head"] ["places", "ties"] (defScope s_law_trees_v3) := ⟨rfl, rfl, rfl, by decide +kernel, rfl, by decide +kernel, by decide +kernel⟩
theorem sc_law_spoilt_v4 : FnScope ["tree", "cell", "count", "way", "row", "at", "other"] ["tree", "cell", "count"] (defScope s_law_spoilt_v4) := ⟨rfl, rfl, rfl, by decide +kernel, rfl, by decide +kernel, by decide +kernel⟩
theorem sc_law_no_set_v2 : FnScope ["cell", "count", "other"] ["cell", "count"] (defScope s_law_no_set_v2) := ⟨rfl, rfl, rfl, by decide +kernel, rfl, by decide +kernel, by decide +kernel⟩
theorem sc_law_told_v8 : FnScope ["deed", "web", "one", "other", "kind", "e", "kinds", "k", "word"] ["deed", "web", "one", "other"] (defScope s_law_told_v8) := ⟨rfl, rfl, rfl, by decide +kernel, rfl, by decide +kernel, by decide +kernel⟩
theorem sc_law_k34 : FnScope ["script", "places", "ties", "web", "trees", "cell", "odd", "due", "deed", "bad", "good", "one", "other", "tie"] ["script"] (defScope s_law_k34) := ⟨rfl, rfl, rfl, by decide +kernel, rfl, by decide +kernel, by decide +kernel⟩
set_option genInjectivity false in
set_option genSizeOfSpec false in
set_option maxHeartbeats 8000000 in
structure Tx (K : PySem.W.Frag) (mg : Str → Option Value) : Type where
  C_WebError : Addr
  C_BadWeb : Addr
  C_BadSet : Addr
  C_NoTree : Addr
  C_NoSuch : Addr
  C_NotSquare : Addr
  C_Web : Addr
  a_look_at_table : Addr
  d_look_at_table : FuncData
  a_first_row_with : Addr
  d_first_row_with : FuncData
  a_cleared : Addr
  d_cleared : FuncData
  a_determinant : Addr
  d_determinant : FuncData
  a_Web_init : Addr
  d_Web_init : FuncData
  a_made_set : Addr
  d_made_set : FuncData
  a_marks_over : Addr
  d_marks_over : FuncData
  a_pieces_of : Addr
  d_pieces_of : FuncData
  a_pulls : Addr
  d_pulls : FuncData
  a_without_last : Addr
  d_without_last : FuncData
  a_pull_table : Addr
  d_pull_table : FuncData
  a_tree_count : Addr
  d_tree_count : FuncData
  a_count_with : Addr
  d_count_with : FuncData
  a_is_tree : Addr
  d_is_tree : FuncData
  a_refuse_no_tree : Addr
  d_refuse_no_tree : FuncData
  a_tree_at : Addr
  d_tree_at : FuncData
  a_number_of : Addr
  d_number_of : FuncData
  a_next_tree : Addr
  d_next_tree : FuncData
  a_tree_ahead : Addr
  d_tree_ahead : FuncData
  a_heads_behind : Addr
  d_heads_behind : FuncData
  a_grown_by : Addr
  d_grown_by : FuncData
  a_looked_at_sets : Addr
  d_looked_at_sets : FuncData
  a_least_with : Addr
  d_least_with : FuncData
  a_greatest_with : Addr
  d_greatest_with : FuncData
  a_law_at : Addr
  d_law_at : FuncData
  a_law_stir : Addr
  d_law_stir : FuncData
  a_law_numbers_v3 : Addr
  d_law_numbers_v3 : FuncData
  a_law_digits : Addr
  d_law_digits : FuncData
  a_law_web_v3 : Addr
  d_law_web_v3 : FuncData
  a_law_trees_v3 : Addr
  d_law_trees_v3 : FuncData
  a_law_spoilt_v4 : Addr
  d_law_spoilt_v4 : FuncData
  a_law_no_set_v2 : Addr
  d_law_no_set_v2 : FuncData
  a_law_told_v8 : Addr
  d_law_told_v8 : FuncData
  a_law_k34 : Addr
  d_law_k34 : FuncData
  t_MOST_PLACES : Tok
  t_MOST_TIES : Tok
  m_WebError : mg "WebError" = some (.ref C_WebError)
  x_WebError : PySem.W.excIn K C_WebError [.type "ValueError", .type "Exception", .type "BaseException", .type "object"] "ValueError.__new__" = true
  kx_WebError : PySem.W.keepIn K (.ref C_WebError) = true
  bx_WebError : PySem.W.subIn K (.ref C_WebError) (.type "BaseException") = some true
  tx_WebError : PySem.W.typeIn K (.ref C_WebError) = some (.type "type")
  m_BadWeb : mg "BadWeb" = some (.ref C_BadWeb)
  x_BadWeb : PySem.W.excIn K C_BadWeb [.type "ValueError", .type "Exception", .type "BaseException", .type "object"] "ValueError.__new__" = true
  kx_BadWeb : PySem.W.keepIn K (.ref C_BadWeb) = true
  bx_BadWeb : PySem.W.subIn K (.ref C_BadWeb) (.type "BaseException") = some true
  tx_BadWeb : PySem.W.typeIn K (.ref C_BadWeb) = some (.type "type")
  m_BadSet : mg "BadSet" = some (.ref C_BadSet)
  x_BadSet : PySem.W.excIn K C_BadSet [.type "ValueError", .type "Exception", .type "BaseException", .type "object"] "ValueError.__new__" = true
  kx_BadSet : PySem.W.keepIn K (.ref C_BadSet) = true
  bx_BadSet : PySem.W.subIn K (.ref C_BadSet) (.type "BaseException") = some true
  tx_BadSet : PySem.W.typeIn K (.ref C_BadSet) = some (.type "type")
  m_NoTree : mg "NoTree" = some (.ref C_NoTree)
  x_NoTree : PySem.W.excIn K C_NoTree [.type "ValueError", .type "Exception", .type "BaseException", .type "object"] "ValueError.__new__" = true
  kx_NoTree : PySem.W.keepIn K (.ref C_NoTree) = true
  bx_NoTree : PySem.W.subIn K (.ref C_NoTree) (.type "BaseException") = some true
  tx_NoTree : PySem.W.typeIn K (.ref C_NoTree) = some (.type "type")
  m_NoSuch : mg "NoSuch" = some (.ref C_NoSuch)
  x_NoSuch : PySem.W.excIn K C_NoSuch [.type "ValueError", .type "Exception", .type "BaseException", .type "object"] "ValueError.__new__" = true
  kx_NoSuch : PySem.W.keepIn K (.ref C_NoSuch) = true
  bx_NoSuch : PySem.W.subIn K (.ref C_NoSuch) (.type "BaseException") = some true
  tx_NoSuch : PySem.W.typeIn K (.ref C_NoSuch) = some (.type "type")
  m_NotSquare : mg "NotSquare" = some (.ref C_NotSquare)
  x_NotSquare : PySem.W.excIn K C_NotSquare [.type "ValueError", .type "Exception", .type "BaseException", .type "object"] "ValueError.__new__" = true
  kx_NotSquare : PySem.W.keepIn K (.ref C_NotSquare) = true
  bx_NotSquare : PySem.W.subIn K (.ref C_NotSquare) (.type "BaseException") = some true
  tx_NotSquare : PySem.W.typeIn K (.ref C_NotSquare) = some (.type "type")
  ct_BadWeb_WebError : PySem.W.exmOne K (.ref C_BadWeb) (.ref C_WebError) = some true
  ct_BadSet_WebError : PySem.W.exmOne K (.ref C_BadSet) (.ref C_WebError) = some true
  ct_NoTree_WebError : PySem.W.exmOne K (.ref C_NoTree) (.ref C_WebError) = some true
  ct_NoSuch_WebError : PySem.W.exmOne K (.ref C_NoSuch) (.ref C_WebError) = some true
  ct_NotSquare_WebError : PySem.W.exmOne K (.ref C_NotSquare) (.ref C_WebError) = some true
  xc_BadWeb : ExcC K C_BadWeb
  xc_BadSet : ExcC K C_BadSet
  xc_NoTree : ExcC K C_NoTree
  xc_NoSuch : ExcC K C_NoSuch
  xc_NotSquare : ExcC K C_NotSquare
  is_BadWeb_NoTree : PySem.W.kitOne K (.ref C_BadWeb) (.ref C_NoTree) = some false
  is_BadSet_NoTree : PySem.W.kitOne K (.ref C_BadSet) (.ref C_NoTree) = some false
  is_NoTree_NoTree : PySem.W.kitOne K (.ref C_NoTree) (.ref C_NoTree) = some true
  is_NoSuch_NoTree : PySem.W.kitOne K (.ref C_NoSuch) (.ref C_NoTree) = some false
  is_NotSquare_NoTree : PySem.W.kitOne K (.ref C_NotSquare) (.ref C_NoTree) = some false
  is_BadWeb_BadSet : PySem.W.kitOne K (.ref C_BadWeb) (.ref C_BadSet) = some false
  is_BadSet_BadSet : PySem.W.kitOne K (.ref C_BadSet) (.ref C_BadSet) = some true
  is_NoTree_BadSet : PySem.W.kitOne K (.ref C_NoTree) (.ref C_BadSet) = some false
  is_NoSuch_BadSet : PySem.W.kitOne K (.ref C_NoSuch) (.ref C_BadSet) = some false
  is_NotSquare_BadSet : PySem.W.kitOne K (.ref C_NotSquare) (.ref C_BadSet) = some false
  is_BadWeb_ValueError : PySem.W.kitOne K (.ref C_BadWeb) (.type "ValueError") = some true
  is_BadSet_ValueError : PySem.W.kitOne K (.ref C_BadSet) (.type "ValueError") = some true
  is_NoTree_ValueError : PySem.W.kitOne K (.ref C_NoTree) (.type "ValueError") = some true
  is_NoSuch_ValueError : PySem.W.kitOne K (.ref C_NoSuch) (.type "ValueError") = some true
  is_NotSquare_ValueError : PySem.W.kitOne K (.ref C_NotSquare) (.type "ValueError") = some true
  m_Web : mg "Web" = some (.ref C_Web)
  cl_Web : L2.Cls K C_Web
  na_Web_places : NoAttr K C_Web "places"
  na_Web_ties : NoAttr K C_Web "ties"
  mk_Web : Mk K C_Web a_Web_init
  F_look_at_table : Fun K "look_at_table" "look_at_table" s_look_at_table a_look_at_table d_look_at_table
  b_look_at_table : Binds K d_look_at_table ["table"] []
  m_look_at_table : mg "look_at_table" = some (.ref a_look_at_table)
  k_look_at_table : PySem.W.keepIn K (.ref a_look_at_table) = true
  F_first_row_with : Fun K "first_row_with" "first_row_with" s_first_row_with a_first_row_with d_first_row_with
  b_first_row_with : Binds K d_first_row_with ["rows", "at"] []
  m_first_row_with : mg "first_row_with" = some (.ref a_first_row_with)
  k_first_row_with : PySem.W.keepIn K (.ref a_first_row_with) = true
  F_cleared : Fun K "cleared" "cleared" s_cleared a_cleared d_cleared
  b_cleared : Binds K d_cleared ["rows", "at", "ahead"] []
  m_cleared : mg "cleared" = some (.ref a_cleared)
  k_cleared : PySem.W.keepIn K (.ref a_cleared) = true
  F_determinant : Fun K "determinant" "determinant" s_determinant a_determinant d_determinant
  b_determinant : Binds K d_determinant ["table"] []
  m_determinant : mg "determinant" = some (.ref a_determinant)
  k_determinant : PySem.W.keepIn K (.ref a_determinant) = true
  F_Web_init : Fun K "__init__" "Web.__init__" s_Web_init a_Web_init d_Web_init
  b_Web_init : Binds K d_Web_init ["self", "places", "ties"] []
  k_Web_init : PySem.W.keepIn K (.ref a_Web_init) = true
  F_made_set : Fun K "made_set" "made_set" s_made_set a_made_set d_made_set
  b_made_set : Binds K d_made_set ["web", "ties"] []
  m_made_set : mg "made_set" = some (.ref a_made_set)
  k_made_set : PySem.W.keepIn K (.ref a_made_set) = true
  F_marks_over : Fun K "marks_over" "marks_over" s_marks_over a_marks_over d_marks_over
  b_marks_over : Binds K d_marks_over ["web", "ties"] []
  m_marks_over : mg "marks_over" = some (.ref a_marks_over)
  k_marks_over : PySem.W.keepIn K (.ref a_marks_over) = true
  F_pieces_of : Fun K "pieces_of" "pieces_of" s_pieces_of a_pieces_of d_pieces_of
  b_pieces_of : Binds K d_pieces_of ["web", "ties"] []
  m_pieces_of : mg "pieces_of" = some (.ref a_pieces_of)
  k_pieces_of : PySem.W.keepIn K (.ref a_pieces_of) = true
  F_pulls : Fun K "pulls" "pulls" s_pulls a_pulls d_pulls
  b_pulls : Binds K d_pulls ["count", "ties"] []
  m_pulls : mg "pulls" = some (.ref a_pulls)
  k_pulls : PySem.W.keepIn K (.ref a_pulls) = true
  F_without_last : Fun K "without_last" "without_last" s_without_last a_without_last d_without_last
  b_without_last : Binds K d_without_last ["table"] []
  m_without_last : mg "without_last" = some (.ref a_without_last)
  k_without_last : PySem.W.keepIn K (.ref a_without_last) = true
  F_pull_table : Fun K "pull_table" "pull_table" s_pull_table a_pull_table d_pull_table
  b_pull_table : Binds K d_pull_table ["web"] []
  m_pull_table : mg "pull_table" = some (.ref a_pull_table)
  k_pull_table : PySem.W.keepIn K (.ref a_pull_table) = true
  F_tree_count : Fun K "tree_count" "tree_count" s_tree_count a_tree_count d_tree_count
  b_tree_count : Binds K d_tree_count ["web"] []
  m_tree_count : mg "tree_count" = some (.ref a_tree_count)
  k_tree_count : PySem.W.keepIn K (.ref a_tree_count) = true
  F_count_with : Fun K "count_with" "count_with" s_count_with a_count_with d_count_with
  b_count_with : Binds K d_count_with ["web", "inside", "outside"] []
  m_count_with : mg "count_with" = some (.ref a_count_with)
  k_count_with : PySem.W.keepIn K (.ref a_count_with) = true
  F_is_tree : Fun K "is_tree" "is_tree" s_is_tree a_is_tree d_is_tree
  b_is_tree : Binds K d_is_tree ["web", "ties"] []
  m_is_tree : mg "is_tree" = some (.ref a_is_tree)
  k_is_tree : PySem.W.keepIn K (.ref a_is_tree) = true
  F_refuse_no_tree : Fun K "refuse_no_tree" "refuse_no_tree" s_refuse_no_tree a_refuse_no_tree d_refuse_no_tree
  b_refuse_no_tree : Binds K d_refuse_no_tree ["web", "tree"] []
  m_refuse_no_tree : mg "refuse_no_tree" = some (.ref a_refuse_no_tree)
  k_refuse_no_tree : PySem.W.keepIn K (.ref a_refuse_no_tree) = true
  F_tree_at : Fun K "tree_at" "tree_at" s_tree_at a_tree_at d_tree_at
  b_tree_at : Binds K d_tree_at ["web", "number"] []
  m_tree_at : mg "tree_at" = some (.ref a_tree_at)
  k_tree_at : PySem.W.keepIn K (.ref a_tree_at) = true
  F_number_of : Fun K "number_of" "number_of" s_number_of a_number_of d_number_of
  b_number_of : Binds K d_number_of ["web", "tree"] []
  m_number_of : mg "number_of" = some (.ref a_number_of)
  k_number_of : PySem.W.keepIn K (.ref a_number_of) = true
  F_next_tree : Fun K "next_tree" "next_tree" s_next_tree a_next_tree d_next_tree
  b_next_tree : Binds K d_next_tree ["web", "tree"] []
  m_next_tree : mg "next_tree" = some (.ref a_next_tree)
  k_next_tree : PySem.W.keepIn K (.ref a_next_tree) = true
  F_tree_ahead : Fun K "tree_ahead" "tree_ahead" s_tree_ahead a_tree_ahead d_tree_ahead
  b_tree_ahead : Binds K d_tree_ahead ["web", "tree"] []
  m_tree_ahead : mg "tree_ahead" = some (.ref a_tree_ahead)
  k_tree_ahead : PySem.W.keepIn K (.ref a_tree_ahead) = true
  F_heads_behind : Fun K "heads_behind" "heads_behind" s_heads_behind a_heads_behind d_heads_behind
  b_heads_behind : Binds K d_heads_behind ["heads", "one", "other"] []
  m_heads_behind : mg "heads_behind" = some (.ref a_heads_behind)
  k_heads_behind : PySem.W.keepIn K (.ref a_heads_behind) = true
  F_grown_by : Fun K "grown_by" "grown_by" s_grown_by a_grown_by d_grown_by
  b_grown_by : Binds K d_grown_by ["web", "inside", "outside", "others"] []
  m_grown_by : mg "grown_by" = some (.ref a_grown_by)
  k_grown_by : PySem.W.keepIn K (.ref a_grown_by) = true
  F_looked_at_sets : Fun K "looked_at_sets" "looked_at_sets" s_looked_at_sets a_looked_at_sets d_looked_at_sets
  b_looked_at_sets : Binds K d_looked_at_sets ["web", "inside", "outside"] []
  m_looked_at_sets : mg "looked_at_sets" = some (.ref a_looked_at_sets)
  k_looked_at_sets : PySem.W.keepIn K (.ref a_looked_at_sets) = true
  F_least_with : Fun K "least_with" "least_with" s_least_with a_least_with d_least_with
  b_least_with : Binds K d_least_with ["web", "inside", "outside"] []
  m_least_with : mg "least_with" = some (.ref a_least_with)
  k_least_with : PySem.W.keepIn K (.ref a_least_with) = true
  F_greatest_with : Fun K "greatest_with" "greatest_with" s_greatest_with a_greatest_with d_greatest_with
  b_greatest_with : Binds K d_greatest_with ["web", "inside", "outside"] []
  m_greatest_with : mg "greatest_with" = some (.ref a_greatest_with)
  k_greatest_with : PySem.W.keepIn K (.ref a_greatest_with) = true
  F_law_at : Fun K "_law_at" "_law_at" s_law_at a_law_at d_law_at
  b_law_at : Binds K d_law_at ["script", "k"] []
  m_law_at : mg "_law_at" = some (.ref a_law_at)
  k_law_at : PySem.W.keepIn K (.ref a_law_at) = true
  F_law_stir : Fun K "_law_stir" "_law_stir" s_law_stir a_law_stir d_law_stir
  b_law_stir : Binds K d_law_stir ["cell", "k"] []
  m_law_stir : mg "_law_stir" = some (.ref a_law_stir)
  k_law_stir : PySem.W.keepIn K (.ref a_law_stir) = true
  F_law_numbers_v3 : Fun K "_law_numbers" "_law_numbers" s_law_numbers_v3 a_law_numbers_v3 d_law_numbers_v3
  b_law_numbers_v3 : Binds K d_law_numbers_v3 ["script", "start", "most"] []
  m_law_numbers_v3 : mg "_law_numbers" = some (.ref a_law_numbers_v3)
  k_law_numbers_v3 : PySem.W.keepIn K (.ref a_law_numbers_v3) = true
  F_law_digits : Fun K "_law_digits" "_law_digits" s_law_digits a_law_digits d_law_digits
  b_law_digits : Binds K d_law_digits ["cell", "most_places", "most_ties"] []
  m_law_digits : mg "_law_digits" = some (.ref a_law_digits)
  k_law_digits : PySem.W.keepIn K (.ref a_law_digits) = true
  F_law_web_v3 : Fun K "_law_web" "_law_web" s_law_web_v3 a_law_web_v3 d_law_web_v3
  b_law_web_v3 : Binds K d_law_web_v3 ["script", "most_places", "most_ties"] []
  m_law_web_v3 : mg "_law_web" = some (.ref a_law_web_v3)
  k_law_web_v3 : PySem.W.keepIn K (.ref a_law_web_v3) = true
  F_law_trees_v3 : Fun K "_law_trees" "_law_trees" s_law_trees_v3 a_law_trees_v3 d_law_trees_v3
  b_law_trees_v3 : Binds K d_law_trees_v3 ["places", "ties"] []
  m_law_trees_v3 : mg "_law_trees" = some (.ref a_law_trees_v3)
  k_law_trees_v3 : PySem.W.keepIn K (.ref a_law_trees_v3) = true
  F_law_spoilt_v4 : Fun K "_law_spoilt" "_law_spoilt" s_law_spoilt_v4 a_law_spoilt_v4 d_law_spoilt_v4
  b_law_spoilt_v4 : Binds K d_law_spoilt_v4 ["tree", "cell", "count"] []
  m_law_spoilt_v4 : mg "_law_spoilt" = some (.ref a_law_spoilt_v4)
  k_law_spoilt_v4 : PySem.W.keepIn K (.ref a_law_spoilt_v4) = true
  F_law_no_set_v2 : Fun K "_law_no_set" "_law_no_set" s_law_no_set_v2 a_law_no_set_v2 d_law_no_set_v2
  b_law_no_set_v2 : Binds K d_law_no_set_v2 ["cell", "count"] []
  m_law_no_set_v2 : mg "_law_no_set" = some (.ref a_law_no_set_v2)
  k_law_no_set_v2 : PySem.W.keepIn K (.ref a_law_no_set_v2) = true
  F_law_told_v8 : Fun K "_law_told" "_law_told" s_law_told_v8 a_law_told_v8 d_law_told_v8
  b_law_told_v8 : Binds K d_law_told_v8 ["deed", "web", "one", "other"] []
  m_law_told_v8 : mg "_law_told" = some (.ref a_law_told_v8)
  k_law_told_v8 : PySem.W.keepIn K (.ref a_law_told_v8) = true
  F_law_k34 : Fun K "law" "law" s_law_k34 a_law_k34 d_law_k34
  b_law_k34 : Binds K d_law_k34 ["script"] []
  m_law_k34 : mg "law" = some (.ref a_law_k34)
  k_law_k34 : PySem.W.keepIn K (.ref a_law_k34) = true
  v_MOST_PLACES : mg "MOST_PLACES" = some (.int 14 t_MOST_PLACES)
  v_MOST_TIES : mg "MOST_TIES" = some (.int 30 t_MOST_TIES)
  z_ValueError : mg "ValueError" = none
  z_any : mg "any" = none
  z_enumerate : mg "enumerate" = none
  z_int : mg "int" = none
  z_isinstance : mg "isinstance" = none
  z_len : mg "len" = none
  z_list : mg "list" = none
  z_max : mg "max" = none
  z_min : mg "min" = none
  z_range : mg "range" = none
  z_reversed : mg "reversed" = none
  z_set : mg "set" = none
  z_sorted : mg "sorted" = none
  z_tuple : mg "tuple" = none
section
variable {P : Program} {w : World} {K : PySem.W.Frag} {mg : Str → Option Value} {base : Heap}
def Tx.cls (T : Tx K mg) : DL.Cls := fun c => ([some (T.C_WebError, []), some (T.C_BadWeb, []), some (T.C_BadSet, []), none, some (T.C_NoTree, []), none, some (T.C_NoSuch, []), some (T.C_NotSquare, []), none, none, none, none, none, none, some (T.C_Web, ["places", "ties"]), none, none] : List (Option (Addr × List Str))).getD c none
theorem Tx.e_WebError (T : Tx K mg) : ExOk K mg T.cls 0 "WebError" T.C_WebError := ⟨rfl, T.m_WebError, T.x_WebError, T.kx_WebError, T.bx_WebError, T.tx_WebError⟩
theorem Tx.e_BadWeb (T : Tx K mg) : ExOk K mg T.cls 1 "BadWeb" T.C_BadWeb := ⟨rfl, T.m_BadWeb, T.x_BadWeb, T.kx_BadWeb, T.bx_BadWeb, T.tx_BadWeb⟩
theorem Tx.e_BadSet (T : Tx K mg) : ExOk K mg T.cls 2 "BadSet" T.C_BadSet := ⟨rfl, T.m_BadSet, T.x_BadSet, T.kx_BadSet, T.bx_BadSet, T.tx_BadSet⟩
theorem Tx.e_NoTree (T : Tx K mg) : ExOk K mg T.cls 4 "NoTree" T.C_NoTree := ⟨rfl, T.m_NoTree, T.x_NoTree, T.kx_NoTree, T.bx_NoTree, T.tx_NoTree⟩
theorem Tx.e_NoSuch (T : Tx K mg) : ExOk K mg T.cls 6 "NoSuch" T.C_NoSuch := ⟨rfl, T.m_NoSuch, T.x_NoSuch, T.kx_NoSuch, T.bx_NoSuch, T.tx_NoSuch⟩
theorem Tx.e_NotSquare (T : Tx K mg) : ExOk K mg T.cls 7 "NotSquare" T.C_NotSquare := ⟨rfl, T.m_NotSquare, T.x_NotSquare, T.kx_NotSquare, T.bx_NotSquare, T.tx_NotSquare⟩
theorem Tx.o_Web (T : Tx K mg) : ClsOk K T.cls 14 T.C_Web ["places", "ties"] := ⟨rfl, by decide +kernel, T.cl_Web, fun f h => (by simp at h; rcases h with rfl | rfl <;> first | exact T.na_Web_places | exact T.na_Web_ties)⟩
set_option maxHeartbeats 4000000 in
theorem ok_look_at_table (T : Tx K mg) : FnOk P w K mg base (L2N.CX P w) 1 T.a_look_at_table T.d_look_at_table ["table"] (spD K T.cls 1 g_look_at_table) :=
  fnD_ok T.F_look_at_table sc_look_at_table rfl (fun cdv A outer s H E c => jss_one (js_for c (ji_seq (je_var 0)) (jg_name (i := 1) c.nd rfl (by first | exact Or.inl rfl | exact Or.inr rfl)) (jss_one (js_if (jt_cmp (op_ne4 c.eq) ok_ne (je_callB call_len ok_len T.z_len (by decide +kernel) (ja_cons (je_var 1) (ja_nil))) (je_callB call_len ok_len T.z_len (by decide +kernel) (ja_cons (je_var 0) (ja_nil))) (nomark _)) (jss_one (js_raise c T.e_NotSquare)) (jss_nil))))) (fun _ _ => .inr rfl)
set_option maxHeartbeats 4000000 in
theorem ok_first_row_with (T : Tx K mg) : FnOk P w K mg base (L2N.CX P w) 1 T.a_first_row_with T.d_first_row_with ["rows", "at"] (spD K T.cls 2 g_first_row_with) :=
  fnD_ok T.F_first_row_with sc_first_row_with rfl (fun cdv A outer s H E c => jss_cons (js_for c (ji_rg2 T.z_range (ja_cons (je_var 1) (ja_cons (je_callB call_len ok_len T.z_len (by decide +kernel) (ja_cons (je_var 0) (ja_nil))) (ja_nil)))) (jg_name (i := 2) c.nd rfl (by first | exact Or.inl rfl | exact Or.inr rfl)) (jss_one (js_if (jt_cmp (op_ne4 c.eq) ok_ne (je_ix (je_ix (je_var 0) (je_var 2)) (je_var 1)) (je_int) (nomark _)) (jss_one (js_retV 2)) (jss_nil)))) (jss_one (js_ret (je_non)))) (fun _ _ => .inr rfl)
set_option maxHeartbeats 4000000 in
theorem ok_cleared (T : Tx K mg) : FnOk P w K mg base (L2N.CX P w) 1 T.a_cleared T.d_cleared ["rows", "at", "ahead"] (spD K T.cls 3 g_cleared) :=
  fnD_ok T.F_cleared sc_cleared rfl (fun cdv A outer s H E c => jss_cons (js_set (i := 3) c rfl (by first | exact Or.inl rfl | exact Or.inr rfl) (je_lst (jao_nil))) (jss_cons (js_setF (i := 4) c rfl (by first | exact Or.inl rfl | exact Or.inr rfl) (je_ix (je_var 0) (je_var 1))) (jss_cons (js_for c (ji_seq (je_sl (je_var 0) (jp_some (je_bin op_add4 ok_add (je_var 1) (je_int))) (jp_none))) (jg_name (i := 5) c.nd rfl (by first | exact Or.inl rfl | exact Or.inr rfl)) (jss_cons (js_set (i := 6) c rfl (by first | exact Or.inl rfl | exact Or.inr rfl) (je_bin op_mul4 ok_mul (je_lst (jao_cons (je_int) (jao_nil))) (je_bin op_add4 ok_add (je_var 1) (je_int)))) (jss_cons (js_for c (ji_rg2 T.z_range (ja_cons (je_bin op_add4 ok_add (je_var 1) (je_int)) (ja_cons (je_callB call_len ok_len T.z_len (by decide +kernel) (ja_cons (je_var 5) (ja_nil))) (ja_nil)))) (jg_name (i := 7) c.nd rfl (by first | exact Or.inl rfl | exact Or.inr rfl)) (jss_one (js_app (i := 6) rfl (by first | exact Or.inl rfl | exact Or.inr (Or.inl rfl) | exact Or.inr (Or.inr rfl)) (je_bin op_divX ok_div (je_bin op_sub ok_sub (je_bin op_mul4 ok_mul (je_ix (je_var 5) (je_var 7)) (je_ix (je_var 4) (je_var 1))) (je_bin op_mul4 ok_mul (je_ix (je_var 5) (je_var 1)) (je_ix (je_var 4) (je_var 7)))) (je_var 2))))) (jss_one (js_frz 6 (js_app (i := 3) rfl (by first | exact Or.inl rfl | exact Or.inr (Or.inl rfl) | exact Or.inr (Or.inr rfl)) (je_var 6))))))) (jss_one (js_retV 3))))) (fun _ _ => .inr rfl)
set_option maxHeartbeats 4000000 in
theorem ok_determinant (T : Tx K mg) (G_look_at_table : FnOk P w K mg base (L2N.CX P w) 1 T.a_look_at_table T.d_look_at_table ["table"] (spD K T.cls 1 g_look_at_table)) (G_first_row_with : FnOk P w K mg base (L2N.CX P w) 1 T.a_first_row_with T.d_first_row_with ["rows", "at"] (spD K T.cls 2 g_first_row_with)) (G_cleared : FnOk P w K mg base (L2N.CX P w) 1 T.a_cleared T.d_cleared ["rows", "at", "ahead"] (spD K T.cls 3 g_cleared)) : FnOk P w K mg base (L2N.CX P w) 2 T.a_determinant T.d_determinant ["table"] (spD K T.cls 1 g_determinant) :=
  fnD_ok T.F_determinant sc_determinant rfl (fun cdv A outer s H E c => jss_cons (js_exp (je_own (c.mono (by decide)) G_look_at_table T.m_look_at_table T.k_look_at_table T.b_look_at_table (ja_cons (je_var 0) (ja_nil)) (alS (al0)))) (jss_cons (js_setLcI (i := 1) [("row", 6)] c rfl rfl (sw_true rfl rfl rfl (by decide +kernel)) (ji_seq (je_var 0)) (blkOk_by (N := N_determinant) (sc := defScope s_determinant) (by decide +kernel)) (fun _ _ _ _ _ => jg_name (i := 6) c.nd rfl (by first | exact Or.inl rfl | exact Or.inr rfl)) (fun _ _ _ _ _ c => jts_nil) (fun _ _ _ _ _ c => je_callTy call_list_of ok_list T.z_list (by decide +kernel) (ja_cons (je_var 6) (ja_nil))) (by decide)) (jss_cons (js_setF (i := 2) c rfl (by first | exact Or.inl rfl | exact Or.inr rfl) (je_int)) (jss_cons (js_setF (i := 3) c rfl (by first | exact Or.inl rfl | exact Or.inr rfl) (je_int)) (jss_cons (js_for c (ji_rg1 T.z_range (ja_cons (je_callB call_len ok_len T.z_len (by decide +kernel) (ja_cons (je_var 1) (ja_nil))) (ja_nil))) (jg_name (i := 4) c.nd rfl (by first | exact Or.inl rfl | exact Or.inr rfl)) (jss_cons (js_setF (i := 5) c rfl (by first | exact Or.inl rfl | exact Or.inr rfl) (je_own (c.mono (by decide)) G_first_row_with T.m_first_row_with T.k_first_row_with T.b_first_row_with (ja_cons (je_var 1) (ja_cons (je_var 4) (ja_nil))) (alS (alS (al0))))) (jss_cons (js_if (jt_cmp op_isN ok_isN (je_var 5) (je_non) (nomark _)) (jss_one (js_ret (je_int))) (jss_nil)) (jss_cons (js_if (jt_cmp (op_ne4 c.eq) ok_ne (je_var 5) (je_var 4) (nomark _)) (jss_cons (js_swp (i := 1) c rfl (by first | exact Or.inl rfl | exact Or.inr (Or.inl rfl) | exact Or.inr (Or.inr rfl)) (je_tup (jao_cons (je_ix (je_var 1) (je_var 5)) (jao_cons (je_ix (je_var 1) (je_var 4)) (jao_nil)))) (je_var 4) (je_var 5)) (jss_one (js_setF (i := 2) c rfl (by first | exact Or.inl rfl | exact Or.inr rfl) (je_un un_neg ok_neg (je_var 2))))) (jss_nil)) (jss_cons (js_frz 1 (js_set (i := 1) c rfl (by first | exact Or.inl rfl | exact Or.inr rfl) (je_bin op_add4 ok_add (je_sl (je_var 1) (jp_none) (jp_some (je_bin op_add4 ok_add (je_var 4) (je_int)))) (je_own (c.mono (by decide)) G_cleared T.m_cleared T.k_cleared T.b_cleared (ja_cons (je_var 1) (ja_cons (je_var 4) (ja_cons (je_var 3) (ja_nil)))) (alS (alS (alS (al0)))))))) (jss_one (js_setF (i := 3) c rfl (by first | exact Or.inl rfl | exact Or.inr rfl) (je_ix (je_ix (je_var 1) (je_var 4)) (je_var 4))))))))) (jss_one (js_ret (je_bin op_mul4 ok_mul (je_var 2) (je_var 3))))))))) (fun _ _ => .inr rfl)
set_option maxHeartbeats 4000000 in
theorem ok_Web_init (T : Tx K mg) : FnOk P w K mg base (L2N.CX P w) 1 T.a_Web_init T.d_Web_init ["self", "places", "ties"] (spI K T.cls 14 2 g_Web_init) :=
  fnI_ok T.F_Web_init sc_Web_init rfl (fun cdv A outer s H E c => jss_cons (js_if (jt_w (jw_or (jt_not (jt_chain op_le op_le ok_le ok_le (je_int) (je_var 1) (je_gint T.v_MOST_PLACES))) (jw_or1 (jt_cmp op_gt ok_gt (je_callB call_len ok_len T.z_len (by decide +kernel) (ja_cons (je_var 2) (ja_nil))) (je_gint T.v_MOST_TIES) (nomark _))))) (jss_one (js_raise c T.e_BadWeb)) (jss_nil)) (jss_cons (js_for c (ji_seq (je_var 2)) (jg_tup c.calm (jgs_cons (jg_name (i := 3) c.nd rfl (by first | exact Or.inl rfl | exact Or.inr rfl)) (jgs_cons (jg_name (i := 4) c.nd rfl (by first | exact Or.inl rfl | exact Or.inr rfl)) (jgs_nil)))) (jss_one (js_if (jt_w (jw_or (jt_not (jt_chain op_le op_lt ok_le ok_lt (je_int) (je_var 3) (je_var 1))) (jw_or1 (jt_not (jt_chain op_le op_lt ok_le ok_lt (je_int) (je_var 4) (je_var 1)))))) (jss_one (js_raise c T.e_BadWeb)) (jss_nil)))) (jss_cons (js_fld (i := 0) T.o_Web (j := 0) rfl (by decide) rfl (by first | exact Or.inl rfl | exact Or.inr (Or.inl rfl) | exact Or.inr (Or.inr rfl)) (je_var 1)) (jss_one (js_fld (i := 0) T.o_Web (j := 1) rfl (by decide) rfl (by first | exact Or.inl rfl | exact Or.inr (Or.inl rfl) | exact Or.inr (Or.inr rfl)) (je_callTy call_list_of ok_list T.z_list (by decide +kernel) (ja_cons (je_var 2) (ja_nil)))))))) (mirI_ok)
set_option maxHeartbeats 4000000 in
theorem ok_made_set (T : Tx K mg) : FnOk P w K mg base (L2N.CX P w) 1 T.a_made_set T.d_made_set ["web", "ties"] (spD K T.cls 2 g_made_set) :=
  fnD_ok T.F_made_set sc_made_set rfl (fun cdv A outer s H E c => jss_cons (js_setF (i := 2) c rfl (by first | exact Or.inl rfl | exact Or.inr rfl) (je_un un_neg ok_neg (je_int))) (jss_cons (js_for c (ji_seq (je_var 1)) (jg_name (i := 3) c.nd rfl (by first | exact Or.inl rfl | exact Or.inr rfl)) (jss_cons (js_if (jt_w (jw_or (jt_cmp op_le ok_le (je_var 3) (je_var 2) (nomark _)) (jw_or1 (jt_cmp op_ge ok_ge (je_var 3) (je_callB call_len ok_len T.z_len (by decide +kernel) (ja_cons (je_fld T.o_Web (i := 1) rfl (je_var 0)) (ja_nil))) (nomark _))))) (jss_one (js_raise c T.e_BadSet)) (jss_nil)) (jss_one (js_setF (i := 2) c rfl (by first | exact Or.inl rfl | exact Or.inr rfl) (je_var 3))))) (jss_one (js_ret (je_callTy call_tuple_of ok_tuple T.z_tuple (by decide +kernel) (ja_cons (je_var 1) (ja_nil))))))) (fun _ _ => .inr rfl)
set_option maxHeartbeats 4000000 in
theorem ok_marks_over (T : Tx K mg) : FnOk P w K mg base (L2N.CX P w) 1 T.a_marks_over T.d_marks_over ["web", "ties"] (spD K T.cls 2 g_marks_over) :=
  fnD_ok T.F_marks_over sc_marks_over rfl (fun cdv A outer s H E c => jss_cons (js_setF (i := 2) c rfl (by first | exact Or.inl rfl | exact Or.inr rfl) (je_lr1 c T.z_list T.z_range (je_fld T.o_Web (i := 0) rfl (je_var 0)))) (jss_cons (js_for c (ji_seq (je_var 1)) (jg_name (i := 3) c.nd rfl (by first | exact Or.inl rfl | exact Or.inr rfl)) (jss_cons (js_asgT (je_ix (je_fld T.o_Web (i := 1) rfl (je_var 0)) (je_var 3)) (jg_tup c.calm (jgs_cons (jg_name (i := 4) c.nd rfl (by first | exact Or.inl rfl | exact Or.inr rfl)) (jgs_cons (jg_name (i := 5) c.nd rfl (by first | exact Or.inl rfl | exact Or.inr rfl)) (jgs_nil))))) (jss_cons (js_setF (i := 6) c rfl (by first | exact Or.inl rfl | exact Or.inr rfl) (je_callB (call_min2 c.calm) ok_min2 T.z_min (by decide +kernel) (ja_cons (je_ix (je_var 2) (je_var 4)) (ja_cons (je_ix (je_var 2) (je_var 5)) (ja_nil))))) (jss_cons (js_setF (i := 7) c rfl (by first | exact Or.inl rfl | exact Or.inr rfl) (je_callB (call_max2 c.calm) ok_max2 T.z_max (by decide +kernel) (ja_cons (je_ix (je_var 2) (je_var 4)) (ja_cons (je_ix (je_var 2) (je_var 5)) (ja_nil))))) (jss_one (js_setLcF (i := 2) [("mark", 8)] c rfl rfl (sw_true rfl rfl rfl (by decide +kernel)) (ji_seq (je_var 2)) (blkOk_by (N := N_marks_over) (sc := defScope s_marks_over) (by decide +kernel)) (fun _ _ _ _ _ => jg_name (i := 8) c.nd rfl (by first | exact Or.inl rfl | exact Or.inr rfl)) (fun _ _ _ _ _ c => jts_nil) (fun _ _ _ _ _ c => je_if (jt_cmp (op_eq4 c.eq) ok_eq (je_var 8) (je_var 7) (nomark _)) (je_var 6) (je_var 8)) (by decide))))))) (jss_one (js_retV 2)))) (fun _ _ => .inr rfl)
set_option maxHeartbeats 4000000 in
theorem ok_pieces_of (T : Tx K mg) (G_marks_over : FnOk P w K mg base (L2N.CX P w) 1 T.a_marks_over T.d_marks_over ["web", "ties"] (spD K T.cls 2 g_marks_over)) (G_made_set : FnOk P w K mg base (L2N.CX P w) 1 T.a_made_set T.d_made_set ["web", "ties"] (spD K T.cls 2 g_made_set)) : FnOk P w K mg base (L2N.CX P w) 2 T.a_pieces_of T.d_pieces_of ["web", "ties"] (spD K T.cls 2 g_pieces_of) :=
  fnD_ok T.F_pieces_of sc_pieces_of rfl (fun cdv A outer s H E c => jss_cons (js_setF (i := 2) c rfl (by first | exact Or.inl rfl | exact Or.inr rfl) (je_own (c.mono (by decide)) G_marks_over T.m_marks_over T.k_marks_over T.b_marks_over (ja_cons (je_var 0) (ja_cons (je_own (c.mono (by decide)) G_made_set T.m_made_set T.k_made_set T.b_made_set (ja_cons (je_var 0) (ja_cons (je_var 1) (ja_nil))) (alS (alS (al0)))) (ja_nil))) (alS (alS (al0))))) (jss_one (js_ret (je_lc [("mark", 3)] c (ji_seq (je_sortedset c T.z_sorted T.z_set (je_var 2))) (blkOk_by (N := N_pieces_of) (sc := defScope s_pieces_of) (by decide +kernel)) (fun _ _ _ _ _ => jg_name (i := 3) c.nd rfl (by first | exact Or.inl rfl | exact Or.inr rfl)) (fun _ _ _ _ _ c => jts_nil) (fun _ _ _ _ _ c => je_lc [("place", 4)] c (ji_rg1 T.z_range (ja_cons (je_fld T.o_Web (i := 0) rfl (je_var 0)) (ja_nil))) (blkOk_by (by kernel_rfl)) (fun _ _ _ _ _ => jg_name (i := 4) c.nd rfl (by first | exact Or.inl rfl | exact Or.inr rfl)) (fun _ _ _ _ _ c => jts_one (jt_cmp (op_eq4 c.eq) ok_eq (je_ix (je_var 2) (je_var 4)) (je_var 3) (nomark _))) (fun _ _ _ _ _ c => je_var 4) (by decide)) (by decide))))) (fun _ _ => .inr rfl)
set_option maxHeartbeats 4000000 in
theorem ok_pulls (T : Tx K mg) : FnOk P w K mg base (L2N.CX P w) 1 T.a_pulls T.d_pulls ["count", "ties"] (spD K T.cls 2 g_pulls) :=
  fnD_ok T.F_pulls sc_pulls rfl (fun cdv A outer s H E c => jss_cons (js_setLc (i := 2) [("place", 5)] c rfl rfl (sw_true rfl rfl rfl (by decide +kernel)) (ji_rg1 T.z_range (ja_cons (je_var 0) (ja_nil))) (blkOk_by (N := N_pulls) (sc := defScope s_pulls) (by decide +kernel)) (fun _ _ _ _ _ => jg_name (i := 5) c.nd rfl (by first | exact Or.inl rfl | exact Or.inr rfl)) (fun _ _ _ _ _ c => jts_nil) (fun _ _ _ _ _ c => je_bin op_mul4 ok_mul (je_lst (jao_cons (je_int) (jao_nil))) (je_var 0)) (by decide)) (jss_cons (js_for c (ji_seq (je_var 1)) (jg_tup c.calm (jgs_cons (jg_name (i := 3) c.nd rfl (by first | exact Or.inl rfl | exact Or.inr rfl)) (jgs_cons (jg_name (i := 4) c.nd rfl (by first | exact Or.inl rfl | exact Or.inr rfl)) (jgs_nil)))) (jss_one (js_if (jt_cmp (op_ne4 c.eq) ok_ne (je_var 3) (je_var 4) (nomark _)) (jss_cons (js_aug2 (i := 2) (j1 := 3) (j2 := 3) ip_add rfl (by first | exact Or.inl rfl | exact Or.inr (Or.inl rfl) | exact Or.inr (Or.inr rfl)) rfl (by first | exact Or.inl rfl | exact Or.inr (Or.inl rfl) | exact Or.inr (Or.inr rfl)) rfl (by first | exact Or.inl rfl | exact Or.inr (Or.inl rfl) | exact Or.inr (Or.inr rfl)) (je_int)) (jss_cons (js_aug2 (i := 2) (j1 := 4) (j2 := 4) ip_add rfl (by first | exact Or.inl rfl | exact Or.inr (Or.inl rfl) | exact Or.inr (Or.inr rfl)) rfl (by first | exact Or.inl rfl | exact Or.inr (Or.inl rfl) | exact Or.inr (Or.inr rfl)) rfl (by first | exact Or.inl rfl | exact Or.inr (Or.inl rfl) | exact Or.inr (Or.inr rfl)) (je_int)) (jss_cons (js_aug2 (i := 2) (j1 := 3) (j2 := 4) ip_sub rfl (by first | exact Or.inl rfl | exact Or.inr (Or.inl rfl) | exact Or.inr (Or.inr rfl)) rfl (by first | exact Or.inl rfl | exact Or.inr (Or.inl rfl) | exact Or.inr (Or.inr rfl)) rfl (by first | exact Or.inl rfl | exact Or.inr (Or.inl rfl) | exact Or.inr (Or.inr rfl)) (je_int)) (jss_one (js_aug2 (i := 2) (j1 := 4) (j2 := 3) ip_sub rfl (by first | exact Or.inl rfl | exact Or.inr (Or.inl rfl) | exact Or.inr (Or.inr rfl)) rfl (by first | exact Or.inl rfl | exact Or.inr (Or.inl rfl) | exact Or.inr (Or.inr rfl)) rfl (by first | exact Or.inl rfl | exact Or.inr (Or.inl rfl) | exact Or.inr (Or.inr rfl)) (je_int)))))) (jss_nil)))) (jss_one (js_retV 2)))) (fun _ _ => .inr rfl)
set_option maxHeartbeats 4000000 in
theorem ok_without_last (T : Tx K mg) : FnOk P w K mg base (L2N.CX P w) 1 T.a_without_last T.d_without_last ["table"] (spD K T.cls 1 g_without_last) :=
  fnD_ok T.F_without_last sc_without_last rfl (fun cdv A outer s H E c => jss_one (js_ret (je_lc [("row", 1)] c (ji_seq (je_sl (je_var 0) (jp_none) (jp_some (je_un un_neg ok_neg (je_int))))) (blkOk_by (N := N_without_last) (sc := defScope s_without_last) (by decide +kernel)) (fun _ _ _ _ _ => jg_name (i := 1) c.nd rfl (by first | exact Or.inl rfl | exact Or.inr rfl)) (fun _ _ _ _ _ c => jts_nil) (fun _ _ _ _ _ c => je_sl (je_var 1) (jp_none) (jp_some (je_un un_neg ok_neg (je_int)))) (by decide)))) (fun _ _ => .inr rfl)
set_option maxHeartbeats 4000000 in
theorem ok_pull_table (T : Tx K mg) (G_pulls : FnOk P w K mg base (L2N.CX P w) 1 T.a_pulls T.d_pulls ["count", "ties"] (spD K T.cls 2 g_pulls)) : FnOk P w K mg base (L2N.CX P w) 2 T.a_pull_table T.d_pull_table ["web"] (spD K T.cls 1 g_pull_table) :=
  fnD_ok T.F_pull_table sc_pull_table rfl (fun cdv A outer s H E c => jss_one (js_ret (je_own (c.mono (by decide)) G_pulls T.m_pulls T.k_pulls T.b_pulls (ja_cons (je_fld T.o_Web (i := 0) rfl (je_var 0)) (ja_cons (je_fld T.o_Web (i := 1) rfl (je_var 0)) (ja_nil))) (alS (alS (al0)))))) (fun _ _ => .inr rfl)
set_option maxHeartbeats 4000000 in
theorem ok_tree_count (T : Tx K mg) (G_determinant : FnOk P w K mg base (L2N.CX P w) 2 T.a_determinant T.d_determinant ["table"] (spD K T.cls 1 g_determinant)) (G_without_last : FnOk P w K mg base (L2N.CX P w) 1 T.a_without_last T.d_without_last ["table"] (spD K T.cls 1 g_without_last)) (G_pull_table : FnOk P w K mg base (L2N.CX P w) 2 T.a_pull_table T.d_pull_table ["web"] (spD K T.cls 1 g_pull_table)) : FnOk P w K mg base (L2N.CX P w) 3 T.a_tree_count T.d_tree_count ["web"] (spD K T.cls 1 g_tree_count) :=
  fnD_ok T.F_tree_count sc_tree_count rfl (fun cdv A outer s H E c => jss_one (js_ret (je_own (c.mono (by decide)) G_determinant T.m_determinant T.k_determinant T.b_determinant (ja_cons (je_own (c.mono (by decide)) G_without_last T.m_without_last T.k_without_last T.b_without_last (ja_cons (je_own (c.mono (by decide)) G_pull_table T.m_pull_table T.k_pull_table T.b_pull_table (ja_cons (je_var 0) (ja_nil)) (alS (al0))) (ja_nil)) (alS (al0))) (ja_nil)) (alS (al0))))) (fun _ _ => .inr rfl)
set_option maxHeartbeats 4000000 in
theorem ok_count_with (T : Tx K mg) (G_made_set : FnOk P w K mg base (L2N.CX P w) 1 T.a_made_set T.d_made_set ["web", "ties"] (spD K T.cls 2 g_made_set)) (G_pieces_of : FnOk P w K mg base (L2N.CX P w) 2 T.a_pieces_of T.d_pieces_of ["web", "ties"] (spD K T.cls 2 g_pieces_of)) (G_determinant : FnOk P w K mg base (L2N.CX P w) 2 T.a_determinant T.d_determinant ["table"] (spD K T.cls 1 g_determinant)) (G_without_last : FnOk P w K mg base (L2N.CX P w) 1 T.a_without_last T.d_without_last ["table"] (spD K T.cls 1 g_without_last)) (G_pulls : FnOk P w K mg base (L2N.CX P w) 1 T.a_pulls T.d_pulls ["count", "ties"] (spD K T.cls 2 g_pulls)) : FnOk P w K mg base (L2N.CX P w) 3 T.a_count_with T.d_count_with ["web", "inside", "outside"] (spD K T.cls 3 g_count_with) :=
  fnD_ok T.F_count_with sc_count_with rfl (fun cdv A outer s H E c => jss_cons (js_setF (i := 3) c rfl (by first | exact Or.inl rfl | exact Or.inr rfl) (je_own (c.mono (by decide)) G_made_set T.m_made_set T.k_made_set T.b_made_set (ja_cons (je_var 0) (ja_cons (je_var 1) (ja_nil))) (alS (alS (al0))))) (jss_cons (js_setF (i := 4) c rfl (by first | exact Or.inl rfl | exact Or.inr rfl) (je_own (c.mono (by decide)) G_made_set T.m_made_set T.k_made_set T.b_made_set (ja_cons (je_var 0) (ja_cons (je_var 2) (ja_nil))) (alS (alS (al0))))) (jss_cons (js_setF (i := 5) c rfl (by first | exact Or.inl rfl | exact Or.inr rfl) (je_own (c.mono (by decide)) G_pieces_of T.m_pieces_of T.k_pieces_of T.b_pieces_of (ja_cons (je_var 0) (ja_cons (je_var 3) (ja_nil))) (alS (alS (al0))))) (jss_cons (js_if (jt_w (jw_or (jt_cmp (op_ne4 c.eq) ok_ne (je_callB call_len ok_len T.z_len (by decide +kernel) (ja_cons (je_var 3) (ja_nil))) (je_bin op_sub ok_sub (je_fld T.o_Web (i := 0) rfl (je_var 0)) (je_callB call_len ok_len T.z_len (by decide +kernel) (ja_cons (je_var 5) (ja_nil)))) (nomark _)) (jw_or1 (jt_truth (je_callB (cr_any c.calm) ok_any T.z_any (by decide +kernel) (ja_cons (je_lc [("tie", 11)] c (ji_seq (je_var 3)) (blkOk_by (N := N_count_with) (sc := defScope s_count_with) (by decide +kernel)) (fun _ _ _ _ _ => jg_name (i := 11) c.nd rfl (by first | exact Or.inl rfl | exact Or.inr rfl)) (fun _ _ _ _ _ c => jts_nil) (fun _ _ _ _ _ c => je_cmp op_in_seq ok_in (je_var 11) (je_var 4) (by rfl)) (by decide)) (ja_nil))))))) (jss_one (js_ret (je_int))) (jss_nil)) (jss_cons (js_set (i := 6) c rfl (by first | exact Or.inl rfl | exact Or.inr rfl) (je_dic)) (jss_cons (js_for c (ji_enm T.z_enumerate (ja_cons (je_var 5) (ja_nil))) (jg_tup c.calm (jgs_cons (jg_name (i := 7) c.nd rfl (by first | exact Or.inl rfl | exact Or.inr rfl)) (jgs_cons (jg_name (i := 8) c.nd rfl (by first | exact Or.inl rfl | exact Or.inr rfl)) (jgs_nil)))) (jss_one (js_for c (ji_seq (je_var 8)) (jg_name (i := 9) c.nd rfl (by first | exact Or.inl rfl | exact Or.inr rfl)) (jss_one (js_dset (i := 6) c rfl (by first | exact Or.inl rfl | exact Or.inr (Or.inl rfl) | exact Or.inr (Or.inr rfl)) (je_var 7) (je_var 9)))))) (jss_cons (js_setLcF (i := 10) [("tie", 11), ("pair", 12)] c rfl rfl (sw_true rfl rfl rfl (by decide +kernel)) (ji_enm T.z_enumerate (ja_cons (je_fld T.o_Web (i := 1) rfl (je_var 0)) (ja_nil))) (blkOk_by (N := N_count_with) (sc := defScope s_count_with) (by decide +kernel)) (fun _ _ _ _ _ => jg_tup c.calm (jgs_cons (jg_name (i := 11) c.nd rfl (by first | exact Or.inl rfl | exact Or.inr rfl)) (jgs_cons (jg_name (i := 12) c.nd rfl (by first | exact Or.inl rfl | exact Or.inr rfl)) (jgs_nil)))) (fun _ _ _ _ _ c => jts_one (jt_cmp op_notIn_seq ok_nin (je_var 11) (je_var 4) (by rfl))) (fun _ _ _ _ _ c => je_tup (jao_cons (je_dget c (je_var 6) (je_ix (je_var 12) (je_int))) (jao_cons (je_dget c (je_var 6) (je_ix (je_var 12) (je_int))) (jao_nil)))) (by decide)) (jss_one (js_ret (je_own (c.mono (by decide)) G_determinant T.m_determinant T.k_determinant T.b_determinant (ja_cons (je_own (c.mono (by decide)) G_without_last T.m_without_last T.k_without_last T.b_without_last (ja_cons (je_own (c.mono (by decide)) G_pulls T.m_pulls T.k_pulls T.b_pulls (ja_cons (je_callB call_len ok_len T.z_len (by decide +kernel) (ja_cons (je_var 5) (ja_nil))) (ja_cons (je_var 10) (ja_nil))) (alS (alS (al0)))) (ja_nil)) (alS (al0))) (ja_nil)) (alS (al0)))))))))))) (fun _ _ => .inr rfl)
set_option maxHeartbeats 4000000 in
theorem ok_is_tree (T : Tx K mg) (G_marks_over : FnOk P w K mg base (L2N.CX P w) 1 T.a_marks_over T.d_marks_over ["web", "ties"] (spD K T.cls 2 g_marks_over)) : FnOk P w K mg base (L2N.CX P w) 2 T.a_is_tree T.d_is_tree ["web", "ties"] (spD K T.cls 2 g_is_tree) :=
  fnD_ok T.F_is_tree sc_is_tree rfl (fun cdv A outer s H E c => jss_cons (js_if (jt_cmp (op_ne4 c.eq) ok_ne (je_callB call_len ok_len T.z_len (by decide +kernel) (ja_cons (je_var 1) (ja_nil))) (je_bin op_sub ok_sub (je_fld T.o_Web (i := 0) rfl (je_var 0)) (je_int)) (nomark _)) (jss_one (js_ret (je_bl))) (jss_nil)) (jss_cons (js_setF (i := 2) c rfl (by first | exact Or.inl rfl | exact Or.inr rfl) (je_un un_neg ok_neg (je_int))) (jss_cons (js_for c (ji_seq (je_var 1)) (jg_name (i := 3) c.nd rfl (by first | exact Or.inl rfl | exact Or.inr rfl)) (jss_cons (js_if (jt_w (jw_or (jt_cmp op_le ok_le (je_var 3) (je_var 2) (nomark _)) (jw_or1 (jt_cmp op_ge ok_ge (je_var 3) (je_callB call_len ok_len T.z_len (by decide +kernel) (ja_cons (je_fld T.o_Web (i := 1) rfl (je_var 0)) (ja_nil))) (nomark _))))) (jss_one (js_ret (je_bl))) (jss_nil)) (jss_one (js_setF (i := 2) c rfl (by first | exact Or.inl rfl | exact Or.inr rfl) (je_var 3))))) (jss_one (js_ret (je_cmp (op_eq4 c.eq) ok_eq (je_lenset c T.z_len T.z_set (je_own (c.mono (by decide)) G_marks_over T.m_marks_over T.k_marks_over T.b_marks_over (ja_cons (je_var 0) (ja_cons (je_var 1) (ja_nil))) (alS (alS (al0))))) (je_int) (nomark _))))))) (fun _ _ => .inr rfl)
set_option maxHeartbeats 4000000 in
theorem ok_refuse_no_tree (T : Tx K mg) (G_is_tree : FnOk P w K mg base (L2N.CX P w) 2 T.a_is_tree T.d_is_tree ["web", "ties"] (spD K T.cls 2 g_is_tree)) : FnOk P w K mg base (L2N.CX P w) 3 T.a_refuse_no_tree T.d_refuse_no_tree ["web", "tree"] (spD K T.cls 2 g_refuse_no_tree) :=
  fnD_ok T.F_refuse_no_tree sc_refuse_no_tree rfl (fun cdv A outer s H E c => jss_one (js_if (jt_not (jt_truth (je_own (c.mono (by decide)) G_is_tree T.m_is_tree T.k_is_tree T.b_is_tree (ja_cons (je_var 0) (ja_cons (je_var 1) (ja_nil))) (alS (alS (al0)))))) (jss_one (js_raise c T.e_NoTree)) (jss_nil))) (fun _ _ => .inr rfl)
set_option maxHeartbeats 4000000 in
theorem ok_tree_at (T : Tx K mg) (G_tree_count : FnOk P w K mg base (L2N.CX P w) 3 T.a_tree_count T.d_tree_count ["web"] (spD K T.cls 1 g_tree_count)) (G_count_with : FnOk P w K mg base (L2N.CX P w) 3 T.a_count_with T.d_count_with ["web", "inside", "outside"] (spD K T.cls 3 g_count_with)) : FnOk P w K mg base (L2N.CX P w) 4 T.a_tree_at T.d_tree_at ["web", "number"] (spD K T.cls 2 g_tree_at) :=
  fnD_ok T.F_tree_at sc_tree_at rfl (fun cdv A outer s H E c => jss_cons (js_if (jt_w (jw_or (jt_cmp op_lt ok_lt (je_var 1) (je_int) (nomark _)) (jw_or1 (jt_cmp op_ge ok_ge (je_var 1) (je_own (c.mono (by decide)) G_tree_count T.m_tree_count T.k_tree_count T.b_tree_count (ja_cons (je_var 0) (ja_nil)) (alS (al0))) (nomark _))))) (jss_one (js_raise c T.e_NoSuch)) (jss_nil)) (jss_cons (js_setF (i := 2) c rfl (by first | exact Or.inl rfl | exact Or.inr rfl) (je_tup (jao_nil))) (jss_cons (js_setF (i := 3) c rfl (by first | exact Or.inl rfl | exact Or.inr rfl) (je_tup (jao_nil))) (jss_cons (js_for c (ji_rg1 T.z_range (ja_cons (je_callB call_len ok_len T.z_len (by decide +kernel) (ja_cons (je_fld T.o_Web (i := 1) rfl (je_var 0)) (ja_nil))) (ja_nil))) (jg_name (i := 4) c.nd rfl (by first | exact Or.inl rfl | exact Or.inr rfl)) (jss_cons (js_setF (i := 5) c rfl (by first | exact Or.inl rfl | exact Or.inr rfl) (je_own (c.mono (by decide)) G_count_with T.m_count_with T.k_count_with T.b_count_with (ja_cons (je_var 0) (ja_cons (je_bin op_add4 ok_add (je_var 2) (je_tup (jao_cons (je_var 4) (jao_nil)))) (ja_cons (je_var 3) (ja_nil)))) (alS (alS (alS (al0)))))) (jss_one (js_if (jt_cmp op_lt ok_lt (je_var 1) (je_var 5) (nomark _)) (jss_one (js_setF (i := 2) c rfl (by first | exact Or.inl rfl | exact Or.inr rfl) (je_bin op_add4 ok_add (je_var 2) (je_tup (jao_cons (je_var 4) (jao_nil)))))) (jss_cons (js_setF (i := 1) c rfl (by first | exact Or.inl rfl | exact Or.inr rfl) (je_bin op_sub ok_sub (je_var 1) (je_var 5))) (jss_one (js_setF (i := 3) c rfl (by first | exact Or.inl rfl | exact Or.inr rfl) (je_bin op_add4 ok_add (je_var 3) (je_tup (jao_cons (je_var 4) (jao_nil))))))))))) (jss_one (js_retV 2)))))) (fun _ _ => .inr rfl)
set_option maxHeartbeats 4000000 in
theorem ok_number_of (T : Tx K mg) (G_refuse_no_tree : FnOk P w K mg base (L2N.CX P w) 3 T.a_refuse_no_tree T.d_refuse_no_tree ["web", "tree"] (spD K T.cls 2 g_refuse_no_tree)) (G_count_with : FnOk P w K mg base (L2N.CX P w) 3 T.a_count_with T.d_count_with ["web", "inside", "outside"] (spD K T.cls 3 g_count_with)) : FnOk P w K mg base (L2N.CX P w) 4 T.a_number_of T.d_number_of ["web", "tree"] (spD K T.cls 2 g_number_of) :=
  fnD_ok T.F_number_of sc_number_of rfl (fun cdv A outer s H E c => jss_cons (js_exp (je_own (c.mono (by decide)) G_refuse_no_tree T.m_refuse_no_tree T.k_refuse_no_tree T.b_refuse_no_tree (ja_cons (je_var 0) (ja_cons (je_var 1) (ja_nil))) (alS (alS (al0))))) (jss_cons (js_setF (i := 2) c rfl (by first | exact Or.inl rfl | exact Or.inr rfl) (je_int)) (jss_cons (js_setF (i := 3) c rfl (by first | exact Or.inl rfl | exact Or.inr rfl) (je_tup (jao_nil))) (jss_cons (js_setF (i := 4) c rfl (by first | exact Or.inl rfl | exact Or.inr rfl) (je_tup (jao_nil))) (jss_cons (js_for c (ji_rg1 T.z_range (ja_cons (je_callB call_len ok_len T.z_len (by decide +kernel) (ja_cons (je_fld T.o_Web (i := 1) rfl (je_var 0)) (ja_nil))) (ja_nil))) (jg_name (i := 5) c.nd rfl (by first | exact Or.inl rfl | exact Or.inr rfl)) (jss_one (js_if (jt_cmp op_in_seq ok_in (je_var 5) (je_var 1) (by rfl)) (jss_one (js_setF (i := 3) c rfl (by first | exact Or.inl rfl | exact Or.inr rfl) (je_bin op_add4 ok_add (je_var 3) (je_tup (jao_cons (je_var 5) (jao_nil)))))) (jss_cons (js_setF (i := 2) c rfl (by first | exact Or.inl rfl | exact Or.inr rfl) (je_bin op_add4 ok_add (je_var 2) (je_own (c.mono (by decide)) G_count_with T.m_count_with T.k_count_with T.b_count_with (ja_cons (je_var 0) (ja_cons (je_bin op_add4 ok_add (je_var 3) (je_tup (jao_cons (je_var 5) (jao_nil)))) (ja_cons (je_var 4) (ja_nil)))) (alS (alS (alS (al0))))))) (jss_one (js_setF (i := 4) c rfl (by first | exact Or.inl rfl | exact Or.inr rfl) (je_bin op_add4 ok_add (je_var 4) (je_tup (jao_cons (je_var 5) (jao_nil)))))))))) (jss_one (js_retV 2))))))) (fun _ _ => .inr rfl)
set_option maxHeartbeats 4000000 in
theorem ok_next_tree (T : Tx K mg) (G_number_of : FnOk P w K mg base (L2N.CX P w) 4 T.a_number_of T.d_number_of ["web", "tree"] (spD K T.cls 2 g_number_of)) (G_tree_count : FnOk P w K mg base (L2N.CX P w) 3 T.a_tree_count T.d_tree_count ["web"] (spD K T.cls 1 g_tree_count)) (G_tree_at : FnOk P w K mg base (L2N.CX P w) 4 T.a_tree_at T.d_tree_at ["web", "number"] (spD K T.cls 2 g_tree_at)) : FnOk P w K mg base (L2N.CX P w) 5 T.a_next_tree T.d_next_tree ["web", "tree"] (spD K T.cls 2 g_next_tree) :=
  fnD_ok T.F_next_tree sc_next_tree rfl (fun cdv A outer s H E c => jss_cons (js_setF (i := 2) c rfl (by first | exact Or.inl rfl | exact Or.inr rfl) (je_bin op_add4 ok_add (je_own (c.mono (by decide)) G_number_of T.m_number_of T.k_number_of T.b_number_of (ja_cons (je_var 0) (ja_cons (je_var 1) (ja_nil))) (alS (alS (al0)))) (je_int))) (jss_cons (js_if (jt_cmp (op_eq4 c.eq) ok_eq (je_var 2) (je_own (c.mono (by decide)) G_tree_count T.m_tree_count T.k_tree_count T.b_tree_count (ja_cons (je_var 0) (ja_nil)) (alS (al0))) (nomark _)) (jss_one (js_ret (je_non))) (jss_nil)) (jss_one (js_ret (je_own (c.mono (by decide)) G_tree_at T.m_tree_at T.k_tree_at T.b_tree_at (ja_cons (je_var 0) (ja_cons (je_var 2) (ja_nil))) (alS (alS (al0)))))))) (fun _ _ => .inr rfl)
set_option maxHeartbeats 4000000 in
theorem ok_tree_ahead (T : Tx K mg) (G_number_of : FnOk P w K mg base (L2N.CX P w) 4 T.a_number_of T.d_number_of ["web", "tree"] (spD K T.cls 2 g_number_of)) (G_tree_at : FnOk P w K mg base (L2N.CX P w) 4 T.a_tree_at T.d_tree_at ["web", "number"] (spD K T.cls 2 g_tree_at)) : FnOk P w K mg base (L2N.CX P w) 5 T.a_tree_ahead T.d_tree_ahead ["web", "tree"] (spD K T.cls 2 g_tree_ahead) :=
  fnD_ok T.F_tree_ahead sc_tree_ahead rfl (fun cdv A outer s H E c => jss_cons (js_setF (i := 2) c rfl (by first | exact Or.inl rfl | exact Or.inr rfl) (je_own (c.mono (by decide)) G_number_of T.m_number_of T.k_number_of T.b_number_of (ja_cons (je_var 0) (ja_cons (je_var 1) (ja_nil))) (alS (alS (al0))))) (jss_cons (js_if (jt_cmp (op_eq4 c.eq) ok_eq (je_var 2) (je_int) (nomark _)) (jss_one (js_ret (je_non))) (jss_nil)) (jss_one (js_ret (je_own (c.mono (by decide)) G_tree_at T.m_tree_at T.k_tree_at T.b_tree_at (ja_cons (je_var 0) (ja_cons (je_bin op_sub ok_sub (je_var 2) (je_int)) (ja_nil))) (alS (alS (al0)))))))) (fun _ _ => .inr rfl)
set_option maxHeartbeats 4000000 in
theorem ok_heads_behind (T : Tx K mg) : FnOk P w K mg base (L2N.CX P w) 1 T.a_heads_behind T.d_heads_behind ["heads", "one", "other"] (spD K T.cls 3 g_heads_behind) :=
  fnD_ok T.F_heads_behind sc_heads_behind rfl (fun cdv A outer s H E c => jss_one (js_ret (je_lc [("head", 3)] c (ji_seq (je_var 0)) (blkOk_by (N := N_heads_behind) (sc := defScope s_heads_behind) (by decide +kernel)) (fun _ _ _ _ _ => jg_name (i := 3) c.nd rfl (by first | exact Or.inl rfl | exact Or.inr rfl)) (fun _ _ _ _ _ c => jts_nil) (fun _ _ _ _ _ c => je_if (jt_cmp (op_eq4 c.eq) ok_eq (je_var 3) (je_var 2) (nomark _)) (je_var 1) (je_var 3)) (by decide)))) (fun _ _ => .inr rfl)
set_option maxHeartbeats 4000000 in
theorem ok_grown_by (T : Tx K mg) (G_heads_behind : FnOk P w K mg base (L2N.CX P w) 1 T.a_heads_behind T.d_heads_behind ["heads", "one", "other"] (spD K T.cls 3 g_heads_behind)) : FnOk P w K mg base (L2N.CX P w) 2 T.a_grown_by T.d_grown_by ["web", "inside", "outside", "others"] (spD K T.cls 4 g_grown_by) :=
  fnD_ok T.F_grown_by sc_grown_by rfl (fun cdv A outer s H E c => jss_cons (js_set (i := 4) c rfl (by first | exact Or.inl rfl | exact Or.inr rfl) (je_lst (jao_nil))) (jss_cons (js_setF (i := 5) c rfl (by first | exact Or.inl rfl | exact Or.inr rfl) (je_lr1 c T.z_list T.z_range (je_fld T.o_Web (i := 0) rfl (je_var 0)))) (jss_cons (js_for c (ji_seq (je_bin op_add4 ok_add (je_callTy call_list_of ok_list T.z_list (by decide +kernel) (ja_cons (je_var 1) (ja_nil))) (je_lc [("tie", 6)] c (ji_seq (je_var 3)) (blkOk_by (N := N_grown_by) (sc := defScope s_grown_by) (by decide +kernel)) (fun _ _ _ _ _ => jg_name (i := 6) c.nd rfl (by first | exact Or.inl rfl | exact Or.inr rfl)) (fun _ _ _ _ _ c => jts_one (jt_w (jw_and (jt_cmp op_notIn_seq ok_nin (je_var 6) (je_var 1) (by rfl)) (jw_and1 (jt_cmp op_notIn_seq ok_nin (je_var 6) (je_var 2) (by rfl)))))) (fun _ _ _ _ _ c => je_var 6) (by decide)))) (jg_name (i := 6) c.nd rfl (by first | exact Or.inl rfl | exact Or.inr rfl)) (jss_cons (js_setF (i := 7) c rfl (by first | exact Or.inl rfl | exact Or.inr rfl) (je_ix (je_var 5) (je_ix (je_ix (je_fld T.o_Web (i := 1) rfl (je_var 0)) (je_var 6)) (je_int)))) (jss_cons (js_setF (i := 8) c rfl (by first | exact Or.inl rfl | exact Or.inr rfl) (je_ix (je_var 5) (je_ix (je_ix (je_fld T.o_Web (i := 1) rfl (je_var 0)) (je_var 6)) (je_int)))) (jss_one (js_if (jt_cmp (op_ne4 c.eq) ok_ne (je_var 7) (je_var 8) (nomark _)) (jss_cons (js_setF (i := 5) c rfl (by first | exact Or.inl rfl | exact Or.inr rfl) (je_own (c.mono (by decide)) G_heads_behind T.m_heads_behind T.k_heads_behind T.b_heads_behind (ja_cons (je_var 5) (ja_cons (je_var 7) (ja_cons (je_var 8) (ja_nil)))) (alS (alS (alS (al0)))))) (jss_one (js_app (i := 4) rfl (by first | exact Or.inl rfl | exact Or.inr (Or.inl rfl) | exact Or.inr (Or.inr rfl)) (je_var 6)))) (jss_one (js_if (jt_cmp op_in_seq ok_in (je_var 6) (je_var 1) (by rfl)) (jss_one (js_ret (je_non))) (jss_nil)))))))) (jss_cons (js_if (jt_cmp op_lt ok_lt (je_callB call_len ok_len T.z_len (by decide +kernel) (ja_cons (je_var 4) (ja_nil))) (je_bin op_sub ok_sub (je_fld T.o_Web (i := 0) rfl (je_var 0)) (je_int)) (nomark _)) (jss_one (js_ret (je_non))) (jss_nil)) (jss_one (js_ret (je_callTy call_tuple_of ok_tuple T.z_tuple (by decide +kernel) (ja_cons (je_callB cr_sorted3 ok_sorted3 T.z_sorted (by decide +kernel) (ja_cons (je_var 4) (ja_nil))) (ja_nil))))))))) (fun _ _ => .inr rfl)
set_option maxHeartbeats 4000000 in
theorem ok_looked_at_sets (T : Tx K mg) (G_made_set : FnOk P w K mg base (L2N.CX P w) 1 T.a_made_set T.d_made_set ["web", "ties"] (spD K T.cls 2 g_made_set)) : FnOk P w K mg base (L2N.CX P w) 2 T.a_looked_at_sets T.d_looked_at_sets ["web", "inside", "outside"] (spD K T.cls 3 g_looked_at_sets) :=
  fnD_ok T.F_looked_at_sets sc_looked_at_sets rfl (fun cdv A outer s H E c => jss_cons (js_setF (i := 3) c rfl (by first | exact Or.inl rfl | exact Or.inr rfl) (je_own (c.mono (by decide)) G_made_set T.m_made_set T.k_made_set T.b_made_set (ja_cons (je_var 0) (ja_cons (je_var 1) (ja_nil))) (alS (alS (al0))))) (jss_cons (js_setF (i := 4) c rfl (by first | exact Or.inl rfl | exact Or.inr rfl) (je_own (c.mono (by decide)) G_made_set T.m_made_set T.k_made_set T.b_made_set (ja_cons (je_var 0) (ja_cons (je_var 2) (ja_nil))) (alS (alS (al0))))) (jss_cons (js_if (jt_cmp op_lt ok_lt (je_lensetT c T.z_len T.z_set (je_bin op_add4 ok_add (je_var 3) (je_var 4))) (je_bin op_add4 ok_add (je_callB call_len ok_len T.z_len (by decide +kernel) (ja_cons (je_var 3) (ja_nil))) (je_callB call_len ok_len T.z_len (by decide +kernel) (ja_cons (je_var 4) (ja_nil)))) (nomark _)) (jss_one (js_ret (je_non))) (jss_nil)) (jss_one (js_ret (je_tup (jao_cons (je_var 3) (jao_cons (je_var 4) (jao_nil))))))))) (fun _ _ => .inr rfl)
set_option maxHeartbeats 4000000 in
theorem ok_least_with (T : Tx K mg) (G_looked_at_sets : FnOk P w K mg base (L2N.CX P w) 2 T.a_looked_at_sets T.d_looked_at_sets ["web", "inside", "outside"] (spD K T.cls 3 g_looked_at_sets)) (G_grown_by : FnOk P w K mg base (L2N.CX P w) 2 T.a_grown_by T.d_grown_by ["web", "inside", "outside", "others"] (spD K T.cls 4 g_grown_by)) : FnOk P w K mg base (L2N.CX P w) 3 T.a_least_with T.d_least_with ["web", "inside", "outside"] (spD K T.cls 3 g_least_with) :=
  fnD_ok T.F_least_with sc_least_with rfl (fun cdv A outer s H E c => jss_cons (js_setF (i := 3) c rfl (by first | exact Or.inl rfl | exact Or.inr rfl) (je_own (c.mono (by decide)) G_looked_at_sets T.m_looked_at_sets T.k_looked_at_sets T.b_looked_at_sets (ja_cons (je_var 0) (ja_cons (je_var 1) (ja_cons (je_var 2) (ja_nil)))) (alS (alS (alS (al0)))))) (jss_cons (js_if (jt_cmp op_isN ok_isN (je_var 3) (je_non) (nomark _)) (jss_one (js_ret (je_non))) (jss_nil)) (jss_one (js_ret (je_own (c.mono (by decide)) G_grown_by T.m_grown_by T.k_grown_by T.b_grown_by (ja_cons (je_var 0) (ja_cons (je_ix (je_var 3) (je_int)) (ja_cons (je_ix (je_var 3) (je_int)) (ja_cons (je_lr1 c T.z_list T.z_range (je_callB call_len ok_len T.z_len (by decide +kernel) (ja_cons (je_fld T.o_Web (i := 1) rfl (je_var 0)) (ja_nil)))) (ja_nil))))) (alS (alS (alS (alS (al0)))))))))) (fun _ _ => .inr rfl)
set_option maxHeartbeats 4000000 in
theorem ok_greatest_with (T : Tx K mg) (G_looked_at_sets : FnOk P w K mg base (L2N.CX P w) 2 T.a_looked_at_sets T.d_looked_at_sets ["web", "inside", "outside"] (spD K T.cls 3 g_looked_at_sets)) (G_grown_by : FnOk P w K mg base (L2N.CX P w) 2 T.a_grown_by T.d_grown_by ["web", "inside", "outside", "others"] (spD K T.cls 4 g_grown_by)) : FnOk P w K mg base (L2N.CX P w) 3 T.a_greatest_with T.d_greatest_with ["web", "inside", "outside"] (spD K T.cls 3 g_greatest_with) :=
  fnD_ok T.F_greatest_with sc_greatest_with rfl (fun cdv A outer s H E c => jss_cons (js_setF (i := 3) c rfl (by first | exact Or.inl rfl | exact Or.inr rfl) (je_own (c.mono (by decide)) G_looked_at_sets T.m_looked_at_sets T.k_looked_at_sets T.b_looked_at_sets (ja_cons (je_var 0) (ja_cons (je_var 1) (ja_cons (je_var 2) (ja_nil)))) (alS (alS (alS (al0)))))) (jss_cons (js_if (jt_cmp op_isN ok_isN (je_var 3) (je_non) (nomark _)) (jss_one (js_ret (je_non))) (jss_nil)) (jss_one (js_ret (je_own (c.mono (by decide)) G_grown_by T.m_grown_by T.k_grown_by T.b_grown_by (ja_cons (je_var 0) (ja_cons (je_ix (je_var 3) (je_int)) (ja_cons (je_ix (je_var 3) (je_int)) (ja_cons (je_lrr1 c T.z_list T.z_reversed T.z_range (je_callB call_len ok_len T.z_len (by decide +kernel) (ja_cons (je_fld T.o_Web (i := 1) rfl (je_var 0)) (ja_nil)))) (ja_nil))))) (alS (alS (alS (alS (al0)))))))))) (fun _ _ => .inr rfl)
set_option maxHeartbeats 4000000 in
theorem ok_law_at (T : Tx K mg) : FnOk P w K mg base (L2N.CX P w) 1 T.a_law_at T.d_law_at ["script", "k"] (spD K T.cls 2 g_law_at) :=
  fnD_ok T.F_law_at sc_law_at rfl (fun cdv A outer s H E c => jss_cons (js_if (jt_cmp op_lt ok_lt (je_var 1) (je_callB call_len ok_len T.z_len (by decide +kernel) (ja_cons (je_var 0) (ja_nil))) (nomark _)) (jss_one (js_ret (je_ix (je_var 0) (je_var 1)))) (jss_nil)) (jss_one (js_ret (je_int)))) (fun _ _ => .inr rfl)
set_option maxHeartbeats 4000000 in
theorem ok_law_stir (T : Tx K mg) : FnOk P w K mg base (L2N.CX P w) 1 T.a_law_stir T.d_law_stir ["cell", "k"] (spD K T.cls 2 g_law_stir) :=
  fnD_ok T.F_law_stir sc_law_stir rfl (fun cdv A outer s H E c => jss_cons (js_setF (i := 2) c rfl (by first | exact Or.inl rfl | exact Or.inr rfl) (je_bin op_modX ok_mod (je_bin op_mul4 ok_mul (je_bin op_add4 ok_add (je_bin op_add4 ok_add (je_bin op_modX ok_mod (je_var 0) (je_bin op_pow ok_pow (je_int) (je_int))) (je_bin op_mul4 ok_mul (je_int) (je_var 1))) (je_int)) (je_int)) (je_int))) (jss_cons (js_setF (i := 2) c rfl (by first | exact Or.inl rfl | exact Or.inr rfl) (je_bin op_modX ok_mod (je_bin op_mul4 ok_mul (je_var 2) (je_var 2)) (je_int))) (jss_one (js_ret (je_bin op_divX ok_div (je_bin op_modX ok_mod (je_bin op_mul4 ok_mul (je_bin op_add4 ok_add (je_var 2) (je_bin op_mul4 ok_mul (je_int) (je_bin op_add4 ok_add (je_var 1) (je_int)))) (je_int)) (je_int)) (je_int)))))) (fun _ _ => .inr rfl)
set_option maxHeartbeats 4000000 in
theorem ok_law_numbers_v3 (T : Tx K mg) : FnOk P w K mg base (L2N.CX P w) 1 T.a_law_numbers_v3 T.d_law_numbers_v3 ["script", "start", "most"] (spD K T.cls 3 g_law_numbers_v3) :=
  fnD_ok T.F_law_numbers_v3 sc_law_numbers_v3 rfl (fun cdv A outer s H E c => jss_cons (js_set (i := 3) c rfl (by first | exact Or.inl rfl | exact Or.inr rfl) (je_lst (jao_nil))) (jss_cons (js_for c (ji_rg2 T.z_range (ja_cons (je_var 1) (ja_cons (je_callB call_len ok_len T.z_len (by decide +kernel) (ja_cons (je_var 0) (ja_nil))) (ja_nil)))) (jg_name (i := 4) c.nd rfl (by first | exact Or.inl rfl | exact Or.inr rfl)) (jss_cons (js_setF (i := 5) c rfl (by first | exact Or.inl rfl | exact Or.inr rfl) (je_bin op_modX ok_mod (je_ix (je_var 0) (je_var 4)) (je_bin op_pow ok_pow (je_int) (je_int)))) (jss_one (js_if (jt_cmp op_lt ok_lt (je_callB call_len ok_len T.z_len (by decide +kernel) (ja_cons (je_var 3) (ja_nil))) (je_var 2) (nomark _)) (jss_one (js_app (i := 3) rfl (by first | exact Or.inl rfl | exact Or.inr (Or.inl rfl) | exact Or.inr (Or.inr rfl)) (je_var 5))) (jss_one (js_setIx (i := 3) rfl (by first | exact Or.inl rfl | exact Or.inr (Or.inl rfl) | exact Or.inr (Or.inr rfl)) (je_bin op_modX ok_mod (je_bin op_add4 ok_add (je_bin op_mul4 ok_mul (je_ix (je_var 3) (je_bin op_modX ok_mod (je_var 4) (je_var 2))) (je_int)) (je_var 5)) (je_bin op_pow ok_pow (je_int) (je_int))) (je_bin op_modX ok_mod (je_var 4) (je_var 2)))))))) (jss_one (js_retV 3)))) (fun _ _ => .inr rfl)
set_option maxHeartbeats 4000000 in
theorem ok_law_digits (T : Tx K mg) (G_law_stir : FnOk P w K mg base (L2N.CX P w) 1 T.a_law_stir T.d_law_stir ["cell", "k"] (spD K T.cls 2 g_law_stir)) : FnOk P w K mg base (L2N.CX P w) 2 T.a_law_digits T.d_law_digits ["cell", "most_places", "most_ties"] (spD K T.cls 3 g_law_digits) :=
  fnD_ok T.F_law_digits sc_law_digits rfl (fun cdv A outer s H E c => jss_cons (js_setF (i := 3) c rfl (by first | exact Or.inl rfl | exact Or.inr rfl) (je_bin op_add4 ok_add (je_int) (je_bin op_modX ok_mod (je_var 0) (je_var 1)))) (jss_cons (js_setF (i := 4) c rfl (by first | exact Or.inl rfl | exact Or.inr rfl) (je_bin op_divX ok_div (je_var 0) (je_var 1))) (jss_cons (js_set (i := 5) c rfl (by first | exact Or.inl rfl | exact Or.inr rfl) (je_lst (jao_nil))) (jss_cons (js_setF (i := 6) c rfl (by first | exact Or.inl rfl | exact Or.inr rfl) (je_bin op_divX ok_div (je_var 4) (je_bin op_add4 ok_add (je_var 2) (je_int)))) (jss_cons (js_for c (ji_rg1 T.z_range (ja_cons (je_bin op_modX ok_mod (je_var 4) (je_bin op_add4 ok_add (je_var 2) (je_int))) (ja_nil))) (jg_name (i := 7) c.nd rfl (by first | exact Or.inl rfl | exact Or.inr rfl)) (jss_cons (js_if (jt_cmp op_in_seq ok_in (je_var 6) (je_lst (jao_cons (je_int) (jao_cons (je_un un_neg ok_neg (je_int)) (jao_nil)))) (by rfl)) (jss_one (js_app (i := 5) rfl (by first | exact Or.inl rfl | exact Or.inr (Or.inl rfl) | exact Or.inr (Or.inr rfl)) (je_tup (jao_cons (je_bin op_modX ok_mod (je_own (c.mono (by decide)) G_law_stir T.m_law_stir T.k_law_stir T.b_law_stir (ja_cons (je_var 4) (ja_cons (je_bin op_mul4 ok_mul (je_int) (je_var 7)) (ja_nil))) (alS (alS (al0)))) (je_var 3)) (jao_cons (je_bin op_modX ok_mod (je_own (c.mono (by decide)) G_law_stir T.m_law_stir T.k_law_stir T.b_law_stir (ja_cons (je_var 4) (ja_cons (je_bin op_add4 ok_add (je_bin op_mul4 ok_mul (je_int) (je_var 7)) (je_int)) (ja_nil))) (alS (alS (al0)))) (je_var 3)) (jao_nil)))))) (jss_one (js_app (i := 5) rfl (by first | exact Or.inl rfl | exact Or.inr (Or.inl rfl) | exact Or.inr (Or.inr rfl)) (je_tup (jao_cons (je_bin op_modX ok_mod (je_var 6) (je_var 3)) (jao_cons (je_bin op_modX ok_mod (je_bin op_divX ok_div (je_var 6) (je_var 3)) (je_var 3)) (jao_nil))))))) (jss_one (js_setF (i := 6) c rfl (by first | exact Or.inl rfl | exact Or.inr rfl) (je_bin op_divX ok_div (je_var 6) (je_bin op_mul4 ok_mul (je_var 3) (je_var 3))))))) (jss_one (js_frz 5 (js_ret (je_tup (jao_cons (je_var 3) (jao_cons (je_var 5) (jao_nil)))))))))))) (fun _ _ => .inr rfl)
set_option maxHeartbeats 4000000 in
theorem ok_law_web_v3 (T : Tx K mg) (G_law_at : FnOk P w K mg base (L2N.CX P w) 1 T.a_law_at T.d_law_at ["script", "k"] (spD K T.cls 2 g_law_at)) (G_law_digits : FnOk P w K mg base (L2N.CX P w) 2 T.a_law_digits T.d_law_digits ["cell", "most_places", "most_ties"] (spD K T.cls 3 g_law_digits)) (G_law_numbers_v3 : FnOk P w K mg base (L2N.CX P w) 1 T.a_law_numbers_v3 T.d_law_numbers_v3 ["script", "start", "most"] (spD K T.cls 3 g_law_numbers_v3)) (G_law_stir : FnOk P w K mg base (L2N.CX P w) 1 T.a_law_stir T.d_law_stir ["cell", "k"] (spD K T.cls 2 g_law_stir)) : FnOk P w K mg base (L2N.CX P w) 3 T.a_law_web_v3 T.d_law_web_v3 ["script", "most_places", "most_ties"] (spD K T.cls 3 g_law_web_v3) :=
  fnD_ok T.F_law_web_v3 sc_law_web_v3 rfl (fun cdv A outer s H E c => jss_cons (js_setF (i := 3) c rfl (by first | exact Or.inl rfl | exact Or.inr rfl) (je_own (c.mono (by decide)) G_law_at T.m_law_at T.k_law_at T.b_law_at (ja_cons (je_var 0) (ja_cons (je_int) (ja_nil))) (alS (alS (al0))))) (jss_cons (js_if (jt_cmp (op_eq4 c.eq) ok_eq (je_bin op_modX ok_mod (je_var 3) (je_int)) (je_int) (nomark _)) (jss_one (js_ret (je_own (c.mono (by decide)) G_law_digits T.m_law_digits T.k_law_digits T.b_law_digits (ja_cons (je_own (c.mono (by decide)) G_law_at T.m_law_at T.k_law_at T.b_law_at (ja_cons (je_var 0) (ja_cons (je_int) (ja_nil))) (alS (alS (al0)))) (ja_cons (je_var 1) (ja_cons (je_var 2) (ja_nil)))) (alS (alS (alS (al0))))))) (jss_nil)) (jss_cons (js_setF (i := 4) c rfl (by first | exact Or.inl rfl | exact Or.inr rfl) (je_bin op_add4 ok_add (je_int) (je_bin op_modX ok_mod (je_bin op_divX ok_div (je_var 3) (je_int)) (je_var 1)))) (jss_cons (js_set (i := 5) c rfl (by first | exact Or.inl rfl | exact Or.inr rfl) (je_lst (jao_nil))) (jss_cons (js_for c (ji_enm T.z_enumerate (ja_cons (je_own (c.mono (by decide)) G_law_numbers_v3 T.m_law_numbers_v3 T.k_law_numbers_v3 T.b_law_numbers_v3 (ja_cons (je_var 0) (ja_cons (je_int) (ja_cons (je_var 2) (ja_nil)))) (alS (alS (alS (al0))))) (ja_nil))) (jg_tup c.calm (jgs_cons (jg_name (i := 6) c.nd rfl (by first | exact Or.inl rfl | exact Or.inr rfl)) (jgs_cons (jg_name (i := 7) c.nd rfl (by first | exact Or.inl rfl | exact Or.inr rfl)) (jgs_nil)))) (jss_cons (js_setF (i := 8) c rfl (by first | exact Or.inl rfl | exact Or.inr rfl) (je_bin op_modX ok_mod (je_own (c.mono (by decide)) G_law_stir T.m_law_stir T.k_law_stir T.b_law_stir (ja_cons (je_var 7) (ja_cons (je_int) (ja_nil))) (alS (alS (al0)))) (je_var 4))) (jss_cons (js_setF (i := 9) c rfl (by first | exact Or.inl rfl | exact Or.inr rfl) (je_bin op_modX ok_mod (je_own (c.mono (by decide)) G_law_stir T.m_law_stir T.k_law_stir T.b_law_stir (ja_cons (je_var 7) (ja_cons (je_int) (ja_nil))) (alS (alS (al0)))) (je_var 4))) (jss_cons (js_if (jt_w (jw_and (jt_cmp op_lt ok_lt (je_bin op_add4 ok_add (je_var 6) (je_int)) (je_var 4) (nomark _)) (jw_and1 (jt_cmp op_gt ok_gt (je_bin op_modX ok_mod (je_own (c.mono (by decide)) G_law_stir T.m_law_stir T.k_law_stir T.b_law_stir (ja_cons (je_var 7) (ja_cons (je_int) (ja_nil))) (alS (alS (al0)))) (je_int)) (je_int) (nomark _))))) (jss_cons (js_setF (i := 8) c rfl (by first | exact Or.inl rfl | exact Or.inr rfl) (je_bin op_modX ok_mod (je_own (c.mono (by decide)) G_law_stir T.m_law_stir T.k_law_stir T.b_law_stir (ja_cons (je_var 7) (ja_cons (je_int) (ja_nil))) (alS (alS (al0)))) (je_bin op_add4 ok_add (je_var 6) (je_int)))) (jss_one (js_setF (i := 9) c rfl (by first | exact Or.inl rfl | exact Or.inr rfl) (je_bin op_add4 ok_add (je_var 6) (je_int))))) (jss_nil)) (jss_one (js_app (i := 5) rfl (by first | exact Or.inl rfl | exact Or.inr (Or.inl rfl) | exact Or.inr (Or.inr rfl)) (je_ix (je_lst (jao_cons (je_tup (jao_cons (je_var 8) (jao_cons (je_var 9) (jao_nil)))) (jao_cons (je_tup (jao_cons (je_var 9) (jao_cons (je_var 8) (jao_nil)))) (jao_nil)))) (je_bin op_modX ok_mod (je_own (c.mono (by decide)) G_law_stir T.m_law_stir T.k_law_stir T.b_law_stir (ja_cons (je_var 7) (ja_cons (je_int) (ja_nil))) (alS (alS (al0)))) (je_int))))))))) (jss_one (js_frz 5 (js_ret (je_tup (jao_cons (je_var 4) (jao_cons (je_var 5) (jao_nil)))))))))))) (fun _ _ => .inr rfl)
set_option maxHeartbeats 4000000 in
theorem ok_law_trees_v3 (T : Tx K mg) : FnOk P w K mg base (L2N.CX P w) 1 T.a_law_trees_v3 T.d_law_trees_v3 ["places", "ties"] (spD K T.cls 2 g_law_trees_v3) :=
  fnD_ok T.F_law_trees_v3 sc_law_trees_v3 rfl (fun cdv A outer s H E c => jss_cons (js_setF (i := 2) c rfl (by first | exact Or.inl rfl | exact Or.inr rfl) (je_lst (jao_cons (je_tup (jao_cons (je_tup (jao_nil)) (jao_cons (je_tr1 c T.z_tuple T.z_range (je_var 0)) (jao_nil)))) (jao_nil)))) (jss_cons (js_for c (ji_rg1 T.z_range (ja_cons (je_bin op_sub ok_sub (je_var 0) (je_int)) (ja_nil))) (jg_name (i := 3) c.nd rfl (by first | exact Or.inl rfl | exact Or.inr rfl)) (jss_cons (js_set (i := 4) c rfl (by first | exact Or.inl rfl | exact Or.inr rfl) (je_lst (jao_nil))) (jss_cons (js_for c (ji_seq (je_var 2)) (jg_tup c.calm (jgs_cons (jg_name (i := 5) c.nd rfl (by first | exact Or.inl rfl | exact Or.inr rfl)) (jgs_cons (jg_name (i := 6) c.nd rfl (by first | exact Or.inl rfl | exact Or.inr rfl)) (jgs_nil)))) (jss_one (js_for c (ji_rg2 T.z_range (ja_cons (je_bin op_add4 ok_add (je_callB (cr_max3 c.calm c.eq65) ok_max3 T.z_max (by decide +kernel) (ja_cons (je_bin op_add4 ok_add (je_tup (jao_cons (je_un un_neg ok_neg (je_int)) (jao_nil))) (je_var 5)) (ja_nil))) (je_int)) (ja_cons (je_callB call_len ok_len T.z_len (by decide +kernel) (ja_cons (je_var 1) (ja_nil))) (ja_nil)))) (jg_name (i := 7) c.nd rfl (by first | exact Or.inl rfl | exact Or.inr rfl)) (jss_cons (js_setF (i := 8) c rfl (by first | exact Or.inl rfl | exact Or.inr rfl) (je_ix (je_var 6) (je_ix (je_ix (je_var 1) (je_var 7)) (je_int)))) (jss_cons (js_setF (i := 9) c rfl (by first | exact Or.inl rfl | exact Or.inr rfl) (je_ix (je_var 6) (je_ix (je_ix (je_var 1) (je_var 7)) (je_int)))) (jss_one (js_if (jt_cmp (op_ne4 c.eq) ok_ne (je_var 8) (je_var 9) (nomark _)) (jss_cons (js_setF (i := 10) c rfl (by first | exact Or.inl rfl | exact Or.inr rfl) (je_callTy call_tuple_of ok_tuple T.z_tuple (by decide +kernel) (ja_cons (je_lc [("head", 11)] c (ji_seq (je_var 6)) (blkOk_by (N := N_law_trees_v3) (sc := defScope s_law_trees_v3) (by decide +kernel)) (fun _ _ _ _ _ => jg_name (i := 11) c.nd rfl (by first | exact Or.inl rfl | exact Or.inr rfl)) (fun _ _ _ _ _ c => jts_nil) (fun _ _ _ _ _ c => je_if (jt_cmp (op_eq4 c.eq) ok_eq (je_var 11) (je_var 9) (nomark _)) (je_var 8) (je_var 11)) (by decide)) (ja_nil)))) (jss_one (js_app (i := 4) rfl (by first | exact Or.inl rfl | exact Or.inr (Or.inl rfl) | exact Or.inr (Or.inr rfl)) (je_tup (jao_cons (je_bin op_add4 ok_add (je_var 5) (je_tup (jao_cons (je_var 7) (jao_nil)))) (jao_cons (je_var 10) (jao_nil))))))) (jss_nil)))))))) (jss_one (js_frz 4 (js_setF (i := 2) c rfl (by first | exact Or.inl rfl | exact Or.inr rfl) (je_var 4))))))) (jss_one (js_ret (je_lc [("part", 5), ("heads", 6)] c (ji_seq (je_var 2)) (blkOk_by (N := N_law_trees_v3) (sc := defScope s_law_trees_v3) (by decide +kernel)) (fun _ _ _ _ _ => jg_tup c.calm (jgs_cons (jg_name (i := 5) c.nd rfl (by first | exact Or.inl rfl | exact Or.inr rfl)) (jgs_cons (jg_name (i := 6) c.nd rfl (by first | exact Or.inl rfl | exact Or.inr rfl)) (jgs_nil)))) (fun _ _ _ _ _ c => jts_nil) (fun _ _ _ _ _ c => je_var 5) (by decide)))))) (fun _ _ => .inr rfl)
set_option maxHeartbeats 4000000 in
theorem ok_law_spoilt_v4 (T : Tx K mg) (G_law_stir : FnOk P w K mg base (L2N.CX P w) 1 T.a_law_stir T.d_law_stir ["cell", "k"] (spD K T.cls 2 g_law_stir)) : FnOk P w K mg base (L2N.CX P w) 2 T.a_law_spoilt_v4 T.d_law_spoilt_v4 ["tree", "cell", "count"] (spD K T.cls 3 g_law_spoilt_v4) :=
  fnD_ok T.F_law_spoilt_v4 sc_law_spoilt_v4 rfl (fun cdv A outer s H E c => jss_cons (js_setF (i := 3) c rfl (by first | exact Or.inl rfl | exact Or.inr rfl) (je_bin op_modX ok_mod (je_own (c.mono (by decide)) G_law_stir T.m_law_stir T.k_law_stir T.b_law_stir (ja_cons (je_var 1) (ja_cons (je_int) (ja_nil))) (alS (alS (al0)))) (je_int))) (jss_cons (js_set (i := 4) c rfl (by first | exact Or.inl rfl | exact Or.inr rfl) (je_callTy call_list_of ok_list T.z_list (by decide +kernel) (ja_cons (je_var 0) (ja_nil)))) (jss_cons (js_setF (i := 5) c rfl (by first | exact Or.inl rfl | exact Or.inr rfl) (je_bin op_modX ok_mod (je_own (c.mono (by decide)) G_law_stir T.m_law_stir T.k_law_stir T.b_law_stir (ja_cons (je_var 1) (ja_cons (je_int) (ja_nil))) (alS (alS (al0)))) (je_bin op_add4 ok_add (je_callB call_len ok_len T.z_len (by decide +kernel) (ja_cons (je_var 4) (ja_nil))) (je_int)))) (jss_cons (js_setF (i := 6) c rfl (by first | exact Or.inl rfl | exact Or.inr rfl) (je_bin op_modX ok_mod (je_own (c.mono (by decide)) G_law_stir T.m_law_stir T.k_law_stir T.b_law_stir (ja_cons (je_var 1) (ja_cons (je_int) (ja_nil))) (alS (alS (al0)))) (je_bin op_add4 ok_add (je_var 2) (je_int)))) (jss_cons (js_if (jt_cmp (op_eq4 c.eq) ok_eq (je_var 3) (je_int) (nomark _)) (jss_one (js_set (i := 4) c rfl (by first | exact Or.inl rfl | exact Or.inr rfl) (je_view 4 (je_bin op_add4 ok_add (je_sl (je_var 4) (jp_none) (jp_some (je_var 5))) (je_sl (je_var 4) (jp_some (je_bin op_add4 ok_add (je_var 5) (je_int))) (jp_none)))))) (jss_nil)) (jss_cons (js_if (jt_cmp (op_eq4 c.eq) ok_eq (je_var 3) (je_int) (nomark _)) (jss_one (js_set (i := 4) c rfl (by first | exact Or.inl rfl | exact Or.inr rfl) (je_view 4 (je_callB cr_sorted3 ok_sorted3 T.z_sorted (by decide +kernel) (ja_cons (je_bin op_add4 ok_add (je_var 4) (je_lst (jao_cons (je_var 6) (jao_nil)))) (ja_nil)))))) (jss_nil)) (jss_cons (js_if (jt_cmp (op_eq4 c.eq) ok_eq (je_var 3) (je_int) (nomark _)) (jss_one (js_set (i := 4) c rfl (by first | exact Or.inl rfl | exact Or.inr rfl) (je_view 4 (je_callB cr_sorted3 ok_sorted3 T.z_sorted (by decide +kernel) (ja_cons (je_bin op_add4 ok_add (je_view 4 (je_bin op_add4 ok_add (je_sl (je_var 4) (jp_none) (jp_some (je_var 5))) (je_sl (je_var 4) (jp_some (je_bin op_add4 ok_add (je_var 5) (je_int))) (jp_none)))) (je_lst (jao_cons (je_var 6) (jao_nil)))) (ja_nil)))))) (jss_nil)) (jss_cons (js_if (jt_cmp (op_eq4 c.eq) ok_eq (je_var 3) (je_int) (nomark _)) (jss_one (js_set (i := 4) c rfl (by first | exact Or.inl rfl | exact Or.inr rfl) (je_view 4 (je_bin op_add4 ok_add (je_bin op_add4 ok_add (je_sl (je_var 4) (jp_none) (jp_some (je_var 5))) (je_sl (je_var 4) (jp_some (je_var 5)) (jp_some (je_bin op_add4 ok_add (je_var 5) (je_int))))) (je_sl (je_var 4) (jp_some (je_var 5)) (jp_none)))))) (jss_nil)) (jss_cons (js_if (jt_cmp (op_eq4 c.eq) ok_eq (je_var 3) (je_int) (nomark _)) (jss_one (js_reverse (i := 4) rfl (by first | exact Or.inl rfl | exact Or.inr (Or.inl rfl) | exact Or.inr (Or.inr rfl)))) (jss_nil)) (jss_cons (js_if (jt_cmp (op_eq4 c.eq) ok_eq (je_var 3) (je_int) (nomark _)) (jss_one (js_set (i := 4) c rfl (by first | exact Or.inl rfl | exact Or.inr rfl) (je_view 4 (je_bin op_add4 ok_add (je_view 4 (je_bin op_add4 ok_add (je_sl (je_var 4) (jp_none) (jp_some (je_var 5))) (je_sl (je_var 4) (jp_some (je_bin op_add4 ok_add (je_var 5) (je_int))) (jp_none)))) (je_lst (jao_cons (je_bin op_add4 ok_add (je_var 2) (je_bin op_modX ok_mod (je_own (c.mono (by decide)) G_law_stir T.m_law_stir T.k_law_stir T.b_law_stir (ja_cons (je_var 1) (ja_cons (je_int) (ja_nil))) (alS (alS (al0)))) (je_int))) (jao_nil))))))) (jss_nil)) (jss_cons (js_if (jt_cmp (op_eq4 c.eq) ok_eq (je_var 3) (je_int) (nomark _)) (jss_one (js_set (i := 4) c rfl (by first | exact Or.inl rfl | exact Or.inr rfl) (je_view 4 (je_bin op_add4 ok_add (je_lst (jao_cons (je_bin op_sub ok_sub (je_un un_neg ok_neg (je_int)) (je_bin op_modX ok_mod (je_var 1) (je_bin op_pow ok_pow (je_int) (je_int)))) (jao_nil))) (je_sl (je_var 4) (jp_some (je_int)) (jp_none)))))) (jss_nil)) (jss_one (js_retV 4))))))))))))) (fun _ _ => .inr rfl)
set_option maxHeartbeats 4000000 in
theorem ok_law_no_set_v2 (T : Tx K mg) (G_law_stir : FnOk P w K mg base (L2N.CX P w) 1 T.a_law_stir T.d_law_stir ["cell", "k"] (spD K T.cls 2 g_law_stir)) : FnOk P w K mg base (L2N.CX P w) 2 T.a_law_no_set_v2 T.d_law_no_set_v2 ["cell", "count"] (spD K T.cls 2 g_law_no_set_v2) :=
  fnD_ok T.F_law_no_set_v2 sc_law_no_set_v2 rfl (fun cdv A outer s H E c => jss_cons (js_setF (i := 2) c rfl (by first | exact Or.inl rfl | exact Or.inr rfl) (je_lst (jao_cons (je_lst (jao_cons (je_int) (jao_cons (je_int) (jao_nil)))) (jao_cons (je_lst (jao_cons (je_int) (jao_cons (je_int) (jao_nil)))) (jao_cons (je_lst (jao_cons (je_un un_neg ok_neg (je_int)) (jao_nil))) (jao_cons (je_lst (jao_cons (je_var 1) (jao_nil))) (jao_cons (je_lst (jao_cons (je_int) (jao_cons (je_bin op_add4 ok_add (je_var 1) (je_int)) (jao_nil)))) (jao_cons (je_lst (jao_cons (je_bin op_sub ok_sub (je_var 1) (je_int)) (jao_cons (je_var 1) (jao_nil)))) (jao_nil))))))))) (jss_one (js_ret (je_ix (je_var 2) (je_bin op_modX ok_mod (je_own (c.mono (by decide)) G_law_stir T.m_law_stir T.k_law_stir T.b_law_stir (ja_cons (je_var 0) (ja_cons (je_int) (ja_nil))) (alS (alS (al0)))) (je_callB call_len ok_len T.z_len (by decide +kernel) (ja_cons (je_var 2) (ja_nil)))))))) (fun _ _ => .inr rfl)
theorem catch_law_told_v8 (T : Tx K mg) : ∀ c g, f_law_told_v8_hh c g ≠ .bad → PySem.W.exmOne K (excV T.cls c) (.ref T.C_WebError) = some true := by
  intro c g h
  match c with
  | 1 => rw [T.e_BadWeb.v]; exact T.ct_BadWeb_WebError
  | 2 => rw [T.e_BadSet.v]; exact T.ct_BadSet_WebError
  | 4 => rw [T.e_NoTree.v]; exact T.ct_NoTree_WebError
  | 6 => rw [T.e_NoSuch.v]; exact T.ct_NoSuch_WebError
  | 7 => rw [T.e_NotSquare.v]; exact T.ct_NotSquare_WebError
  | 0 => exact absurd (by simp [f_law_told_v8_hh, f_law_told_v8_h, unO]) h
  | 3 => exact absurd (by simp [f_law_told_v8_hh, f_law_told_v8_h, unO]) h
  | 5 => exact absurd (by simp [f_law_told_v8_hh, f_law_told_v8_h, unO]) h
  | z + 8 => exact absurd (by simp [f_law_told_v8_hh, f_law_told_v8_h, unO]) h
set_option maxHeartbeats 4000000 in
theorem ok_law_told_v8 (T : Tx K mg) (G_number_of : FnOk P w K mg base (L2N.CX P w) 4 T.a_number_of T.d_number_of ["web", "tree"] (spD K T.cls 2 g_number_of)) (G_next_tree : FnOk P w K mg base (L2N.CX P w) 5 T.a_next_tree T.d_next_tree ["web", "tree"] (spD K T.cls 2 g_next_tree)) (G_tree_ahead : FnOk P w K mg base (L2N.CX P w) 5 T.a_tree_ahead T.d_tree_ahead ["web", "tree"] (spD K T.cls 2 g_tree_ahead)) (G_least_with : FnOk P w K mg base (L2N.CX P w) 3 T.a_least_with T.d_least_with ["web", "inside", "outside"] (spD K T.cls 3 g_least_with)) (G_greatest_with : FnOk P w K mg base (L2N.CX P w) 3 T.a_greatest_with T.d_greatest_with ["web", "inside", "outside"] (spD K T.cls 3 g_greatest_with)) : FnOk P w K mg base (L2N.CX P w) 6 T.a_law_told_v8 T.d_law_told_v8 ["deed", "web", "one", "other"] (spD K T.cls 4 g_law_told_v8) :=
  fnD_ok T.F_law_told_v8 sc_law_told_v8 rfl (fun cdv A outer s H E c => jss_cons (js_setF (i := 4) c rfl (by first | exact Or.inl rfl | exact Or.inr rfl) (je_str)) (jss_cons (js_try (i := 5) c rfl rfl rfl rfl T.m_WebError (catch_law_told_v8 T) (fun W pn xe c => jss_one (js_if (jt_cmp (op_eq4 c.eq) ok_eq (je_var 0) (je_int) (nomark _)) (jss_one (js_exp (je_own (c.mono (by decide)) G_number_of T.m_number_of T.k_number_of T.b_number_of (ja_cons (je_var 1) (ja_cons (je_var 2) (ja_nil))) (alS (alS (al0)))))) (jss_one (js_if (jt_cmp (op_eq4 c.eq) ok_eq (je_var 0) (je_int) (nomark _)) (jss_one (js_exp (je_own (c.mono (by decide)) G_next_tree T.m_next_tree T.k_next_tree T.b_next_tree (ja_cons (je_var 1) (ja_cons (je_var 2) (ja_nil))) (alS (alS (al0)))))) (jss_one (js_if (jt_cmp (op_eq4 c.eq) ok_eq (je_var 0) (je_int) (nomark _)) (jss_one (js_exp (je_own (c.mono (by decide)) G_tree_ahead T.m_tree_ahead T.k_tree_ahead T.b_tree_ahead (ja_cons (je_var 1) (ja_cons (je_var 2) (ja_nil))) (alS (alS (al0)))))) (jss_one (js_if (jt_cmp (op_eq4 c.eq) ok_eq (je_var 0) (je_int) (nomark _)) (jss_one (js_exp (je_own (c.mono (by decide)) G_least_with T.m_least_with T.k_least_with T.b_least_with (ja_cons (je_var 1) (ja_cons (je_var 2) (ja_cons (je_var 3) (ja_nil)))) (alS (alS (alS (al0))))))) (jss_one (js_exp (je_own (c.mono (by decide)) G_greatest_with T.m_greatest_with T.k_greatest_with T.b_greatest_with (ja_cons (je_var 1) (ja_cons (je_var 2) (ja_cons (je_var 3) (ja_nil)))) (alS (alS (alS (al0))))))))))))))) (by have nd := c.nd; exact (fun ci ad oe pn hz hf => by
    match ci, hz with
    | 1, hz => (rw [T.e_BadWeb.v] at hz; exact jss_cons (js_setFN (i := 6) nd rfl (by first | exact Or.inl rfl | exact Or.inr rfl) (je_lst (jao_cons (je_is T.xc_BadWeb hz hf T.z_isinstance (i := 5) rfl (Or.inl rfl) (by decide) (by decide) (pe_glob (v := .ref T.C_NoTree) (by rfl) T.m_NoTree rfl) (fun _ h => h) T.is_BadWeb_NoTree) (jao_cons (je_is T.xc_BadWeb hz hf T.z_isinstance (i := 5) rfl (Or.inl rfl) (by decide) (by decide) (pe_glob (v := .ref T.C_BadSet) (by rfl) T.m_BadSet rfl) (fun _ h => h) T.is_BadWeb_BadSet) (jao_cons (je_not (je_tV (je_is T.xc_BadWeb hz hf T.z_isinstance (i := 5) rfl (Or.inl rfl) (by decide) (by decide) (pe_bltn (v := .ty "ValueError") (by rfl) T.z_ValueError (by decide +kernel) rfl) (fun _ h => h) T.is_BadWeb_ValueError))) (jao_nil)))))) (jss_cons (js_setFN (i := 4) nd rfl (by first | exact Or.inl rfl | exact Or.inr rfl) (je_str)) (jss_one (js_forH PassesOwn.never (hotOf hz hf) (ji_enmH T.z_enumerate (ja_cons (je_lst (jao_cons (je_str) (jao_cons (je_str) (jao_nil)))) (ja_nil))) (jg_tupH (hotOf hz hf) (jgs_cons (jg_name (i := 7) nd rfl (by first | exact Or.inl rfl | exact Or.inr rfl)) (jgs_cons (jg_name (i := 8) nd rfl (by first | exact Or.inl rfl | exact Or.inr rfl)) (jgs_nil)))) (jss_one (js_if (jt_cmp (op_eq4 c.eq) ok_eq (je_var 6) (je_lst (jao_cons (je_cmp (op_eq4 c.eq) ok_eq (je_var 7) (je_int) (nomark _)) (jao_cons (je_cmp (op_eq4 c.eq) ok_eq (je_var 7) (je_int) (nomark _)) (jao_cons (je_bl) (jao_nil))))) (nomark _)) (jss_one (js_setFN (i := 4) nd rfl (by first | exact Or.inl rfl | exact Or.inr rfl) (je_var 8))) (jss_nil)))))))
    | 2, hz => (rw [T.e_BadSet.v] at hz; exact jss_cons (js_setFN (i := 6) nd rfl (by first | exact Or.inl rfl | exact Or.inr rfl) (je_lst (jao_cons (je_is T.xc_BadSet hz hf T.z_isinstance (i := 5) rfl (Or.inl rfl) (by decide) (by decide) (pe_glob (v := .ref T.C_NoTree) (by rfl) T.m_NoTree rfl) (fun _ h => h) T.is_BadSet_NoTree) (jao_cons (je_is T.xc_BadSet hz hf T.z_isinstance (i := 5) rfl (Or.inl rfl) (by decide) (by decide) (pe_glob (v := .ref T.C_BadSet) (by rfl) T.m_BadSet rfl) (fun _ h => h) T.is_BadSet_BadSet) (jao_cons (je_not (je_tV (je_is T.xc_BadSet hz hf T.z_isinstance (i := 5) rfl (Or.inl rfl) (by decide) (by decide) (pe_bltn (v := .ty "ValueError") (by rfl) T.z_ValueError (by decide +kernel) rfl) (fun _ h => h) T.is_BadSet_ValueError))) (jao_nil)))))) (jss_cons (js_setFN (i := 4) nd rfl (by first | exact Or.inl rfl | exact Or.inr rfl) (je_str)) (jss_one (js_forH PassesOwn.never (hotOf hz hf) (ji_enmH T.z_enumerate (ja_cons (je_lst (jao_cons (je_str) (jao_cons (je_str) (jao_nil)))) (ja_nil))) (jg_tupH (hotOf hz hf) (jgs_cons (jg_name (i := 7) nd rfl (by first | exact Or.inl rfl | exact Or.inr rfl)) (jgs_cons (jg_name (i := 8) nd rfl (by first | exact Or.inl rfl | exact Or.inr rfl)) (jgs_nil)))) (jss_one (js_if (jt_cmp (op_eq4 c.eq) ok_eq (je_var 6) (je_lst (jao_cons (je_cmp (op_eq4 c.eq) ok_eq (je_var 7) (je_int) (nomark _)) (jao_cons (je_cmp (op_eq4 c.eq) ok_eq (je_var 7) (je_int) (nomark _)) (jao_cons (je_bl) (jao_nil))))) (nomark _)) (jss_one (js_setFN (i := 4) nd rfl (by first | exact Or.inl rfl | exact Or.inr rfl) (je_var 8))) (jss_nil)))))))
    | 4, hz => (rw [T.e_NoTree.v] at hz; exact jss_cons (js_setFN (i := 6) nd rfl (by first | exact Or.inl rfl | exact Or.inr rfl) (je_lst (jao_cons (je_is T.xc_NoTree hz hf T.z_isinstance (i := 5) rfl (Or.inl rfl) (by decide) (by decide) (pe_glob (v := .ref T.C_NoTree) (by rfl) T.m_NoTree rfl) (fun _ h => h) T.is_NoTree_NoTree) (jao_cons (je_is T.xc_NoTree hz hf T.z_isinstance (i := 5) rfl (Or.inl rfl) (by decide) (by decide) (pe_glob (v := .ref T.C_BadSet) (by rfl) T.m_BadSet rfl) (fun _ h => h) T.is_NoTree_BadSet) (jao_cons (je_not (je_tV (je_is T.xc_NoTree hz hf T.z_isinstance (i := 5) rfl (Or.inl rfl) (by decide) (by decide) (pe_bltn (v := .ty "ValueError") (by rfl) T.z_ValueError (by decide +kernel) rfl) (fun _ h => h) T.is_NoTree_ValueError))) (jao_nil)))))) (jss_cons (js_setFN (i := 4) nd rfl (by first | exact Or.inl rfl | exact Or.inr rfl) (je_str)) (jss_one (js_forH PassesOwn.never (hotOf hz hf) (ji_enmH T.z_enumerate (ja_cons (je_lst (jao_cons (je_str) (jao_cons (je_str) (jao_nil)))) (ja_nil))) (jg_tupH (hotOf hz hf) (jgs_cons (jg_name (i := 7) nd rfl (by first | exact Or.inl rfl | exact Or.inr rfl)) (jgs_cons (jg_name (i := 8) nd rfl (by first | exact Or.inl rfl | exact Or.inr rfl)) (jgs_nil)))) (jss_one (js_if (jt_cmp (op_eq4 c.eq) ok_eq (je_var 6) (je_lst (jao_cons (je_cmp (op_eq4 c.eq) ok_eq (je_var 7) (je_int) (nomark _)) (jao_cons (je_cmp (op_eq4 c.eq) ok_eq (je_var 7) (je_int) (nomark _)) (jao_cons (je_bl) (jao_nil))))) (nomark _)) (jss_one (js_setFN (i := 4) nd rfl (by first | exact Or.inl rfl | exact Or.inr rfl) (je_var 8))) (jss_nil)))))))
    | 6, hz => (rw [T.e_NoSuch.v] at hz; exact jss_cons (js_setFN (i := 6) nd rfl (by first | exact Or.inl rfl | exact Or.inr rfl) (je_lst (jao_cons (je_is T.xc_NoSuch hz hf T.z_isinstance (i := 5) rfl (Or.inl rfl) (by decide) (by decide) (pe_glob (v := .ref T.C_NoTree) (by rfl) T.m_NoTree rfl) (fun _ h => h) T.is_NoSuch_NoTree) (jao_cons (je_is T.xc_NoSuch hz hf T.z_isinstance (i := 5) rfl (Or.inl rfl) (by decide) (by decide) (pe_glob (v := .ref T.C_BadSet) (by rfl) T.m_BadSet rfl) (fun _ h => h) T.is_NoSuch_BadSet) (jao_cons (je_not (je_tV (je_is T.xc_NoSuch hz hf T.z_isinstance (i := 5) rfl (Or.inl rfl) (by decide) (by decide) (pe_bltn (v := .ty "ValueError") (by rfl) T.z_ValueError (by decide +kernel) rfl) (fun _ h => h) T.is_NoSuch_ValueError))) (jao_nil)))))) (jss_cons (js_setFN (i := 4) nd rfl (by first | exact Or.inl rfl | exact Or.inr rfl) (je_str)) (jss_one (js_forH PassesOwn.never (hotOf hz hf) (ji_enmH T.z_enumerate (ja_cons (je_lst (jao_cons (je_str) (jao_cons (je_str) (jao_nil)))) (ja_nil))) (jg_tupH (hotOf hz hf) (jgs_cons (jg_name (i := 7) nd rfl (by first | exact Or.inl rfl | exact Or.inr rfl)) (jgs_cons (jg_name (i := 8) nd rfl (by first | exact Or.inl rfl | exact Or.inr rfl)) (jgs_nil)))) (jss_one (js_if (jt_cmp (op_eq4 c.eq) ok_eq (je_var 6) (je_lst (jao_cons (je_cmp (op_eq4 c.eq) ok_eq (je_var 7) (je_int) (nomark _)) (jao_cons (je_cmp (op_eq4 c.eq) ok_eq (je_var 7) (je_int) (nomark _)) (jao_cons (je_bl) (jao_nil))))) (nomark _)) (jss_one (js_setFN (i := 4) nd rfl (by first | exact Or.inl rfl | exact Or.inr rfl) (je_var 8))) (jss_nil)))))))
    | 7, hz => (rw [T.e_NotSquare.v] at hz; exact jss_cons (js_setFN (i := 6) nd rfl (by first | exact Or.inl rfl | exact Or.inr rfl) (je_lst (jao_cons (je_is T.xc_NotSquare hz hf T.z_isinstance (i := 5) rfl (Or.inl rfl) (by decide) (by decide) (pe_glob (v := .ref T.C_NoTree) (by rfl) T.m_NoTree rfl) (fun _ h => h) T.is_NotSquare_NoTree) (jao_cons (je_is T.xc_NotSquare hz hf T.z_isinstance (i := 5) rfl (Or.inl rfl) (by decide) (by decide) (pe_glob (v := .ref T.C_BadSet) (by rfl) T.m_BadSet rfl) (fun _ h => h) T.is_NotSquare_BadSet) (jao_cons (je_not (je_tV (je_is T.xc_NotSquare hz hf T.z_isinstance (i := 5) rfl (Or.inl rfl) (by decide) (by decide) (pe_bltn (v := .ty "ValueError") (by rfl) T.z_ValueError (by decide +kernel) rfl) (fun _ h => h) T.is_NotSquare_ValueError))) (jao_nil)))))) (jss_cons (js_setFN (i := 4) nd rfl (by first | exact Or.inl rfl | exact Or.inr rfl) (je_str)) (jss_one (js_forH PassesOwn.never (hotOf hz hf) (ji_enmH T.z_enumerate (ja_cons (je_lst (jao_cons (je_str) (jao_cons (je_str) (jao_nil)))) (ja_nil))) (jg_tupH (hotOf hz hf) (jgs_cons (jg_name (i := 7) nd rfl (by first | exact Or.inl rfl | exact Or.inr rfl)) (jgs_cons (jg_name (i := 8) nd rfl (by first | exact Or.inl rfl | exact Or.inr rfl)) (jgs_nil)))) (jss_one (js_if (jt_cmp (op_eq4 c.eq) ok_eq (je_var 6) (je_lst (jao_cons (je_cmp (op_eq4 c.eq) ok_eq (je_var 7) (je_int) (nomark _)) (jao_cons (je_cmp (op_eq4 c.eq) ok_eq (je_var 7) (je_int) (nomark _)) (jao_cons (je_bl) (jao_nil))))) (nomark _)) (jss_one (js_setFN (i := 4) nd rfl (by first | exact Or.inl rfl | exact Or.inr rfl) (je_var 8))) (jss_nil)))))))
    | 0, _ => exact jss_never
    | 3, _ => exact jss_never
    | 5, _ => exact jss_never
    | z + 8, _ => exact jss_never)) (heq_law_told_v8)) (jss_one (js_retV 4)))) (fun _ _ => .inr rfl)
set_option maxHeartbeats 4000000 in
theorem ok_law_k34 (T : Tx K mg) (G_law_web_v3 : FnOk P w K mg base (L2N.CX P w) 3 T.a_law_web_v3 T.d_law_web_v3 ["script", "most_places", "most_ties"] (spD K T.cls 3 g_law_web_v3)) (G_Web_init : FnOk P w K mg base (L2N.CX P w) 1 T.a_Web_init T.d_Web_init ["self", "places", "ties"] (spI K T.cls 14 2 g_Web_init)) (G_law_trees_v3 : FnOk P w K mg base (L2N.CX P w) 1 T.a_law_trees_v3 T.d_law_trees_v3 ["places", "ties"] (spD K T.cls 2 g_law_trees_v3)) (G_law_spoilt_v4 : FnOk P w K mg base (L2N.CX P w) 2 T.a_law_spoilt_v4 T.d_law_spoilt_v4 ["tree", "cell", "count"] (spD K T.cls 3 g_law_spoilt_v4)) (G_law_told_v8 : FnOk P w K mg base (L2N.CX P w) 6 T.a_law_told_v8 T.d_law_told_v8 ["deed", "web", "one", "other"] (spD K T.cls 4 g_law_told_v8)) (G_law_no_set_v2 : FnOk P w K mg base (L2N.CX P w) 2 T.a_law_no_set_v2 T.d_law_no_set_v2 ["cell", "count"] (spD K T.cls 2 g_law_no_set_v2)) (G_law_stir : FnOk P w K mg base (L2N.CX P w) 1 T.a_law_stir T.d_law_stir ["cell", "k"] (spD K T.cls 2 g_law_stir)) : FnOk P w K mg base (L2N.CX P w) 7 T.a_law_k34 T.d_law_k34 ["script"] (spD K T.cls 1 g_law_k34) :=
  fnD_ok T.F_law_k34 sc_law_k34 rfl (fun cdv A outer s H E c => jss_cons (js_asgT (je_own (c.mono (by decide)) G_law_web_v3 T.m_law_web_v3 T.k_law_web_v3 T.b_law_web_v3 (ja_cons (je_var 0) (ja_cons (je_int) (ja_cons (je_int) (ja_nil)))) (alS (alS (alS (al0))))) (jg_tup c.calm (jgs_cons (jg_name (i := 1) c.nd rfl (by first | exact Or.inl rfl | exact Or.inr rfl)) (jgs_cons (jg_name (i := 2) c.nd rfl (by first | exact Or.inl rfl | exact Or.inr rfl)) (jgs_nil))))) (jss_cons (js_setF (i := 3) c rfl (by first | exact Or.inl rfl | exact Or.inr rfl) (je_make (c.mono (by decide)) T.o_Web.e T.mk_Web G_Web_init T.m_Web T.b_Web_init (ja_cons (je_var 1) (ja_cons (je_callTy call_list_of ok_list T.z_list (by decide +kernel) (ja_cons (je_var 2) (ja_nil))) (ja_nil))) (alS (alS (al0))))) (jss_cons (js_setF (i := 4) c rfl (by first | exact Or.inl rfl | exact Or.inr rfl) (je_own (c.mono (by decide)) G_law_trees_v3 T.m_law_trees_v3 T.k_law_trees_v3 T.b_law_trees_v3 (ja_cons (je_var 1) (ja_cons (je_var 2) (ja_nil))) (alS (alS (al0))))) (jss_cons (js_for c (ji_seq (je_bin op_add4 ok_add (je_lst (jao_cons (je_int) (jao_cons (je_int) (jao_nil)))) (je_sl (je_var 0) (jp_none) (jp_some (je_int))))) (jg_name (i := 5) c.nd rfl (by first | exact Or.inl rfl | exact Or.inr rfl)) (jss_cons (js_setF (i := 6) c rfl (by first | exact Or.inl rfl | exact Or.inr rfl) (je_own (c.mono (by decide)) G_law_spoilt_v4 T.m_law_spoilt_v4 T.k_law_spoilt_v4 T.b_law_spoilt_v4 (ja_cons (je_ix (je_bin op_add4 ok_add (je_var 4) (je_lst (jao_cons (je_tup (jao_nil)) (jao_nil)))) (je_int)) (ja_cons (je_var 5) (ja_cons (je_callB call_len ok_len T.z_len (by decide +kernel) (ja_cons (je_var 2) (ja_nil))) (ja_nil)))) (alS (alS (alS (al0)))))) (jss_cons (js_setF (i := 7) c rfl (by first | exact Or.inl rfl | exact Or.inr rfl) (je_ix (je_lst (jao_cons (je_str) (jao_cons (je_str) (jao_nil)))) (je_callTy call_int1 ok_int T.z_int (by decide +kernel) (ja_cons (je_cmp (op_in5 c.eq65) ok_in2 (je_callTy call_tuple_of ok_tuple T.z_tuple (by decide +kernel) (ja_cons (je_var 6) (ja_nil))) (je_var 4) (by rfl)) (ja_nil))))) (jss_cons (js_for c (ji_rg1 T.z_range (ja_cons (je_int) (ja_nil))) (jg_name (i := 8) c.nd rfl (by first | exact Or.inl rfl | exact Or.inr rfl)) (jss_one (js_if (jt_cmp (op_ne4 c.eq) ok_ne (je_own (c.mono (by decide)) G_law_told_v8 T.m_law_told_v8 T.k_law_told_v8 T.b_law_told_v8 (ja_cons (je_var 8) (ja_cons (je_var 3) (ja_cons (je_callTy call_list_of ok_list T.z_list (by decide +kernel) (ja_cons (je_var 6) (ja_nil))) (ja_cons (je_non) (ja_nil))))) (alS (alS (alS (alS (al0)))))) (je_var 7) (nomark _)) (jss_one (js_ret (je_bl))) (jss_nil)))) (jss_cons (js_setF (i := 9) c rfl (by first | exact Or.inl rfl | exact Or.inr rfl) (je_own (c.mono (by decide)) G_law_no_set_v2 T.m_law_no_set_v2 T.k_law_no_set_v2 T.b_law_no_set_v2 (ja_cons (je_var 5) (ja_cons (je_callB call_len ok_len T.z_len (by decide +kernel) (ja_cons (je_var 2) (ja_nil))) (ja_nil))) (alS (alS (al0))))) (jss_cons (js_setLcF (i := 10) [("tie", 13)] c rfl rfl (sw_true rfl rfl rfl (by decide +kernel)) (ji_rg1 T.z_range (ja_cons (je_callB call_len ok_len T.z_len (by decide +kernel) (ja_cons (je_var 2) (ja_nil))) (ja_nil))) (blkOk_by (N := N_law_k34) (sc := defScope s_law_k34) (by decide +kernel)) (fun _ _ _ _ _ => jg_name (i := 13) c.nd rfl (by first | exact Or.inl rfl | exact Or.inr rfl)) (fun _ _ _ _ _ c => jts_one (jt_cmp (op_eq4 c.eq) ok_eq (je_bin op_modX ok_mod (je_own (c.mono (by decide)) G_law_stir T.m_law_stir T.k_law_stir T.b_law_stir (ja_cons (je_var 5) (ja_cons (je_bin op_add4 ok_add (je_int) (je_var 13)) (ja_nil))) (alS (alS (al0)))) (je_int)) (je_int) (nomark _))) (fun _ _ _ _ _ c => je_var 13) (by decide)) (jss_one (js_for c (ji_seq (je_lst (jao_cons (je_int) (jao_cons (je_int) (jao_nil))))) (jg_name (i := 8) c.nd rfl (by first | exact Or.inl rfl | exact Or.inr rfl)) (jss_cons (js_for c (ji_seq (je_lst (jao_cons (je_tup (jao_cons (je_var 9) (jao_cons (je_var 10) (jao_nil)))) (jao_cons (je_tup (jao_cons (je_var 10) (jao_cons (je_var 9) (jao_nil)))) (jao_cons (je_tup (jao_cons (je_var 9) (jao_cons (je_var 9) (jao_nil)))) (jao_nil)))))) (jg_tup c.calm (jgs_cons (jg_name (i := 11) c.nd rfl (by first | exact Or.inl rfl | exact Or.inr rfl)) (jgs_cons (jg_name (i := 12) c.nd rfl (by first | exact Or.inl rfl | exact Or.inr rfl)) (jgs_nil)))) (jss_one (js_if (jt_cmp (op_ne4 c.eq) ok_ne (je_own (c.mono (by decide)) G_law_told_v8 T.m_law_told_v8 T.k_law_told_v8 T.b_law_told_v8 (ja_cons (je_var 8) (ja_cons (je_var 3) (ja_cons (je_callTy call_list_of ok_list T.z_list (by decide +kernel) (ja_cons (je_var 11) (ja_nil))) (ja_cons (je_callTy call_list_of ok_list T.z_list (by decide +kernel) (ja_cons (je_var 12) (ja_nil))) (ja_nil))))) (alS (alS (alS (alS (al0)))))) (je_str) (nomark _)) (jss_one (js_ret (je_bl))) (jss_nil)))) (jss_one (js_if (jt_cmp (op_ne4 c.eq) ok_ne (je_own (c.mono (by decide)) G_law_told_v8 T.m_law_told_v8 T.k_law_told_v8 T.b_law_told_v8 (ja_cons (je_var 8) (ja_cons (je_var 3) (ja_cons (je_var 10) (ja_cons (je_lst (jao_nil)) (ja_nil))))) (alS (alS (alS (alS (al0)))))) (je_str) (nomark _)) (jss_one (js_ret (je_bl))) (jss_nil)))))))))))) (jss_one (js_ret (je_bl))))))) (fun _ _ => .inr rfl)
set_option maxHeartbeats 8000000 in
theorem all_mk {K : PySem.W.Frag} {h : Heap} {mg : Str → Option Value} (X : K.In h) (G : h.Ns mainGlobals mg) {C_WebError C_BadWeb C_BadSet C_NoTree C_NoSuch C_NotSquare C_Web a_look_at_table a_first_row_with a_cleared a_determinant a_Web_init a_made_set a_marks_over a_pieces_of a_pulls a_without_last a_pull_table a_tree_count a_count_with a_is_tree a_refuse_no_tree a_tree_at a_number_of a_next_tree a_tree_ahead a_heads_behind a_grown_by a_looked_at_sets a_least_with a_greatest_with a_law_at a_law_stir a_law_numbers_v3 a_law_digits a_law_web_v3 a_law_trees_v3 a_law_spoilt_v4 a_law_no_set_v2 a_law_told_v8 a_law_k34 : Addr} {od_look_at_table an_look_at_table od_first_row_with an_first_row_with od_cleared an_cleared od_determinant an_determinant od_Web_init an_Web_init od_made_set an_made_set od_marks_over an_marks_over od_pieces_of an_pieces_of od_pulls an_pulls od_without_last an_without_last od_pull_table an_pull_table od_tree_count an_tree_count od_count_with an_count_with od_is_tree an_is_tree od_refuse_no_tree an_refuse_no_tree od_tree_at an_tree_at od_number_of an_number_of od_next_tree an_next_tree od_tree_ahead an_tree_ahead od_heads_behind an_heads_behind od_grown_by an_grown_by od_looked_at_sets an_looked_at_sets od_least_with an_least_with od_greatest_with an_greatest_with od_law_at an_law_at od_law_stir an_law_stir od_law_numbers_v3 an_law_numbers_v3 od_law_digits an_law_digits od_law_web_v3 an_law_web_v3 od_law_trees_v3 an_law_trees_v3 od_law_spoilt_v4 an_law_spoilt_v4 od_law_no_set_v2 an_law_no_set_v2 od_law_told_v8 an_law_told_v8 od_law_k34 an_law_k34 : Option Addr} {sl_look_at_table sl_first_row_with sl_cleared sl_determinant sl_Web_init sl_made_set sl_marks_over sl_pieces_of sl_pulls sl_without_last sl_pull_table sl_tree_count sl_count_with sl_is_tree sl_refuse_no_tree sl_tree_at sl_number_of sl_next_tree sl_tree_ahead sl_heads_behind sl_grown_by sl_looked_at_sets sl_least_with sl_greatest_with sl_law_at sl_law_stir sl_law_numbers_v3 sl_law_digits sl_law_web_v3 sl_law_trees_v3 sl_law_spoilt_v4 sl_law_no_set_v2 sl_law_told_v8 sl_law_k34 : Array (Option Value)} {oc_look_at_table kV_look_at_table dc_look_at_table pm_look_at_table cd_look_at_table ct_look_at_table oc_first_row_with kV_first_row_with dc_first_row_with pm_first_row_with cd_first_row_with ct_first_row_with oc_cleared kV_cleared dc_cleared pm_cleared cd_cleared ct_cleared oc_determinant kV_determinant dc_determinant pm_determinant cd_determinant ct_determinant oc_Web_init kV_Web_init dc_Web_init pm_Web_init cd_Web_init ct_Web_init oc_made_set kV_made_set dc_made_set pm_made_set cd_made_set ct_made_set oc_marks_over kV_marks_over dc_marks_over pm_marks_over cd_marks_over ct_marks_over oc_pieces_of kV_pieces_of dc_pieces_of pm_pieces_of cd_pieces_of ct_pieces_of oc_pulls kV_pulls dc_pulls pm_pulls cd_pulls ct_pulls oc_without_last kV_without_last dc_without_last pm_without_last cd_without_last ct_without_last oc_pull_table kV_pull_table dc_pull_table pm_pull_table cd_pull_table ct_pull_table oc_tree_count kV_tree_count dc_tree_count pm_tree_count cd_tree_count ct_tree_count oc_count_with kV_count_with dc_count_with pm_count_with cd_count_with ct_count_with oc_is_tree kV_is_tree dc_is_tree pm_is_tree cd_is_tree ct_is_tree oc_refuse_no_tree kV_refuse_no_tree dc_refuse_no_tree pm_refuse_no_tree cd_refuse_no_tree ct_refuse_no_tree oc_tree_at kV_tree_at dc_tree_at pm_tree_at cd_tree_at ct_tree_at oc_number_of kV_number_of dc_number_of pm_number_of cd_number_of ct_number_of oc_next_tree kV_next_tree dc_next_tree pm_next_tree cd_next_tree ct_next_tree oc_tree_ahead kV_tree_ahead dc_tree_ahead pm_tree_ahead cd_tree_ahead ct_tree_ahead oc_heads_behind kV_heads_behind dc_heads_behind pm_heads_behind cd_heads_behind ct_heads_behind oc_grown_by kV_grown_by dc_grown_by pm_grown_by cd_grown_by ct_grown_by oc_looked_at_sets kV_looked_at_sets dc_looked_at_sets pm_looked_at_sets cd_looked_at_sets ct_looked_at_sets oc_least_with kV_least_with dc_least_with pm_least_with cd_least_with ct_least_with oc_greatest_with kV_greatest_with dc_greatest_with pm_greatest_with cd_greatest_with ct_greatest_with oc_law_at kV_law_at dc_law_at pm_law_at cd_law_at ct_law_at oc_law_stir kV_law_stir dc_law_stir pm_law_stir cd_law_stir ct_law_stir oc_law_numbers_v3 kV_law_numbers_v3 dc_law_numbers_v3 pm_law_numbers_v3 cd_law_numbers_v3 ct_law_numbers_v3 oc_law_digits kV_law_digits dc_law_digits pm_law_digits cd_law_digits ct_law_digits oc_law_web_v3 kV_law_web_v3 dc_law_web_v3 pm_law_web_v3 cd_law_web_v3 ct_law_web_v3 oc_law_trees_v3 kV_law_trees_v3 dc_law_trees_v3 pm_law_trees_v3 cd_law_trees_v3 ct_law_trees_v3 oc_law_spoilt_v4 kV_law_spoilt_v4 dc_law_spoilt_v4 pm_law_spoilt_v4 cd_law_spoilt_v4 ct_law_spoilt_v4 oc_law_no_set_v2 kV_law_no_set_v2 dc_law_no_set_v2 pm_law_no_set_v2 cd_law_no_set_v2 ct_law_no_set_v2 oc_law_told_v8 kV_law_told_v8 dc_law_told_v8 pm_law_told_v8 cd_law_told_v8 ct_law_told_v8 oc_law_k34 kV_law_k34 dc_law_k34 pm_law_k34 cd_law_k34 ct_law_k34 : Value} {t_MOST_PLACES t_MOST_TIES : Tok}
    (a_WebError : PySem.W.nsIn K mainGlobals "WebError" = some (some (.ref C_WebError)))
    (x_WebError : PySem.W.excIn K C_WebError [.type "ValueError", .type "Exception", .type "BaseException", .type "object"] "ValueError.__new__" = true)
    (kx_WebError : PySem.W.keepIn K (.ref C_WebError) = true)
    (bx_WebError : PySem.W.subIn K (.ref C_WebError) (.type "BaseException") = some true)
    (tx_WebError : PySem.W.typeIn K (.ref C_WebError) = some (.type "type"))
    (a_BadWeb : PySem.W.nsIn K mainGlobals "BadWeb" = some (some (.ref C_BadWeb)))
    (x_BadWeb : PySem.W.excIn K C_BadWeb [.type "ValueError", .type "Exception", .type "BaseException", .type "object"] "ValueError.__new__" = true)
    (kx_BadWeb : PySem.W.keepIn K (.ref C_BadWeb) = true)
    (bx_BadWeb : PySem.W.subIn K (.ref C_BadWeb) (.type "BaseException") = some true)
    (tx_BadWeb : PySem.W.typeIn K (.ref C_BadWeb) = some (.type "type"))
    (a_BadSet : PySem.W.nsIn K mainGlobals "BadSet" = some (some (.ref C_BadSet)))
    (x_BadSet : PySem.W.excIn K C_BadSet [.type "ValueError", .type "Exception", .type "BaseException", .type "object"] "ValueError.__new__" = true)
    (kx_BadSet : PySem.W.keepIn K (.ref C_BadSet) = true)
    (bx_BadSet : PySem.W.subIn K (.ref C_BadSet) (.type "BaseException") = some true)
    (tx_BadSet : PySem.W.typeIn K (.ref C_BadSet) = some (.type "type"))
    (a_NoTree : PySem.W.nsIn K mainGlobals "NoTree" = some (some (.ref C_NoTree)))
    (x_NoTree : PySem.W.excIn K C_NoTree [.type "ValueError", .type "Exception", .type "BaseException", .type "object"] "ValueError.__new__" = true)
    (kx_NoTree : PySem.W.keepIn K (.ref C_NoTree) = true)
    (bx_NoTree : PySem.W.subIn K (.ref C_NoTree) (.type "BaseException") = some true)
    (tx_NoTree : PySem.W.typeIn K (.ref C_NoTree) = some (.type "type"))
    (a_NoSuch : PySem.W.nsIn K mainGlobals "NoSuch" = some (some (.ref C_NoSuch)))
    (x_NoSuch : PySem.W.excIn K C_NoSuch [.type "ValueError", .type "Exception", .type "BaseException", .type "object"] "ValueError.__new__" = true)
    (kx_NoSuch : PySem.W.keepIn K (.ref C_NoSuch) = true)
    (bx_NoSuch : PySem.W.subIn K (.ref C_NoSuch) (.type "BaseException") = some true)
    (tx_NoSuch : PySem.W.typeIn K (.ref C_NoSuch) = some (.type "type"))
    (a_NotSquare : PySem.W.nsIn K mainGlobals "NotSquare" = some (some (.ref C_NotSquare)))
    (x_NotSquare : PySem.W.excIn K C_NotSquare [.type "ValueError", .type "Exception", .type "BaseException", .type "object"] "ValueError.__new__" = true)
    (kx_NotSquare : PySem.W.keepIn K (.ref C_NotSquare) = true)
    (bx_NotSquare : PySem.W.subIn K (.ref C_NotSquare) (.type "BaseException") = some true)
    (tx_NotSquare : PySem.W.typeIn K (.ref C_NotSquare) = some (.type "type"))
    (su_BadWeb_WebError : PySem.W.subIn K (.ref C_BadWeb) (.ref C_WebError) = some true)
    (su_BadSet_WebError : PySem.W.subIn K (.ref C_BadSet) (.ref C_WebError) = some true)
    (su_NoTree_WebError : PySem.W.subIn K (.ref C_NoTree) (.ref C_WebError) = some true)
    (su_NoSuch_WebError : PySem.W.subIn K (.ref C_NoSuch) (.ref C_WebError) = some true)
    (su_NotSquare_WebError : PySem.W.subIn K (.ref C_NotSquare) (.ref C_WebError) = some true)
    (hd_WebError : PySem.W.hasDictIn K C_WebError = true)
    (e6 : PySem.W.specialIn K (.builtin "object.__class__") "__get__" = some (some (.builtin "getset_descriptor.__get__")))
    (e7 : PySem.W.takesIn K (.builtin "object.__class__") = some true)
    (e0_BadWeb : PySem.W.findIn K (.ref C_BadWeb) "__getattribute__" = some (some (.builtin "BaseException.__getattribute__")))
    (e1_BadWeb : PySem.W.findIn K (.ref C_BadWeb) "__getattr__" = some none)
    (e3_BadWeb : PySem.W.hasDictIn K C_BadWeb = true)
    (e4_BadWeb : PySem.W.findIn K (.ref C_BadWeb) "__class__" = some (some (.builtin "object.__class__")))
    (e7_BadWeb : PySem.W.mroIn K C_BadWeb (.type "object") = some true)
    (e0_BadSet : PySem.W.findIn K (.ref C_BadSet) "__getattribute__" = some (some (.builtin "BaseException.__getattribute__")))
    (e1_BadSet : PySem.W.findIn K (.ref C_BadSet) "__getattr__" = some none)
    (e3_BadSet : PySem.W.hasDictIn K C_BadSet = true)
    (e4_BadSet : PySem.W.findIn K (.ref C_BadSet) "__class__" = some (some (.builtin "object.__class__")))
    (e7_BadSet : PySem.W.mroIn K C_BadSet (.type "object") = some true)
    (e0_NoTree : PySem.W.findIn K (.ref C_NoTree) "__getattribute__" = some (some (.builtin "BaseException.__getattribute__")))
    (e1_NoTree : PySem.W.findIn K (.ref C_NoTree) "__getattr__" = some none)
    (e3_NoTree : PySem.W.hasDictIn K C_NoTree = true)
    (e4_NoTree : PySem.W.findIn K (.ref C_NoTree) "__class__" = some (some (.builtin "object.__class__")))
    (e7_NoTree : PySem.W.mroIn K C_NoTree (.type "object") = some true)
    (e0_NoSuch : PySem.W.findIn K (.ref C_NoSuch) "__getattribute__" = some (some (.builtin "BaseException.__getattribute__")))
    (e1_NoSuch : PySem.W.findIn K (.ref C_NoSuch) "__getattr__" = some none)
    (e3_NoSuch : PySem.W.hasDictIn K C_NoSuch = true)
    (e4_NoSuch : PySem.W.findIn K (.ref C_NoSuch) "__class__" = some (some (.builtin "object.__class__")))
    (e7_NoSuch : PySem.W.mroIn K C_NoSuch (.type "object") = some true)
    (e0_NotSquare : PySem.W.findIn K (.ref C_NotSquare) "__getattribute__" = some (some (.builtin "BaseException.__getattribute__")))
    (e1_NotSquare : PySem.W.findIn K (.ref C_NotSquare) "__getattr__" = some none)
    (e3_NotSquare : PySem.W.hasDictIn K C_NotSquare = true)
    (e4_NotSquare : PySem.W.findIn K (.ref C_NotSquare) "__class__" = some (some (.builtin "object.__class__")))
    (e7_NotSquare : PySem.W.mroIn K C_NotSquare (.type "object") = some true)
    (is_BadWeb_NoTree : PySem.W.kitOne K (.ref C_BadWeb) (.ref C_NoTree) = some false)
    (is_BadSet_NoTree : PySem.W.kitOne K (.ref C_BadSet) (.ref C_NoTree) = some false)
    (is_NoTree_NoTree : PySem.W.kitOne K (.ref C_NoTree) (.ref C_NoTree) = some true)
    (is_NoSuch_NoTree : PySem.W.kitOne K (.ref C_NoSuch) (.ref C_NoTree) = some false)
    (is_NotSquare_NoTree : PySem.W.kitOne K (.ref C_NotSquare) (.ref C_NoTree) = some false)
    (is_BadWeb_BadSet : PySem.W.kitOne K (.ref C_BadWeb) (.ref C_BadSet) = some false)
    (is_BadSet_BadSet : PySem.W.kitOne K (.ref C_BadSet) (.ref C_BadSet) = some true)
    (is_NoTree_BadSet : PySem.W.kitOne K (.ref C_NoTree) (.ref C_BadSet) = some false)
    (is_NoSuch_BadSet : PySem.W.kitOne K (.ref C_NoSuch) (.ref C_BadSet) = some false)
    (is_NotSquare_BadSet : PySem.W.kitOne K (.ref C_NotSquare) (.ref C_BadSet) = some false)
    (is_BadWeb_ValueError : PySem.W.kitOne K (.ref C_BadWeb) (.type "ValueError") = some true)
    (is_BadSet_ValueError : PySem.W.kitOne K (.ref C_BadSet) (.type "ValueError") = some true)
    (is_NoTree_ValueError : PySem.W.kitOne K (.ref C_NoTree) (.type "ValueError") = some true)
    (is_NoSuch_ValueError : PySem.W.kitOne K (.ref C_NoSuch) (.type "ValueError") = some true)
    (is_NotSquare_ValueError : PySem.W.kitOne K (.ref C_NotSquare) (.type "ValueError") = some true)
    (a_Web : PySem.W.nsIn K mainGlobals "Web" = some (some (.ref C_Web)))
    (pg_Web : PySem.W.plainGet K C_Web Str.empty = true)
    (hd_Web : PySem.W.hasDictIn K C_Web = true)
    (po_Web : PySem.W.plainOver K C_Web = true)
    (sa_Web : PySem.W.findIn K (.ref C_Web) "__setattr__" = some (some (.builtin "object.__setattr__")))
    (mk_Web : PySem.W.makesIn K C_Web = true)
    (kc_Web : PySem.W.keepIn K (.ref C_Web) = true)
    (na_Web_places : PySem.W.findIn K (.ref C_Web) "places" = some none)
    (na_Web_ties : PySem.W.findIn K (.ref C_Web) "ties" = some none)
    (n_look_at_table : PySem.W.nsIn K mainGlobals "look_at_table" = some (some (.ref a_look_at_table)))
    (l_look_at_table : K.lookup a_look_at_table = some ⟨oc_look_at_table, od_look_at_table, .func (PySem.W.fnOf "look_at_table" "look_at_table" (defArgs s_look_at_table) (defBody s_look_at_table) (defScope s_look_at_table) .none kV_look_at_table dc_look_at_table pm_look_at_table an_look_at_table cd_look_at_table ct_look_at_table), sl_look_at_table⟩)
    (c_look_at_table : PySem.W.codeIn K cd_look_at_table "look_at_table" = true)
    (k_look_at_table : PySem.W.keepIn K (.ref a_look_at_table) = true)
    (n_first_row_with : PySem.W.nsIn K mainGlobals "first_row_with" = some (some (.ref a_first_row_with)))
    (l_first_row_with : K.lookup a_first_row_with = some ⟨oc_first_row_with, od_first_row_with, .func (PySem.W.fnOf "first_row_with" "first_row_with" (defArgs s_first_row_with) (defBody s_first_row_with) (defScope s_first_row_with) .none kV_first_row_with dc_first_row_with pm_first_row_with an_first_row_with cd_first_row_with ct_first_row_with), sl_first_row_with⟩)
    (c_first_row_with : PySem.W.codeIn K cd_first_row_with "first_row_with" = true)
    (k_first_row_with : PySem.W.keepIn K (.ref a_first_row_with) = true)
    (n_cleared : PySem.W.nsIn K mainGlobals "cleared" = some (some (.ref a_cleared)))
    (l_cleared : K.lookup a_cleared = some ⟨oc_cleared, od_cleared, .func (PySem.W.fnOf "cleared" "cleared" (defArgs s_cleared) (defBody s_cleared) (defScope s_cleared) .none kV_cleared dc_cleared pm_cleared an_cleared cd_cleared ct_cleared), sl_cleared⟩)
    (c_cleared : PySem.W.codeIn K cd_cleared "cleared" = true)
    (k_cleared : PySem.W.keepIn K (.ref a_cleared) = true)
    (n_determinant : PySem.W.nsIn K mainGlobals "determinant" = some (some (.ref a_determinant)))
    (l_determinant : K.lookup a_determinant = some ⟨oc_determinant, od_determinant, .func (PySem.W.fnOf "determinant" "determinant" (defArgs s_determinant) (defBody s_determinant) (defScope s_determinant) .none kV_determinant dc_determinant pm_determinant an_determinant cd_determinant ct_determinant), sl_determinant⟩)
    (c_determinant : PySem.W.codeIn K cd_determinant "determinant" = true)
    (k_determinant : PySem.W.keepIn K (.ref a_determinant) = true)
    (n_Web_init : PySem.W.findIn K (.ref C_Web) "__init__" = some (some (.ref a_Web_init)))
    (i_Web_init : PySem.W.isFn K (.ref a_Web_init) = true)
    (l_Web_init : K.lookup a_Web_init = some ⟨oc_Web_init, od_Web_init, .func (PySem.W.fnOf "__init__" "Web.__init__" (defArgs s_Web_init) (defBody s_Web_init) (defScope s_Web_init) .none kV_Web_init dc_Web_init pm_Web_init an_Web_init cd_Web_init ct_Web_init), sl_Web_init⟩)
    (c_Web_init : PySem.W.codeIn K cd_Web_init "Web.__init__" = true)
    (k_Web_init : PySem.W.keepIn K (.ref a_Web_init) = true)
    (n_made_set : PySem.W.nsIn K mainGlobals "made_set" = some (some (.ref a_made_set)))
    (l_made_set : K.lookup a_made_set = some ⟨oc_made_set, od_made_set, .func (PySem.W.fnOf "made_set" "made_set" (defArgs s_made_set) (defBody s_made_set) (defScope s_made_set) .none kV_made_set dc_made_set pm_made_set an_made_set cd_made_set ct_made_set), sl_made_set⟩)
    (c_made_set : PySem.W.codeIn K cd_made_set "made_set" = true)
    (k_made_set : PySem.W.keepIn K (.ref a_made_set) = true)
    (n_marks_over : PySem.W.nsIn K mainGlobals "marks_over" = some (some (.ref a_marks_over)))
    (l_marks_over : K.lookup a_marks_over = some ⟨oc_marks_over, od_marks_over, .func (PySem.W.fnOf "marks_over" "marks_over" (defArgs s_marks_over) (defBody s_marks_over) (defScope s_marks_over) .none kV_marks_over dc_marks_over pm_marks_over an_marks_over cd_marks_over ct_marks_over), sl_marks_over⟩)
    (c_marks_over : PySem.W.codeIn K cd_marks_over "marks_over" = true)
    (k_marks_over : PySem.W.keepIn K (.ref a_marks_over) = true)
    (n_pieces_of : PySem.W.nsIn K mainGlobals "pieces_of" = some (some (.ref a_pieces_of)))
    (l_pieces_of : K.lookup a_pieces_of = some ⟨oc_pieces_of, od_pieces_of, .func (PySem.W.fnOf "pieces_of" "pieces_of" (defArgs s_pieces_of) (defBody s_pieces_of) (defScope s_pieces_of) .none kV_pieces_of dc_pieces_of pm_pieces_of an_pieces_of cd_pieces_of ct_pieces_of), sl_pieces_of⟩)
    (c_pieces_of : PySem.W.codeIn K cd_pieces_of "pieces_of" = true)
    (k_pieces_of : PySem.W.keepIn K (.ref a_pieces_of) = true)
    (n_pulls : PySem.W.nsIn K mainGlobals "pulls" = some (some (.ref a_pulls)))
    (l_pulls : K.lookup a_pulls = some ⟨oc_pulls, od_pulls, .func (PySem.W.fnOf "pulls" "pulls" (defArgs s_pulls) (defBody s_pulls) (defScope s_pulls) .none kV_pulls dc_pulls pm_pulls an_pulls cd_pulls ct_pulls), sl_pulls⟩)
    (c_pulls : PySem.W.codeIn K cd_pulls "pulls" = true)
    (k_pulls : PySem.W.keepIn K (.ref a_pulls) = true)
    (n_without_last : PySem.W.nsIn K mainGlobals "without_last" = some (some (.ref a_without_last)))
    (l_without_last : K.lookup a_without_last = some ⟨oc_without_last, od_without_last, .func (PySem.W.fnOf "without_last" "without_last" (defArgs s_without_last) (defBody s_without_last) (defScope s_without_last) .none kV_without_last dc_without_last pm_without_last an_without_last cd_without_last ct_without_last), sl_without_last⟩)
    (c_without_last : PySem.W.codeIn K cd_without_last "without_last" = true)
    (k_without_last : PySem.W.keepIn K (.ref a_without_last) = true)
    (n_pull_table : PySem.W.nsIn K mainGlobals "pull_table" = some (some (.ref a_pull_table)))
    (l_pull_table : K.lookup a_pull_table = some ⟨oc_pull_table, od_pull_table, .func (PySem.W.fnOf "pull_table" "pull_table" (defArgs s_pull_table) (defBody s_pull_table) (defScope s_pull_table) .none kV_pull_table dc_pull_table pm_pull_table an_pull_table cd_pull_table ct_pull_table), sl_pull_table⟩)
    (c_pull_table : PySem.W.codeIn K cd_pull_table "pull_table" = true)
    (k_pull_table : PySem.W.keepIn K (.ref a_pull_table) = true)
    (n_tree_count : PySem.W.nsIn K mainGlobals "tree_count" = some (some (.ref a_tree_count)))
    (l_tree_count : K.lookup a_tree_count = some ⟨oc_tree_count, od_tree_count, .func (PySem.W.fnOf "tree_count" "tree_count" (defArgs s_tree_count) (defBody s_tree_count) (defScope s_tree_count) .none kV_tree_count dc_tree_count pm_tree_count an_tree_count cd_tree_count ct_tree_count), sl_tree_count⟩)
    (c_tree_count : PySem.W.codeIn K cd_tree_count "tree_count" = true)
    (k_tree_count : PySem.W.keepIn K (.ref a_tree_count) = true)
    (n_count_with : PySem.W.nsIn K mainGlobals "count_with" = some (some (.ref a_count_with)))
    (l_count_with : K.lookup a_count_with = some ⟨oc_count_with, od_count_with, .func (PySem.W.fnOf "count_with" "count_with" (defArgs s_count_with) (defBody s_count_with) (defScope s_count_with) .none kV_count_with dc_count_with pm_count_with an_count_with cd_count_with ct_count_with), sl_count_with⟩)
    (c_count_with : PySem.W.codeIn K cd_count_with "count_with" = true)
    (k_count_with : PySem.W.keepIn K (.ref a_count_with) = true)
    (n_is_tree : PySem.W.nsIn K mainGlobals "is_tree" = some (some (.ref a_is_tree)))
    (l_is_tree : K.lookup a_is_tree = some ⟨oc_is_tree, od_is_tree, .func (PySem.W.fnOf "is_tree" "is_tree" (defArgs s_is_tree) (defBody s_is_tree) (defScope s_is_tree) .none kV_is_tree dc_is_tree pm_is_tree an_is_tree cd_is_tree ct_is_tree), sl_is_tree⟩)
    (c_is_tree : PySem.W.codeIn K cd_is_tree "is_tree" = true)
    (k_is_tree : PySem.W.keepIn K (.ref a_is_tree) = true)
    (n_refuse_no_tree : PySem.W.nsIn K mainGlobals "refuse_no_tree" = some (some (.ref a_refuse_no_tree)))
    (l_refuse_no_tree : K.lookup a_refuse_no_tree = some ⟨oc_refuse_no_tree, od_refuse_no_tree, .func (PySem.W.fnOf "refuse_no_tree" "refuse_no_tree" (defArgs s_refuse_no_tree) (defBody s_refuse_no_tree) (defScope s_refuse_no_tree) .none kV_refuse_no_tree dc_refuse_no_tree pm_refuse_no_tree an_refuse_no_tree cd_refuse_no_tree ct_refuse_no_tree), sl_refuse_no_tree⟩)
    (c_refuse_no_tree : PySem.W.codeIn K cd_refuse_no_tree "refuse_no_tree" = true)
    (k_refuse_no_tree : PySem.W.keepIn K (.ref a_refuse_no_tree) = true)
    (n_tree_at : PySem.W.nsIn K mainGlobals "tree_at" = some (some (.ref a_tree_at)))
    (l_tree_at : K.lookup a_tree_at = some ⟨oc_tree_at, od_tree_at, .func (PySem.W.fnOf "tree_at" "tree_at" (defArgs s_tree_at) (defBody s_tree_at) (defScope s_tree_at) .none kV_tree_at dc_tree_at pm_tree_at an_tree_at cd_tree_at ct_tree_at), sl_tree_at⟩)
    (c_tree_at : PySem.W.codeIn K cd_tree_at "tree_at" = true)
    (k_tree_at : PySem.W.keepIn K (.ref a_tree_at) = true)
    (n_number_of : PySem.W.nsIn K mainGlobals "number_of" = some (some (.ref a_number_of)))
    (l_number_of : K.lookup a_number_of = some ⟨oc_number_of, od_number_of, .func (PySem.W.fnOf "number_of" "number_of" (defArgs s_number_of) (defBody s_number_of) (defScope s_number_of) .none kV_number_of dc_number_of pm_number_of an_number_of cd_number_of ct_number_of), sl_number_of⟩)
    (c_number_of : PySem.W.codeIn K cd_number_of "number_of" = true)
    (k_number_of : PySem.W.keepIn K (.ref a_number_of) = true)
    (n_next_tree : PySem.W.nsIn K mainGlobals "next_tree" = some (some (.ref a_next_tree)))
    (l_next_tree : K.lookup a_next_tree = some ⟨oc_next_tree, od_next_tree, .func (PySem.W.fnOf "next_tree" "next_tree" (defArgs s_next_tree) (defBody s_next_tree) (defScope s_next_tree) .none kV_next_tree dc_next_tree pm_next_tree an_next_tree cd_next_tree ct_next_tree), sl_next_tree⟩)
    (c_next_tree : PySem.W.codeIn K cd_next_tree "next_tree" = true)
    (k_next_tree : PySem.W.keepIn K (.ref a_next_tree) = true)
    (n_tree_ahead : PySem.W.nsIn K mainGlobals "tree_ahead" = some (some (.ref a_tree_ahead)))
    (l_tree_ahead : K.lookup a_tree_ahead = some ⟨oc_tree_ahead, od_tree_ahead, .func (PySem.W.fnOf "tree_ahead" "tree_ahead" (defArgs s_tree_ahead) (defBody s_tree_ahead) (defScope s_tree_ahead) .none kV_tree_ahead dc_tree_ahead pm_tree_ahead an_tree_ahead cd_tree_ahead ct_tree_ahead), sl_tree_ahead⟩)
    (c_tree_ahead : PySem.W.codeIn K cd_tree_ahead "tree_ahead" = true)
    (k_tree_ahead : PySem.W.keepIn K (.ref a_tree_ahead) = true)
    (n_heads_behind : PySem.W.nsIn K mainGlobals "heads_behind" = some (some (.ref a_heads_behind)))
    (l_heads_behind : K.lookup a_heads_behind = some ⟨oc_heads_behind, od_heads_behind, .func (PySem.W.fnOf "heads_behind" "heads_behind" (defArgs s_heads_behind) (defBody s_heads_behind) (defScope s_heads_behind) .none kV_heads_behind dc_heads_behind pm_heads_behind an_heads_behind cd_heads_behind ct_heads_behind), sl_heads_behind⟩)
    (c_heads_behind : PySem.W.codeIn K cd_heads_behind "heads_behind" = true)
    (k_heads_behind : PySem.W.keepIn K (.ref a_heads_behind) = true)
    (n_grown_by : PySem.W.nsIn K mainGlobals "grown_by" = some (some (.ref a_grown_by)))
    (l_grown_by : K.lookup a_grown_by = some ⟨oc_grown_by, od_grown_by, .func (PySem.W.fnOf "grown_by" "grown_by" (defArgs s_grown_by) (defBody s_grown_by) (defScope s_grown_by) .none kV_grown_by dc_grown_by pm_grown_by an_grown_by cd_grown_by ct_grown_by), sl_grown_by⟩)
    (c_grown_by : PySem.W.codeIn K cd_grown_by "grown_by" = true)
    (k_grown_by : PySem.W.keepIn K (.ref a_grown_by) = true)
    (n_looked_at_sets : PySem.W.nsIn K mainGlobals "looked_at_sets" = some (some (.ref a_looked_at_sets)))
    (l_looked_at_sets : K.lookup a_looked_at_sets = some ⟨oc_looked_at_sets, od_looked_at_sets, .func (PySem.W.fnOf "looked_at_sets" "looked_at_sets" (defArgs s_looked_at_sets) (defBody s_looked_at_sets) (defScope s_looked_at_sets) .none kV_looked_at_sets dc_looked_at_sets pm_looked_at_sets an_looked_at_sets cd_looked_at_sets ct_looked_at_sets), sl_looked_at_sets⟩)
    (c_looked_at_sets : PySem.W.codeIn K cd_looked_at_sets "looked_at_sets" = true)
    (k_looked_at_sets : PySem.W.keepIn K (.ref a_looked_at_sets) = true)
    (n_least_with : PySem.W.nsIn K mainGlobals "least_with" = some (some (.ref a_least_with)))
    (l_least_with : K.lookup a_least_with = some ⟨oc_least_with, od_least_with, .func (PySem.W.fnOf "least_with" "least_with" (defArgs s_least_with) (defBody s_least_with) (defScope s_least_with) .none kV_least_with dc_least_with pm_least_with an_least_with cd_least_with ct_least_with), sl_least_with⟩)
    (c_least_with : PySem.W.codeIn K cd_least_with "least_with" = true)
    (k_least_with : PySem.W.keepIn K (.ref a_least_with) = true)
    (n_greatest_with : PySem.W.nsIn K mainGlobals "greatest_with" = some (some (.ref a_greatest_with)))
    (l_greatest_with : K.lookup a_greatest_with = some ⟨oc_greatest_with, od_greatest_with, .func (PySem.W.fnOf "greatest_with" "greatest_with" (defArgs s_greatest_with) (defBody s_greatest_with) (defScope s_greatest_with) .none kV_greatest_with dc_greatest_with pm_greatest_with an_greatest_with cd_greatest_with ct_greatest_with), sl_greatest_with⟩)
    (c_greatest_with : PySem.W.codeIn K cd_greatest_with "greatest_with" = true)
    (k_greatest_with : PySem.W.keepIn K (.ref a_greatest_with) = true)
    (n_law_at : PySem.W.nsIn K mainGlobals "_law_at" = some (some (.ref a_law_at)))
    (l_law_at : K.lookup a_law_at = some ⟨oc_law_at, od_law_at, .func (PySem.W.fnOf "_law_at" "_law_at" (defArgs s_law_at) (defBody s_law_at) (defScope s_law_at) .none kV_law_at dc_law_at pm_law_at an_law_at cd_law_at ct_law_at), sl_law_at⟩)
    (c_law_at : PySem.W.codeIn K cd_law_at "_law_at" = true)
    (k_law_at : PySem.W.keepIn K (.ref a_law_at) = true)
    (n_law_stir : PySem.W.nsIn K mainGlobals "_law_stir" = some (some (.ref a_law_stir)))
    (l_law_stir : K.lookup a_law_stir = some ⟨oc_law_stir, od_law_stir, .func (PySem.W.fnOf "_law_stir" "_law_stir" (defArgs s_law_stir) (defBody s_law_stir) (defScope s_law_stir) .none kV_law_stir dc_law_stir pm_law_stir an_law_stir cd_law_stir ct_law_stir), sl_law_stir⟩)
    (c_law_stir : PySem.W.codeIn K cd_law_stir "_law_stir" = true)
    (k_law_stir : PySem.W.keepIn K (.ref a_law_stir) = true)
    (n_law_numbers_v3 : PySem.W.nsIn K mainGlobals "_law_numbers" = some (some (.ref a_law_numbers_v3)))
    (l_law_numbers_v3 : K.lookup a_law_numbers_v3 = some ⟨oc_law_numbers_v3, od_law_numbers_v3, .func (PySem.W.fnOf "_law_numbers" "_law_numbers" (defArgs s_law_numbers_v3) (defBody s_law_numbers_v3) (defScope s_law_numbers_v3) .none kV_law_numbers_v3 dc_law_numbers_v3 pm_law_numbers_v3 an_law_numbers_v3 cd_law_numbers_v3 ct_law_numbers_v3), sl_law_numbers_v3⟩)
    (c_law_numbers_v3 : PySem.W.codeIn K cd_law_numbers_v3 "_law_numbers" = true)
    (k_law_numbers_v3 : PySem.W.keepIn K (.ref a_law_numbers_v3) = true)
    (n_law_digits : PySem.W.nsIn K mainGlobals "_law_digits" = some (some (.ref a_law_digits)))
    (l_law_digits : K.lookup a_law_digits = some ⟨oc_law_digits, od_law_digits, .func (PySem.W.fnOf "_law_digits" "_law_digits" (defArgs s_law_digits) (defBody s_law_digits) (defScope s_law_digits) .none kV_law_digits dc_law_digits pm_law_digits an_law_digits cd_law_digits ct_law_digits), sl_law_digits⟩)
    (c_law_digits : PySem.W.codeIn K cd_law_digits "_law_digits" = true)
    (k_law_digits : PySem.W.keepIn K (.ref a_law_digits) = true)
    (n_law_web_v3 : PySem.W.nsIn K mainGlobals "_law_web" = some (some (.ref a_law_web_v3)))
    (l_law_web_v3 : K.lookup a_law_web_v3 = some ⟨oc_law_web_v3, od_law_web_v3, .func (PySem.W.fnOf "_law_web" "_law_web" (defArgs s_law_web_v3) (defBody s_law_web_v3) (defScope s_law_web_v3) .none kV_law_web_v3 dc_law_web_v3 pm_law_web_v3 an_law_web_v3 cd_law_web_v3 ct_law_web_v3), sl_law_web_v3⟩)
    (c_law_web_v3 : PySem.W.codeIn K cd_law_web_v3 "_law_web" = true)
    (k_law_web_v3 : PySem.W.keepIn K (.ref a_law_web_v3) = true)
    (n_law_trees_v3 : PySem.W.nsIn K mainGlobals "_law_trees" = some (some (.ref a_law_trees_v3)))
    (l_law_trees_v3 : K.lookup a_law_trees_v3 = some ⟨oc_law_trees_v3, od_law_trees_v3, .func (PySem.W.fnOf "_law_trees" "_law_trees" (defArgs s_law_trees_v3) (defBody s_law_trees_v3) (defScope s_law_trees_v3) .none kV_law_trees_v3 dc_law_trees_v3 pm_law_trees_v3 an_law_trees_v3 cd_law_trees_v3 ct_law_trees_v3), sl_law_trees_v3⟩)
    (c_law_trees_v3 : PySem.W.codeIn K cd_law_trees_v3 "_law_trees" = true)
    (k_law_trees_v3 : PySem.W.keepIn K (.ref a_law_trees_v3) = true)
    (n_law_spoilt_v4 : PySem.W.nsIn K mainGlobals "_law_spoilt" = some (some (.ref a_law_spoilt_v4)))
    (l_law_spoilt_v4 : K.lookup a_law_spoilt_v4 = some ⟨oc_law_spoilt_v4, od_law_spoilt_v4, .func (PySem.W.fnOf "_law_spoilt" "_law_spoilt" (defArgs s_law_spoilt_v4) (defBody s_law_spoilt_v4) (defScope s_law_spoilt_v4) .none kV_law_spoilt_v4 dc_law_spoilt_v4 pm_law_spoilt_v4 an_law_spoilt_v4 cd_law_spoilt_v4 ct_law_spoilt_v4), sl_law_spoilt_v4⟩)
    (c_law_spoilt_v4 : PySem.W.codeIn K cd_law_spoilt_v4 "_law_spoilt" = true)
    (k_law_spoilt_v4 : PySem.W.keepIn K (.ref a_law_spoilt_v4) = true)
    (n_law_no_set_v2 : PySem.W.nsIn K mainGlobals "_law_no_set" = some (some (.ref a_law_no_set_v2)))
    (l_law_no_set_v2 : K.lookup a_law_no_set_v2 = some ⟨oc_law_no_set_v2, od_law_no_set_v2, .func (PySem.W.fnOf "_law_no_set" "_law_no_set" (defArgs s_law_no_set_v2) (defBody s_law_no_set_v2) (defScope s_law_no_set_v2) .none kV_law_no_set_v2 dc_law_no_set_v2 pm_law_no_set_v2 an_law_no_set_v2 cd_law_no_set_v2 ct_law_no_set_v2), sl_law_no_set_v2⟩)
    (c_law_no_set_v2 : PySem.W.codeIn K cd_law_no_set_v2 "_law_no_set" = true)
    (k_law_no_set_v2 : PySem.W.keepIn K (.ref a_law_no_set_v2) = true)
    (n_law_told_v8 : PySem.W.nsIn K mainGlobals "_law_told" = some (some (.ref a_law_told_v8)))
    (l_law_told_v8 : K.lookup a_law_told_v8 = some ⟨oc_law_told_v8, od_law_told_v8, .func (PySem.W.fnOf "_law_told" "_law_told" (defArgs s_law_told_v8) (defBody s_law_told_v8) (defScope s_law_told_v8) .none kV_law_told_v8 dc_law_told_v8 pm_law_told_v8 an_law_told_v8 cd_law_told_v8 ct_law_told_v8), sl_law_told_v8⟩)
    (c_law_told_v8 : PySem.W.codeIn K cd_law_told_v8 "_law_told" = true)
    (k_law_told_v8 : PySem.W.keepIn K (.ref a_law_told_v8) = true)
    (n_law_k34 : PySem.W.nsIn K mainGlobals "law" = some (some (.ref a_law_k34)))
    (l_law_k34 : K.lookup a_law_k34 = some ⟨oc_law_k34, od_law_k34, .func (PySem.W.fnOf "law" "law" (defArgs s_law_k34) (defBody s_law_k34) (defScope s_law_k34) .none kV_law_k34 dc_law_k34 pm_law_k34 an_law_k34 cd_law_k34 ct_law_k34), sl_law_k34⟩)
    (c_law_k34 : PySem.W.codeIn K cd_law_k34 "law" = true)
    (k_law_k34 : PySem.W.keepIn K (.ref a_law_k34) = true)
    (v_MOST_PLACES : PySem.W.nsIn K mainGlobals "MOST_PLACES" = some (some (.int 14 t_MOST_PLACES)))
    (v_MOST_TIES : PySem.W.nsIn K mainGlobals "MOST_TIES" = some (some (.int 30 t_MOST_TIES)))
    (z_ValueError : PySem.W.nsIn K mainGlobals "ValueError" = some none)
    (z_any : PySem.W.nsIn K mainGlobals "any" = some none)
    (z_enumerate : PySem.W.nsIn K mainGlobals "enumerate" = some none)
    (z_int : PySem.W.nsIn K mainGlobals "int" = some none)
    (z_isinstance : PySem.W.nsIn K mainGlobals "isinstance" = some none)
    (z_len : PySem.W.nsIn K mainGlobals "len" = some none)
    (z_list : PySem.W.nsIn K mainGlobals "list" = some none)
    (z_max : PySem.W.nsIn K mainGlobals "max" = some none)
    (z_min : PySem.W.nsIn K mainGlobals "min" = some none)
    (z_range : PySem.W.nsIn K mainGlobals "range" = some none)
    (z_reversed : PySem.W.nsIn K mainGlobals "reversed" = some none)
    (z_set : PySem.W.nsIn K mainGlobals "set" = some none)
    (z_sorted : PySem.W.nsIn K mainGlobals "sorted" = some none)
    (z_tuple : PySem.W.nsIn K mainGlobals "tuple" = some none)
    : ∃ T : Tx K mg, mg "law" = some (.ref T.a_law_k34) ∧ ∀ (s : Shared) (v : Value), BindsTo s T.d_law_k34 ⟨[v], []⟩ [("script", v)] := by
  refine ⟨{
    C_WebError := C_WebError,
    C_BadWeb := C_BadWeb,
    C_BadSet := C_BadSet,
    C_NoTree := C_NoTree,
    C_NoSuch := C_NoSuch,
    C_NotSquare := C_NotSquare,
    C_Web := C_Web,
    a_look_at_table := a_look_at_table,
    d_look_at_table := PySem.W.fnOf "look_at_table" "look_at_table" (defArgs s_look_at_table) (defBody s_look_at_table) (defScope s_look_at_table) .none kV_look_at_table dc_look_at_table pm_look_at_table an_look_at_table cd_look_at_table ct_look_at_table,
    a_first_row_with := a_first_row_with,
    d_first_row_with := PySem.W.fnOf "first_row_with" "first_row_with" (defArgs s_first_row_with) (defBody s_first_row_with) (defScope s_first_row_with) .none kV_first_row_with dc_first_row_with pm_first_row_with an_first_row_with cd_first_row_with ct_first_row_with,
    a_cleared := a_cleared,
    d_cleared := PySem.W.fnOf "cleared" "cleared" (defArgs s_cleared) (defBody s_cleared) (defScope s_cleared) .none kV_cleared dc_cleared pm_cleared an_cleared cd_cleared ct_cleared,
    a_determinant := a_determinant,
    d_determinant := PySem.W.fnOf "determinant" "determinant" (defArgs s_determinant) (defBody s_determinant) (defScope s_determinant) .none kV_determinant dc_determinant pm_determinant an_determinant cd_determinant ct_determinant,
    a_Web_init := a_Web_init,
    d_Web_init := PySem.W.fnOf "__init__" "Web.__init__" (defArgs s_Web_init) (defBody s_Web_init) (defScope s_Web_init) .none kV_Web_init dc_Web_init pm_Web_init an_Web_init cd_Web_init ct_Web_init,
    a_made_set := a_made_set,
    d_made_set := PySem.W.fnOf "made_set" "made_set" (defArgs s_made_set) (defBody s_made_set) (defScope s_made_set) .none kV_made_set dc_made_set pm_made_set an_made_set cd_made_set ct_made_set,
    a_marks_over := a_marks_over,
    d_marks_over := PySem.W.fnOf "marks_over" "marks_over" (defArgs s_marks_over) (defBody s_marks_over) (defScope s_marks_over) .none kV_marks_over dc_marks_over pm_marks_over an_marks_over cd_marks_over ct_marks_over,
    a_pieces_of := a_pieces_of,
    d_pieces_of := PySem.W.fnOf "pieces_of" "pieces_of" (defArgs s_pieces_of) (defBody s_pieces_of) (defScope s_pieces_of) .none kV_pieces_of dc_pieces_of pm_pieces_of an_pieces_of cd_pieces_of ct_pieces_of,
    a_pulls := a_pulls,
    d_pulls := PySem.W.fnOf "pulls" "pulls" (defArgs s_pulls) (defBody s_pulls) (defScope s_pulls) .none kV_pulls dc_pulls pm_pulls an_pulls cd_pulls ct_pulls,
    a_without_last := a_without_last,
    d_without_last := PySem.W.fnOf "without_last" "without_last" (defArgs s_without_last) (defBody s_without_last) (defScope s_without_last) .none kV_without_last dc_without_last pm_without_last an_without_last cd_without_last ct_without_last,
    a_pull_table := a_pull_table,
    d_pull_table := PySem.W.fnOf "pull_table" "pull_table" (defArgs s_pull_table) (defBody s_pull_table) (defScope s_pull_table) .none kV_pull_table dc_pull_table pm_pull_table an_pull_table cd_pull_table ct_pull_table,
    a_tree_count := a_tree_count,
    d_tree_count := PySem.W.fnOf "tree_count" "tree_count" (defArgs s_tree_count) (defBody s_tree_count) (defScope s_tree_count) .none kV_tree_count dc_tree_count pm_tree_count an_tree_count cd_tree_count ct_tree_count,
    a_count_with := a_count_with,
    d_count_with := PySem.W.fnOf "count_with" "count_with" (defArgs s_count_with) (defBody s_count_with) (defScope s_count_with) .none kV_count_with dc_count_with pm_count_with an_count_with cd_count_with ct_count_with,
    a_is_tree := a_is_tree,
    d_is_tree := PySem.W.fnOf "is_tree" "is_tree" (defArgs s_is_tree) (defBody s_is_tree) (defScope s_is_tree) .none kV_is_tree dc_is_tree pm_is_tree an_is_tree cd_is_tree ct_is_tree,
    a_refuse_no_tree := a_refuse_no_tree,
    d_refuse_no_tree := PySem.W.fnOf "refuse_no_tree" "refuse_no_tree" (defArgs s_refuse_no_tree) (defBody s_refuse_no_tree) (defScope s_refuse_no_tree) .none kV_refuse_no_tree dc_refuse_no_tree pm_refuse_no_tree an_refuse_no_tree cd_refuse_no_tree ct_refuse_no_tree,
    a_tree_at := a_tree_at,
    d_tree_at := PySem.W.fnOf "tree_at" "tree_at" (defArgs s_tree_at) (defBody s_tree_at) (defScope s_tree_at) .none kV_tree_at dc_tree_at pm_tree_at an_tree_at cd_tree_at ct_tree_at,
    a_number_of := a_number_of,
    d_number_of := PySem.W.fnOf "number_of" "number_of" (defArgs s_number_of) (defBody s_number_of) (defScope s_number_of) .none kV_number_of dc_number_of pm_number_of an_number_of cd_number_of ct_number_of,
    a_next_tree := a_next_tree,
    d_next_tree := PySem.W.fnOf "next_tree" "next_tree" (defArgs s_next_tree) (defBody s_next_tree) (defScope s_next_tree) .none kV_next_tree dc_next_tree pm_next_tree an_next_tree cd_next_tree ct_next_tree,
    a_tree_ahead := a_tree_ahead,
    d_tree_ahead := PySem.W.fnOf "tree_ahead" "tree_ahead" (defArgs s_tree_ahead) (defBody s_tree_ahead) (defScope s_tree_ahead) .none kV_tree_ahead dc_tree_ahead pm_tree_ahead an_tree_ahead cd_tree_ahead ct_tree_ahead,
    a_heads_behind := a_heads_behind,
    d_heads_behind := PySem.W.fnOf "heads_behind" "heads_behind" (defArgs s_heads_behind) (defBody s_heads_behind) (defScope s_heads_behind) .none kV_heads_behind dc_heads_behind pm_heads_behind an_heads_behind cd_heads_behind ct_heads_behind,
    a_grown_by := a_grown_by,
    d_grown_by := PySem.W.fnOf "grown_by" "grown_by" (defArgs s_grown_by) (defBody s_grown_by) (defScope s_grown_by) .none kV_grown_by dc_grown_by pm_grown_by an_grown_by cd_grown_by ct_grown_by,
    a_looked_at_sets := a_looked_at_sets,
    d_looked_at_sets := PySem.W.fnOf "looked_at_sets" "looked_at_sets" (defArgs s_looked_at_sets) (defBody s_looked_at_sets) (defScope s_looked_at_sets) .none kV_looked_at_sets dc_looked_at_sets pm_looked_at_sets an_looked_at_sets cd_looked_at_sets ct_looked_at_sets,
    a_least_with := a_least_with,
    d_least_with := PySem.W.fnOf "least_with" "least_with" (defArgs s_least_with) (defBody s_least_with) (defScope s_least_with) .none kV_least_with dc_least_with pm_least_with an_least_with cd_least_with ct_least_with,
    a_greatest_with := a_greatest_with,
    d_greatest_with := PySem.W.fnOf "greatest_with" "greatest_with" (defArgs s_greatest_with) (defBody s_greatest_with) (defScope s_greatest_with) .none kV_greatest_with dc_greatest_with pm_greatest_with an_greatest_with cd_greatest_with ct_greatest_with,
    a_law_at := a_law_at,
    d_law_at := PySem.W.fnOf "_law_at" "_law_at" (defArgs s_law_at) (defBody s_law_at) (defScope s_law_at) .none kV_law_at dc_law_at pm_law_at an_law_at cd_law_at ct_law_at,
    a_law_stir := a_law_stir,
    d_law_stir := PySem.W.fnOf "_law_stir" "_law_stir" (defArgs s_law_stir) (defBody s_law_stir) (defScope s_law_stir) .none kV_law_stir dc_law_stir pm_law_stir an_law_stir cd_law_stir ct_law_stir,
    a_law_numbers_v3 := a_law_numbers_v3,
    d_law_numbers_v3 := PySem.W.fnOf "_law_numbers" "_law_numbers" (defArgs s_law_numbers_v3) (defBody s_law_numbers_v3) (defScope s_law_numbers_v3) .none kV_law_numbers_v3 dc_law_numbers_v3 pm_law_numbers_v3 an_law_numbers_v3 cd_law_numbers_v3 ct_law_numbers_v3,
    a_law_digits := a_law_digits,
    d_law_digits := PySem.W.fnOf "_law_digits" "_law_digits" (defArgs s_law_digits) (defBody s_law_digits) (defScope s_law_digits) .none kV_law_digits dc_law_digits pm_law_digits an_law_digits cd_law_digits ct_law_digits,
    a_law_web_v3 := a_law_web_v3,
    d_law_web_v3 := PySem.W.fnOf "_law_web" "_law_web" (defArgs s_law_web_v3) (defBody s_law_web_v3) (defScope s_law_web_v3) .none kV_law_web_v3 dc_law_web_v3 pm_law_web_v3 an_law_web_v3 cd_law_web_v3 ct_law_web_v3,
    a_law_trees_v3 := a_law_trees_v3,
    d_law_trees_v3 := PySem.W.fnOf "_law_trees" "_law_trees" (defArgs s_law_trees_v3) (defBody s_law_trees_v3) (defScope s_law_trees_v3) .none kV_law_trees_v3 dc_law_trees_v3 pm_law_trees_v3 an_law_trees_v3 cd_law_trees_v3 ct_law_trees_v3,
    a_law_spoilt_v4 := a_law_spoilt_v4,
    d_law_spoilt_v4 := PySem.W.fnOf "_law_spoilt" "_law_spoilt" (defArgs s_law_spoilt_v4) (defBody s_law_spoilt_v4) (defScope s_law_spoilt_v4) .none kV_law_spoilt_v4 dc_law_spoilt_v4 pm_law_spoilt_v4 an_law_spoilt_v4 cd_law_spoilt_v4 ct_law_spoilt_v4,
    a_law_no_set_v2 := a_law_no_set_v2,
    d_law_no_set_v2 := PySem.W.fnOf "_law_no_set" "_law_no_set" (defArgs s_law_no_set_v2) (defBody s_law_no_set_v2) (defScope s_law_no_set_v2) .none kV_law_no_set_v2 dc_law_no_set_v2 pm_law_no_set_v2 an_law_no_set_v2 cd_law_no_set_v2 ct_law_no_set_v2,
    a_law_told_v8 := a_law_told_v8,
    d_law_told_v8 := PySem.W.fnOf "_law_told" "_law_told" (defArgs s_law_told_v8) (defBody s_law_told_v8) (defScope s_law_told_v8) .none kV_law_told_v8 dc_law_told_v8 pm_law_told_v8 an_law_told_v8 cd_law_told_v8 ct_law_told_v8,
    a_law_k34 := a_law_k34,
    d_law_k34 := PySem.W.fnOf "law" "law" (defArgs s_law_k34) (defBody s_law_k34) (defScope s_law_k34) .none kV_law_k34 dc_law_k34 pm_law_k34 an_law_k34 cd_law_k34 ct_law_k34,
    t_MOST_PLACES := t_MOST_PLACES,
    t_MOST_TIES := t_MOST_TIES,
    m_WebError := PySem.W.mg_of X G a_WebError,
    x_WebError := x_WebError,
    kx_WebError := kx_WebError,
    bx_WebError := bx_WebError,
    tx_WebError := tx_WebError,
    m_BadWeb := PySem.W.mg_of X G a_BadWeb,
    x_BadWeb := x_BadWeb,
    kx_BadWeb := kx_BadWeb,
    bx_BadWeb := bx_BadWeb,
    tx_BadWeb := tx_BadWeb,
    m_BadSet := PySem.W.mg_of X G a_BadSet,
    x_BadSet := x_BadSet,
    kx_BadSet := kx_BadSet,
    bx_BadSet := bx_BadSet,
    tx_BadSet := tx_BadSet,
    m_NoTree := PySem.W.mg_of X G a_NoTree,
    x_NoTree := x_NoTree,
    kx_NoTree := kx_NoTree,
    bx_NoTree := bx_NoTree,
    tx_NoTree := tx_NoTree,
    m_NoSuch := PySem.W.mg_of X G a_NoSuch,
    x_NoSuch := x_NoSuch,
    kx_NoSuch := kx_NoSuch,
    bx_NoSuch := bx_NoSuch,
    tx_NoSuch := tx_NoSuch,
    m_NotSquare := PySem.W.mg_of X G a_NotSquare,
    x_NotSquare := x_NotSquare,
    kx_NotSquare := kx_NotSquare,
    bx_NotSquare := bx_NotSquare,
    tx_NotSquare := tx_NotSquare,
    ct_BadWeb_WebError := PySem.W.exm_ref bx_WebError hd_WebError tx_WebError su_BadWeb_WebError,
    ct_BadSet_WebError := PySem.W.exm_ref bx_WebError hd_WebError tx_WebError su_BadSet_WebError,
    ct_NoTree_WebError := PySem.W.exm_ref bx_WebError hd_WebError tx_WebError su_NoTree_WebError,
    ct_NoSuch_WebError := PySem.W.exm_ref bx_WebError hd_WebError tx_WebError su_NoSuch_WebError,
    ct_NotSquare_WebError := PySem.W.exm_ref bx_WebError hd_WebError tx_WebError su_NotSquare_WebError,
    xc_BadWeb := ⟨e0_BadWeb, e1_BadWeb, bx_BadWeb, e3_BadWeb, e4_BadWeb, e6, e7, e7_BadWeb⟩,
    xc_BadSet := ⟨e0_BadSet, e1_BadSet, bx_BadSet, e3_BadSet, e4_BadSet, e6, e7, e7_BadSet⟩,
    xc_NoTree := ⟨e0_NoTree, e1_NoTree, bx_NoTree, e3_NoTree, e4_NoTree, e6, e7, e7_NoTree⟩,
    xc_NoSuch := ⟨e0_NoSuch, e1_NoSuch, bx_NoSuch, e3_NoSuch, e4_NoSuch, e6, e7, e7_NoSuch⟩,
    xc_NotSquare := ⟨e0_NotSquare, e1_NotSquare, bx_NotSquare, e3_NotSquare, e4_NotSquare, e6, e7, e7_NotSquare⟩,
    is_BadWeb_NoTree := is_BadWeb_NoTree,
    is_BadSet_NoTree := is_BadSet_NoTree,
    is_NoTree_NoTree := is_NoTree_NoTree,
    is_NoSuch_NoTree := is_NoSuch_NoTree,
    is_NotSquare_NoTree := is_NotSquare_NoTree,
    is_BadWeb_BadSet := is_BadWeb_BadSet,
    is_BadSet_BadSet := is_BadSet_BadSet,
    is_NoTree_BadSet := is_NoTree_BadSet,
    is_NoSuch_BadSet := is_NoSuch_BadSet,
    is_NotSquare_BadSet := is_NotSquare_BadSet,
    is_BadWeb_ValueError := is_BadWeb_ValueError,
    is_BadSet_ValueError := is_BadSet_ValueError,
    is_NoTree_ValueError := is_NoTree_ValueError,
    is_NoSuch_ValueError := is_NoSuch_ValueError,
    is_NotSquare_ValueError := is_NotSquare_ValueError,
    m_Web := PySem.W.mg_of X G a_Web,
    cl_Web := ⟨pg_Web, hd_Web, po_Web, sa_Web⟩,
    na_Web_places := na_Web_places,
    na_Web_ties := na_Web_ties,
    mk_Web := ⟨mk_Web, n_Web_init, i_Web_init, kc_Web⟩,
    F_look_at_table := fun_mk (st := s_look_at_table) l_look_at_table c_look_at_table k_look_at_table,
    b_look_at_table := (fun_mk (st := s_look_at_table) l_look_at_table c_look_at_table k_look_at_table).binds (ps := ["table"]) fun _ _ _ _ _ _ us hl => match us, hl with | [_], _ => rfl,
    m_look_at_table := PySem.W.mg_of X G n_look_at_table,
    k_look_at_table := k_look_at_table,
    F_first_row_with := fun_mk (st := s_first_row_with) l_first_row_with c_first_row_with k_first_row_with,
    b_first_row_with := (fun_mk (st := s_first_row_with) l_first_row_with c_first_row_with k_first_row_with).binds (ps := ["rows", "at"]) fun _ _ _ _ _ _ us hl => match us, hl with | [_, _], _ => rfl,
    m_first_row_with := PySem.W.mg_of X G n_first_row_with,
    k_first_row_with := k_first_row_with,
    F_cleared := fun_mk (st := s_cleared) l_cleared c_cleared k_cleared,
    b_cleared := (fun_mk (st := s_cleared) l_cleared c_cleared k_cleared).binds (ps := ["rows", "at", "ahead"]) fun _ _ _ _ _ _ us hl => match us, hl with | [_, _, _], _ => rfl,
    m_cleared := PySem.W.mg_of X G n_cleared,
    k_cleared := k_cleared,
    F_determinant := fun_mk (st := s_determinant) l_determinant c_determinant k_determinant,
    b_determinant := (fun_mk (st := s_determinant) l_determinant c_determinant k_determinant).binds (ps := ["table"]) fun _ _ _ _ _ _ us hl => match us, hl with | [_], _ => rfl,
    m_determinant := PySem.W.mg_of X G n_determinant,
    k_determinant := k_determinant,
    F_Web_init := fun_mk (st := s_Web_init) l_Web_init c_Web_init k_Web_init,
    b_Web_init := (fun_mk (st := s_Web_init) l_Web_init c_Web_init k_Web_init).binds (ps := ["self", "places", "ties"]) fun _ _ _ _ _ _ us hl => match us, hl with | [_, _, _], _ => rfl,
    k_Web_init := k_Web_init,
    F_made_set := fun_mk (st := s_made_set) l_made_set c_made_set k_made_set,
    b_made_set := (fun_mk (st := s_made_set) l_made_set c_made_set k_made_set).binds (ps := ["web", "ties"]) fun _ _ _ _ _ _ us hl => match us, hl with | [_, _], _ => rfl,
    m_made_set := PySem.W.mg_of X G n_made_set,
    k_made_set := k_made_set,
    F_marks_over := fun_mk (st := s_marks_over) l_marks_over c_marks_over k_marks_over,
    b_marks_over := (fun_mk (st := s_marks_over) l_marks_over c_marks_over k_marks_over).binds (ps := ["web", "ties"]) fun _ _ _ _ _ _ us hl => match us, hl with | [_, _], _ => rfl,
    m_marks_over := PySem.W.mg_of X G n_marks_over,
    k_marks_over := k_marks_over,
    F_pieces_of := fun_mk (st := s_pieces_of) l_pieces_of c_pieces_of k_pieces_of,
    b_pieces_of := (fun_mk (st := s_pieces_of) l_pieces_of c_pieces_of k_pieces_of).binds (ps := ["web", "ties"]) fun _ _ _ _ _ _ us hl => match us, hl with | [_, _], _ => rfl,
    m_pieces_of := PySem.W.mg_of X G n_pieces_of,
    k_pieces_of := k_pieces_of,
    F_pulls := fun_mk (st := s_pulls) l_pulls c_pulls k_pulls,
    b_pulls := (fun_mk (st := s_pulls) l_pulls c_pulls k_pulls).binds (ps := ["count", "ties"]) fun _ _ _ _ _ _ us hl => match us, hl with | [_, _], _ => rfl,
    m_pulls := PySem.W.mg_of X G n_pulls,
    k_pulls := k_pulls,
    F_without_last := fun_mk (st := s_without_last) l_without_last c_without_last k_without_last,
    b_without_last := (fun_mk (st := s_without_last) l_without_last c_without_last k_without_last).binds (ps := ["table"]) fun _ _ _ _ _ _ us hl => match us, hl with | [_], _ => rfl,
    m_without_last := PySem.W.mg_of X G n_without_last,
    k_without_last := k_without_last,
    F_pull_table := fun_mk (st := s_pull_table) l_pull_table c_pull_table k_pull_table,
    b_pull_table := (fun_mk (st := s_pull_table) l_pull_table c_pull_table k_pull_table).binds (ps := ["web"]) fun _ _ _ _ _ _ us hl => match us, hl with | [_], _ => rfl,
    m_pull_table := PySem.W.mg_of X G n_pull_table,
    k_pull_table := k_pull_table,
    F_tree_count := fun_mk (st := s_tree_count) l_tree_count c_tree_count k_tree_count,
    b_tree_count := (fun_mk (st := s_tree_count) l_tree_count c_tree_count k_tree_count).binds (ps := ["web"]) fun _ _ _ _ _ _ us hl => match us, hl with | [_], _ => rfl,
    m_tree_count := PySem.W.mg_of X G n_tree_count,
    k_tree_count := k_tree_count,
    F_count_with := fun_mk (st := s_count_with) l_count_with c_count_with k_count_with,
    b_count_with := (fun_mk (st := s_count_with) l_count_with c_count_with k_count_with).binds (ps := ["web", "inside", "outside"]) fun _ _ _ _ _ _ us hl => match us, hl with | [_, _, _], _ => rfl,
    m_count_with := PySem.W.mg_of X G n_count_with,
    k_count_with := k_count_with,
    F_is_tree := fun_mk (st := s_is_tree) l_is_tree c_is_tree k_is_tree,
    b_is_tree := (fun_mk (st := s_is_tree) l_is_tree c_is_tree k_is_tree).binds (ps := ["web", "ties"]) fun _ _ _ _ _ _ us hl => match us, hl with | [_, _], _ => rfl,
    m_is_tree := PySem.W.mg_of X G n_is_tree,
    k_is_tree := k_is_tree,
    F_refuse_no_tree := fun_mk (st := s_refuse_no_tree) l_refuse_no_tree c_refuse_no_tree k_refuse_no_tree,
    b_refuse_no_tree := (fun_mk (st := s_refuse_no_tree) l_refuse_no_tree c_refuse_no_tree k_refuse_no_tree).binds (ps := ["web", "tree"]) fun _ _ _ _ _ _ us hl => match us, hl with | [_, _], _ => rfl,
    m_refuse_no_tree := PySem.W.mg_of X G n_refuse_no_tree,
    k_refuse_no_tree := k_refuse_no_tree,
    F_tree_at := fun_mk (st := s_tree_at) l_tree_at c_tree_at k_tree_at,
    b_tree_at := (fun_mk (st := s_tree_at) l_tree_at c_tree_at k_tree_at).binds (ps := ["web", "number"]) fun _ _ _ _ _ _ us hl => match us, hl with | [_, _], _ => rfl,
    m_tree_at := PySem.W.mg_of X G n_tree_at,
    k_tree_at := k_tree_at,
    F_number_of := fun_mk (st := s_number_of) l_number_of c_number_of k_number_of,
    b_number_of := (fun_mk (st := s_number_of) l_number_of c_number_of k_number_of).binds (ps := ["web", "tree"]) fun _ _ _ _ _ _ us hl => match us, hl with | [_, _], _ => rfl,
    m_number_of := PySem.W.mg_of X G n_number_of,
    k_number_of := k_number_of,
    F_next_tree := fun_mk (st := s_next_tree) l_next_tree c_next_tree k_next_tree,
    b_next_tree := (fun_mk (st := s_next_tree) l_next_tree c_next_tree k_next_tree).binds (ps := ["web", "tree"]) fun _ _ _ _ _ _ us hl => match us, hl with | [_, _], _ => rfl,
    m_next_tree := PySem.W.mg_of X G n_next_tree,
    k_next_tree := k_next_tree,
    F_tree_ahead := fun_mk (st := s_tree_ahead) l_tree_ahead c_tree_ahead k_tree_ahead,
    b_tree_ahead := (fun_mk (st := s_tree_ahead) l_tree_ahead c_tree_ahead k_tree_ahead).binds (ps := ["web", "tree"]) fun _ _ _ _ _ _ us hl => match us, hl with | [_, _], _ => rfl,
    m_tree_ahead := PySem.W.mg_of X G n_tree_ahead,
    k_tree_ahead := k_tree_ahead,
    F_heads_behind := fun_mk (st := s_heads_behind) l_heads_behind c_heads_behind k_heads_behind,
    b_heads_behind := (fun_mk (st := s_heads_behind) l_heads_behind c_heads_behind k_heads_behind).binds (ps := ["heads", "one", "other"]) fun _ _ _ _ _ _ us hl => match us, hl with | [_, _, _], _ => rfl,
    m_heads_behind := PySem.W.mg_of X G n_heads_behind,
    k_heads_behind := k_heads_behind,
    F_grown_by := fun_mk (st := s_grown_by) l_grown_by c_grown_by k_grown_by,
    b_grown_by := (fun_mk (st := s_grown_by) l_grown_by c_grown_by k_grown_by).binds (ps := ["web", "inside", "outside", "others"]) fun _ _ _ _ _ _ us hl => match us, hl with | [_, _, _, _], _ => rfl,
    m_grown_by := PySem.W.mg_of X G n_grown_by,
    k_grown_by := k_grown_by,
    F_looked_at_sets := fun_mk (st := s_looked_at_sets) l_looked_at_sets c_looked_at_sets k_looked_at_sets,
    b_looked_at_sets := (fun_mk (st := s_looked_at_sets) l_looked_at_sets c_looked_at_sets k_looked_at_sets).binds (ps := ["web", "inside", "outside"]) fun _ _ _ _ _ _ us hl => match us, hl with | [_, _, _], _ => rfl,
    m_looked_at_sets := PySem.W.mg_of X G n_looked_at_sets,
    k_looked_at_sets := k_looked_at_sets,
    F_least_with := fun_mk (st := s_least_with) l_least_with c_least_with k_least_with,
    b_least_with := (fun_mk (st := s_least_with) l_least_with c_least_with k_least_with).binds (ps := ["web", "inside", "outside"]) fun _ _ _ _ _ _ us hl => match us, hl with | [_, _, _], _ => rfl,
    m_least_with := PySem.W.mg_of X G n_least_with,
    k_least_with := k_least_with,
    F_greatest_with := fun_mk (st := s_greatest_with) l_greatest_with c_greatest_with k_greatest_with,
    b_greatest_with := (fun_mk (st := s_greatest_with) l_greatest_with c_greatest_with k_greatest_with).binds (ps := ["web", "inside", "outside"]) fun _ _ _ _ _ _ us hl => match us, hl with | [_, _, _], _ => rfl,
    m_greatest_with := PySem.W.mg_of X G n_greatest_with,
    k_greatest_with := k_greatest_with,
    F_law_at := fun_mk (st := s_law_at) l_law_at c_law_at k_law_at,
    b_law_at := (fun_mk (st := s_law_at) l_law_at c_law_at k_law_at).binds (ps := ["script", "k"]) fun _ _ _ _ _ _ us hl => match us, hl with | [_, _], _ => rfl,
    m_law_at := PySem.W.mg_of X G n_law_at,
    k_law_at := k_law_at,
    F_law_stir := fun_mk (st := s_law_stir) l_law_stir c_law_stir k_law_stir,
    b_law_stir := (fun_mk (st := s_law_stir) l_law_stir c_law_stir k_law_stir).binds (ps := ["cell", "k"]) fun _ _ _ _ _ _ us hl => match us, hl with | [_, _], _ => rfl,
    m_law_stir := PySem.W.mg_of X G n_law_stir,
    k_law_stir := k_law_stir,
    F_law_numbers_v3 := fun_mk (st := s_law_numbers_v3) l_law_numbers_v3 c_law_numbers_v3 k_law_numbers_v3,
    b_law_numbers_v3 := (fun_mk (st := s_law_numbers_v3) l_law_numbers_v3 c_law_numbers_v3 k_law_numbers_v3).binds (ps := ["script", "start", "most"]) fun _ _ _ _ _ _ us hl => match us, hl with | [_, _, _], _ => rfl,
    m_law_numbers_v3 := PySem.W.mg_of X G n_law_numbers_v3,
    k_law_numbers_v3 := k_law_numbers_v3,
    F_law_digits := fun_mk (st := s_law_digits) l_law_digits c_law_digits k_law_digits,
    b_law_digits := (fun_mk (st := s_law_digits) l_law_digits c_law_digits k_law_digits).binds (ps := ["cell", "most_places", "most_ties"]) fun _ _ _ _ _ _ us hl => match us, hl with | [_, _, _], _ => rfl,
    m_law_digits := PySem.W.mg_of X G n_law_digits,
    k_law_digits := k_law_digits,
    F_law_web_v3 := fun_mk (st := s_law_web_v3) l_law_web_v3 c_law_web_v3 k_law_web_v3,
    b_law_web_v3 := (fun_mk (st := s_law_web_v3) l_law_web_v3 c_law_web_v3 k_law_web_v3).binds (ps := ["script", "most_places", "most_ties"]) fun _ _ _ _ _ _ us hl => match us, hl with | [_, _, _], _ => rfl,
    m_law_web_v3 := PySem.W.mg_of X G n_law_web_v3,
    k_law_web_v3 := k_law_web_v3,
    F_law_trees_v3 := fun_mk (st := s_law_trees_v3) l_law_trees_v3 c_law_trees_v3 k_law_trees_v3,
    b_law_trees_v3 := (fun_mk (st := s_law_trees_v3) l_law_trees_v3 c_law_trees_v3 k_law_trees_v3).binds (ps := ["places", "ties"]) fun _ _ _ _ _ _ us hl => match us, hl with | [_, _], _ => rfl,
    m_law_trees_v3 := PySem.W.mg_of X G n_law_trees_v3,
    k_law_trees_v3 := k_law_trees_v3,
    F_law_spoilt_v4 := fun_mk (st := s_law_spoilt_v4) l_law_spoilt_v4 c_law_spoilt_v4 k_law_spoilt_v4,
    b_law_spoilt_v4 := (fun_mk (st := s_law_spoilt_v4) l_law_spoilt_v4 c_law_spoilt_v4 k_law_spoilt_v4).binds (ps := ["tree", "cell", "count"]) fun _ _ _ _ _ _ us hl => match us, hl with | [_, _, _], _ => rfl,
    m_law_spoilt_v4 := PySem.W.mg_of X G n_law_spoilt_v4,
    k_law_spoilt_v4 := k_law_spoilt_v4,
    F_law_no_set_v2 := fun_mk (st := s_law_no_set_v2) l_law_no_set_v2 c_law_no_set_v2 k_law_no_set_v2,
    b_law_no_set_v2 := (fun_mk (st := s_law_no_set_v2) l_law_no_set_v2 c_law_no_set_v2 k_law_no_set_v2).binds (ps := ["cell", "count"]) fun _ _ _ _ _ _ us hl => match us, hl with | [_, _], _ => rfl,
    m_law_no_set_v2 := PySem.W.mg_of X G n_law_no_set_v2,
    k_law_no_set_v2 := k_law_no_set_v2,
    F_law_told_v8 := fun_mk (st := s_law_told_v8) l_law_told_v8 c_law_told_v8 k_law_told_v8,
    b_law_told_v8 := (fun_mk (st := s_law_told_v8) l_law_told_v8 c_law_told_v8 k_law_told_v8).binds (ps := ["deed", "web", "one", "other"]) fun _ _ _ _ _ _ us hl => match us, hl with | [_, _, _, _], _ => rfl,
    m_law_told_v8 := PySem.W.mg_of X G n_law_told_v8,
    k_law_told_v8 := k_law_told_v8,
    F_law_k34 := fun_mk (st := s_law_k34) l_law_k34 c_law_k34 k_law_k34,
    b_law_k34 := (fun_mk (st := s_law_k34) l_law_k34 c_law_k34 k_law_k34).binds (ps := ["script"]) fun _ _ _ _ _ _ us hl => match us, hl with | [_], _ => rfl,
    m_law_k34 := PySem.W.mg_of X G n_law_k34,
    k_law_k34 := k_law_k34,
    v_MOST_PLACES := PySem.W.mg_of X G v_MOST_PLACES,
    v_MOST_TIES := PySem.W.mg_of X G v_MOST_TIES,
    z_ValueError := PySem.W.mg_none_of X G z_ValueError,
    z_any := PySem.W.mg_none_of X G z_any,
    z_enumerate := PySem.W.mg_none_of X G z_enumerate,
    z_int := PySem.W.mg_none_of X G z_int,
    z_isinstance := PySem.W.mg_none_of X G z_isinstance,
    z_len := PySem.W.mg_none_of X G z_len,
    z_list := PySem.W.mg_none_of X G z_list,
    z_max := PySem.W.mg_none_of X G z_max,
    z_min := PySem.W.mg_none_of X G z_min,
    z_range := PySem.W.mg_none_of X G z_range,
    z_reversed := PySem.W.mg_none_of X G z_reversed,
    z_set := PySem.W.mg_none_of X G z_set,
    z_sorted := PySem.W.mg_none_of X G z_sorted,
    z_tuple := PySem.W.mg_none_of X G z_tuple }, PySem.W.mg_of X G n_law_k34, fun s v => .of_eq rfl⟩
def spLaw (K : PySem.W.Frag) : Sp := fun vs H Q _ => ∃ (a : Addr) (ns : List Int), vs = [.ref a] ∧ SqL K H a (ns.map V.int) ∧ ns.length ≤ 63 ∧ ∀ v H', v = .bl true → Q v H'
set_option maxHeartbeats 8000000 in
theorem law_ok (T : Tx K mg) : FnOk P w K mg base (L2N.CX P w) 7 T.a_law_k34 T.d_law_k34 ["script"] (spLaw K) := by
  have G_look_at_table := ok_look_at_table (P := P) (w := w) (base := base) T
  have G_first_row_with := ok_first_row_with (P := P) (w := w) (base := base) T
  have G_cleared := ok_cleared (P := P) (w := w) (base := base) T
  have G_determinant := ok_determinant (P := P) (w := w) (base := base) T G_look_at_table G_first_row_with G_cleared
  have G_Web_init := ok_Web_init (P := P) (w := w) (base := base) T
  have G_made_set := ok_made_set (P := P) (w := w) (base := base) T
  have G_marks_over := ok_marks_over (P := P) (w := w) (base := base) T
  have G_pieces_of := ok_pieces_of (P := P) (w := w) (base := base) T G_marks_over G_made_set
  have G_pulls := ok_pulls (P := P) (w := w) (base := base) T
  have G_without_last := ok_without_last (P := P) (w := w) (base := base) T
  have G_pull_table := ok_pull_table (P := P) (w := w) (base := base) T G_pulls
  have G_tree_count := ok_tree_count (P := P) (w := w) (base := base) T G_determinant G_without_last G_pull_table
  have G_count_with := ok_count_with (P := P) (w := w) (base := base) T G_made_set G_pieces_of G_determinant G_without_last G_pulls
  have G_is_tree := ok_is_tree (P := P) (w := w) (base := base) T G_marks_over
  have G_refuse_no_tree := ok_refuse_no_tree (P := P) (w := w) (base := base) T G_is_tree
  have G_tree_at := ok_tree_at (P := P) (w := w) (base := base) T G_tree_count G_count_with
  have G_number_of := ok_number_of (P := P) (w := w) (base := base) T G_refuse_no_tree G_count_with
  have G_next_tree := ok_next_tree (P := P) (w := w) (base := base) T G_number_of G_tree_count G_tree_at
  have G_tree_ahead := ok_tree_ahead (P := P) (w := w) (base := base) T G_number_of G_tree_at
  have G_heads_behind := ok_heads_behind (P := P) (w := w) (base := base) T
  have G_grown_by := ok_grown_by (P := P) (w := w) (base := base) T G_heads_behind
  have G_looked_at_sets := ok_looked_at_sets (P := P) (w := w) (base := base) T G_made_set
  have G_least_with := ok_least_with (P := P) (w := w) (base := base) T G_looked_at_sets G_grown_by
  have G_greatest_with := ok_greatest_with (P := P) (w := w) (base := base) T G_looked_at_sets G_grown_by
  have G_law_at := ok_law_at (P := P) (w := w) (base := base) T
  have G_law_stir := ok_law_stir (P := P) (w := w) (base := base) T
  have G_law_numbers_v3 := ok_law_numbers_v3 (P := P) (w := w) (base := base) T
  have G_law_digits := ok_law_digits (P := P) (w := w) (base := base) T G_law_stir
  have G_law_web_v3 := ok_law_web_v3 (P := P) (w := w) (base := base) T G_law_at G_law_digits G_law_numbers_v3 G_law_stir
  have G_law_trees_v3 := ok_law_trees_v3 (P := P) (w := w) (base := base) T
  have G_law_spoilt_v4 := ok_law_spoilt_v4 (P := P) (w := w) (base := base) T G_law_stir
  have G_law_no_set_v2 := ok_law_no_set_v2 (P := P) (w := w) (base := base) T G_law_stir
  have G_law_told_v8 := ok_law_told_v8 (P := P) (w := w) (base := base) T G_number_of G_next_tree G_tree_ahead G_least_with G_greatest_with
  have G_law_k34 := ok_law_k34 (P := P) (w := w) (base := base) T G_law_web_v3 G_Web_init G_law_trees_v3 G_law_spoilt_v4 G_law_told_v8 G_law_no_set_v2 G_law_stir
  refine G_law_k34.imp fun vs H Q E q => ?_
  obtain ⟨a, ns, rfl, hS, hl, k⟩ := q
  have e := law_sp (K := K) (cls := T.cls) (g := g_law_k34) (H := H) (true_law_k34 ns hl) hS
  obtain ⟨F, ds, h1, h2, h3, h4⟩ := e
  refine ⟨F, ds, h1, h2, h3, ?_⟩
  cases eg : g_law_k34 ds with
  | ok d => rw [eg] at h4; exact fun v F' H' O' x y z => k v H' (h4 v F' H' O' x y z)
  | xc c => rw [eg] at h4; exact fun F' H' x => (h4 F' H' x).elim
  | bad => rw [eg] at h4; exact h4.elim
end
theorem walk {l : PySem.W.OpenLaw} {q : Program} {loose : List Str} {XP : (Str → Option Value) → Heap → Prop} {YP : World → Heap → Prop} {d : DefRec} {K : Params → PySem.W.Frag} (hn : l.most = some 63) (hdf : d.params.defaults = []) (hname : d.name = "law")
    (hY : ∀ (w : World) (h : Heap), YP w h → (K w.params).In h)
    (F : ∀ (w : World) (mg : Str → Option Value) (h : Heap), (K w.params).In h → h.Ns mainGlobals mg → ∃ T : Tx (K w.params) mg, mg "law" = some (.ref T.a_law_k34) ∧ ∀ (s : Shared) (v : Value), BindsTo s T.d_law_k34 ⟨[v], []⟩ [("script", v)]) :
    PySem.W.WalkO q loose XP YP l.row.toRowW d [] (fun f vs => PySem.call f vs) :=
  L2.walk_of (n := 63) (k := 7) (x := "script") (CX := fun w => L2N.CX l.prog w) (sp := fun w => spLaw (K w.params)) hn (by decide) hdf ⟨rfl, by decide, by decide⟩ hY (fun w mg fa h KX G hmg => by
    obtain ⟨T, h1, h2⟩ := F w mg h KX G
    rw [hname, h1] at hmg
    cases hmg
    exact ⟨T.d_law_k34, h2, fun base _ _ => law_ok T⟩) (fun _ _ a ns hl _ hS => ⟨a, ns, rfl, hS, hl, fun _ _ h => h⟩) fun _ _ _ _ _ z => law_cx z
end Lw
open PySem PySem.W PyProof.Rows in
set_option maxRecDepth 100000 in
set_option maxHeartbeats 0 in
theorem PySem.Challenge.cw_spanrow_k34_no_trees_no_sets_holds : PySem.Challenge.rw_spanrow_k34_no_trees_no_sets.Holds := by
  w_on; o_law; k_head; (case hw => w_witness2)
  k_fill
  refine Lw.walk (l := PySem.Challenge.rw_spanrow_k34_no_trees_no_sets) rfl rfl rfl (fun w h Y => PySem.W.kIn_of Y) ?F
  case F =>
    intro w mg h KX G
    refine' Lw.all_mk KX G ?a_WebError ?x_WebError ?kx_WebError ?bx_WebError ?tx_WebError ?a_BadWeb ?x_BadWeb ?kx_BadWeb ?bx_BadWeb ?tx_BadWeb ?a_BadSet ?x_BadSet ?kx_BadSet ?bx_BadSet ?tx_BadSet ?a_NoTree ?x_NoTree ?kx_NoTree ?bx_NoTree ?tx_NoTree ?a_NoSuch ?x_NoSuch ?kx_NoSuch ?bx_NoSuch ?tx_NoSuch ?a_NotSquare ?x_NotSquare ?kx_NotSquare ?bx_NotSquare ?tx_NotSquare ?su_BadWeb_WebError ?su_BadSet_WebError ?su_NoTree_WebError ?su_NoSuch_WebError ?su_NotSquare_WebError ?hd_WebError ?e6 ?e7 ?e0_BadWeb ?e1_BadWeb ?e3_BadWeb ?e4_BadWeb ?e7_BadWeb ?e0_BadSet ?e1_BadSet ?e3_BadSet ?e4_BadSet ?e7_BadSet ?e0_NoTree ?e1_NoTree ?e3_NoTree ?e4_NoTree ?e7_NoTree ?e0_NoSuch ?e1_NoSuch ?e3_NoSuch ?e4_NoSuch ?e7_NoSuch ?e0_NotSquare ?e1_NotSquare ?e3_NotSquare ?e4_NotSquare ?e7_NotSquare ?is_BadWeb_NoTree ?is_BadSet_NoTree ?is_NoTree_NoTree ?is_NoSuch_NoTree ?is_NotSquare_NoTree ?is_BadWeb_BadSet ?is_BadSet_BadSet ?is_NoTree_BadSet ?is_NoSuch_BadSet ?is_NotSquare_BadSet ?is_BadWeb_ValueError ?is_BadSet_ValueError ?is_NoTree_ValueError ?is_NoSuch_ValueError ?is_NotSquare_ValueError ?a_Web ?pg_Web ?hd_Web ?po_Web ?sa_Web ?mk_Web ?kc_Web ?na_Web_places ?na_Web_ties ?n_look_at_table ?l_look_at_table ?c_look_at_table ?k_look_at_table ?n_first_row_with ?l_first_row_with ?c_first_row_with ?k_first_row_with ?n_cleared ?l_cleared ?c_cleared ?k_cleared ?n_determinant ?l_determinant ?c_determinant ?k_determinant ?n_Web_init ?i_Web_init ?l_Web_init ?c_Web_init ?k_Web_init ?n_made_set ?l_made_set ?c_made_set ?k_made_set ?n_marks_over ?l_marks_over ?c_marks_over ?k_marks_over ?n_pieces_of ?l_pieces_of ?c_pieces_of ?k_pieces_of ?n_pulls ?l_pulls ?c_pulls ?k_pulls ?n_without_last ?l_without_last ?c_without_last ?k_without_last ?n_pull_table ?l_pull_table ?c_pull_table ?k_pull_table ?n_tree_count ?l_tree_count ?c_tree_count ?k_tree_count ?n_count_with ?l_count_with ?c_count_with ?k_count_with ?n_is_tree ?l_is_tree ?c_is_tree ?k_is_tree ?n_refuse_no_tree ?l_refuse_no_tree ?c_refuse_no_tree ?k_refuse_no_tree ?n_tree_at ?l_tree_at ?c_tree_at ?k_tree_at ?n_number_of ?l_number_of ?c_number_of ?k_number_of ?n_next_tree ?l_next_tree ?c_next_tree ?k_next_tree ?n_tree_ahead ?l_tree_ahead ?c_tree_ahead ?k_tree_ahead ?n_heads_behind ?l_heads_behind ?c_heads_behind ?k_heads_behind ?n_grown_by ?l_grown_by ?c_grown_by ?k_grown_by ?n_looked_at_sets ?l_looked_at_sets ?c_looked_at_sets ?k_looked_at_sets ?n_least_with ?l_least_with ?c_least_with ?k_least_with ?n_greatest_with ?l_greatest_with ?c_greatest_with ?k_greatest_with ?n_law_at ?l_law_at ?c_law_at ?k_law_at ?n_law_stir ?l_law_stir ?c_law_stir ?k_law_stir ?n_law_numbers_v3 ?l_law_numbers_v3 ?c_law_numbers_v3 ?k_law_numbers_v3 ?n_law_digits ?l_law_digits ?c_law_digits ?k_law_digits ?n_law_web_v3 ?l_law_web_v3 ?c_law_web_v3 ?k_law_web_v3 ?n_law_trees_v3 ?l_law_trees_v3 ?c_law_trees_v3 ?k_law_trees_v3 ?n_law_spoilt_v4 ?l_law_spoilt_v4 ?c_law_spoilt_v4 ?k_law_spoilt_v4 ?n_law_no_set_v2 ?l_law_no_set_v2 ?c_law_no_set_v2 ?k_law_no_set_v2 ?n_law_told_v8 ?l_law_told_v8 ?c_law_told_v8 ?k_law_told_v8 ?n_law_k34 ?l_law_k34 ?c_law_k34 ?k_law_k34 ?v_MOST_PLACES ?v_MOST_TIES ?z_ValueError ?z_any ?z_enumerate ?z_int ?z_isinstance ?z_len ?z_list ?z_max ?z_min ?z_range ?z_reversed ?z_set ?z_sorted ?z_tuple
    (case a_WebError => k_is)
    (case x_WebError => k_exc)
    (case kx_WebError => k_is)
    (case bx_WebError => k_is)
    (case tx_WebError => k_is)
    (case a_BadWeb => k_is)
    (case x_BadWeb => k_exc)
    (case kx_BadWeb => k_is)
    (case bx_BadWeb => k_is)
    (case tx_BadWeb => k_is)
    (case a_BadSet => k_is)
    (case x_BadSet => k_exc)
    (case kx_BadSet => k_is)
    (case bx_BadSet => k_is)
    (case tx_BadSet => k_is)
    (case a_NoTree => k_is)
    (case x_NoTree => k_exc)
    (case kx_NoTree => k_is)
    (case bx_NoTree => k_is)
    (case tx_NoTree => k_is)
    (case a_NoSuch => k_is)
    (case x_NoSuch => k_exc)
    (case kx_NoSuch => k_is)
    (case bx_NoSuch => k_is)
    (case tx_NoSuch => k_is)
    (case a_NotSquare => k_is)
    (case x_NotSquare => k_exc)
    (case kx_NotSquare => k_is)
    (case bx_NotSquare => k_is)
    (case tx_NotSquare => k_is)
    (case su_BadWeb_WebError => k_is)
    (case su_BadSet_WebError => k_is)
    (case su_NoTree_WebError => k_is)
    (case su_NoSuch_WebError => k_is)
    (case su_NotSquare_WebError => k_is)
    (case hd_WebError => k_is)
    (case e6 => k_is)
    (case e7 => k_is)
    (case e0_BadWeb => k_is)
    (case e1_BadWeb => k_is)
    (case e3_BadWeb => k_is)
    (case e4_BadWeb => k_is)
    (case e7_BadWeb => k_is)
    (case e0_BadSet => k_is)
    (case e1_BadSet => k_is)
    (case e3_BadSet => k_is)
    (case e4_BadSet => k_is)
    (case e7_BadSet => k_is)
    (case e0_NoTree => k_is)
    (case e1_NoTree => k_is)
    (case e3_NoTree => k_is)
    (case e4_NoTree => k_is)
    (case e7_NoTree => k_is)
    (case e0_NoSuch => k_is)
    (case e1_NoSuch => k_is)
    (case e3_NoSuch => k_is)
    (case e4_NoSuch => k_is)
    (case e7_NoSuch => k_is)
    (case e0_NotSquare => k_is)
    (case e1_NotSquare => k_is)
    (case e3_NotSquare => k_is)
    (case e4_NotSquare => k_is)
    (case e7_NotSquare => k_is)
    (case is_BadWeb_NoTree => kit_is)
    (case is_BadSet_NoTree => kit_is)
    (case is_NoTree_NoTree => kit_is)
    (case is_NoSuch_NoTree => kit_is)
    (case is_NotSquare_NoTree => kit_is)
    (case is_BadWeb_BadSet => kit_is)
    (case is_BadSet_BadSet => kit_is)
    (case is_NoTree_BadSet => kit_is)
    (case is_NoSuch_BadSet => kit_is)
    (case is_NotSquare_BadSet => kit_is)
    (case is_BadWeb_ValueError => kit_is)
    (case is_BadSet_ValueError => kit_is)
    (case is_NoTree_ValueError => kit_is)
    (case is_NoSuch_ValueError => kit_is)
    (case is_NotSquare_ValueError => kit_is)
    (case a_Web => k_is)
    (case pg_Web => k_is)
    (case hd_Web => k_is)
    (case po_Web => k_is)
    (case sa_Web => k_is)
    (case mk_Web => k_is)
    (case kc_Web => k_is)
    (case na_Web_places => k_is)
    (case na_Web_ties => k_is)
    (case n_look_at_table => k_is)
    (case l_look_at_table => k_is)
    (case c_look_at_table => k_is)
    (case k_look_at_table => k_is)
    (case n_first_row_with => k_is)
    (case l_first_row_with => k_is)
    (case c_first_row_with => k_is)
    (case k_first_row_with => k_is)
    (case n_cleared => k_is)
    (case l_cleared => k_is)
    (case c_cleared => k_is)
    (case k_cleared => k_is)
    (case n_determinant => k_is)
    (case l_determinant => k_is)
    (case c_determinant => k_is)
    (case k_determinant => k_is)
    (case n_Web_init => k_is)
    (case i_Web_init => k_is)
    (case l_Web_init => k_is)
    (case c_Web_init => k_is)
    (case k_Web_init => k_is)
    (case n_made_set => k_is)
    (case l_made_set => k_is)
    (case c_made_set => k_is)
    (case k_made_set => k_is)
    (case n_marks_over => k_is)
    (case l_marks_over => k_is)
    (case c_marks_over => k_is)
    (case k_marks_over => k_is)
    (case n_pieces_of => k_is)
    (case l_pieces_of => k_is)
    (case c_pieces_of => k_is)
    (case k_pieces_of => k_is)
    (case n_pulls => k_is)
    (case l_pulls => k_is)
    (case c_pulls => k_is)
    (case k_pulls => k_is)
    (case n_without_last => k_is)
    (case l_without_last => k_is)
    (case c_without_last => k_is)
    (case k_without_last => k_is)
    (case n_pull_table => k_is)
    (case l_pull_table => k_is)
    (case c_pull_table => k_is)
    (case k_pull_table => k_is)
    (case n_tree_count => k_is)
    (case l_tree_count => k_is)
    (case c_tree_count => k_is)
    (case k_tree_count => k_is)
    (case n_count_with => k_is)
    (case l_count_with => k_is)
    (case c_count_with => k_is)
    (case k_count_with => k_is)
    (case n_is_tree => k_is)
    (case l_is_tree => k_is)
    (case c_is_tree => k_is)
    (case k_is_tree => k_is)
    (case n_refuse_no_tree => k_is)
    (case l_refuse_no_tree => k_is)
    (case c_refuse_no_tree => k_is)
    (case k_refuse_no_tree => k_is)
    (case n_tree_at => k_is)
    (case l_tree_at => k_is)
    (case c_tree_at => k_is)
    (case k_tree_at => k_is)
    (case n_number_of => k_is)
    (case l_number_of => k_is)
    (case c_number_of => k_is)
    (case k_number_of => k_is)
    (case n_next_tree => k_is)
    (case l_next_tree => k_is)
    (case c_next_tree => k_is)
    (case k_next_tree => k_is)
    (case n_tree_ahead => k_is)
    (case l_tree_ahead => k_is)
    (case c_tree_ahead => k_is)
    (case k_tree_ahead => k_is)
    (case n_heads_behind => k_is)
    (case l_heads_behind => k_is)
    (case c_heads_behind => k_is)
    (case k_heads_behind => k_is)
    (case n_grown_by => k_is)
    (case l_grown_by => k_is)
    (case c_grown_by => k_is)
    (case k_grown_by => k_is)
    (case n_looked_at_sets => k_is)
    (case l_looked_at_sets => k_is)
    (case c_looked_at_sets => k_is)
    (case k_looked_at_sets => k_is)
    (case n_least_with => k_is)
    (case l_least_with => k_is)
    (case c_least_with => k_is)
    (case k_least_with => k_is)
    (case n_greatest_with => k_is)
    (case l_greatest_with => k_is)
    (case c_greatest_with => k_is)
    (case k_greatest_with => k_is)
    (case n_law_at => k_is)
    (case l_law_at => k_is)
    (case c_law_at => k_is)
    (case k_law_at => k_is)
    (case n_law_stir => k_is)
    (case l_law_stir => k_is)
    (case c_law_stir => k_is)
    (case k_law_stir => k_is)
    (case n_law_numbers_v3 => k_is)
    (case l_law_numbers_v3 => k_is)
    (case c_law_numbers_v3 => k_is)
    (case k_law_numbers_v3 => k_is)
    (case n_law_digits => k_is)
    (case l_law_digits => k_is)
    (case c_law_digits => k_is)
    (case k_law_digits => k_is)
    (case n_law_web_v3 => k_is)
    (case l_law_web_v3 => k_is)
    (case c_law_web_v3 => k_is)
    (case k_law_web_v3 => k_is)
    (case n_law_trees_v3 => k_is)
    (case l_law_trees_v3 => k_is)
    (case c_law_trees_v3 => k_is)
    (case k_law_trees_v3 => k_is)
    (case n_law_spoilt_v4 => k_is)
    (case l_law_spoilt_v4 => k_is)
    (case c_law_spoilt_v4 => k_is)
    (case k_law_spoilt_v4 => k_is)
    (case n_law_no_set_v2 => k_is)
    (case l_law_no_set_v2 => k_is)
    (case c_law_no_set_v2 => k_is)
    (case k_law_no_set_v2 => k_is)
    (case n_law_told_v8 => k_is)
    (case l_law_told_v8 => k_is)
    (case c_law_told_v8 => k_is)
    (case k_law_told_v8 => k_is)
    (case n_law_k34 => k_is)
    (case l_law_k34 => k_is)
    (case c_law_k34 => k_is)
    (case k_law_k34 => k_is)
    (case v_MOST_PLACES => k_is)
    (case v_MOST_TIES => k_is)
    (case z_ValueError => k_is)
    (case z_any => k_is)
    (case z_enumerate => k_is)
    (case z_int => k_is)
    (case z_isinstance => k_is)
    (case z_len => k_is)
    (case z_list => k_is)
    (case z_max => k_is)
    (case z_min => k_is)
    (case z_range => k_is)
    (case z_reversed => k_is)
    (case z_set => k_is)
    (case z_sorted => k_is)
    (case z_tuple => k_is)
