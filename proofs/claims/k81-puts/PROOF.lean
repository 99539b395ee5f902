import PyProof.Rows.All
import Wide.All
import OpenK.AllK
import Wide.FinOn
import HandS.ForMost
import HandS.Walk
import HandS.Zip
import HandS.TupAny
import HandS.TupMul
import HandS.IsInst
import HandS.Deep
import HandS.Exc
import HandS.ExcOwn
import HandS.TryOnly
import HandS.WordsExc
import HandS.Small
import HandS.SetFor
import KE.GoesMore
import HandS.ExcIs
import KE.SortData
import HandS.SortRule
import PySem.Challenge.RW_squarehouse_k81_whole_puts_that_are_safe
set_option Elab.async false
set_option linter.all false
set_option maxRecDepth 100000
set_option maxHeartbeats 4000000
/-! Dn1: plain data for values (Rp), the relation of a frame to a plain environment (StR), what a step leaves (Ext). -/
namespace Dn
open PySem PySem.Spec PyProof.Rows L2
abbrev D := PyData
mutual
inductive Rp (K : PySem.W.Frag) (F : Hp) : V → D → Prop
  | non : Rp K F .non .none
  | bl (b : Bool) : Rp K F (.bl b) (.bool b)
  | int (i : Int) : Rp K F (.int i) (.int i)
  | str (x : Str) : Rp K F (.str x) (.str x)
  | lst {a : Addr} {xs : List V} {ds : List D} : F a = some (.lst xs) → xs.length ≤ sizeLine → Rps K F xs ds → Rp K F (.ref a) (.list ds)
  | tup {a : Addr} {xs : List V} {ds : List D} : SqT K F a xs → xs.length ≤ sizeLine → Rps K F xs ds → Rp K F (.ref a) (.tuple ds)
  /-- a dict of which nothing is asked but that it is one -/
  | dct {a : Addr} {kvs : List (Key × V)} {es : List (D × D)} : F a = some (.dK kvs) → Rp K F (.ref a) (.dict es)
inductive Rps (K : PySem.W.Frag) (F : Hp) : List V → List D → Prop
  | nil : Rps K F [] []
  | cons {v : V} {vs : List V} {d : D} {ds : List D} : Rp K F v d → Rps K F vs ds → Rps K F (v :: vs) (d :: ds)
end
theorem sameT {K : PySem.W.Frag} {H H' : Hp} {a : Addr} {xs : List V} (e : Same H H') (h : SqT K H a xs) : SqT K H' a xs := by
  rcases h with (h | ⟨o, h⟩) | h
  · exact .inl (.inl (e _ _ h))
  · exact .inl (.inr ⟨o, e _ _ h⟩)
  · exact .inr h
mutual
theorem Rp.mono {K : PySem.W.Frag} {F F' : Hp} (hs : Same F F') : ∀ {v : V} {d : D}, Rp K F v d → Rp K F' v d
  | _, _, .non => .non
  | _, _, .bl b => .bl b
  | _, _, .int i => .int i
  | _, _, .str x => .str x
  | _, _, .lst h l r => .lst (hs _ _ h) l (Rps.mono hs r)
  | _, _, .tup h l r => .tup (sameT hs h) l (Rps.mono hs r)
  | _, _, .dct h => .dct (hs _ _ h)
theorem Rps.mono {K : PySem.W.Frag} {F F' : Hp} (hs : Same F F') : ∀ {vs : List V} {ds : List D}, Rps K F vs ds → Rps K F' vs ds
  | _, _, .nil => .nil
  | _, _, .cons h r => .cons (Rp.mono hs h) (Rps.mono hs r)
end
section
variable {K : PySem.W.Frag} {F : Hp}
theorem Rps.length : ∀ {vs : List V} {ds : List D}, Rps K F vs ds → vs.length = ds.length
  | _, _, .nil => rfl
  | _, _, .cons _ r => congrArg (· + 1) (Rps.length r)
theorem Rps.get : ∀ {vs : List V} {ds : List D} {i : Nat} {v : V}, Rps K F vs ds → vs[i]? = some v → ∃ d, ds[i]? = some d ∧ Rp K F v d
  | _, _, _, _, .nil, e => by simp at e
  | _, _, 0, _, .cons h _, e => by simp at e; subst e; exact ⟨_, rfl, h⟩
  | _, _, i + 1, _, .cons _ r, e => by
    obtain ⟨d, h1, h2⟩ := Rps.get (i := i) r (by simpa using e)
    exact ⟨d, by simpa using h1, h2⟩
theorem Rps.getD : ∀ {vs : List V} {ds : List D} {i : Nat} {d : D}, Rps K F vs ds → ds[i]? = some d → ∃ v, vs[i]? = some v ∧ Rp K F v d
  | _, _, _, _, .nil, e => by simp at e
  | _, _, 0, _, .cons h _, e => by simp at e; subst e; exact ⟨_, rfl, h⟩
  | _, _, i + 1, _, .cons _ r, e => by
    obtain ⟨d, h1, h2⟩ := Rps.getD (i := i) r (by simpa using e)
    exact ⟨d, by simpa using h1, h2⟩
theorem Rps.append : ∀ {vs ws : List V} {ds es : List D}, Rps K F vs ds → Rps K F ws es → Rps K F (vs ++ ws) (ds ++ es)
  | _, _, _, _, .nil, h => h
  | _, _, _, _, .cons a r, h => .cons a (Rps.append r h)
theorem Rps.one {v : V} {d : D} (h : Rp K F v d) : Rps K F [v] [d] := .cons h .nil
theorem Rps.take : ∀ {vs : List V} {ds : List D} (n : Nat), Rps K F vs ds → Rps K F (vs.take n) (ds.take n)
  | _, _, 0, _ => by simpa using Rps.nil
  | _, _, n + 1, .nil => by simpa using Rps.nil
  | _, _, n + 1, .cons a r => by simpa using Rps.cons a (Rps.take n r)
theorem Rps.drop : ∀ {vs : List V} {ds : List D} (n : Nat), Rps K F vs ds → Rps K F (vs.drop n) (ds.drop n)
  | _, _, 0, h => by simpa using h
  | _, _, n + 1, .nil => by simpa using Rps.nil
  | _, _, n + 1, .cons a r => by simpa using Rps.drop n r
theorem Rps.rep {vs : List V} {ds : List D} (h : Rps K F vs ds) : ∀ k : Nat, Rps K F (List.replicate k vs).flatten (List.replicate k ds).flatten
  | 0 => .nil
  | k + 1 => by
    rw [List.replicate_succ, List.replicate_succ, List.flatten_cons, List.flatten_cons]
    exact h.append (Rps.rep h k)
theorem Rps.dropLast : ∀ {vs : List V} {ds : List D}, Rps K F vs ds → Rps K F vs.dropLast ds.dropLast
  | _, _, .nil => .nil
  | _, _, .cons _ .nil => .nil
  | _, _, .cons a (.cons b r) => by
    rw [List.dropLast_cons₂, List.dropLast_cons₂]
    exact .cons a (Rps.dropLast (.cons b r))
theorem Rps.set {v : V} {d : D} (h : Rp K F v d) : ∀ {vs : List V} {ds : List D} (i : Nat), Rps K F vs ds → Rps K F (vs.set i v) (ds.set i d)
  | _, _, _, .nil => .nil
  | _, _, 0, .cons _ r => .cons h r
  | _, _, i + 1, .cons a r => .cons a (Rps.set h i r)
theorem Rps.isEmpty {vs : List V} {ds : List D} (h : Rps K F vs ds) : vs.isEmpty = ds.isEmpty := by
  cases h <;> rfl
end
/-! the kit's own description of data -/
mutual
theorem Rp.dp {K : PySem.W.Frag} {F H : Hp} (e : Same F H) : ∀ {v : V} {d : D}, d.canLay0 = true → Rp K F v d → Dp K H v d
  | _, _, _, .non => .non
  | _, _, _, .bl b => .bl b
  | _, _, _, .int i => .int i
  | _, _, _, .str x => .str x
  | _, _, c, .lst h _ r => .lst (SqL.of (e _ _ h)) (Rps.dp e (by simpa [PyData.canLay0] using c) r)
  | _, _, c, .tup h _ r => .tup (sameT e h) (Rps.dp e (by simpa [PyData.canLay0] using c) r)
  | _, _, c, .dct _ => by simp [PyData.canLay0] at c
theorem Rps.dp {K : PySem.W.Frag} {F H : Hp} (e : Same F H) : ∀ {vs : List V} {ds : List D}, PyData.canLayAll0 ds = true → Rps K F vs ds → DpAll K H vs ds
  | _, _, _, .nil => .nil
  | _, _, c, .cons h r => by
    simp only [PyData.canLayAll0, Bool.and_eq_true] at c
    exact .cons (Rp.dp e c.1 h) (Rps.dp e c.2 r)
end

/-! ### the hand: the one object that every draw changes -/
def HandAt (F H : Hp) (h : Addr) : Prop := F h = none ∧ ∃ (c : Addr) (p l x n : Int) (cs : List Int), H h = some (.lst [.ref c, .int p, .int l, .int x, .int n]) ∧ F c = some (.lst (cs.map V.int)) ∧
  cs.length ≤ 63 ∧ (∀ i ∈ cs, 0 ≤ i) ∧ 0 ≤ p ∧ 0 ≤ l ∧ 0 ≤ x ∧ 0 ≤ n
def WdOk (W : Option Addr) (F H : Hp) : Prop := ∀ h, W = some h → HandAt F H h
/-- what an expression, a call leaves -/
structure Ext (W : Option Addr) (F H F' H' : Hp) : Prop where
  f : Same F F'
  u : Same F' H'
  w : WdOk W F' H'
  keep : ∀ a o, H a = some o → W ≠ some a → H' a = some o
  opn : ∀ a o, H a = some o → F a = none → F' a = none
section
variable {W : Option Addr} {F H F1 H1 F2 H2 : Hp}
theorem Ext.refl (u : Same F H) (w : WdOk W F H) : Ext W F H F H := ⟨Same.refl _, u, w, fun _ _ h _ => h, fun _ _ _ h => h⟩
theorem Ext.trans (a : Ext W F H F1 H1) (b : Ext W F1 H1 F2 H2) : Ext W F H F2 H2 := by
  refine ⟨a.f.trans b.f, b.u, b.w, fun x o h n => b.keep x o (a.keep x o h n) n, fun x o h n => ?_⟩
  by_cases q : W = some x
  · exact (b.w x q).1
  · exact b.opn x o (a.keep x o h q) (a.opn x o h n)
theorem Ext.new {p : Addr} {o : HO} (u : Same F H) (w : WdOk W F H) (h : H p = none) : Ext W F H (upd F p o) (upd H p o) := by
  have fp : F p = none := u.free h
  have new : ∀ {G : Hp}, G p = none → Same G (upd G p o) := fun g b q e => by
    rw [upd_ne (ne_of_none e g)]
    exact e
  refine ⟨new fp, fun b q e => ?_, fun x hx => ?_, fun a q e _ => new h a q e, fun a q e n => ?_⟩
  · by_cases z : b = p
    · subst z
      rw [upd_same] at e ⊢
      exact e
    · rw [upd_ne z] at e ⊢
      exact u b q e
  · obtain ⟨n, c, p1, l, x1, n1, cs, h1, h2, r⟩ := w x hx
    have nx : x ≠ p := ne_of_none h1 h
    exact ⟨by rw [upd_ne nx]; exact n, c, p1, l, x1, n1, cs, by rw [upd_ne nx]; exact h1, new fp _ _ h2, r⟩
  · rw [upd_ne (ne_of_none e h)]
    exact n
end
/-- a list of the frame's own is let go: from now on it stands still -/
theorem Ext.freeze {W : Option Addr} {F0 H0 F H : Hp} {a : Addr} {o : HO} (e : Ext W F0 H0 F H) (h0 : H0 a = none) (ha : H a = some o) (nw : W ≠ some a) (fa : F a = none) : Ext W F0 H0 (upd F a o) H := by
  have sm : Same F (upd F a o) := fun b q z => by
    rw [upd_ne (ne_of_none z fa)]
    exact z
  refine ⟨e.f.trans sm, fun b q z => ?_, fun x hx => ?_, e.keep, fun b q z n => ?_⟩
  · by_cases y : b = a
    · subst y
      rw [upd_same] at z
      cases z
      exact ha
    · rw [upd_ne y] at z
      exact e.u b q z
  · obtain ⟨n, c, p1, l, x1, n1, cs, h1, h2, r⟩ := e.w x hx
    have nx : x ≠ a := fun z => nw (by rw [← z]; exact hx)
    exact ⟨by rw [upd_ne nx]; exact n, c, p1, l, x1, n1, cs, h1, sm _ _ h2, r⟩
  · rw [upd_ne (ne_of_none z h0)]
    exact e.opn b q z n
/-- an object of the frame's own is changed -/
theorem Ext.write {W : Option Addr} {F0 H0 F H : Hp} {a : Addr} {o : HO} (e : Ext W F0 H0 F H) (h0 : H0 a = none) (nw : W ≠ some a) (fa : F a = none) : Ext W F0 H0 F (upd H a o) := by
  refine ⟨e.f, fun b q z => ?_, fun x hx => ?_, fun b q z n => ?_, e.opn⟩
  · rw [upd_ne (ne_of_none z fa)]
    exact e.u b q z
  · obtain ⟨n, c, p1, l, x1, n1, cs, h1, h2, r⟩ := e.w x hx
    have nx : x ≠ a := fun z => nw (by rw [← z]; exact hx)
    exact ⟨n, c, p1, l, x1, n1, cs, by rw [upd_ne nx]; exact h1, h2, r⟩
  · rw [upd_ne (ne_of_none z h0)]
    exact e.keep b q z n

/-! ### a frame and a plain environment -/
inductive En where
  | sh (d : D)
  | ow (t : Option Addr) (ds : List D)
  | ob (a : Addr)
abbrev Env := List (Option En)
def EnOk (K : PySem.W.Frag) (W : Option Addr) (H0 F H : Hp) (v : V) : En → Prop
  | .sh d => Rp K F v d
  | .ow t ds => ∃ (a : Addr) (vs : List V), v = .ref a ∧ (∀ b, t = some b → a = b) ∧ H0 a = none ∧ F a = none ∧ W ≠ some a ∧ H a = some (.lst vs) ∧ vs.length ≤ sizeLine ∧ Rps K F vs ds
  | .ob a => v = .ref a ∧ W = some a
structure StR (K : PySem.W.Frag) (W : Option Addr) (F0 H0 F H : Hp) (σ : L2.St) (env : Env) : Prop where
  ext : Ext W F0 H0 F H
  len : σ.length = env.length
  ent : ∀ (i : Nat) (en : En), env[i]? = some (some en) → ∃ v, σ[i]? = some (some v) ∧ EnOk K W H0 F H v en
  apart : ∀ (i j : Nat) (t u : Option Addr) (ds es : List D), i ≠ j → env[i]? = some (some (.ow t ds)) → env[j]? = some (some (.ow u es)) → σ[i]? ≠ σ[j]?
section
variable {K : PySem.W.Frag} {W : Option Addr} {F0 H0 F H F1 H1 : Hp} {σ : L2.St} {env : Env}
theorem StR.u (s : StR K W F0 H0 F H σ env) : Same F H := s.ext.u
theorem StR.w (s : StR K W F0 H0 F H σ env) : WdOk W F H := s.ext.w
theorem EnOk.step {v : V} {en : En} (e : Ext W F H F1 H1) (h : EnOk K W H0 F H v en) : EnOk K W H0 F1 H1 v en := by
  cases en with
  | sh d => exact Rp.mono e.f h
  | ob a => exact h
  | ow t ds =>
    obtain ⟨a, vs, h1, ht, h2, h3, h4, h5, h6, h7⟩ := h
    exact ⟨a, vs, h1, ht, h2, e.opn a _ h5 h3, h4, e.keep a _ h5 h4, h6, Rps.mono e.f h7⟩
theorem StR.step (s : StR K W F0 H0 F H σ env) (e : Ext W F H F1 H1) : StR K W F0 H0 F1 H1 σ env :=
  ⟨s.ext.trans e, s.len, fun i en h => let ⟨v, h1, h2⟩ := s.ent i en h; ⟨v, h1, h2.step e⟩, s.apart⟩
/-- forgetting -/
theorem StR.weak {env' : Env} (s : StR K W F0 H0 F H σ env) (hl : env'.length = env.length) (h : ∀ (i : Nat) (en : En), env'[i]? = some (some en) → env[i]? = some (some en)) : StR K W F0 H0 F H σ env' :=
  ⟨s.ext, s.len.trans hl.symm, fun i en q => s.ent i en (h i en q), fun i j t u ds es n a b => s.apart i j t u ds es n (h i _ a) (h j _ b)⟩
theorem get_set {α : Type} {l : List (Option α)} {i j : Nat} {x : Option α} {y : α} (h : (l.set i x)[j]? = some (some y)) : (j = i ∧ i < l.length ∧ x = some y) ∨ (j ≠ i ∧ l[j]? = some (some y)) := by
  by_cases q : j = i
  · subst q
    by_cases r : j < l.length
    · rw [List.getElem?_set_self r] at h
      exact .inl ⟨rfl, r, Option.some.inj h⟩
    · rw [List.getElem?_eq_none (by simpa using r)] at h
      cases h
  · rw [List.getElem?_set_ne (Ne.symm q)] at h
    exact .inr ⟨q, h⟩
/-- a name is stored: a value that stands still, or the hand -/
theorem StR.setEn {i : Nat} {v : V} {en : En} (s : StR K W F0 H0 F H σ env) (h : EnOk K W H0 F H v en) (no : ∀ t ds, en ≠ .ow t ds) : StR K W F0 H0 F H (σ.set i (some v)) (env.set i (some en)) := by
  refine ⟨s.ext, by rw [List.length_set, List.length_set]; exact s.len, fun j e q => ?_, fun j k t u ds es n a b => ?_⟩
  · rcases get_set q with ⟨rfl, l, z⟩ | ⟨n, z⟩
    · cases z
      exact ⟨v, List.getElem?_set_self (by rw [s.len]; exact l), h⟩
    · obtain ⟨x, h1, h2⟩ := s.ent j e z
      exact ⟨x, by rw [List.getElem?_set_ne (Ne.symm n)]; exact h1, h2⟩
  · rcases get_set a with ⟨rfl, l, z⟩ | ⟨n1, z⟩
    · exact absurd (Option.some.inj z) (no t ds)
    · rcases get_set b with ⟨rfl, l, z'⟩ | ⟨n2, z'⟩
      · exact absurd (Option.some.inj z') (no u es)
      · rw [List.getElem?_set_ne (Ne.symm n1), List.getElem?_set_ne (Ne.symm n2)]
        exact s.apart j k t u ds es n z z'
theorem StR.setSh {i : Nat} {v : V} {d : D} (s : StR K W F0 H0 F H σ env) (h : Rp K F v d) : StR K W F0 H0 F H (σ.set i (some v)) (env.set i (some (.sh d))) := s.setEn (en := .sh d) h (fun _ _ z => nomatch z)
/-- a list that is the frame's own is stored (a new one, or one whose name is given up) -/
theorem StR.setOw {i : Nat} {a : Addr} {t : Option Addr} {ds : List D} (s : StR K W F0 H0 F H σ env) (h : EnOk K W H0 F H (.ref a) (.ow t ds)) (new : ∀ (j : Nat) (u : Option Addr) (es : List D), j ≠ i → env[j]? = some (some (.ow u es)) → σ[j]? ≠ some (some (.ref a))) :
    StR K W F0 H0 F H (σ.set i (some (.ref a))) (env.set i (some (.ow t ds))) := by
  refine ⟨s.ext, by rw [List.length_set, List.length_set]; exact s.len, fun j e q => ?_, fun j k t1 t2 ds es n p q => ?_⟩
  · rcases get_set q with ⟨rfl, l, z⟩ | ⟨n, z⟩
    · cases z
      exact ⟨_, List.getElem?_set_self (by rw [s.len]; exact l), h⟩
    · obtain ⟨x, h1, h2⟩ := s.ent j e z
      exact ⟨x, by rw [List.getElem?_set_ne (Ne.symm n)]; exact h1, h2⟩
  · rcases get_set p with ⟨rfl, l, z⟩ | ⟨n1, z⟩
    · rcases get_set q with ⟨rfl, _, _⟩ | ⟨n2, z'⟩
      · exact absurd rfl n
      · rw [List.getElem?_set_self (by rw [s.len]; exact l), List.getElem?_set_ne (Ne.symm n2)]
        exact fun e => new k t2 es n2 z' e.symm
    · rcases get_set q with ⟨rfl, l, z'⟩ | ⟨n2, z'⟩
      · rw [List.getElem?_set_self (by rw [s.len]; exact l), List.getElem?_set_ne (Ne.symm n1)]
        exact new j t1 ds n1 z
      · rw [List.getElem?_set_ne (Ne.symm n1), List.getElem?_set_ne (Ne.symm n2)]
        exact s.apart j k t1 t2 ds es n z z'
/-- the own list at slot i has changed -/
theorem StR.mutOw {i : Nat} {a : Addr} {t : Option Addr} {ws : List V} {ds es : List D} (s : StR K W F0 H0 F H σ env) (ht : ∀ b, t = some b → a = b) (hi : env[i]? = some (some (.ow t ds))) (hs : σ[i]? = some (some (.ref a))) (h0 : H0 a = none) (hf : F a = none) (hw : W ≠ some a)
    (hl : ws.length ≤ sizeLine) (r : Rps K F ws es) : StR K W F0 H0 F (upd H a (.lst ws)) σ (env.set i (some (.ow t es))) := by
  refine ⟨s.ext.write h0 hw hf, by rw [List.length_set]; exact s.len, fun j e q => ?_, fun j k t1 t2 ds' es' n p q => ?_⟩
  · rcases get_set q with ⟨rfl, l, z⟩ | ⟨n, z⟩
    · cases z
      exact ⟨_, hs, a, ws, rfl, ht, h0, hf, hw, upd_same, hl, r⟩
    · obtain ⟨x, h1, h2⟩ := s.ent j e z
      refine ⟨x, h1, ?_⟩
      cases e with
      | sh d => exact h2
      | ob b => exact h2
      | ow t3 us =>
        obtain ⟨b, xs, rfl, qt, q2, q3, q4, q5, q6, q7⟩ := h2
        have nb : b ≠ a := fun e => s.apart j i t3 t us ds n z hi (by rw [h1, hs, e])
        exact ⟨b, xs, rfl, qt, q2, q3, q4, by rw [upd_ne nb]; exact q5, q6, q7⟩
  · have get : ∀ {j : Nat} {t3 : Option Addr} {us : List D}, (env.set i (some (.ow t es)))[j]? = some (some (.ow t3 us)) → ∃ t4 us', env[j]? = some (some (.ow t4 us')) := fun {j t3 us} z => by
      rcases get_set z with ⟨rfl, l, z⟩ | ⟨n, z⟩
      · exact ⟨t, ds, hi⟩
      · exact ⟨t3, us, z⟩
    obtain ⟨v1, u1, g1⟩ := get p
    obtain ⟨v2, u2, g2⟩ := get q
    exact s.apart j k v1 v2 u1 u2 n g1 g2
/-- the own list at slot i is let go -/
theorem StR.letGo {i : Nat} {a : Addr} {t : Option Addr} {vs : List V} {ds : List D} (s : StR K W F0 H0 F H σ env) (hi : env[i]? = some (some (.ow t ds))) (hs : σ[i]? = some (some (.ref a))) (h0 : H0 a = none) (hf : F a = none) (hw : W ≠ some a)
    (hh : H a = some (.lst vs)) : StR K W F0 H0 (upd F a (.lst vs)) H σ (env.set i none) := by
  have sm : Same F (upd F a (.lst vs)) := fun b q z => by
    rw [upd_ne (ne_of_none z hf)]
    exact z
  refine ⟨s.ext.freeze h0 hh hw hf, by rw [List.length_set]; exact s.len, fun j e q => ?_, fun j k t1 t2 ds' es' n p q => ?_⟩
  · rcases get_set q with ⟨rfl, l, z⟩ | ⟨n, z⟩
    · cases z
    · obtain ⟨x, h1, h2⟩ := s.ent j e z
      refine ⟨x, h1, ?_⟩
      cases e with
      | sh d => exact Rp.mono sm h2
      | ob b => exact h2
      | ow t3 us =>
        obtain ⟨b, xs, rfl, qt, q2, q3, q4, q5, q6, q7⟩ := h2
        have nb : b ≠ a := fun e => s.apart j i t3 t us ds n z hi (by rw [h1, hs, e])
        exact ⟨b, xs, rfl, qt, q2, by rw [upd_ne nb]; exact q3, q4, q5, q6, Rps.mono sm q7⟩
  · rcases get_set p with ⟨_, _, z⟩ | ⟨n1, z1⟩
    · cases z
    · rcases get_set q with ⟨_, _, z⟩ | ⟨n2, z2⟩
      · cases z
      · exact s.apart j k _ _ _ _ n z1 z2
/-- forgetting slots in both -/
@[simp] def wipeE (env : Env) : List Nat → Env
  | [] => env
  | v :: vs => (wipeE env vs).set v none
theorem wipeE_length (env : Env) : ∀ vs : List Nat, (wipeE env vs).length = env.length
  | [] => rfl
  | v :: vs => by unfold wipeE; rw [List.length_set, wipeE_length env vs]
theorem wipeE_some {env : Env} {i : Nat} {x : En} : ∀ {vs : List Nat}, (wipeE env vs)[i]? = some (some x) → env[i]? = some (some x) ∧ i ∉ vs
  | [], h => ⟨h, by simp⟩
  | v :: vs, h => by
    unfold wipeE at h
    rcases get_set h with ⟨_, _, z⟩ | ⟨n, z⟩
    · cases z
    · obtain ⟨h1, h2⟩ := wipeE_some z
      exact ⟨h1, by simp only [List.mem_cons, not_or]; exact ⟨n, h2⟩⟩
theorem StR.forget (s : StR K W F0 H0 F H σ env) (vs : List Nat) : StR K W F0 H0 F H σ (wipeE env vs) := s.weak (wipeE_length env vs) fun _ _ h => (wipeE_some h).1
theorem wipe_get {σ : L2.St} {i : Nat} : ∀ {vs : List Nat}, i ∉ vs → (wipe σ vs)[i]? = σ[i]?
  | [], _ => rfl
  | v :: vs, h => by
    simp only [List.mem_cons, not_or] at h
    unfold wipe
    rw [List.getElem?_set_ne (fun e => h.1 e.symm)]
    exact wipe_get h.2
theorem StR.wipe (s : StR K W F0 H0 F H σ env) (vs : List Nat) : StR K W F0 H0 F H (L2.wipe σ vs) (wipeE env vs) := by
  refine ⟨s.ext, by rw [L2.wipe_length, wipeE_length]; exact s.len, fun i en h => ?_, fun i j t u ds es n a b => ?_⟩
  · obtain ⟨h1, h2⟩ := wipeE_some h
    obtain ⟨v, q1, q2⟩ := s.ent i en h1
    exact ⟨v, by rw [wipe_get h2]; exact q1, q2⟩
  · obtain ⟨a1, a2⟩ := wipeE_some a
    obtain ⟨b1, b2⟩ := wipeE_some b
    rw [wipe_get a2, wipe_get b2]
    exact s.apart i j t u ds es n a1 b1
end
end Dn
/-! Dn2: what an expression is worth over plain data. -/
namespace Dn
open PySem PySem.Spec PyProof.Rows L2
abbrev WE := Env → (D → Prop) → Prop
abbrev WT := Env → (Bool → Prop) → Prop
/-- a value that is only looked at: it stands still, or it is a list of the frame's own -/
def RpB (K : PySem.W.Frag) (W : Option Addr) (F H : Hp) (v : V) (d : D) : Prop :=
  Rp K F v d ∨ ∃ (a : Addr) (vs : List V) (ds : List D), v = .ref a ∧ d = .list ds ∧ W ≠ some a ∧ H a = some (.lst vs) ∧ vs.length ≤ sizeLine ∧ Rps K F vs ds
section
variable {K : PySem.W.Frag} {W : Option Addr} {F H F1 H1 : Hp} {v : V} {d : D}
theorem RpB.step (e : Ext W F H F1 H1) (h : RpB K W F H v d) : RpB K W F1 H1 v d := by
  rcases h with h | ⟨a, vs, ds, h1, h2, h3, h4, h5, h6⟩
  · exact .inl (Rp.mono e.f h)
  · exact .inr ⟨a, vs, ds, h1, h2, h3, e.keep a _ h4 h3, h5, Rps.mono e.f h6⟩
theorem RpB.list {ds : List D} (u : Same F H) (h : RpB K W F H v (.list ds)) : ∃ (a : Addr) (vs : List V), v = .ref a ∧ H a = some (.lst vs) ∧ vs.length ≤ sizeLine ∧ Rps K F vs ds := by
  rcases h with h | ⟨a, vs, es, h1, h2, h3, h4, h5, h6⟩
  · cases h with
    | lst a b c => exact ⟨_, _, rfl, u _ _ a, b, c⟩
  · cases h2
    exact ⟨a, vs, h1, h4, h5, h6⟩
theorem RpB.tuple {ds : List D} (h : RpB K W F H v (.tuple ds)) : ∃ (a : Addr) (vs : List V), v = .ref a ∧ SqT K F a vs ∧ vs.length ≤ sizeLine ∧ Rps K F vs ds := by
  rcases h with h | ⟨a, vs, es, h1, h2, h3, h4, h5, h6⟩
  · cases h with
    | tup a b c => exact ⟨_, _, rfl, a, b, c⟩
  · cases h2
theorem RpB.int {i : Int} (h : RpB K W F H v (.int i)) : v = .int i := by
  rcases h with h | ⟨a, vs, es, h1, h2, _⟩
  · cases h; rfl
  · cases h2
theorem RpB.bool {b : Bool} (h : RpB K W F H v (.bool b)) : v = .bl b := by
  rcases h with h | ⟨a, vs, es, h1, h2, _⟩
  · cases h; rfl
  · cases h2
theorem RpB.str {x : Str} (h : RpB K W F H v (.str x)) : v = .str x := by
  rcases h with h | ⟨a, vs, es, h1, h2, _⟩
  · cases h; rfl
  · cases h2
theorem RpB.none (h : RpB K W F H v .none) : v = .non := by
  rcases h with h | ⟨a, vs, es, h1, h2, _⟩
  · cases h; rfl
  · cases h2
theorem RpB.dp (u : Same F H) (c : d.canLay0 = true) (h : RpB K W F H v d) : Dp K H v d := by
  rcases h with h | ⟨a, vs, es, h1, h2, h3, h4, h5, h6⟩
  · exact Rp.dp u c h
  · subst h1 h2
    exact .lst (SqL.of h4) (Rps.dp u (by simpa [PyData.canLay0] using c) h6)
end

/-- contexts in which one piece of code is read the same way -/
structure Fam where
  ι : Type
  X : ι → Cx
  K : PySem.W.Frag
  hK : ∀ i, (X i).K = K
def Fam.one (X : Cx) : Fam := ⟨Unit, fun _ => X, X.K, fun _ => rfl⟩
/-- a comprehension's block -/
def Fam.blk (G : Fam) (scope : Scope) : Fam := ⟨G.ι × Shared × Hp × Addr × List (Str × Addr) × List Addr,
  fun p => (G.X p.1).blk p.2.1 p.2.2.1 scope (compEnvC scope p.2.2.2.2.1 p.2.2.2.1 (G.X p.1).env) p.2.2.2.2.2, G.K, fun p => G.hK p.1⟩

/-- the reading t does what w says -/
def SndE (K : PySem.W.Frag) (t : TE) (w : WE) : Prop := ∀ (W : Option Addr) (F0 H0 F H : Hp) (σ : L2.St) (env : Env) (Q : D → Prop) (R : VK), StR K W F0 H0 F H σ env → w env Q →
  (∀ v d F' H', Ext W F H F' H' → Rp K F' v d → Q d → R v H') → t σ H R
def SndB (K : PySem.W.Frag) (t : TE) (w : WE) : Prop := ∀ (W : Option Addr) (F0 H0 F H : Hp) (σ : L2.St) (env : Env) (Q : D → Prop) (R : VK), StR K W F0 H0 F H σ env → w env Q →
  (∀ v d F' H', Ext W F H F' H' → RpB K W F' H' v d → Q d → R v H') → t σ H R
def SndT (K : PySem.W.Frag) (t : TT) (w : WT) : Prop := ∀ (W : Option Addr) (F0 H0 F H : Hp) (σ : L2.St) (env : Env) (Q : Bool → Prop) (R : Bool → Hp → Prop), StR K W F0 H0 F H σ env → w env Q →
  (∀ b F' H', Ext W F H F' H' → Q b → R b H') → t σ H R
def DenE (G : Fam) (e : Expr) (w : WE) : Prop := ∃ t, (∀ i, PE (G.X i) e t) ∧ SndE G.K t w
def DenB (G : Fam) (e : Expr) (w : WE) : Prop := ∃ t, (∀ i, PE (G.X i) e t) ∧ SndB G.K t w
def DenT (G : Fam) (e : Expr) (w : WT) : Prop := ∃ t, (∀ i, PT (G.X i) e t) ∧ SndT G.K t w
/-- a test whatever its whole is -/
def DenW (G : Fam) (e : Expr) (w : WT) : Prop := ∃ t, (∀ i, PW (G.X i) e t) ∧ SndT G.K t w

/-! ### names, constants -/
def wV (i : Nat) : WE := fun env Q => match env[i]? with
  | some (some (.sh d)) => Q d
  | _ => False
@[simp ↓] theorem wV_ap (i : Nat) env Q : wV i env Q = (match env[i]? with
  | some (some (.sh d)) => Q d
  | _ => False) := Eq.trans rfl rfl
def wVB (i : Nat) : WE := fun env Q => match env[i]? with
  | some (some (.sh d)) => Q d
  | some (some (.ow _ ds)) => Q (.list ds)
  | _ => False
@[simp ↓] theorem wVB_ap (i : Nat) env Q : wVB i env Q = (match env[i]? with
  | some (some (.sh d)) => Q d
  | some (some (.ow _ ds)) => Q (.list ds)
  | _ => False) := Eq.trans rfl rfl
def wC (d : D) : WE := fun _ Q => Q d
@[simp ↓] theorem wC_ap (d : D) u0_ Q : wC d u0_ Q = (Q d) := Eq.trans rfl rfl
section
variable {G : Fam} {e a b : Expr} {w wa wb : WE} {pos : Pos}
theorem e_var {i : Nat} {x : Str} (hN : ∀ j, (G.X j).N[i]? = some x := by intro _; rfl) (hv : ∀ j, Vis (G.X j).env.scope x := by intro _; first | exact Or.inl rfl | exact Or.inr (Or.inl rfl) | exact Or.inr (Or.inr rfl)) (hd : (x == ("__debug__" : Str)) = false := by decide) (hcd : (x == ("__classdict__" : Str)) = false := by decide) : DenE G (.Name x pos) (wV i) := by
  refine ⟨_, fun j => pe_var (hN j) (hv j) hd hcd, fun W F0 H0 F H σ env Q R s h k => ?_⟩
  unfold wV at h
  split at h
  · rename_i d q
    obtain ⟨v, h1, h2⟩ := s.ent i _ q
    exact ⟨v, h1, k v d F H (Ext.refl s.u s.w) h2 h⟩
  · exact h.elim
theorem b_var {i : Nat} {x : Str} (hN : ∀ j, (G.X j).N[i]? = some x := by intro _; rfl) (hv : ∀ j, Vis (G.X j).env.scope x := by intro _; first | exact Or.inl rfl | exact Or.inr (Or.inl rfl) | exact Or.inr (Or.inr rfl)) (hd : (x == ("__debug__" : Str)) = false := by decide) (hcd : (x == ("__classdict__" : Str)) = false := by decide) : DenB G (.Name x pos) (wVB i) := by
  refine ⟨_, fun j => pe_var (hN j) (hv j) hd hcd, fun W F0 H0 F H σ env Q R s h k => ?_⟩
  unfold wVB at h
  split at h
  · rename_i d q
    obtain ⟨v, h1, h2⟩ := s.ent i _ q
    exact ⟨v, h1, k v d F H (Ext.refl s.u s.w) (.inl h2) h⟩
  · rename_i t ds q
    obtain ⟨v, h1, a, vs, h2, ht, h3, h4, h5, h6, h7, h8⟩ := s.ent i _ q
    exact ⟨v, h1, k v (.list ds) F H (Ext.refl s.u s.w) (.inr ⟨a, vs, ds, h2, rfl, h5, h6, h7, h8⟩) h⟩
  · exact h.elim
theorem b_of (h : DenE G e w) : DenB G e w := by
  obtain ⟨t, h1, h2⟩ := h
  exact ⟨t, h1, fun W F0 H0 F H σ env Q R s h k => h2 W F0 H0 F H σ env Q R s h fun v d F' H' e r q => k v d F' H' e (.inl r) q⟩
theorem e_const {v : V} {d : D} (h : ∀ i, PE (G.X i) e (tC v)) (r : ∀ F, Rp G.K F v d) : DenE G e (wC d) :=
  ⟨_, h, fun W F0 H0 F H σ env Q R s h k => k v d F H (Ext.refl s.u s.w) (r F) h⟩
theorem e_int {i : Int} {j : Nat} : DenE G (.Constant (.int i) j pos) (wC (.int i)) := e_const (fun _ => pe_int) fun _ => .int i
theorem e_bl {b : Bool} {j : Nat} : DenE G (.Constant (.bool b) j pos) (wC (.bool b)) := e_const (fun _ => pe_bl) fun _ => .bl b
theorem e_non {j : Nat} : DenE G (.Constant .none j pos) (wC .none) := e_const (fun _ => pe_non) fun _ => .non
theorem e_str {x : Str} {j : Nat} : DenE G (.Constant (.str x) j pos) (wC (.str x)) := e_const (fun _ => pe_str) fun _ => .str x
/-- a constant of the module: an int, a text -/
theorem e_globI {x : Str} {i : Int} {t : Tok} (hg : ∀ j, Gl (G.X j) x := by intro _; rfl) (hm : ∀ j, (G.X j).mg x = some (.int i t)) (hd : (x == ("__debug__" : Str)) = false := by decide) : DenE G (.Name x pos) (wC (.int i)) :=
  e_const (fun j => pe_glob (v := .int i) (hg j) (hm j) ⟨t, rfl⟩ hd) fun _ => .int i
theorem e_globS {x z : Str} {t : Tok} (hg : ∀ j, Gl (G.X j) x := by intro _; rfl) (hm : ∀ j, (G.X j).mg x = some (.str z t)) (hd : (x == ("__debug__" : Str)) = false := by decide) : DenE G (.Name x pos) (wC (.str z)) :=
  e_const (fun j => pe_glob (v := .str z) (hg j) (hm j) ⟨t, rfl⟩ hd) fun _ => .str z

/-! ### operators -/
abbrev OD := D → D → (D → Prop) → Prop
def OpS (K : PySem.W.Frag) (r : R2) (o : OD) : Prop := ∀ (W : Option Addr) (F H : Hp) (x y : V) (d e : D) (Q : D → Prop) (R : VK), Same F H → WdOk W F H → RpB K W F H x d → RpB K W F H y e → o d e Q →
  (∀ v d' F' H', Ext W F H F' H' → Rp K F' v d' → Q d' → R v H') → r x y H R
def OpD (G : Fam) (f : Value → Value → Sem Value) (o : OD) : Prop := ∃ r : R2, (∀ i, OpR (G.X i) f r) ∧ OpS G.K r o
def wOp (o : OD) (wa wb : WE) : WE := fun env Q => wa env fun x => wb env fun y => o x y Q
@[simp ↓] theorem wOp_ap (o : OD) (wa wb : WE) env Q : wOp o wa wb env Q = (wa env fun x => wb env fun y => o x y Q) := Eq.trans rfl rfl
theorem snd_op {K : PySem.W.Frag} {r : R2} {o : OD} {ta tb : TE} (ho : OpS K r o) (ha : SndB K ta wa) (hb : SndB K tb wb) : SndE K (tOp r ta tb) (wOp o wa wb) := by
  intro W F0 H0 F H σ env Q R s h k
  refine ha W F0 H0 F H σ env _ _ s h fun v d F1 H1 e1 r1 q1 => ?_
  refine hb W F0 H0 F1 H1 σ env _ _ (s.step e1) q1 fun u c F2 H2 e2 r2 q2 => ?_
  exact ho W F2 H2 v u d c Q R e2.u e2.w (r1.step e2) r2 q2 fun x d' F3 H3 e3 r3 q3 => k x d' F3 H3 ((e1.trans e2).trans e3) r3 q3
theorem e_op {op : Operator} {o : OD} (ho : OpD G (binaryOp op) o) (ha : DenB G a wa) (hb : DenB G b wb) : DenE G (.BinOp a op b pos) (wOp o wa wb) := by
  obtain ⟨r, h1, h2⟩ := ho
  obtain ⟨ta, a1, a2⟩ := ha
  obtain ⟨tb, b1, b2⟩ := hb
  exact ⟨_, fun i => pe_op (h1 i) (a1 i) (b1 i), snd_op h2 a2 b2⟩
theorem e_cmp {op : CmpOp} {o : OD} (ho : OpD G (compareOp op) o) (ha : DenB G a wa) (hb : DenB G b wb) (hm : behindInMarks op b = false) : DenE G (.Compare a [op] [b] pos) (wOp o wa wb) := by
  obtain ⟨r, h1, h2⟩ := ho
  obtain ⟨ta, a1, a2⟩ := ha
  obtain ⟨tb, b1, b2⟩ := hb
  exact ⟨_, fun i => pe_cmpR (h1 i) (a1 i) (b1 i) hm, snd_op h2 a2 b2⟩
/-- the value, a bool, as a test -/
def wTest (w : WE) : WT := fun env Q => w env fun d => match d with
  | .bool b => Q b
  | _ => False
@[simp ↓] theorem wTest_ap (w : WE) env Q : wTest w env Q = (w env fun d => match d with
  | .bool b => Q b
  | _ => False) := Eq.trans rfl rfl
theorem snd_test {K : PySem.W.Frag} {t : TE} (h : SndE K t w) : SndT K (tTest t) (wTest w) := by
  intro W F0 H0 F H σ env Q R s hw k
  refine h W F0 H0 F H σ env _ _ s hw fun v d F' H' e r q => ?_
  cases r with
  | bl b => exact ⟨b, rfl, k b F' H' e q⟩
  | _ => exact (show False from q).elim
theorem t_cmp {op : CmpOp} {o : OD} (ho : OpD G (compareOp op) o) (ha : DenB G a wa) (hb : DenB G b wb) (hm : behindInMarks op b = false) : DenT G (.Compare a [op] [b] pos) (wTest (wOp o wa wb)) := by
  obtain ⟨r, h1, h2⟩ := ho
  obtain ⟨ta, a1, a2⟩ := ha
  obtain ⟨tb, b1, b2⟩ := hb
  exact ⟨_, fun i => pt_cmpR (h1 i) (a1 i) (b1 i) hm, snd_test (snd_op h2 a2 b2)⟩
/-- an expression whose value is a bool, as a test -/
theorem t_val (h : DenE G e w) (he : ∀ i whole, isTrue e (G.X i).env whole = (do let v ← whole; standAt e.pos; holding [v] (truthy v)) := by intro _ _; rfl) : DenT G e (wTest w) := by
  obtain ⟨t, h1, h2⟩ := h
  exact ⟨tB t, fun i => pt_val (h1 i) (he i), snd_test h2⟩
/-- a < b < c -/
def wChain (o o' : OD) (wa wb wc : WE) : WE := fun env Q => wa env fun x => wb env fun y => o x y fun z => match z with
  | .bool true => wc env fun u => o' y u Q
  | .bool false => Q (.bool false)
  | _ => False
@[simp ↓] theorem wChain_ap (o o' : OD) (wa wb wc : WE) env Q : wChain o o' wa wb wc env Q = (wa env fun x => wb env fun y => o x y fun z => match z with
  | .bool true => wc env fun u => o' y u Q
  | .bool false => Q (.bool false)
  | _ => False) := Eq.trans rfl rfl
theorem snd_chain {K : PySem.W.Frag} {r r' : R2} {o o' : OD} {c : Expr} {wc : WE} {ta tb tc : TE} (ho : OpS K r o) (ho' : OpS K r' o') (ha : SndB K ta wa) (hb : SndB K tb wb) (hc : SndB K tc wc) : SndE K (tChain r r' ta tb tc) (wChain o o' wa wb wc) := by
  intro W F0 H0 F H σ env Q R s h k
  refine ha W F0 H0 F H σ env _ _ s h fun v d F1 H1 e1 r1 q1 => ?_
  refine hb W F0 H0 F1 H1 σ env _ _ (s.step e1) q1 fun u c F2 H2 e2 r2 q2 => ?_
  refine ho W F2 H2 v u d c _ _ e2.u e2.w (r1.step e2) r2 q2 fun x d' F3 H3 e3 r3 q3 => ?_
  cases r3 with
  | bl b =>
    refine ⟨b, rfl, ?_⟩
    cases b with
    | true =>
      rw [if_pos rfl]
      refine hc W F0 H0 F3 H3 σ env _ _ (((s.step e1).step e2).step e3) q3 fun u' c' F4 H4 e4 r4 q4 => ?_
      exact ho' W F4 H4 u u' c c' Q R e4.u e4.w ((r2.step e3).step e4) r4 q4 fun z d5 F5 H5 e5 r5 q5 => k z d5 F5 H5 ((((e1.trans e2).trans e3).trans e4).trans e5) r5 q5
    | false =>
      rw [if_neg Bool.false_ne_true]
      exact k _ _ F3 H3 ((e1.trans e2).trans e3) (.bl false) q3
  | _ => exact (show False from q3).elim
theorem e_chain {op op' : CmpOp} {o o' : OD} {c : Expr} {wc : WE} (ho : OpD G (compareOp op) o) (ho' : OpD G (compareOp op') o') (ha : DenB G a wa) (hb : DenB G b wb) (hc : DenB G c wc)
    (hm : lastMarks [op, op'] [b, c] = false := by with_unfolding_all rfl) : DenE G (.Compare a [op, op'] [b, c] pos) (wChain o o' wa wb wc) := by
  obtain ⟨r, h1, h2⟩ := ho
  obtain ⟨r', h1', h2'⟩ := ho'
  obtain ⟨ta, a1, a2⟩ := ha
  obtain ⟨tb, b1, b2⟩ := hb
  obtain ⟨tc, c1, c2⟩ := hc
  exact ⟨_, fun i => pe_chain (h1 i) (h1' i) (a1 i) (b1 i) (c1 i) hm, snd_chain (c := c) h2 h2' a2 b2 c2⟩
theorem t_chain {op op' : CmpOp} {o o' : OD} {c : Expr} {wc : WE} (ho : OpD G (compareOp op) o) (ho' : OpD G (compareOp op') o') (ha : DenB G a wa) (hb : DenB G b wb) (hc : DenB G c wc)
    (hm : lastMarks [op, op'] [b, c] = false := by with_unfolding_all rfl) : DenT G (.Compare a [op, op'] [b, c] pos) (wTest (wChain o o' wa wb wc)) := by
  obtain ⟨r, h1, h2⟩ := ho
  obtain ⟨r', h1', h2'⟩ := ho'
  obtain ⟨ta, a1, a2⟩ := ha
  obtain ⟨tb, b1, b2⟩ := hb
  obtain ⟨tc, c1, c2⟩ := hc
  exact ⟨_, fun i => pt_chain (h1 i) (h1' i) (a1 i) (b1 i) (c1 i) hm, snd_test (snd_chain (c := c) h2 h2' a2 b2 c2)⟩
/-- is None -/
def oIsN : D → Bool
  | .none => true
  | _ => false
@[simp] theorem oIsN_n : oIsN .none = true := rfl
@[simp] theorem oIsN_b (b : Bool) : oIsN (.bool b) = false := rfl
@[simp] theorem oIsN_i (i : Int) : oIsN (.int i) = false := rfl
@[simp] theorem oIsN_s (x : Str) : oIsN (.str x) = false := rfl
@[simp] theorem oIsN_t (xs : List D) : oIsN (.tuple xs) = false := rfl
@[simp] theorem oIsN_l (xs : List D) : oIsN (.list xs) = false := rfl
@[simp] theorem oIsN_d (xs : List (D × D)) : oIsN (.dict xs) = false := rfl
def wIsN (w : WE) : WE := fun env Q => w env fun d => Q (.bool (oIsN d))
@[simp ↓] theorem wIsN_ap (w : WE) env Q : wIsN w env Q = (w env fun d => Q (.bool (oIsN d))) := Eq.trans rfl rfl
def wNotN (w : WE) : WE := fun env Q => w env fun d => Q (.bool (!oIsN d))
@[simp ↓] theorem wNotN_ap (w : WE) env Q : wNotN w env Q = (w env fun d => Q (.bool (!oIsN d))) := Eq.trans rfl rfl
theorem Rp.isN {K : PySem.W.Frag} {F : Hp} {v : V} {d : D} (h : Rp K F v d) : decide (v = .non) = oIsN d := by
  cases h <;> rfl
theorem RpB.isN {K : PySem.W.Frag} {W : Option Addr} {F H : Hp} {v : V} {d : D} (h : RpB K W F H v d) : decide (v = .non) = oIsN d := by
  rcases h with h | ⟨a, vs, es, h1, h2, _⟩
  · exact h.isN
  · subst h1 h2
    rfl
theorem e_isN {j : Nat} {p2 : Pos} (ha : DenB G a wa) : DenE G (.Compare a [.Is] [.Constant .none j p2] pos) (wIsN wa) := by
  obtain ⟨t, h1, h2⟩ := ha
  refine ⟨_, fun i => pe_cmp (pc_isN (h1 i)) rfl, fun W F0 H0 F H σ env Q R s h k => ?_⟩
  refine h2 W F0 H0 F H σ env _ _ s h fun v d F' H' e r q => ?_
  exact k _ _ F' H' e (.bl _) (by rw [r.isN]; exact q)
theorem e_notN {j : Nat} {p2 : Pos} (ha : DenB G a wa) : DenE G (.Compare a [.IsNot] [.Constant .none j p2] pos) (wNotN wa) := by
  obtain ⟨t, h1, h2⟩ := ha
  refine ⟨_, fun i => pe_cmp (pc_notN (h1 i)) rfl, fun W F0 H0 F H σ env Q R s h k => ?_⟩
  refine h2 W F0 H0 F H σ env _ _ s h fun v d F' H' e r q => ?_
  exact k _ _ F' H' e (.bl _) (by rw [r.isN]; exact q)

theorem t_isN {j : Nat} {p2 : Pos} (ha : DenB G a wa) : DenT G (.Compare a [.Is] [.Constant .none j p2] pos) (wTest (wIsN wa)) := by
  obtain ⟨t, h1, h2⟩ := ha
  refine ⟨_, fun i => pt_cmp (pc_isN (h1 i)) rfl, fun W F0 H0 F H σ env Q R s h k => ?_⟩
  refine h2 W F0 H0 F H σ env _ _ s h fun v d F' H' e r q => ?_
  exact ⟨_, rfl, k _ F' H' e (by rw [r.isN]; exact q)⟩
theorem t_notN {j : Nat} {p2 : Pos} (ha : DenB G a wa) : DenT G (.Compare a [.IsNot] [.Constant .none j p2] pos) (wTest (wNotN wa)) := by
  obtain ⟨t, h1, h2⟩ := ha
  refine ⟨_, fun i => pt_cmp (pc_notN (h1 i)) rfl, fun W F0 H0 F H σ env Q R s h k => ?_⟩
  refine h2 W F0 H0 F H σ env _ _ s h fun v d F' H' e r q => ?_
  exact ⟨_, rfl, k _ F' H' e (by rw [r.isN]; exact q)⟩
/-! ### and, or, not, if -/
def wAnd (a b : WT) : WT := fun env Q => a env fun c => if c = true then b env Q else Q false
@[simp ↓] theorem wAnd_ap (a b : WT) env Q : wAnd a b env Q = (a env fun c => if c = true then b env Q else Q false) := Eq.trans rfl rfl
def wOr (a b : WT) : WT := fun env Q => a env fun c => if c = true then Q true else b env Q
@[simp ↓] theorem wOr_ap (a b : WT) env Q : wOr a b env Q = (a env fun c => if c = true then Q true else b env Q) := Eq.trans rfl rfl
def wNot (a : WT) : WT := fun env Q => a env fun c => Q (!c)
@[simp ↓] theorem wNot_ap (a : WT) env Q : wNot a env Q = (a env fun c => Q (!c)) := Eq.trans rfl rfl
variable {ua ub : WT} {rest : List Expr}
theorem t_of (h : DenW G e ua) : DenT G e ua := by
  obtain ⟨t, h1, h2⟩ := h
  exact ⟨t, fun i => (h1 i).pt, h2⟩
theorem tw_and1 (ha : DenT G a ua) : DenW G (.BoolOp .And [a] pos) ua := by
  obtain ⟨t, h1, h2⟩ := ha
  exact ⟨t, fun i => pw_and1 (h1 i), h2⟩
theorem tw_or1 (ha : DenT G a ua) : DenW G (.BoolOp .Or [a] pos) ua := by
  obtain ⟨t, h1, h2⟩ := ha
  exact ⟨t, fun i => pw_or1 (h1 i), h2⟩
theorem tw_and (ha : DenT G a ua) (hb : DenW G (.BoolOp .And (b :: rest) pos) ub) : DenW G (.BoolOp .And (a :: b :: rest) pos) (wAnd ua ub) := by
  obtain ⟨t, h1, h2⟩ := ha
  obtain ⟨u, k1, k2⟩ := hb
  refine ⟨_, fun i => pw_and (h1 i) (k1 i), fun W F0 H0 F H σ env Q R s h k => ?_⟩
  refine h2 W F0 H0 F H σ env _ _ s h fun c F' H' e q => ?_
  cases c with
  | true =>
    show u σ H' R
    exact k2 W F0 H0 F' H' σ env _ _ (s.step e) q fun d F2 H2 e2 q2 => k d F2 H2 (e.trans e2) q2
  | false => exact k false F' H' e q
theorem tw_or (ha : DenT G a ua) (hb : DenW G (.BoolOp .Or (b :: rest) pos) ub) : DenW G (.BoolOp .Or (a :: b :: rest) pos) (wOr ua ub) := by
  obtain ⟨t, h1, h2⟩ := ha
  obtain ⟨u, k1, k2⟩ := hb
  refine ⟨_, fun i => pw_or (h1 i) (k1 i), fun W F0 H0 F H σ env Q R s h k => ?_⟩
  refine h2 W F0 H0 F H σ env _ _ s h fun c F' H' e q => ?_
  cases c with
  | false =>
    show u σ H' R
    exact k2 W F0 H0 F' H' σ env _ _ (s.step e) q fun d F2 H2 e2 q2 => k d F2 H2 (e.trans e2) q2
  | true => exact k true F' H' e q
theorem t_not (ha : DenT G a ua) : DenT G (.UnaryOp .Not a pos) (wNot ua) := by
  obtain ⟨t, h1, h2⟩ := ha
  refine ⟨_, fun i => pt_not (h1 i), fun W F0 H0 F H σ env Q R s h k => ?_⟩
  exact h2 W F0 H0 F H σ env _ _ s h fun c F' H' e q => k _ F' H' e q
/-- as values (bools) -/
def wAndV (a b : WE) : WE := fun env Q => a env fun d => match d with
  | .bool true => b env Q
  | .bool false => Q (.bool false)
  | _ => False
@[simp ↓] theorem wAndV_ap (a b : WE) env Q : wAndV a b env Q = (a env fun d => match d with
  | .bool true => b env Q
  | .bool false => Q (.bool false)
  | _ => False) := Eq.trans rfl rfl
def wOrV (a b : WE) : WE := fun env Q => a env fun d => match d with
  | .bool true => Q (.bool true)
  | .bool false => b env Q
  | _ => False
@[simp ↓] theorem wOrV_ap (a b : WE) env Q : wOrV a b env Q = (a env fun d => match d with
  | .bool true => Q (.bool true)
  | .bool false => b env Q
  | _ => False) := Eq.trans rfl rfl
def wNotV (a : WE) : WE := fun env Q => a env fun d => match d with
  | .bool b => Q (.bool (!b))
  | _ => False
@[simp ↓] theorem wNotV_ap (a : WE) env Q : wNotV a env Q = (a env fun d => match d with
  | .bool b => Q (.bool (!b))
  | _ => False) := Eq.trans rfl rfl
theorem e_one {op} (h : DenE G a wa) : DenE G (.BoolOp op [a] pos) wa := by
  obtain ⟨t, h1, h2⟩ := h
  exact ⟨t, fun i => pe_one (h1 i), h2⟩
theorem e_and (ha : DenE G a wa) (hb : DenE G (.BoolOp .And (b :: rest) pos) wb) : DenE G (.BoolOp .And (a :: b :: rest) pos) (wAndV wa wb) := by
  obtain ⟨t, h1, h2⟩ := ha
  obtain ⟨u, k1, k2⟩ := hb
  refine ⟨_, fun i => pe_and (h1 i) (k1 i), fun W F0 H0 F H σ env Q R s h k => ?_⟩
  refine h2 W F0 H0 F H σ env _ _ s h fun v d F' H' e r q => ?_
  cases r with
  | bl c =>
    refine ⟨c, rfl, ?_⟩
    cases c with
    | true =>
      rw [if_pos rfl]
      exact k2 W F0 H0 F' H' σ env _ _ (s.step e) q fun v d F2 H2 e2 r2 q2 => k v d F2 H2 (e.trans e2) r2 q2
    | false =>
      rw [if_neg Bool.false_ne_true]
      exact k _ _ F' H' e (.bl false) q
  | _ => exact (show False from q).elim
theorem e_or (ha : DenE G a wa) (hb : DenE G (.BoolOp .Or (b :: rest) pos) wb) : DenE G (.BoolOp .Or (a :: b :: rest) pos) (wOrV wa wb) := by
  obtain ⟨t, h1, h2⟩ := ha
  obtain ⟨u, k1, k2⟩ := hb
  refine ⟨_, fun i => pe_or (h1 i) (k1 i), fun W F0 H0 F H σ env Q R s h k => ?_⟩
  refine h2 W F0 H0 F H σ env _ _ s h fun v d F' H' e r q => ?_
  cases r with
  | bl c =>
    refine ⟨c, rfl, ?_⟩
    cases c with
    | false =>
      rw [if_neg Bool.false_ne_true]
      exact k2 W F0 H0 F' H' σ env _ _ (s.step e) q fun v d F2 H2 e2 r2 q2 => k v d F2 H2 (e.trans e2) r2 q2
    | true =>
      rw [if_pos rfl]
      exact k _ _ F' H' e (.bl true) q
  | _ => exact (show False from q).elim
theorem e_not (ha : DenE G a wa) : DenE G (.UnaryOp .Not a pos) (wNotV wa) := by
  obtain ⟨t, h1, h2⟩ := ha
  refine ⟨_, fun i => pe_not (h1 i), fun W F0 H0 F H σ env Q R s h k => ?_⟩
  refine h2 W F0 H0 F H σ env _ _ s h fun v d F' H' e r q => ?_
  cases r with
  | bl c => exact ⟨c, rfl, k _ _ F' H' e (.bl _) q⟩
  | _ => exact (show False from q).elim
def wIf (c : WT) (a b : WE) : WE := fun env Q => c env fun x => if x = true then a env Q else b env Q
@[simp ↓] theorem wIf_ap (c : WT) (a b : WE) env Q : wIf c a b env Q = (c env fun x => if x = true then a env Q else b env Q) := Eq.trans rfl rfl
theorem e_if {c : Expr} {uc : WT} (hc : DenT G c uc) (ha : DenE G a wa) (hb : DenE G b wb) : DenE G (.IfExp c a b pos) (wIf uc wa wb) := by
  obtain ⟨tc, c1, c2⟩ := hc
  obtain ⟨t, h1, h2⟩ := ha
  obtain ⟨u, k1, k2⟩ := hb
  refine ⟨_, fun i => pe_ifExp (c1 i) (h1 i) (k1 i), fun W F0 H0 F H σ env Q R s h k => ?_⟩
  refine c2 W F0 H0 F H σ env _ _ s h fun x F' H' e q => ?_
  cases x with
  | true =>
    show t σ H' R
    exact h2 W F0 H0 F' H' σ env _ _ (s.step e) q fun v d F2 H2 e2 r2 q2 => k v d F2 H2 (e.trans e2) r2 q2
  | false =>
    show u σ H' R
    exact k2 W F0 H0 F' H' σ env _ _ (s.step e) q fun v d F2 H2 e2 r2 q2 => k v d F2 H2 (e.trans e2) r2 q2
end

/-! ### argument lists -/
section
variable {G : Fam} {e : Expr} {es : List Expr}
abbrev WL := Env → (List D → Prop) → Prop
abbrev RpBs (K : PySem.W.Frag) (W : Option Addr) (F H : Hp) : List V → List D → Prop := Paired (RpB K W F H)
theorem RpBs.step {K : PySem.W.Frag} {W : Option Addr} {F H F1 H1 : Hp} (e : Ext W F H F1 H1) : ∀ {vs : List V} {ds : List D}, RpBs K W F H vs ds → RpBs K W F1 H1 vs ds
  | _, _, .nil => .nil
  | _, _, .cons h r => .cons (h.step e) (RpBs.step e r)
/-- the arguments of a built-in -/
def DenL (G : Fam) (es : List Expr) (w : WL) : Prop := ∃ t : TA, (∀ i, PA (G.X i) es t) ∧ ∀ (W : Option Addr) (F0 H0 F H : Hp) (σ : L2.St) (env : Env) (Q : List D → Prop) (R : List V → Hp → Prop), StR G.K W F0 H0 F H σ env → w env Q →
  (∀ vs ds F' H', Ext W F H F' H' → RpBs G.K W F' H' vs ds → Q ds → R vs H') → t σ H R
def wNil : WL := fun _ Q => Q []
@[simp ↓] theorem wNil_ap u0_ Q : wNil u0_ Q = (Q []) := Eq.trans rfl rfl
def wCons (a : WE) (r : WL) : WL := fun env Q => a env fun x => r env fun xs => Q (x :: xs)
@[simp ↓] theorem wCons_ap (a : WE) (r : WL) env Q : wCons a r env Q = (a env fun x => r env fun xs => Q (x :: xs)) := Eq.trans rfl rfl
theorem l_nil : DenL G [] wNil := ⟨tNil, fun _ => pa_nil, fun W F0 H0 F H σ env Q R s h k => k [] [] F H (Ext.refl s.u s.w) .nil h⟩
theorem l_cons {w : WE} {r : WL} (h : DenB G e w) (hr : DenL G es r) (hs : ∀ i, starEach (e :: es) (G.X i).env = (false, eval e (G.X i).env) :: starEach es (G.X i).env := by intro _; rfl) : DenL G (e :: es) (wCons w r) := by
  obtain ⟨t, h1, h2⟩ := h
  obtain ⟨u, k1, k2⟩ := hr
  refine ⟨_, fun i => pa_cons (h1 i) (k1 i) (hs i), fun W F0 H0 F H σ env Q R s h k => ?_⟩
  refine h2 W F0 H0 F H σ env _ _ s h fun v d F1 H1 e1 r1 q1 => ?_
  exact k2 W F0 H0 F1 H1 σ env _ _ (s.step e1) q1 fun vs ds F2 H2 e2 r2 q2 => k (v :: vs) (d :: ds) F2 H2 (e1.trans e2) (.cons (r1.step e2) r2) q2
/-- values that stand still: the items of a display, a def's arguments -/
def RpA (K : PySem.W.Frag) (W : Option Addr) (F : Hp) (v : V) : En → Prop
  | .sh d => Rp K F v d
  | .ob a => v = .ref a ∧ W = some a
  | .ow _ _ => False
abbrev RpAs (K : PySem.W.Frag) (W : Option Addr) (F : Hp) : List V → List En → Prop := Paired (RpA K W F)
theorem RpA.mono {K : PySem.W.Frag} {W : Option Addr} {F F1 : Hp} {v : V} {en : En} (e : Same F F1) (h : RpA K W F v en) : RpA K W F1 v en := by
  cases en with
  | sh d => exact Rp.mono e h
  | ob a => exact h
  | ow _ _ => exact h.elim
theorem RpAs.mono {K : PySem.W.Frag} {W : Option Addr} {F F1 : Hp} (e : Same F F1) : ∀ {vs : List V} {ds : List En}, RpAs K W F vs ds → RpAs K W F1 vs ds
  | _, _, .nil => .nil
  | _, _, .cons h r => .cons (h.mono e) (RpAs.mono e r)
abbrev WA := Env → (List En → Prop) → Prop
def DenA (G : Fam) (es : List Expr) (w : WA) : Prop := ∃ t : TA, (∀ i, PA (G.X i) es t) ∧ ∀ (W : Option Addr) (F0 H0 F H : Hp) (σ : L2.St) (env : Env) (Q : List En → Prop) (R : List V → Hp → Prop), StR G.K W F0 H0 F H σ env → w env Q →
  (∀ vs ds F' H', Ext W F H F' H' → RpAs G.K W F' vs ds → ds.length = es.length → Q ds → R vs H') → t σ H R
def wANil : WA := fun _ Q => Q []
@[simp ↓] theorem wANil_ap u0_ Q : wANil u0_ Q = (Q []) := Eq.trans rfl rfl
def wACons (a : WE) (r : WA) : WA := fun env Q => a env fun x => r env fun xs => Q (.sh x :: xs)
@[simp ↓] theorem wACons_ap (a : WE) (r : WA) env Q : wACons a r env Q = (a env fun x => r env fun xs => Q (.sh x :: xs)) := Eq.trans rfl rfl
/-- the hand as an argument -/
def wAOb (i : Nat) (r : WA) : WA := fun env Q => match env[i]? with
  | some (some (.ob a)) => r env fun xs => Q (.ob a :: xs)
  | _ => False
@[simp ↓] theorem wAOb_ap (i : Nat) (r : WA) env Q : wAOb i r env Q = (match env[i]? with
  | some (some (.ob a)) => r env fun xs => Q (.ob a :: xs)
  | _ => False) := Eq.trans rfl rfl
theorem a_nil : DenA G [] wANil := ⟨tNil, fun _ => pa_nil, fun W F0 H0 F H σ env Q R s h k => k [] [] F H (Ext.refl s.u s.w) .nil rfl h⟩
theorem a_cons {w : WE} {r : WA} (h : DenE G e w) (hr : DenA G es r) (hs : ∀ i, starEach (e :: es) (G.X i).env = (false, eval e (G.X i).env) :: starEach es (G.X i).env := by intro _; rfl) : DenA G (e :: es) (wACons w r) := by
  obtain ⟨t, h1, h2⟩ := h
  obtain ⟨u, k1, k2⟩ := hr
  refine ⟨_, fun i => pa_cons (h1 i) (k1 i) (hs i), fun W F0 H0 F H σ env Q R s h k => ?_⟩
  refine h2 W F0 H0 F H σ env _ _ s h fun v d F1 H1 e1 r1 q1 => ?_
  exact k2 W F0 H0 F1 H1 σ env _ _ (s.step e1) q1 fun vs ds F2 H2 e2 r2 l2 q2 => k (v :: vs) (.sh d :: ds) F2 H2 (e1.trans e2) (.cons (show RpA G.K W F2 v (.sh d) from Rp.mono e2.f r1) r2) (congrArg (· + 1) l2) q2
theorem a_ob {i : Nat} {x : Str} {pos : Pos} {r : WA} (hN : ∀ j, (G.X j).N[i]? = some x := by intro _; rfl) (hv : ∀ j, Vis (G.X j).env.scope x := by intro _; first | exact Or.inl rfl | exact Or.inr (Or.inl rfl) | exact Or.inr (Or.inr rfl)) (hr : DenA G es r) (hd : (x == ("__debug__" : Str)) = false := by decide) (hcd : (x == ("__classdict__" : Str)) = false := by decide)
    (hs : ∀ i, starEach (.Name x pos :: es) (G.X i).env = (false, eval (.Name x pos) (G.X i).env) :: starEach es (G.X i).env := by intro _; rfl) : DenA G (.Name x pos :: es) (wAOb i r) := by
  obtain ⟨u, k1, k2⟩ := hr
  refine ⟨_, fun j => pa_cons (pe_var (hN j) (hv j) hd hcd) (k1 j) (hs j), fun W F0 H0 F H σ env Q R s h k => ?_⟩
  unfold wAOb at h
  split at h
  · rename_i a q
    obtain ⟨v, h1, h2⟩ := s.ent i _ q
    refine ⟨v, h1, ?_⟩
    exact k2 W F0 H0 F H σ env _ _ s h fun vs ds F2 H2 e2 r2 l2 q2 => k (v :: vs) (.ob a :: ds) F2 H2 e2 (.cons (show RpA G.K W F2 v (.ob a) from h2) r2) (congrArg (· + 1) l2) q2
  · exact h.elim
@[simp] def shs : List En → Option (List D)
  | [] => some []
  | .sh d :: r => (shs r).map (d :: ·)
  | _ :: _ => none
theorem RpAs.shs {K : PySem.W.Frag} {W : Option Addr} {F : Hp} : ∀ {vs : List V} {ens : List En} {ds : List D}, RpAs K W F vs ens → Dn.shs ens = some ds → Rps K F vs ds
  | _, _, _, .nil, e => by cases e; exact .nil
  | _, _, _, .cons (b := en) h r, e => by
    cases en with
    | sh d =>
      simp only [Dn.shs, Option.map_eq_some_iff] at e
      obtain ⟨es, q, rfl⟩ := e
      exact .cons h (RpAs.shs r q)
    | ob a => simp [Dn.shs] at e
    | ow a _ => simp [Dn.shs] at e
/-! displays -/
def wTup (r : WA) : WE := fun env Q => r env fun xs => match shs xs with
  | some ds => ds.length ≤ sizeLine ∧ Q (.tuple ds)
  | none => False
@[simp ↓] theorem wTup_ap (r : WA) env Q : wTup r env Q = (r env fun xs => match shs xs with
  | some ds => ds.length ≤ sizeLine ∧ Q (.tuple ds)
  | none => False) := Eq.trans rfl rfl
def wLst (r : WA) : WE := fun env Q => r env fun xs => match shs xs with
  | some ds => ds.length ≤ sizeLine ∧ Q (.list ds)
  | none => False
@[simp ↓] theorem wLst_ap (r : WA) env Q : wLst r env Q = (r env fun xs => match shs xs with
  | some ds => ds.length ≤ sizeLine ∧ Q (.list ds)
  | none => False) := Eq.trans rfl rfl
theorem e_tup {x1 : Nat} {pos : Pos} {r : WA} (h : DenA G es r) : DenE G (.Tuple es x1 pos) (wTup r) := by
  obtain ⟨t, h1, h2⟩ := h
  refine ⟨_, fun i => pe_tup (h1 i), fun W F0 H0 F H σ env Q R s h k => ?_⟩
  refine h2 W F0 H0 F H σ env _ _ s h fun vs ens F1 H1 e1 r1 _ q1 => ?_
  split at q1
  · rename_i ds q
    have r2 := r1.shs q
    refine ⟨by rw [r2.length]; exact q1.1, fun p hp => ?_⟩
    have e2 : Ext W F1 H1 (upd F1 p (.tup vs)) (upd H1 p (.tup vs)) := Ext.new e1.u e1.w hp
    exact k _ _ _ _ (e1.trans e2) (.tup (SqT.of upd_same) (by rw [r2.length]; exact q1.1) (Rps.mono e2.f r2)) q1.2
  · exact q1.elim
theorem snd_lst {K : PySem.W.Frag} {W : Option Addr} {F1 H1 : Hp} {vs : List V} {ds : List D} {Q : D → Prop} {R : VK} (u : Same F1 H1) (w : WdOk W F1 H1) (r : Rps K F1 vs ds) (hl : vs.length ≤ sizeLine) (q : Q (.list ds))
    (k : ∀ v d F' H', Ext W F1 H1 F' H' → Rp K F' v d → Q d → R v H') : ∀ p, H1 p = none → R (.ref p) (upd H1 p (.lst vs)) := fun p hp => by
  have e2 : Ext W F1 H1 (upd F1 p (.lst vs)) (upd H1 p (.lst vs)) := Ext.new u w hp
  exact k _ _ _ _ e2 (.lst upd_same hl (Rps.mono e2.f r)) q
theorem snd_tup {K : PySem.W.Frag} {W : Option Addr} {F1 H1 : Hp} {vs : List V} {ds : List D} {Q : D → Prop} {R : VK} (u : Same F1 H1) (w : WdOk W F1 H1) (r : Rps K F1 vs ds) (hl : vs.length ≤ sizeLine) (q : Q (.tuple ds))
    (k : ∀ v d F' H', Ext W F1 H1 F' H' → Rp K F' v d → Q d → R v H') : ∀ p, H1 p = none → R (.ref p) (upd H1 p (.tup vs)) := fun p hp => by
  have e2 : Ext W F1 H1 (upd F1 p (.tup vs)) (upd H1 p (.tup vs)) := Ext.new u w hp
  exact k _ _ _ _ e2 (.tup (SqT.of upd_same) hl (Rps.mono e2.f r)) q
theorem e_lst {pos : Pos} {r : WA} (h : DenA G es r) : DenE G (.List es pos) (wLst r) := by
  obtain ⟨t, h1, h2⟩ := h
  refine ⟨_, fun i => pe_lst (h1 i), fun W F0 H0 F H σ env Q R s h k => ?_⟩
  refine h2 W F0 H0 F H σ env _ _ s h fun vs ens F1 H1 e1 r1 _ q1 => ?_
  split at q1
  · rename_i ds q
    have r2 := r1.shs q
    refine ⟨by rw [r2.length]; exact q1.1, ?_⟩
    exact snd_lst e1.u e1.w r2 (by rw [r2.length]; exact q1.1) q1.2 fun v d F' H' e2 => k v d F' H' (e1.trans e2)
  · exact q1.elim
/-! built-ins by name -/
abbrev CD := List D → (D → Prop) → Prop
def CallS (K : PySem.W.Frag) (r : List V → Hp → VK → Prop) (o : CD) : Prop := ∀ (W : Option Addr) (F H : Hp) (vs : List V) (ds : List D) (Q : D → Prop) (R : VK), Same F H → WdOk W F H → RpBs K W F H vs ds → o ds Q →
  (∀ v d' F' H', Ext W F H F' H' → Rp K F' v d' → Q d' → R v H') → r vs H R
def CallD (G : Fam) (f : Value) (o : CD) : Prop := ∃ r, (∀ i, CallR (G.X i) f r) ∧ CallS G.K r o
def wCall (o : CD) (r : WL) : WE := fun env Q => r env fun ds => o ds Q
@[simp ↓] theorem wCall_ap (o : CD) (r : WL) env Q : wCall o r env Q = (r env fun ds => o ds Q) := Eq.trans rfl rfl
theorem snd_call {K : PySem.W.Frag} {r : List V → Hp → VK → Prop} {o : CD} {t : TA} {w : WL} (ho : CallS K r o) (h2 : ∀ (W : Option Addr) (F0 H0 F H : Hp) (σ : L2.St) (env : Env) (Q : List D → Prop) (R : List V → Hp → Prop), StR K W F0 H0 F H σ env → w env Q →
    (∀ vs ds F' H', Ext W F H F' H' → RpBs K W F' H' vs ds → Q ds → R vs H') → t σ H R) : SndE K (tCB r t) (wCall o w) := by
  intro W F0 H0 F H σ env Q R s h k
  refine h2 W F0 H0 F H σ env _ _ s h fun vs ds F1 H1 e1 r1 q1 => ?_
  exact ho W F1 H1 vs ds Q R e1.u e1.w r1 q1 fun v d F' H' e2 r2 q2 => k v d F' H' (e1.trans e2) r2 q2
theorem e_callB {id : String} {x : Str} {p pos : Pos} {o : CD} {w : WL} (ho : CallD G (.builtin id) o) (hg : ∀ i, Gl (G.X i) x := by intro _; rfl) (hm : ∀ i, (G.X i).mg x = none) (hv : bootBuiltins x = some (.builtin id)) (ha : DenL G (e :: es) w) (hn : x ≠ "__name__" := by decide) (hdb : (x == ("__debug__" : Str)) = false := by decide)
    (he : ∀ i, starEach (e :: es) (G.X i).env = (false, eval e (G.X i).env) :: starEach es (G.X i).env := by intro _; rfl) (hpl : ∀ i, (backTo pos (starEach es (G.X i).env)).any (·.1) = false := by intro _; rfl) : DenE G (.Call (.Name x p) (e :: es) [] pos) (wCall o w) := by
  obtain ⟨r, h1, h2⟩ := ho
  obtain ⟨t, a1, a2⟩ := ha
  exact ⟨_, fun i => pe_callB (h1 i) (hg i) (hm i) hv (a1 i) hn hdb (he i) (hpl i), snd_call h2 a2⟩
theorem e_callTy {T : String} {x : Str} {p pos : Pos} {o : CD} {w : WL} (ho : CallD G (.type T) o) (hg : ∀ i, Gl (G.X i) x := by intro _; rfl) (hm : ∀ i, (G.X i).mg x = none) (hv : bootBuiltins x = some (.type T)) (ha : DenL G (e :: es) w) (hn : x ≠ "__name__" := by decide) (hdb : (x == ("__debug__" : Str)) = false := by decide)
    (he : ∀ i, starEach (e :: es) (G.X i).env = (false, eval e (G.X i).env) :: starEach es (G.X i).env := by intro _; rfl) (hpl : ∀ i, (backTo pos (starEach es (G.X i).env)).any (·.1) = false := by intro _; rfl) : DenE G (.Call (.Name x p) (e :: es) [] pos) (wCall o w) := by
  obtain ⟨r, h1, h2⟩ := ho
  obtain ⟨t, a1, a2⟩ := ha
  exact ⟨_, fun i => pe_callTy (h1 i) (hg i) (hm i) hv (a1 i) hn hdb (he i) (hpl i), snd_call h2 a2⟩
end
end Dn
/-! Dn3: the operators and built-ins over plain data. -/
namespace Dn
open PySem PySem.Spec PyProof.Rows L2
theorem opR_K {X : Cx} {K : PySem.W.Frag} {f : Value → Value → Sem Value} {r : PySem.W.Frag → R2} (h : X.K = K) (o : OpR X f (r X.K)) : OpR X f (r K) := by
  subst h
  exact o
theorem callR_K {X : Cx} {K : PySem.W.Frag} {f : Value} {r : PySem.W.Frag → List V → Hp → VK → Prop} (h : X.K = K) (o : CallR X f (r X.K)) : CallR X f (r K) := by
  subst h
  exact o
section
variable {G : Fam}
def dAdd : OD := fun d e Q => match d, e with
  | .int i, .int j => Q (.int (i + j))
  | .list a, .list b => a.length + b.length ≤ sizeLine ∧ Q (.list (a ++ b))
  | .tuple a, .tuple b => a.length + b.length ≤ sizeLine ∧ Q (.tuple (a ++ b))
  | .str a, .str b => a.length + b.length ≤ sizeLine ∧ Q (.str (a ++ b))
  | _, _ => False
@[simp ↓] theorem dAdd_ap d e Q : dAdd d e Q = (match d, e with
  | .int i, .int j => Q (.int (i + j))
  | .list a, .list b => a.length + b.length ≤ sizeLine ∧ Q (.list (a ++ b))
  | .tuple a, .tuple b => a.length + b.length ≤ sizeLine ∧ Q (.tuple (a ++ b))
  | .str a, .str b => a.length + b.length ≤ sizeLine ∧ Q (.str (a ++ b))
  | _, _ => False) := Eq.trans rfl rfl
theorem o_add : OpD G (binaryOp .Add) dAdd := by
  refine ⟨_, fun i => OpR.or op_add (OpR.or op_cat (OpR.or (opR_K (r := rCatA) (G.hK i) op_catA) op_add_str)), fun W F H x y d e Q R u w rx ry q k => ?_⟩
  cases d <;> cases e <;> first | exact (show False from q).elim | skip
  · cases rx.int
    cases ry.int
    exact .inl ⟨_, _, rfl, rfl, k _ _ F H (Ext.refl u w) (.int _) q⟩
  · cases rx.str
    cases ry.str
    exact .inr (.inr (.inr ⟨_, _, rfl, rfl, q.1, k _ _ F H (Ext.refl u w) (.str _) q.2⟩))
  · obtain ⟨a, vs, rfl, h1, l1, r1⟩ := rx.list u
    obtain ⟨b, ws, rfl, h2, l2, r2⟩ := ry.list u
    have hl : vs.length + ws.length ≤ sizeLine := by rw [r1.length, r2.length]; exact q.1
    exact .inr (.inl ⟨a, b, vs, ws, rfl, rfl, h1, h2, hl, snd_lst u w (r1.append r2) (by rw [List.length_append]; exact hl) q.2 k⟩)
  · obtain ⟨a, vs, rfl, h1, l1, r1⟩ := rx.tuple
    obtain ⟨b, ws, rfl, h2, l2, r2⟩ := ry.tuple
    have hl : vs.length + ws.length ≤ sizeLine := by rw [r1.length, r2.length]; exact q.1
    refine .inr (.inr (.inl ⟨a, b, vs, ws, rfl, rfl, sameT u h1, sameT u h2, hl, fun e => ?_, fun _ e => ?_, fun _ _ => snd_tup u w (r1.append r2) (by rw [List.length_append]; exact hl) q.2 k⟩))
    · subst e
      cases r1
      exact k _ _ F H (Ext.refl u w) (.tup h2 l2 r2) q.2
    · subst e
      cases r2
      refine k _ _ F H (Ext.refl u w) (.tup h1 l1 r1) ?_
      have z := q.2
      rw [List.append_nil] at z
      exact z
def dSub : OD := fun d e Q => match d, e with
  | .int i, .int j => Q (.int (i - j))
  | _, _ => False
@[simp ↓] theorem dSub_ap d e Q : dSub d e Q = (match d, e with
  | .int i, .int j => Q (.int (i - j))
  | _, _ => False) := Eq.trans rfl rfl
theorem o_sub : OpD G (binaryOp .Sub) dSub := by
  refine ⟨_, fun i => op_sub, fun W F H x y d e Q R u w rx ry q k => ?_⟩
  cases d <;> cases e <;> first | exact (show False from q).elim | skip
  cases rx.int
  cases ry.int
  exact ⟨_, _, rfl, rfl, k _ _ F H (Ext.refl u w) (.int _) q⟩
/-! ints under a condition -/
theorem o_I {f : Value → Value → Sem Value} {C : Int → Int → Prop} {g : Int → Int → Int} {o : OD} (h : ∀ i, OpR (G.X i) f (rI C fun i j => .int (g i j))) (ho : ∀ d e Q, o d e Q → ∃ i j, d = .int i ∧ e = .int j ∧ C i j ∧ Q (.int (g i j))) : OpD G f o := by
  refine ⟨_, h, fun W F H x y d e Q R u w rx ry q k => ?_⟩
  obtain ⟨i, j, rfl, rfl, c, q⟩ := ho d e Q q
  cases rx.int
  cases ry.int
  exact ⟨_, _, rfl, rfl, c, k _ _ F H (Ext.refl u w) (.int _) q⟩
def dMod : OD := fun d e Q => match d, e with
  | .int i, .int j => j ≠ 0 ∧ Q (.int (i.fmod j))
  | _, _ => False
@[simp ↓] theorem dMod_ap d e Q : dMod d e Q = (match d, e with
  | .int i, .int j => j ≠ 0 ∧ Q (.int (i.fmod j))
  | _, _ => False) := Eq.trans rfl rfl
theorem o_mod : OpD G (binaryOp .Mod) dMod := o_I (fun _ => op_modN) fun d e Q q => by
  cases d <;> cases e <;> first | exact (show False from q).elim | exact ⟨_, _, rfl, rfl, q.1, q.2⟩
def dDiv : OD := fun d e Q => match d, e with
  | .int i, .int j => (j ≠ 0 ∧ j.natAbs < 1073741824) ∧ Q (.int (i.fdiv j))
  | _, _ => False
@[simp ↓] theorem dDiv_ap d e Q : dDiv d e Q = (match d, e with
  | .int i, .int j => (j ≠ 0 ∧ j.natAbs < 1073741824) ∧ Q (.int (i.fdiv j))
  | _, _ => False) := Eq.trans rfl rfl
theorem o_div : OpD G (binaryOp .FloorDiv) dDiv := o_I (fun _ => op_fdivN) fun d e Q q => by
  cases d <;> cases e <;> first | exact (show False from q).elim | exact ⟨_, _, rfl, rfl, q.1, q.2⟩
def dPow : OD := fun d e Q => match d, e with
  | .int i, .int j => (0 ≤ j ∧ j ≤ 1000000 ∧ i.natAbs < 2 ^ 64) ∧ Q (.int (i ^ j.toNat))
  | _, _ => False
@[simp ↓] theorem dPow_ap d e Q : dPow d e Q = (match d, e with
  | .int i, .int j => (0 ≤ j ∧ j ≤ 1000000 ∧ i.natAbs < 2 ^ 64) ∧ Q (.int (i ^ j.toNat))
  | _, _ => False) := Eq.trans rfl rfl
theorem o_pow : OpD G (binaryOp .Pow) dPow := o_I (fun _ => op_pow) fun d e Q q => by
  cases d <;> cases e <;> first | exact (show False from q).elim | exact ⟨_, _, rfl, rfl, q.1, q.2⟩
def dXor : OD := fun d e Q => match d, e with
  | .int i, .int j => Q (.int (Builtin.bitXor i j))
  | _, _ => False
@[simp ↓] theorem dXor_ap d e Q : dXor d e Q = (match d, e with
  | .int i, .int j => Q (.int (Builtin.bitXor i j))
  | _, _ => False) := Eq.trans rfl rfl
theorem o_xor : OpD G (binaryOp .BitXor) dXor := by
  refine ⟨_, fun i => op_xor, fun W F H x y d e Q R u w rx ry q k => ?_⟩
  cases d <;> cases e <;> first | exact (show False from q).elim | skip
  cases rx.int
  cases ry.int
  exact ⟨_, _, rfl, rfl, k _ _ F H (Ext.refl u w) (.int _) q⟩
end
/-! ### products -/
theorem tuple_once (l : Addr) (its : Array Value) (n : Nat) (dd : Option Addr) (sl : Array (Option Value)) (u : Tok) :
    Meets (Builtin.«tuple.__mul__» ⟨[.ref l, .int 1 u], []⟩) (fun _ R s => s.heap.get? l = some { cls := .type "tuple", dict := dd, data := .seq its n, slots := sl } ∧ s.TypeIs (.ref l) "tuple" ∧ R (.ok (.ret (Value.ref l))) s) :=
  .of_wp fun P w A R st hyp => by
    obtain ⟨hp, gs, dr, tk, os⟩ := st
    obtain ⟨look, ty, goal⟩ := hyp
    have idx := AutoSeq1.idx_int
    have one : (its.isEmpty || (1 : Int) == 1) = true := by simp
    wp_walk using wpAny_loadPart' look
    all_goals first
      | exact ⟨_, rfl, goal⟩
      | (refine wpAny_bind (wpAny_typeOf ty (wpAny_pure ?_)) ; wp_walk using wpAny_loadPart' look ; exact ⟨_, rfl, goal⟩)
      | trace_state

theorem op_once {X : Cx} : OpR X (binaryOp .Mult) (fun x y H Q => ∃ l xs, x = .ref l ∧ y = .int 1 ∧ SqT X.K H l xs ∧ Q (.ref l) H) := by
  intro pins s σ H x y v u Q I rx ry h
  obtain ⟨l, xs, rfl, rfl, hT, q⟩ := h
  cases rx
  obtain ⟨t, rfl⟩ := ry
  obtain ⟨its, r, ⟨⟨cls, dd, data, sl⟩, ho, hc, n, hd⟩, hs⟩ := I.tuple hT
  simp only at hc hd
  subst hc hd
  have ty : s.TypeIs (.ref l) "tuple" := ⟨_, ho, rfl⟩
  refine wpAny_binaryOp_repeat_ref (T := "tuple") (U := "int") (by decide) ty (fun s' => typeIs_int s' 1 t) noFill_tuple_mul F.fills_int_mul F.slot_int_rmul repeat_tuple F.slot_int_index.lookup ?_
  refine call_meets F.slot_int_rmul (typeIs_int s 1 t) F.entry_int_rmul (F.args_int_rmul_2 _ _) (int_rmul_tuple 1 t l its.toArray n dd sl) ?_
  refine ⟨ho, rfl, ty, ?_⟩
  exact call_meets F.slot_tuple_mul ty F.entry_tuple_mul (F.args_tuple_mul_2 _ _) (tuple_once l its.toArray n dd sl t) ⟨ho, ty, ⟨.ref l, H, I, rfl, q⟩⟩
section
variable {G : Fam}
def dMul : OD := fun d e Q => match d, e with
  | .int i, .int j => CMul i j ∧ Q (.int (i * j))
  | .tuple a, .int k => (a ≠ [] ∧ 1 ≤ k ∧ k ≤ 1000 ∧ a.length ≤ 1000) ∧ Q (.tuple (List.replicate k.toNat a).flatten)
  | .list a, .int k => (-(2 ^ 63) ≤ k ∧ k < 2 ^ 63 ∧ a.length * k.toNat ≤ sizeLine) ∧ Q (.list (List.replicate k.toNat a).flatten)
  | _, _ => False
@[simp ↓] theorem dMul_ap d e Q : dMul d e Q = (match d, e with
  | .int i, .int j => CMul i j ∧ Q (.int (i * j))
  | .tuple a, .int k => (a ≠ [] ∧ 1 ≤ k ∧ k ≤ 1000 ∧ a.length ≤ 1000) ∧ Q (.tuple (List.replicate k.toNat a).flatten)
  | .list a, .int k => (-(2 ^ 63) ≤ k ∧ k < 2 ^ 63 ∧ a.length * k.toNat ≤ sizeLine) ∧ Q (.list (List.replicate k.toNat a).flatten)
  | _, _ => False) := Eq.trans rfl rfl
theorem o_mul : OpD G (binaryOp .Mult) dMul := by
  refine ⟨_, fun i => OpR.or op_mul (OpR.or (opR_K (r := rRepT) (G.hK i) op_repT) (OpR.or (opR_K (r := fun K x y H Q => ∃ l xs, x = .ref l ∧ y = .int 1 ∧ SqT K H l xs ∧ Q (.ref l) H) (G.hK i) op_once) op_rep)), fun W F H x y d e Q R u w rx ry q k => ?_⟩
  cases d <;> cases e <;> first | exact (show False from q).elim | skip
  · cases rx.int
    cases ry.int
    exact .inl ⟨_, _, rfl, rfl, q.1, k _ _ F H (Ext.refl u w) (.int _) q.2⟩
  · rename_i xs j
    obtain ⟨a, vs, rfl, h1, l1, r1⟩ := rx.list u
    cases ry.int
    obtain ⟨⟨q1, q2, q3⟩, q⟩ := q
    have hz : vs.length * j.toNat ≤ sizeLine := by rw [r1.length]; exact q3
    exact .inr (.inr (.inr ⟨a, j, vs, rfl, rfl, h1, q1, q2, hz, snd_lst u w (r1.rep _) (by rw [PyProof.Rows.lm_len_rep_flat, Nat.mul_comm]; exact hz) q k⟩))
  · rename_i xs j
    obtain ⟨a, vs, rfl, h1, l1, r1⟩ := rx.tuple
    cases ry.int
    obtain ⟨⟨q0, q1, q2, q3⟩, q⟩ := q
    have hl := r1.length
    by_cases hj : j = 1
    · subst hj
      refine .inr (.inr (.inl ⟨a, vs, rfl, rfl, sameT u h1, k _ _ F H (Ext.refl u w) (.tup h1 l1 r1) ?_⟩))
      have z : (List.replicate (Int.toNat 1) xs).flatten = xs := by
        show (List.replicate 1 xs).flatten = xs
        simp
      rw [z] at q
      exact q
    · have nv : vs ≠ [] := fun z => by
        subst z
        cases r1
        exact q0 rfl
      refine .inr (.inl ⟨a, j, vs, rfl, rfl, sameT u h1, nv, by omega, q2, by omega, snd_tup u w (r1.rep _) ?_ q k⟩)
      rw [PyProof.Rows.lm_len_rep_flat, sizeLine_eq]
      have a1 : j.toNat * vs.length ≤ 1000 * 1000 := Nat.mul_le_mul (by omega) (by omega)
      omega

def dShl : OD := fun d e Q => match d, e with
  | .int i, .int j => (0 ≤ j ∧ j ≤ 1000000 ∧ i.natAbs < 2 ^ 64) ∧ Q (.int (i * 2 ^ j.toNat))
  | _, _ => False
@[simp ↓] theorem dShl_ap d e Q : dShl d e Q = (match d, e with
  | .int i, .int j => (0 ≤ j ∧ j ≤ 1000000 ∧ i.natAbs < 2 ^ 64) ∧ Q (.int (i * 2 ^ j.toNat))
  | _, _ => False) := Eq.trans rfl rfl
theorem o_shl : OpD G (binaryOp .LShift) dShl := o_I (fun _ => op_shl) fun d e Q q => by
  cases d <;> cases e <;> first | exact (show False from q).elim | exact ⟨_, _, rfl, rfl, q.1, q.2⟩
/-! ### comparisons -/
theorem o_B {f : Value → Value → Sem Value} {g : Int → Int → Bool} {o : OD} (h : ∀ i, OpR (G.X i) f (rI0 fun i j => .bl (g i j))) (ho : ∀ d e Q, o d e Q → ∃ i j, d = .int i ∧ e = .int j ∧ Q (.bool (g i j))) : OpD G f o := by
  refine ⟨_, h, fun W F H x y d e Q R u w rx ry q k => ?_⟩
  obtain ⟨i, j, rfl, rfl, q2⟩ := ho d e Q q
  cases rx.int
  cases ry.int
  exact ⟨_, _, rfl, rfl, k _ _ F H (Ext.refl u w) (.bl _) q2⟩
def dCmp (g : Int → Int → Bool) : OD := fun d e Q => match d, e with
  | .int i, .int j => Q (.bool (g i j))
  | _, _ => False
@[simp ↓] theorem dCmp_ap (g : Int → Int → Bool) d e Q : dCmp g d e Q = (match d, e with
  | .int i, .int j => Q (.bool (g i j))
  | _, _ => False) := Eq.trans rfl rfl
theorem dCmp_out {g : Int → Int → Bool} (d e : D) (Q : D → Prop) (q : dCmp g d e Q) : ∃ i j, d = .int i ∧ e = .int j ∧ Q (.bool (g i j)) := by
  cases d <;> cases e <;> first | exact (show False from q).elim | exact ⟨_, _, rfl, rfl, q⟩
abbrev dLt : OD := dCmp fun i j => decide (i < j)
abbrev dLe : OD := dCmp fun i j => decide (i ≤ j)
abbrev dGt : OD := dCmp fun i j => decide (j < i)
abbrev dGe : OD := dCmp fun i j => decide (j ≤ i)
theorem o_lt : OpD G (compareOp .Lt) dLt := o_B (fun _ => op_lt) dCmp_out
theorem o_le : OpD G (compareOp .LtE) dLe := o_B (fun _ => op_le) dCmp_out
theorem o_gt : OpD G (compareOp .Gt) dGt := o_B (fun _ => op_gt) dCmp_out
theorem o_ge : OpD G (compareOp .GtE) dGe := o_B (fun _ => op_ge) dCmp_out
/-- there is room to compare -/
def Hu (G : Fam) : Prop := ∀ i, (G.X i).A.units + 65 < cLine
def dEq : OD := fun d e Q => (SeqAt.shaped d = true ∧ SeqAt.shaped e = true) ∧ Q (.bool (PyData.eqv d e))
@[simp ↓] theorem dEq_ap d e Q : dEq d e Q = ((SeqAt.shaped d = true ∧ SeqAt.shaped e = true) ∧ Q (.bool (PyData.eqv d e))) := Eq.trans rfl rfl
def dNe : OD := fun d e Q => (SeqAt.shaped d = true ∧ SeqAt.shaped e = true) ∧ Q (.bool (!PyData.eqv d e))
@[simp ↓] theorem dNe_ap d e Q : dNe d e Q = ((SeqAt.shaped d = true ∧ SeqAt.shaped e = true) ∧ Q (.bool (!PyData.eqv d e))) := Eq.trans rfl rfl
theorem o_eq (hu : Hu G) : OpD G (compareOp .Eq) dEq :=
  ⟨_, fun i => opR_K (r := rEqD) (G.hK i) (op_eqD (Nat.lt_of_succ_lt (hu i))), fun W F H x y d e Q R u w rx ry q k => ⟨d, e, rx.dp u (SeqAt.canLay_of_shaped q.1.1), ry.dp u (SeqAt.canLay_of_shaped q.1.2), q.1.1, q.1.2, k _ _ F H (Ext.refl u w) (.bl _) q.2⟩⟩
theorem o_ne (hu : Hu G) : OpD G (compareOp .NotEq) dNe :=
  ⟨_, fun i => opR_K (r := rNeD) (G.hK i) (op_neD (Nat.lt_of_succ_lt (hu i))), fun W F H x y d e Q R u w rx ry q k => ⟨d, e, rx.dp u (SeqAt.canLay_of_shaped q.1.1), ry.dp u (SeqAt.canLay_of_shaped q.1.2), q.1.1, q.1.2, k _ _ F H (Ext.refl u w) (.bl _) q.2⟩⟩
def flatD : D → Bool
  | .none => true
  | .bool _ => true
  | .int _ => true
  | .str _ => true
  | _ => false
@[simp] theorem flatD_n : flatD .none = true := rfl
@[simp] theorem flatD_b (b : Bool) : flatD (.bool b) = true := rfl
@[simp] theorem flatD_i (i : Int) : flatD (.int i) = true := rfl
@[simp] theorem flatD_s (x : Str) : flatD (.str x) = true := rfl
@[simp] theorem flatD_t (xs : List D) : flatD (.tuple xs) = false := rfl
@[simp] theorem flatD_l (xs : List D) : flatD (.list xs) = false := rfl
@[simp] theorem flatD_d (xs : List (D × D)) : flatD (.dict xs) = false := rfl
theorem Rp.flat {K : PySem.W.Frag} {F : Hp} {v : V} {d : D} (h : Rp K F v d) : flatV v = flatD d := by
  cases h <;> rfl
theorem Rps.flat {K : PySem.W.Frag} {F : Hp} : ∀ {vs : List V} {ds : List D}, Rps K F vs ds → vs.all flatV = ds.all flatD
  | _, _, .nil => rfl
  | _, _, .cons h r => by rw [List.all_cons, List.all_cons, h.flat, Rps.flat r]
theorem RpB.flat {K : PySem.W.Frag} {W : Option Addr} {F H : Hp} {v : V} {d : D} (h : RpB K W F H v d) : flatV v = flatD d := by
  rcases h with h | ⟨a, vs, es, h1, h2, _⟩
  · exact h.flat
  · subst h1 h2
    rfl
theorem Rp.eqv {K : PySem.W.Frag} {F F' : Hp} {v u : V} {d e : D} (h : Rp K F v d) (r : Rp K F' u e) (f : flatD d = true) (g : flatD e = true) : eqV v u = PyData.eqv d e := by
  cases h <;> cases r <;> first | rfl | cases f | cases g
theorem Rp.inV {K : PySem.W.Frag} {F F' : Hp} {u : V} {e : D} (r : Rp K F' u e) (g : flatD e = true) : ∀ {vs : List V} {ds : List D}, Rps K F vs ds → ds.all flatD = true → inV u vs = ds.any fun z => PyData.eqv z e
  | _, _, .nil, _ => rfl
  | _, _, .cons h t, f => by
    rw [List.all_cons, Bool.and_eq_true] at f
    have ih := Rp.inV r g t f.2
    unfold L2.inV at ih ⊢
    rw [List.any_cons, List.any_cons, h.eqv r f.1 g, ih]
theorem RpB.rp {K : PySem.W.Frag} {W : Option Addr} {F H : Hp} {v : V} {d : D} (h : RpB K W F H v d) (f : flatD d = true) : Rp K F v d := by
  rcases h with h | ⟨a, vs, es, h1, h2, _⟩
  · exact h
  · subst h2
    cases f
def dIn : OD := fun d e Q => match e with
  | .list ds => (SeqAt.shaped d = true ∧ SeqAt.shaped (.list ds) = true) ∧ Q (.bool (ds.any fun z => PyData.eqv z d))
  | .tuple ds => (flatD d = true ∧ ds.all flatD = true) ∧ Q (.bool (ds.any fun z => PyData.eqv z d))
  | _ => False
@[simp ↓] theorem dIn_ap d e Q : dIn d e Q = (match e with
  | .list ds => (SeqAt.shaped d = true ∧ SeqAt.shaped (.list ds) = true) ∧ Q (.bool (ds.any fun z => PyData.eqv z d))
  | .tuple ds => (flatD d = true ∧ ds.all flatD = true) ∧ Q (.bool (ds.any fun z => PyData.eqv z d))
  | _ => False) := Eq.trans rfl rfl
def dNotIn : OD := fun d e Q => match e with
  | .list ds => (SeqAt.shaped d = true ∧ SeqAt.shaped (.list ds) = true) ∧ Q (.bool (!ds.any fun z => PyData.eqv z d))
  | .tuple ds => (flatD d = true ∧ ds.all flatD = true) ∧ Q (.bool (!ds.any fun z => PyData.eqv z d))
  | _ => False
@[simp ↓] theorem dNotIn_ap d e Q : dNotIn d e Q = (match e with
  | .list ds => (SeqAt.shaped d = true ∧ SeqAt.shaped (.list ds) = true) ∧ Q (.bool (!ds.any fun z => PyData.eqv z d))
  | .tuple ds => (flatD d = true ∧ ds.all flatD = true) ∧ Q (.bool (!ds.any fun z => PyData.eqv z d))
  | _ => False) := Eq.trans rfl rfl
theorem o_in (hu : Hu G) : OpD G (compareOp .In) dIn := by
  refine ⟨_, fun i => OpR.or (opR_K (r := rInD) (G.hK i) (op_inD (hu i))) (opR_K (r := fun K => rIn K false) (G.hK i) op_in_seq), fun W F H x y d e Q R u w rx ry q k => ?_⟩
  cases e with
  | list ds => exact .inl ⟨d, ds, rx.dp u (SeqAt.canLay_of_shaped q.1.1), ry.dp u (SeqAt.canLay_of_shaped q.1.2), q.1.1, q.1.2, k _ _ F H (Ext.refl u w) (.bl _) q.2⟩
  | tuple ds =>
    obtain ⟨a, vs, rfl, h1, l1, r1⟩ := ry.tuple
    refine .inr ⟨a, vs, rfl, .inr (sameT u h1), by rw [rx.flat]; exact q.1.1, by rw [r1.flat]; exact q.1.2, ?_⟩
    rw [if_neg Bool.false_ne_true, (rx.rp q.1.1).inV q.1.1 r1 q.1.2]
    exact k _ _ F H (Ext.refl u w) (.bl _) q.2
  | _ => exact (show False from q).elim
theorem o_notIn (hu : Hu G) : OpD G (compareOp .NotIn) dNotIn := by
  refine ⟨_, fun i => OpR.or (opR_K (r := rNotInD) (G.hK i) (op_notInD (hu i))) (opR_K (r := fun K => rIn K true) (G.hK i) op_notIn_seq), fun W F H x y d e Q R u w rx ry q k => ?_⟩
  cases e with
  | list ds => exact .inl ⟨d, ds, rx.dp u (SeqAt.canLay_of_shaped q.1.1), ry.dp u (SeqAt.canLay_of_shaped q.1.2), q.1.1, q.1.2, k _ _ F H (Ext.refl u w) (.bl _) q.2⟩
  | tuple ds =>
    obtain ⟨a, vs, rfl, h1, l1, r1⟩ := ry.tuple
    refine .inr ⟨a, vs, rfl, .inr (sameT u h1), by rw [rx.flat]; exact q.1.1, by rw [r1.flat]; exact q.1.2, ?_⟩
    rw [if_pos rfl, (rx.rp q.1.1).inV q.1.1 r1 q.1.2]
    exact k _ _ F H (Ext.refl u w) (.bl _) q.2
  | _ => exact (show False from q).elim

/-! ### subscripts, slices -/
variable {a b e : Expr} {wa wb w : WE} {pos p2 : Pos}
def dIx : OD := fun d e Q => match d, e with
  | .list ds, .int i => match atI ds i with
    | some x => Q x
    | none => False
  | .tuple ds, .int i => match atI ds i with
    | some x => Q x
    | none => False
  | .str z, .int i => z.length ≤ sizeLine ∧ match atI z.cps.toList i with
    | some c => Q (.str ⟨#[c]⟩)
    | none => False
  | _, _ => False
@[simp ↓] theorem dIx_ap d e Q : dIx d e Q = (match d, e with
  | .list ds, .int i => match atI ds i with
    | some x => Q x
    | none => False
  | .tuple ds, .int i => match atI ds i with
    | some x => Q x
    | none => False
  | .str z, .int i => z.length ≤ sizeLine ∧ match atI z.cps.toList i with
    | some c => Q (.str ⟨#[c]⟩)
    | none => False
  | _, _ => False) := Eq.trans rfl rfl
theorem Rps.atI {K : PySem.W.Frag} {F : Hp} {vs : List V} {ds : List D} {i : Int} {d : D} (r : Rps K F vs ds) (h : L2.atI ds i = some d) : ∃ v, L2.atI vs i = some v ∧ Rp K F v d := by
  unfold L2.atI at h ⊢
  rw [← r.length] at h
  cases q : ixN vs.length i with
  | none =>
    rw [q] at h
    cases h
  | some j =>
    rw [q] at h
    obtain ⟨v, h1, h2⟩ := r.getD (i := j) h
    exact ⟨v, h1, h2⟩
theorem s_ix {K : PySem.W.Frag} : OpS K (rIx K) dIx := by
  intro W F H x y d e Q R u w rx ry q k
  cases d <;> cases e <;> first | exact (show False from q).elim | skip
  · cases rx.str
    cases ry.int
    obtain ⟨hl, q⟩ := q
    split at q
    · rename_i c hc
      exact .inr (.inr ⟨_, _, c, rfl, rfl, hl, hc, k _ _ F H (Ext.refl u w) (.str _) q⟩)
    · exact q.elim
  · obtain ⟨a, vs, rfl, h1, l1, r1⟩ := rx.list u
    cases ry.int
    simp only [dIx] at q
    split at q
    · rename_i z hz
      obtain ⟨v, g1, g2⟩ := r1.atI hz
      exact .inl ⟨a, vs, _, v, rfl, rfl, SqL.of h1, g1, k _ _ F H (Ext.refl u w) g2 q⟩
    · exact q.elim
  · obtain ⟨a, vs, rfl, h1, l1, r1⟩ := rx.tuple
    cases ry.int
    simp only [dIx] at q
    split at q
    · rename_i z hz
      obtain ⟨v, g1, g2⟩ := r1.atI hz
      exact .inr (.inl ⟨a, vs, _, v, rfl, rfl, sameT u h1, g1, k _ _ F H (Ext.refl u w) g2 q⟩)
    · exact q.elim
theorem e_ix (ha : DenB G a wa) (hb : DenB G b wb) (hs : PlainIx b := by exact fun _ _ => rfl) : DenE G (.Subscript a b pos) (wOp dIx wa wb) := by
  obtain ⟨ta, a1, a2⟩ := ha
  obtain ⟨tb, b1, b2⟩ := hb
  refine ⟨_, fun i => ?_, snd_op s_ix a2 b2⟩
  have z : IxR (G.X i) (rIx G.K) := by
    have y : IxR (G.X i) (rIx (G.X i).K) := ix_seq
    rw [G.hK i] at y
    exact y
  exact pe_ix z (a1 i) (b1 i) hs
abbrev WO := Env → (Option Int → Prop) → Prop
def DenO (G : Fam) (e : Option Expr) (w : WO) : Prop := ∃ t, (∀ i, PO (G.X i) e t) ∧ ∀ (W : Option Addr) (F0 H0 F H : Hp) (σ : L2.St) (env : Env) (Q : Option Int → Prop) (R : Option Int → Hp → Prop), StR G.K W F0 H0 F H σ env → w env Q →
  (∀ o F' H', Ext W F H F' H' → Q o → R o H') → t σ H R
def wNoP : WO := fun _ Q => Q none
@[simp ↓] theorem wNoP_ap u0_ Q : wNoP u0_ Q = (Q none) := Eq.trans rfl rfl
def wSomeP (w : WE) : WO := fun env Q => w env fun d => match d with
  | .int i => Q (some i)
  | _ => False
@[simp ↓] theorem wSomeP_ap (w : WE) env Q : wSomeP w env Q = (w env fun d => match d with
  | .int i => Q (some i)
  | _ => False) := Eq.trans rfl rfl
theorem p_none : DenO G none wNoP := ⟨_, fun _ => po_none, fun W F0 H0 F H σ env Q R s h k => k none F H (Ext.refl s.u s.w) h⟩
theorem p_some (h : DenE G e w) : DenO G (some e) (wSomeP w) := by
  obtain ⟨t, h1, h2⟩ := h
  refine ⟨_, fun i => po_some (h1 i), fun W F0 H0 F H σ env Q R s h k => ?_⟩
  refine h2 W F0 H0 F H σ env _ _ s h fun v d F' H' x r q => ?_
  cases r with
  | int i => exact ⟨i, rfl, k _ F' H' x q⟩
  | _ => exact (show False from q).elim
def cutD {α : Type} (xs : List α) (lo hi : Option Int) : List α := (xs.drop (HT.sIx xs.length 0 lo)).take (HT.sIx xs.length xs.length hi - HT.sIx xs.length 0 lo)
theorem Rps.cut {K : PySem.W.Frag} {F : Hp} {vs : List V} {ds : List D} (r : Rps K F vs ds) (lo hi : Option Int) : Rps K F (cutV vs lo hi) (cutD ds lo hi) := by
  unfold cutV cutD
  rw [r.length]
  exact (r.drop _).take _
theorem cutD_whole {α : Type} (xs : List α) (lo hi : Option Int) (h : HT.sIx xs.length 0 lo = 0 ∧ HT.sIx xs.length xs.length hi = xs.length) : cutD xs lo hi = xs := by
  unfold cutD
  rw [h.1, h.2]
  simp
def wSl (a : WE) (lo hi : WO) : WE := fun env Q => a env fun d => lo env fun l => hi env fun h => match d with
  | .list ds => Q (.list (cutD ds l h))
  | .tuple ds => Q (.tuple (cutD ds l h))
  | .str z => z.length ≤ sizeLine ∧ Q (.str (cutS z l h))
  | _ => False
@[simp ↓] theorem wSl_ap (a : WE) (lo hi : WO) env Q : wSl a lo hi env Q = (a env fun d => lo env fun l => hi env fun h => match d with
  | .list ds => Q (.list (cutD ds l h))
  | .tuple ds => Q (.tuple (cutD ds l h))
  | .str z => z.length ≤ sizeLine ∧ Q (.str (cutS z l h))
  | _ => False) := Eq.trans rfl rfl
theorem e_sl {lo hi : Option Expr} {wl wh : WO} (ha : DenB G a wa) (hl : DenO G lo wl) (hh : DenO G hi wh) : DenE G (.Subscript a (.Slice lo hi none p2) pos) (wSl wa wl wh) := by
  obtain ⟨t, a1, a2⟩ := ha
  obtain ⟨tl, l1, l2⟩ := hl
  obtain ⟨th, h1, h2⟩ := hh
  refine ⟨_, fun i => pe_slice (r := fun x lo hi H Q => rSlL G.K x lo hi H Q ∨ rSlA G.K x lo hi H Q ∨ rSlS x lo hi H Q) ?_ (a1 i) (l1 i) (h1 i), fun W F0 H0 F H σ env Q R s h k => ?_⟩
  · have y : SlR (G.X i) (fun x lo hi H Q => rSlL (G.X i).K x lo hi H Q ∨ rSlA (G.X i).K x lo hi H Q ∨ rSlS x lo hi H Q) := SlR.or sl_list (SlR.or sl_tupA sl_str)
    rw [G.hK i] at y
    exact y
  · refine a2 W F0 H0 F H σ env _ _ s h fun v d F1 H1 e1 r1 q1 => ?_
    refine l2 W F0 H0 F1 H1 σ env _ _ (s.step e1) q1 fun l F2 H2 e2 q2 => ?_
    refine h2 W F0 H0 F2 H2 σ env _ _ ((s.step e1).step e2) q2 fun u F3 H3 e3 q3 => ?_
    have r := (r1.step e2).step e3
    have ee := (e1.trans e2).trans e3
    cases d with
    | list ds =>
      obtain ⟨a, vs, rfl, g1, g2, g3⟩ := r.list ee.u
      refine .inl ⟨a, vs, rfl, SqL.of g1, ?_⟩
      exact snd_lst ee.u ee.w (g3.cut l u) (Nat.le_trans (cutV_length vs l u) g2) q3 fun v d F' H' e4 => k v d F' H' (ee.trans e4)
    | tuple ds =>
      obtain ⟨a, vs, rfl, g1, g2, g3⟩ := r.tuple
      refine .inr (.inl ⟨a, vs, rfl, sameT ee.u g1, fun hw => ?_, fun _ => ?_⟩)
      · have q4 : Q (.tuple (cutD ds l u)) := q3
        rw [cutD_whole ds l u (by rw [← g3.length]; exact hw)] at q4
        exact k _ _ F3 H3 ee (.tup g1 g2 g3) q4
      · exact snd_tup ee.u ee.w (g3.cut l u) (Nat.le_trans (cutV_length vs l u) g2) q3 fun v d F' H' e4 => k v d F' H' (ee.trans e4)
    | str z =>
      cases r.str
      exact .inr (.inr ⟨z, rfl, q3.1, k _ _ F3 H3 ee (.str _) q3.2⟩)
    | _ => exact (show False from q3).elim
end
end Dn
/-! Dn4: built-ins, isinstance, count; what is walked; targets; comprehensions. -/
namespace Dn
open PySem PySem.Spec PyProof.Rows L2
section
variable {G : Fam}
/-! ### built-ins -/
theorem RpBs.one {K : PySem.W.Frag} {W : Option Addr} {F H : Hp} {vs : List V} {d : D} (r : RpBs K W F H vs [d]) : ∃ v, vs = [v] ∧ RpB K W F H v d := by
  cases r with
  | cons h t =>
    cases t
    exact ⟨_, rfl, h⟩
theorem RpBs.two {K : PySem.W.Frag} {W : Option Addr} {F H : Hp} {vs : List V} {d e : D} (r : RpBs K W F H vs [d, e]) : ∃ v u, vs = [v, u] ∧ RpB K W F H v d ∧ RpB K W F H u e := by
  cases r with
  | cons h t =>
    obtain ⟨u, rfl, g⟩ := RpBs.one t
    exact ⟨_, u, rfl, h, g⟩
def cLen : CD := fun ds Q => match ds with
  | [.list xs] => Q (.int xs.length)
  | [.tuple xs] => Q (.int xs.length)
  | [.str z] => z.length ≤ sizeLine ∧ Q (.int z.length)
  | _ => False
@[simp ↓] theorem cLen_ap ds Q : cLen ds Q = (match ds with
  | [.list xs] => Q (.int xs.length)
  | [.tuple xs] => Q (.int xs.length)
  | [.str z] => z.length ≤ sizeLine ∧ Q (.int z.length)
  | _ => False) := Eq.trans rfl rfl
theorem c_len : CallD G (.builtin "len") cLen := by
  refine ⟨_, fun i => CallR.or (callR_K (r := fun K xs H Q => ∃ p ys, xs = [.ref p] ∧ (SqL K H p ys ∨ SqT K H p ys) ∧ Q (.int ys.length) H) (G.hK i) call_len_seq) call_len_str, fun W F H vs ds Q R u w r q k => ?_⟩
  unfold cLen at q
  split at q
  · obtain ⟨v, rfl, h⟩ := r.one
    obtain ⟨a, vs, rfl, h1, h2, h3⟩ := h.list u
    exact .inl ⟨a, vs, rfl, .inl (SqL.of h1), by rw [h3.length]; exact k _ _ F H (Ext.refl u w) (.int _) q⟩
  · obtain ⟨v, rfl, h⟩ := r.one
    obtain ⟨a, vs, rfl, h1, h2, h3⟩ := h.tuple
    exact .inl ⟨a, vs, rfl, .inr (sameT u h1), by rw [h3.length]; exact k _ _ F H (Ext.refl u w) (.int _) q⟩
  · obtain ⟨v, rfl, h⟩ := r.one
    cases h.str
    exact .inr ⟨_, rfl, q.1, k _ _ F H (Ext.refl u w) (.int _) q.2⟩
  · exact q.elim
def cList : CD := fun ds Q => match ds with
  | [.list xs] => Q (.list xs)
  | [.tuple xs] => Q (.list xs)
  | _ => False
@[simp ↓] theorem cList_ap ds Q : cList ds Q = (match ds with
  | [.list xs] => Q (.list xs)
  | [.tuple xs] => Q (.list xs)
  | _ => False) := Eq.trans rfl rfl
theorem c_list : CallD G (.type "list") cList := by
  refine ⟨_, fun i => callR_K (r := fun K xs H Q => ∃ p ys, xs = [.ref p] ∧ (SqL K H p ys ∨ SqT K H p ys) ∧ ∀ l, H l = none → Q (.ref l) (upd H l (.lst ys))) (G.hK i) call_list_of, fun W F H vs ds Q R u w r q k => ?_⟩
  unfold cList at q
  split at q
  · obtain ⟨v, rfl, h⟩ := r.one
    obtain ⟨a, vs, rfl, h1, h2, h3⟩ := h.list u
    exact ⟨a, vs, rfl, .inl (SqL.of h1), snd_lst u w h3 h2 q k⟩
  · obtain ⟨v, rfl, h⟩ := r.one
    obtain ⟨a, vs, rfl, h1, h2, h3⟩ := h.tuple
    exact ⟨a, vs, rfl, .inr (sameT u h1), snd_lst u w h3 h2 q k⟩
  · exact q.elim
def cTuple : CD := fun ds Q => match ds with
  | [.list xs] => Q (.tuple xs)
  | [.tuple xs] => Q (.tuple xs)
  | _ => False
@[simp ↓] theorem cTuple_ap ds Q : cTuple ds Q = (match ds with
  | [.list xs] => Q (.tuple xs)
  | [.tuple xs] => Q (.tuple xs)
  | _ => False) := Eq.trans rfl rfl
theorem c_tuple : CallD G (.type "tuple") cTuple := by
  refine ⟨_, fun i => callR_K (r := fun K xs H Q => ∃ p ys, xs = [.ref p] ∧ ((SqL K H p ys ∧ ∀ l, H l = none → Q (.ref l) (upd H l (.tup ys))) ∨ (SqT K H p ys ∧ Q (.ref p) H))) (G.hK i) call_tuple_of, fun W F H vs ds Q R u w r q k => ?_⟩
  unfold cTuple at q
  split at q
  · obtain ⟨v, rfl, h⟩ := r.one
    obtain ⟨a, vs, rfl, h1, h2, h3⟩ := h.list u
    exact ⟨a, vs, rfl, .inl ⟨SqL.of h1, snd_tup u w h3 h2 q k⟩⟩
  · obtain ⟨v, rfl, h⟩ := r.one
    obtain ⟨a, vs, rfl, h1, h2, h3⟩ := h.tuple
    exact ⟨a, vs, rfl, .inr ⟨sameT u h1, k _ _ F H (Ext.refl u w) (.tup h1 h2 h3) q⟩⟩
  · exact q.elim
def bools : List D → Option (List Bool)
  | [] => some []
  | .bool b :: r => (bools r).map (b :: ·)
  | _ :: _ => none
def intsD : List D → Option (List Int)
  | [] => some []
  | .int b :: r => (intsD r).map (b :: ·)
  | _ :: _ => none
theorem bools_map (bs : List Bool) : bools (bs.map .bool) = some bs := by
  induction bs with
  | nil => rfl
  | cons b r ih => show (bools (r.map .bool)).map (b :: ·) = _; rw [ih]; rfl
theorem ints_map (bs : List Int) : intsD (bs.map .int) = some bs := by
  induction bs with
  | nil => rfl
  | cons b r ih => show (intsD (r.map .int)).map (b :: ·) = _; rw [ih]; rfl
theorem Rps.bls {K : PySem.W.Frag} {F : Hp} : ∀ {vs : List V} {ds : List D} {bs : List Bool}, Rps K F vs ds → bools ds = some bs → vs = bs.map V.bl
  | _, _, _, .nil, e => by cases e; rfl
  | _, _, _, .cons (d := d) h r, e => by
    cases h with
    | bl b =>
      simp only [bools, Option.map_eq_some_iff] at e
      obtain ⟨es, q, rfl⟩ := e
      rw [Rps.bls r q]
      rfl
    | _ => simp [bools] at e
theorem Rps.intsV {K : PySem.W.Frag} {F : Hp} : ∀ {vs : List V} {ds : List D} {bs : List Int}, Rps K F vs ds → intsD ds = some bs → vs = bs.map V.int
  | _, _, _, .nil, e => by cases e; rfl
  | _, _, _, .cons (d := d) h r, e => by
    cases h with
    | int b =>
      simp only [intsD, Option.map_eq_some_iff] at e
      obtain ⟨es, q, rfl⟩ := e
      rw [Rps.intsV r q]
      rfl
    | _ => simp [intsD] at e
def cAll : CD := fun ds Q => match ds with
  | [.list xs] => match bools xs with
    | some bs => Q (.bool (bs.all id))
    | none => False
  | _ => False
@[simp ↓] theorem cAll_ap ds Q : cAll ds Q = (match ds with
  | [.list xs] => match bools xs with
    | some bs => Q (.bool (bs.all id))
    | none => False
  | _ => False) := Eq.trans rfl rfl
def cAny : CD := fun ds Q => match ds with
  | [.list xs] => match bools xs with
    | some bs => Q (.bool (bs.any id))
    | none => False
  | _ => False
@[simp ↓] theorem cAny_ap ds Q : cAny ds Q = (match ds with
  | [.list xs] => match bools xs with
    | some bs => Q (.bool (bs.any id))
    | none => False
  | _ => False) := Eq.trans rfl rfl
def Calm (G : Fam) : Prop := ∀ i, (G.X i).calm = true
theorem c_all (hc : Calm G) : CallD G (.builtin "all") cAll := by
  refine ⟨_, fun i => callR_K (r := rAll) (G.hK i) (cr_all (hc i)), fun W F H vs ds Q R u w r q k => ?_⟩
  unfold cAll at q
  split at q
  · obtain ⟨v, rfl, h⟩ := r.one
    obtain ⟨a, vs, rfl, h1, h2, h3⟩ := h.list u
    split at q
    · rename_i bs hb
      cases h3.bls hb
      exact ⟨a, bs, rfl, SqL.of h1, k _ _ F H (Ext.refl u w) (.bl _) q⟩
    · exact q.elim
  · exact q.elim
theorem c_any (hc : Calm G) : CallD G (.builtin "any") cAny := by
  refine ⟨_, fun i => callR_K (r := rAny) (G.hK i) (cr_any (hc i)), fun W F H vs ds Q R u w r q k => ?_⟩
  unfold cAny at q
  split at q
  · obtain ⟨v, rfl, h⟩ := r.one
    obtain ⟨a, vs, rfl, h1, h2, h3⟩ := h.list u
    split at q
    · rename_i bs hb
      cases h3.bls hb
      exact ⟨a, bs, rfl, SqL.of h1, k _ _ F H (Ext.refl u w) (.bl _) q⟩
    · exact q.elim
  · exact q.elim
def cSum : CD := fun ds Q => match ds with
  | [.list xs] => match intsD xs with
    | some bs => Q (.int bs.sum)
    | none => False
  | _ => False
@[simp ↓] theorem cSum_ap ds Q : cSum ds Q = (match ds with
  | [.list xs] => match intsD xs with
    | some bs => Q (.int bs.sum)
    | none => False
  | _ => False) := Eq.trans rfl rfl
theorem c_sum (hc : Calm G) : CallD G (.builtin "sum") cSum := by
  refine ⟨_, fun i => callR_K (r := rSum) (G.hK i) (cr_sum (hc i)), fun W F H vs ds Q R u w r q k => ?_⟩
  unfold cSum at q
  split at q
  · obtain ⟨v, rfl, h⟩ := r.one
    obtain ⟨a, vs, rfl, h1, h2, h3⟩ := h.list u
    split at q
    · rename_i bs hb
      cases h3.intsV hb
      exact ⟨a, bs, rfl, SqL.of h1, k _ _ F H (Ext.refl u w) (.int _) q⟩
    · exact q.elim
  · exact q.elim
def cAbs : CD := fun ds Q => match ds with
  | [.int i] => Q (.int (if i < 0 then -i else i))
  | _ => False
@[simp ↓] theorem cAbs_ap ds Q : cAbs ds Q = (match ds with
  | [.int i] => Q (.int (if i < 0 then -i else i))
  | _ => False) := Eq.trans rfl rfl
theorem c_abs : CallD G (.builtin "abs") cAbs := by
  refine ⟨_, fun i => call_abs, fun W F H vs ds Q R u w r q k => ?_⟩
  unfold cAbs at q
  split at q
  · obtain ⟨v, rfl, h⟩ := r.one
    cases h.int
    exact ⟨_, rfl, k _ _ F H (Ext.refl u w) (.int _) q⟩
  · exact q.elim
def cInt : CD := fun ds Q => match ds with
  | [.int i] => Q (.int i)
  | [.bool b] => Q (.int (if b then 1 else 0))
  | _ => False
@[simp ↓] theorem cInt_ap ds Q : cInt ds Q = (match ds with
  | [.int i] => Q (.int i)
  | [.bool b] => Q (.int (if b then 1 else 0))
  | _ => False) := Eq.trans rfl rfl
theorem c_int : CallD G (.type "int") cInt := by
  refine ⟨_, fun i => call_int1, fun W F H vs ds Q R u w r q k => ?_⟩
  unfold cInt at q
  split at q
  · obtain ⟨v, rfl, h⟩ := r.one
    cases h.int
    exact .inl ⟨_, rfl, k _ _ F H (Ext.refl u w) (.int _) q⟩
  · obtain ⟨v, rfl, h⟩ := r.one
    cases h.bool
    exact .inr ⟨_, rfl, k _ _ F H (Ext.refl u w) (.int _) q⟩
  · exact q.elim

/-! ### isinstance -/
def tyD : D → String
  | .none => "NoneType"
  | .bool _ => "bool"
  | .int _ => "int"
  | .str _ => "str"
  | .list _ => "list"
  | .tuple _ => "tuple"
  | .dict _ => "dict"
theorem sqT_ty {K : PySem.W.Frag} {H : Hp} {a : Addr} {xs : List V} (h : SqT K H a xs) : TyX K H (.ref a) (.type "tuple") := by
  rcases h with (h | ⟨o, h⟩) | ⟨o, its, n, h, hc, _⟩
  · exact .base (.tup h)
  · exact .fTuple h
  · exact .kTuple h hc
theorem RpB.ty {K : PySem.W.Frag} {W : Option Addr} {F H : Hp} {v : V} {d : D} (u : Same F H) (h : RpB K W F H v d) : TyX K H v (.type (tyD d)) := by
  cases d with
  | none => cases h.none; exact .base .non
  | bool b => cases h.bool; exact .base (.bl b)
  | int i => cases h.int; exact .base (.int i)
  | str x => cases h.str; exact .base (.str x)
  | list ds =>
    obtain ⟨a, vs, rfl, h1, _⟩ := h.list u
    exact .base (.lst h1)
  | tuple ds =>
    obtain ⟨a, vs, rfl, h1, _⟩ := h.tuple
    exact sqT_ty (sameT u h1)
  | dict kvs =>
    rcases h with h | ⟨a, vs, es, h1, h2, _⟩
    · cases h with
      | dct g => exact .base (.dK (u _ _ g))
    · cases h2
def isi (d : D) : List String → Option Bool
  | [] => some false
  | n :: r => match kitB (tyD d) n with
    | some true => some true
    | some false => isi d r
    | none => none
/-- isinstance(x, T), T a built-in type by its name -/
def wIsi (w : WE) (ns : List String) : WE := fun env Q => w env fun d => match isi d ns with
  | some b => Q (.bool b)
  | none => False
@[simp ↓] theorem wIsi_ap (w : WE) (ns : List String) env Q : wIsi w ns env Q = (w env fun d => match isi d ns with
  | some b => Q (.bool b)
  | none => False) := Eq.trans rfl rfl
variable {e : Expr} {w : WE} {pos p p2 : Pos}
theorem e_isi {x T : Str} {n : String} (hg : ∀ i, Gl (G.X i) x := by intro _; rfl) (hm : ∀ i, (G.X i).mg x = none) (hv : bootBuiltins x = some (.builtin "isinstance")) (hg2 : ∀ i, Gl (G.X i) T := by intro _; rfl) (hm2 : ∀ i, (G.X i).mg T = none) (hv2 : bootBuiltins T = some (.type n)) (h : DenB G e w)
    (hn : x ≠ "__name__" := by decide) (hdb : (x == ("__debug__" : Str)) = false := by decide) (hn2 : T ≠ "__name__" := by decide) (hdb2 : (T == ("__debug__" : Str)) = false := by decide)
    (he : ∀ i, starEach [e, .Name T p2] (G.X i).env = (false, eval e (G.X i).env) :: starEach [.Name T p2] (G.X i).env := by intro _; rfl) (hpl : ∀ i, (backTo pos (starEach [.Name T p2] (G.X i).env)).any (·.1) = false := by intro _; rfl) :
    DenE G (.Call (.Name x p) [e, .Name T p2] [] pos) (wIsi w [n]) := by
  obtain ⟨t, h1, h2⟩ := h
  refine ⟨_, fun i => pe_callB (callR_K (r := rIsi) (G.hK i) call_isi) (hg i) (hm i) hv (pa_cons (h1 i) (pa_cons (pe_bltn (v := .ty n) (hg2 i) (hm2 i) hv2 rfl hn2 hdb2) pa_nil) (he i)) hn hdb (he i) (hpl i), fun W F0 H0 F H σ env Q R s hw k => ?_⟩
  refine h2 W F0 H0 F H σ env _ _ s hw fun v d F' H' x r q => ?_
  have hq : ∃ b, kitB (tyD d) n = some b ∧ Q (.bool b) := by
    unfold isi at q
    cases z : kitB (tyD d) n with
    | none => rw [z] at q; exact q.elim
    | some b =>
      rw [z] at q
      cases b with
      | true => exact ⟨true, rfl, q⟩
      | false => exact ⟨false, rfl, q⟩
  obtain ⟨b, hb, q⟩ := hq
  exact ⟨v, .ty n, _, _, b, rfl, .ty n, r.ty x.u, kit_ty hb, k _ _ F' H' x (.bl b) q⟩
/-- isinstance(x, (T1, T2)) -/
theorem e_isi2 {x T U : Str} {n m : String} {j : Nat} {p3 p4 : Pos} (hg : ∀ i, Gl (G.X i) x := by intro _; rfl) (hm : ∀ i, (G.X i).mg x = none) (hv : bootBuiltins x = some (.builtin "isinstance")) (hg2 : ∀ i, Gl (G.X i) T := by intro _; rfl) (hm2 : ∀ i, (G.X i).mg T = none) (hv2 : bootBuiltins T = some (.type n))
    (hg3 : ∀ i, Gl (G.X i) U := by intro _; rfl) (hm3 : ∀ i, (G.X i).mg U = none) (hv3 : bootBuiltins U = some (.type m)) (h : DenB G e w)
    (hn : x ≠ "__name__" := by decide) (hdb : (x == ("__debug__" : Str)) = false := by decide) (hn2 : T ≠ "__name__" := by decide) (hdb2 : (T == ("__debug__" : Str)) = false := by decide) (hn3 : U ≠ "__name__" := by decide) (hdb3 : (U == ("__debug__" : Str)) = false := by decide)
    (he : ∀ i, starEach [e, .Tuple [.Name T p2, .Name U p3] j p4] (G.X i).env = (false, eval e (G.X i).env) :: starEach [.Tuple [.Name T p2, .Name U p3] j p4] (G.X i).env := by intro _; rfl)
    (hpl : ∀ i, (backTo pos (starEach [.Tuple [.Name T p2, .Name U p3] j p4] (G.X i).env)).any (·.1) = false := by intro _; rfl) :
    DenE G (.Call (.Name x p) [e, .Tuple [.Name T p2, .Name U p3] j p4] [] pos) (wIsi w [n, m]) := by
  obtain ⟨t, h1, h2⟩ := h
  refine ⟨_, fun i => pe_callB (callR_K (r := rIsiT) (G.hK i) call_isiT) (hg i) (hm i) hv (pa_cons (h1 i) (pa_cons (pe_tup (pa_cons (pe_bltn (v := .ty n) (hg2 i) (hm2 i) hv2 rfl hn2 hdb2) (pa_cons (pe_bltn (v := .ty m) (hg3 i) (hm3 i) hv3 rfl hn3 hdb3) pa_nil))) pa_nil) (he i)) hn hdb (he i) (hpl i), fun W F0 H0 F H σ env Q R s hw k => ?_⟩
  refine h2 W F0 H0 F H σ env _ _ s hw fun v d F' H' x r q => ?_
  refine ⟨by show 2 ≤ sizeLine; decide, fun p hp => ?_⟩
  have x2 : Ext W F' H' (upd F' p (.tup [.ty n, .ty m])) (upd H' p (.tup [.ty n, .ty m])) := Ext.new x.u x.w hp
  have hq : ∃ b, PySem.W.kitAny G.K (.type (tyD d)) [.type n, .type m] = some b ∧ Q (.bool b) := by
    unfold isi at q
    cases z : kitB (tyD d) n with
    | none => rw [z] at q; exact q.elim
    | some b =>
      rw [z] at q
      cases b with
      | true => exact ⟨true, kitAny_cons (kit_ty z) (fun y => nomatch y) (fun _ => rfl), q⟩
      | false =>
        unfold isi at q
        simp only at q
        cases z2 : kitB (tyD d) m with
        | none => rw [z2] at q; exact q.elim
        | some b2 =>
          rw [z2] at q
          cases b2 with
          | true => exact ⟨true, kitAny_cons (kit_ty z) (fun _ => kitAny_cons (kit_ty z2) (fun y => nomatch y) fun _ => rfl) (fun y => nomatch y), q⟩
          | false => exact ⟨false, kitAny_cons (kit_ty z) (fun _ => kitAny_cons (kit_ty z2) (fun _ => kitAny_nil) fun y => nomatch y) (fun y => nomatch y), q⟩
  obtain ⟨b, hb, q⟩ := hq
  refine ⟨v, p, [.ty n, .ty m], _, _, b, rfl, upd_same, .cons (.ty n) (.cons (.ty m) .nil), (r.step x2).ty x2.u, hb, k _ _ _ _ (x.trans x2) (.bl b) q⟩

/-! ### methods of lists that only look -/
def rCntV (K : PySem.W.Frag) : V → List V → Hp → VK → Prop := fun x xs H Q => ∃ (p : Addr) (vs : List V) (y : V), x = .ref p ∧ xs = [y] ∧ SqL K H p vs ∧ flatV y = true ∧ vs.all flatV = true ∧ Q (.int (vs.countP fun z => eqV z y : Nat)) H
theorem countP_eqU {x : V} : ∀ {xs : List V} {us : List Value}, Vals xs us → xs.all flatV = true → us.countP (eqU x) = xs.countP fun y => eqV y x
  | _, _, .nil, _ => rfl
  | _, _, .cons r t, f => by
    rw [List.all_cons, Bool.and_eq_true] at f
    rw [List.countP_cons, List.countP_cons, countP_eqU t f.2, eqU_of r f.1]
theorem mt_cntV {X : Cx} : MtR X "list.count" (rCntV X.K) := by
  intro pins s σ H x xs v us Q I rx rxs h
  obtain ⟨p, vs, y, rfl, rfl, hs, fy, fv, q⟩ := h
  cases rx
  obtain ⟨u, rfl, ru⟩ := rxs.one
  obtain ⟨its, rv, ⟨⟨cls, dd, data, sl⟩, n, ho, hc, hdn, hd⟩, hlen⟩ := I.list hs
  simp only at hc hd
  subst hc hd
  refine call_meets PySem.F.slot_list_count ⟨_, ho, rfl⟩ PySem.F.entry_list_count (PySem.F.args_list_count_2 _ _) (SeqAt.list_countAt p its.toArray n dd sl u (eqU y)) ⟨ho, fun z hz => mem_eqAt ru fy rv fv z (by simpa using hz), ?_⟩
  refine ⟨.int (vs.countP fun z => eqV z y : Nat), H, I.tok _, ⟨s.toks, ?_⟩, q⟩
  rw [show its.toArray.toList = its from rfl, countP_eqU rv fv]
def wCount (a b : WE) : WE := fun env Q => a env fun d => match d with
  | .list ds => b env fun x => (flatD x = true ∧ ds.all flatD = true) ∧ Q (.int (ds.countP fun z => PyData.eqv z x : Nat))
  | _ => False
@[simp ↓] theorem wCount_ap (a b : WE) env Q : wCount a b env Q = (a env fun d => match d with
  | .list ds => b env fun x => (flatD x = true ∧ ds.all flatD = true) ∧ Q (.int (ds.countP fun z => PyData.eqv z x : Nat))
  | _ => False) := Eq.trans rfl rfl
theorem Rp.cnt {K : PySem.W.Frag} {F F' : Hp} {u : V} {e : D} (r : Rp K F' u e) (g : flatD e = true) : ∀ {vs : List V} {ds : List D}, Rps K F vs ds → ds.all flatD = true → vs.countP (fun z => eqV z u) = ds.countP fun z => PyData.eqv z e
  | _, _, .nil, _ => rfl
  | _, _, .cons h t, f => by
    rw [List.all_cons, Bool.and_eq_true] at f
    rw [List.countP_cons, List.countP_cons, Rp.cnt r g t f.2, h.eqv r f.1 g]
theorem e_count {a b : Expr} {wa wb : WE} {apos cpos : Pos} (ha : DenB G a wa) (hb : DenE G b wb)
    (hbase : ∀ i, attributeBase a "count" (G.X i).env (eval a (G.X i).env) = eval a (G.X i).env := by intro _; rfl)
    (hfew : ∀ i, ((backTo cpos (starEach [b] (G.X i).env)).all (fun x => !x.1) && (backToKw cpos (keywordEach [] (G.X i).env)).all (fun x => x.1.isSome)
      && decide (([b] : List Expr).length + ([] : List Keyword).length + (if ([] : List Keyword).isEmpty then 0 else 1) < 30)) = true := by intro _; rfl)
    (hline : (apos.endLine == cpos.line) = true := by rfl) (hs : ∀ i, starEach [b] (G.X i).env = (false, eval b (G.X i).env) :: starEach [] (G.X i).env := by intro _; rfl) :
    DenE G (.Call (.Attribute a "count" apos) [b] [] cpos) (wCount wa wb) := by
  obtain ⟨t, h1, h2⟩ := ha
  obtain ⟨u, k1, k2⟩ := hb
  refine ⟨fun σ H Q => t σ H fun x H1 => tyV G.K "list" x H1 ∧ tCons u tNil σ H1 fun xs H2 => rCntV G.K x xs H2 Q, fun i => ?_, fun W F0 H0 F H σ env Q R s h k => ?_⟩
  · have z := pe_bm (T := "list") (name := "count") (id := "list.count") (apos := apos) (cpos := cpos) PySem.F.plainAttrs_list PySem.F.slot_list_count PySem.F.type_list_count mt_cntV (h1 i) (pa_cons (k1 i) pa_nil (hs i)) (hbase i) (hfew i) hline (hs i) rfl
    unfold tBM at z
    rw [G.hK i] at z
    exact z
  · refine h2 W F0 H0 F H σ env _ _ s h fun v d F1 H1 e1 r1 q1 => ?_
    cases d with
    | list ds =>
      refine ⟨?_, ?_⟩
      · obtain ⟨a, vs, rfl, g1, _⟩ := r1.list e1.u
        exact .inl ⟨rfl, vs, SqL.of g1⟩
      · refine k2 W F0 H0 F1 H1 σ env _ _ (s.step e1) q1 fun x c F2 H2 e2 r2 q2 => ?_
        obtain ⟨a, vs, rfl, g1, g2, g3⟩ := (r1.step e2).list e2.u
        refine ⟨a, vs, x, rfl, rfl, SqL.of g1, by rw [r2.flat]; exact q2.1.1, by rw [g3.flat]; exact q2.1.2, ?_⟩
        rw [r2.cnt q2.1.1 g3 q2.1.2]
        exact k _ _ F2 H2 (e1.trans e2) (.int _) q2.2
    | _ => exact (show False from q1).elim
end
end Dn
/-! Dn5: what is walked (lists, tuples, ranges, enumerate, zip), targets, comprehensions. -/
namespace Dn
open PySem PySem.Spec PyProof.Rows L2
/-! ### enumerate over a tuple -/
theorem enum_new_tup (l : Addr) (its : Array Value) (n : Nat) (dd : Option Addr) (sl : Array (Option Value)) :
    Meets (Builtin.«enumerate.__new__» ⟨[.type "enumerate", .ref l], []⟩) (fun _ R s => s.heap.get? l = some { cls := .type "tuple", dict := dd, data := .seq its n, slots := sl } ∧
      R (.ok (.ret (.ref (s.heap.push { cls := .type "tuple_iterator", data := .fields #[.ref l, .int 0 0] }).objs.size)))
        { s with heap := (s.heap.push { cls := .type "tuple_iterator", data := .fields #[.ref l, .int 0 0] }).push { cls := .type "enumerate", data := .fields #[.none, .bool false, .ref s.heap.objs.size, rawInt 0, .none, .none] } }) :=
  .of_wp fun P w A R st hyp => by
    obtain ⟨hp, gs, dr, tk, os⟩ := st
    obtain ⟨look, goal⟩ := hyp
    have below := sub_enumerate
    have tup : Heap.IsTuple (Shared.heap ⟨hp, gs, dr, tk, os⟩) l its := ⟨_, look, rfl, n, rfl⟩
    wp_walk using AutoSeq1.wpAny_loadPart' look
    refine wpAny_stack_any fun top => wpAny_pure ?_
    split
    · rename_i c _ _ _ _ _
      cases (c == Value.type "enumerate") <;> (wp_walk using AutoSeq1.wpAny_loadPart' look, wpAny_pyIter_tuple tup; exact ⟨_, rfl, goal⟩)
    · wp_walk using AutoSeq1.wpAny_loadPart' look, wpAny_pyIter_tuple tup
      exact ⟨_, rfl, goal⟩
theorem call_enum_tup {P : Program} {w : World} {A : Around} {E : Value → Shared → Prop} {s : Shared} {l : Addr} {its : Array Value} {Q : Value → Shared → Prop} (ht : IsTup s.heap l its)
    (h : ∀ h', IsEnum h' (s.heap.objs.size + 1) s.heap.objs.size 0 .none → h'.IsTupleIter s.heap.objs.size l 0 → (∀ b o, s.heap.get? b = some o → h'.get? b = some o) → Q (.ref (s.heap.objs.size + 1)) { s with heap := h' }) :
    wpAny (model P w) A (call (.type "enumerate") [.ref l]) Q E s := by
  obtain ⟨⟨c, dct, dt, sl⟩, hl, hc, n, hd⟩ := ht
  simp only at hc hd
  subst hc hd
  refine callType_new F.called_enumerate (by decide) (F.typeCall_enumerate_1 _) (F.newCall_enumerate_1 _) (fun obj => F.args_object_init_2 obj _) F.entry_enumerate_new (enum_new_tup l its n dct sl) ⟨hl, ?_⟩
  have sz : (s.heap.push { cls := .type "tuple_iterator", data := .fields #[.ref l, .int 0 0] }).objs.size = s.heap.objs.size + 1 := Heap.size_push ..
  show _ ∧ _
  rw [sz]
  have en : IsEnum ((s.heap.push { cls := .type "tuple_iterator", data := .fields #[.ref l, .int 0 0] }).push { cls := .type "enumerate", data := .fields #[.none, .bool false, .ref s.heap.objs.size, rawInt 0, .none, .none] }) (s.heap.objs.size + 1) s.heap.objs.size 0 .none := by
    have z := Heap.get?_push_size (s.heap.push { cls := .type "tuple_iterator", data := .fields #[.ref l, .int 0 0] }) (o := { cls := .type "enumerate", data := .fields #[.none, .bool false, .ref s.heap.objs.size, rawInt 0, .none, .none] }) rfl
    rw [sz] at z
    exact z
  exact ⟨⟨_, en, rfl⟩, h _ en ⟨_, Heap.get?_push_of_some _ (Heap.get?_push_size _ rfl), rfl, rfl⟩ fun b o x => Heap.get?_push_of_some _ (Heap.get?_push_of_some _ x)⟩
def IteT (K : PySem.W.Frag) (a : Addr) : It :=
  ⟨fun i H => ∃ (xs : List V) (x : V), SqT K H a xs ∧ xs[i]? = some x, fun i H v H' => ∃ T x, v = .ref T ∧ H T = none ∧ H' = upd H T (.tup [.int (i : Nat), x]) ∧ ∀ xs, SqT K H a xs → xs[i]? = some x, fun i H => ∃ xs : List V, SqT K H a xs ∧ xs.length ≤ i⟩
theorem turn_enumT {P : Program} {w : World} {K : PySem.W.Frag} {elts : List Expr} {kk : Nat} {tpos : Pos} (a e it : Addr) :
    Turn P w K (.Tuple elts kk tpos) (IteT K a) [e, it] e (fun i h => (∃ old, IsEnum h e it ((i : Nat) : Int) old) ∧ h.IsTupleIter it a i ∧ e ≠ it) where
  mem := by simp
  obj := fun i h st b hb => by
    obtain ⟨⟨old, he⟩, ⟨o, ho, hc, hd⟩, _⟩ := st
    rcases (show b = e ∨ b = it by simpa using hb) with z | z
    · exact ⟨_, z ▸ he, fun v q => by cases q⟩
    · exact ⟨o, z ▸ ho, fun v q => by rw [hd] at q; cases q⟩
  keep := fun i h h' st k => by
    obtain ⟨⟨old, he⟩, hi, hne⟩ := st
    exact ⟨⟨old, k e (by simp) _ he⟩, hi.at fun o q => k it (by simp) o q, hne⟩
  item := by
    intro X hP hw hK hc i pins s σ H E I hf st hg
    subst hP hw hK
    obtain ⟨⟨old, he⟩, hit, hne⟩ := st
    obtain ⟨xs, x, hq, hx⟩ := hg
    obtain ⟨its, rv, p, hz⟩ := I.tuple hq
    obtain ⟨u, hu, ru⟩ := rv.get hx
    have hel : e < s.heap.objs.size := Heap.lt_size he
    have hil : it < s.heap.objs.size := by
      obtain ⟨_, q, _⟩ := hit
      exact Heap.lt_size q
    have hai : a ≠ it := by
      rintro rfl
      obtain ⟨o1, h1, h2, _⟩ := hit
      obtain ⟨o2, h3, h4, _⟩ := p
      rw [h1] at h3
      cases h3
      rw [h2] at h4
      exact absurd h4 (by decide)
    have hae : e ≠ a := by
      rintro rfl
      obtain ⟨o2, h3, h4, _⟩ := p
      rw [he] at h3
      cases h3
      have h5 : Value.type "enumerate" = Value.type "tuple" := h4
      revert h5
      decide
    have hlt : i < its.toArray.size := by
      have := (List.getElem?_eq_some_iff.mp hu).1
      simpa using this
    refine wpAny_pyNext_enum_itemD (PySem.Draws.tuple (A := X.A.in1) (by exact I.ok.hd hc) it a hai its.toArray) he ⟨hit, p⟩ hlt hne (by simp [hne, hae]) fun y h' tk py ho hit' hT hsz hk => ?_
    have hy : y = u := by
      have z : its.toArray[i]? = some y := py
      rw [show its.toArray[i]? = its[i]? by simp, hu] at z
      exact (Option.some.inj z).symm
    subst hy
    refine ⟨_, rfl, wpAny_letOwnedTupleGo_enum (s := { s with heap := h', toks := tk + 1 }) ho fun h2 he' sb => ?_⟩
    have hT2 : h2.get? s.heap.objs.size = some { cls := .type "tuple", data := .seq #[.int i tk, y] } := (sb.2 _ (Nat.ne_of_gt hel)).trans hT
    have new : ObjOk X.prog X.w (upd H s.heap.objs.size (.tup [.int (i : Nat), x])) h2 s.heap.objs.size (.tup [.int (i : Nat), x]) :=
      ⟨by show 2 ≤ sizeLine; decide, [.int i tk, y], .cons ⟨tk, rfl⟩ (.cons ru .nil), ⟨_, hT2, rfl, _, rfl⟩⟩
    have I1 : Inv X pins σ (upd H s.heap.objs.size (.tup [.int (i : Nat), x])) { s with heap := h2, toks := tk + 1 } :=
      I.turnedNew (ch := [e, it]) (fun b ob hb q => (sb.2 b (fun z => hb (by simp [z]))).trans (hk b ob (fun z => hb (by simp [z])) (fun z => hb (by simp [z])) q)) hf (Nat.le_refl _) new
    refine ⟨.ref s.heap.objs.size, _, I1, rfl, ⟨_, x, rfl, I.hok.fresh (Nat.le_refl _), rfl, fun ys hy => by rw [I.tuple_inj hy hq]; exact hx⟩, ⟨⟨y, ?_⟩, hit'.1.at fun o q => (sb.2 it (Ne.symm hne)).trans q, hne⟩, fun b hb => ?_⟩
    · rw [show ((i + 1 : Nat) : Int) = (i : Int) + 1 by omega]
      exact he'
    · have hb' : b < s.heap.objs.size := by
        rcases (show b = e ∨ b = it by simpa using hb) with z | z
        · exact z ▸ hel
        · exact z ▸ hil
      rw [upd_ne (Nat.ne_of_lt hb')]
      exact (hf b hb).1
  done := by
    intro X hP hw hK hc i pins s σ H E I hf st hg
    subst hP hw hK
    obtain ⟨⟨old, he⟩, hit, hne⟩ := st
    obtain ⟨xs, hq, hx⟩ := hg
    obtain ⟨its, rv, p, hz⟩ := I.tuple hq
    obtain ⟨f0, f1, f2, f3, f4, f5⟩ := hf it (by simp)
    have hl := rv.length
    have hai : a ≠ it := by
      rintro rfl
      obtain ⟨o1, h1, h2, _⟩ := hit
      obtain ⟨o2, h3, h4, _⟩ := p
      rw [h1] at h3
      cases h3
      rw [h2] at h4
      exact absurd h4 (by decide)
    have hT : s.TypeIs (.ref e) "enumerate" := ⟨_, he, rfl⟩
    unfold pyNext
    refine wpAny_bind (wpAny_attempt (wpAny_callSpecial?_slot (name := Str.ofString "__next__") hT F.slot_enumerate_next (wpAny_call_entry F.slot_enumerate_next hT F.entry_enumerate_next ?_ (F.args_enumerate_next_1 _))))
    show wpAny _ _ (field (.ref e) 2 >>= _) _ _ _
    refine wpAny_bind (wpAny_field he rfl (x := .ref it) rfl ?_)
    refine wpAny_bind (PySem.wpAny_nextOf_tuple_end (I.ok.hd hc) hit p (by simp; omega) fun h' x he' hx' => ?_)
    obtain ⟨o, ho, hcx⟩ := hx'
    refine wpAny_bind (wpAny_isInstance (T := "StopIteration") (b := true) ⟨o, ho, hcx⟩ isSubtype_stop ?_)
    exact wpAny_pure ⟨rfl, I.turned (t' := s.toks) (fun b o hb q => he' b o hb q) f0 f1 f3 f4 f5⟩
  self := fun A i s Q E st h => by
    obtain ⟨⟨_, he⟩, _⟩ := st
    exact wpAny_pyIter_enum he h
end Dn
/-! Dn6: walks, targets, comprehensions over plain data. -/
namespace Dn
open PySem PySem.Spec PyProof.Rows L2
/-- J walks the data ds, whatever else is made meanwhile -/
def WalkD (K : PySem.W.Frag) (W : Option Addr) (J : It) (F' : Hp) (ds : List D) : Prop := ds.length ≤ sizeLine ∧ ∃ (B : Hp → Prop) (Y : Nat → Hp → V → Hp → Prop), Walk J ds.length B Y ∧ (∀ F1 H1, Same F' F1 → Same F1 H1 → B H1) ∧
  ∀ F1 H1 i x H2 d, Same F' F1 → Same F1 H1 → WdOk W F1 H1 → ds[i]? = some d → Y i H1 x H2 → ∃ F2, Ext W F1 H1 F2 H2 ∧ Rp K F2 x d
def DenI (G : Fam) (tg it : Expr) (w : WL) : Prop := ∃ wi : TI, (∀ i, PI (G.X i) tg it wi) ∧ ∀ (W : Option Addr) (F0 H0 F H : Hp) (σ : L2.St) (env : Env) (Q : List D → Prop) (R : It → Hp → Prop), StR G.K W F0 H0 F H σ env → w env Q →
  (∀ J ds F' H', Ext W F H F' H' → WalkD G.K W J F' ds → Q ds → R J H') → wi σ H R
section
variable {K : PySem.W.Frag} {W : Option Addr} {F H : Hp} {a b : Addr} {vs ws : List V} {ds es : List D}
theorem walkD_list (hl : vs.length ≤ sizeLine) (h : F a = some (.lst vs)) (r : Rps K F vs ds) : WalkD K W (Itl K a) F ds := by
  refine ⟨by rw [← r.length]; exact hl, fun H => SqL K H a vs, YAt vs, by rw [← r.length]; exact walk_list, fun F1 H1 e u => SqL.of (u _ _ (e _ _ h)), fun F1 H1 i x H2 d e u w hd y => ?_⟩
  obtain ⟨rfl, hx⟩ := y
  obtain ⟨v, h1, h2⟩ := r.getD hd
  rw [hx] at h1
  cases h1
  exact ⟨F1, Ext.refl u w, Rp.mono e h2⟩
theorem walkD_tup (hl : vs.length ≤ sizeLine) (h : SqT K F a vs) (r : Rps K F vs ds) : WalkD K W (Itt K a) F ds := by
  refine ⟨by rw [← r.length]; exact hl, fun H => SqT K H a vs, YAt vs, by rw [← r.length]; exact walk_tup, fun F1 H1 e u => sameT u (sameT e h), fun F1 H1 i x H2 d e u w hd y => ?_⟩
  obtain ⟨rfl, hx⟩ := y
  obtain ⟨v, h1, h2⟩ := r.getD hd
  rw [hx] at h1
  cases h1
  exact ⟨F1, Ext.refl u w, Rp.mono e h2⟩
def rngD (lo : Int) (n : Nat) : List D := (List.range n).map fun k => .int (lo + (k : Nat))
theorem walkD_rng {lo : Int} {n : Nat} (hl : n ≤ sizeLine) : WalkD K W (Itr lo n) F (rngD lo n) := by
  have len : (rngD lo n).length = n := by unfold rngD; rw [List.length_map, List.length_range]
  refine ⟨by rw [len]; exact hl, fun _ => True, YFn fun i => .int (lo + i), by rw [len]; exact walk_range, fun _ _ _ _ => trivial, fun F1 H1 i x H2 d e u w hd y => ?_⟩
  obtain ⟨rfl, rfl⟩ := y
  unfold rngD at hd
  rw [List.getElem?_map] at hd
  have hi : (List.range n)[i]? = some i := by
    cases z : (List.range n)[i]? with
    | none => rw [z] at hd; cases hd
    | some j =>
      obtain ⟨h1, h2⟩ := List.getElem?_eq_some_iff.mp z
      rw [List.getElem_range] at h2
      rw [h2]
  rw [hi] at hd
  cases hd
  exact ⟨F1, Ext.refl u w, .int _⟩
/-- pairs, each a new tuple -/
theorem pairD {B : Hp → Prop} {J : It} {f g : Nat → Option V} {ps : List D} {F' : Hp} (hl : ps.length ≤ sizeLine) (wk : Walk J ps.length B (YPair f g)) (hB : ∀ F1 H1, Same F' F1 → Same F1 H1 → B H1)
    (hp : ∀ i d, ps[i]? = some d → ∃ x y d1 d2, f i = some x ∧ g i = some y ∧ d = .tuple [d1, d2] ∧ Rp K F' x d1 ∧ Rp K F' y d2) : WalkD K W J F' ps := by
  refine ⟨hl, B, _, wk, hB, fun F1 H1 i x H2 d e u w hd y => ?_⟩
  obtain ⟨T, v1, v2, rfl, hT, rfl, g1, g2⟩ := y
  obtain ⟨v3, v4, d1, d2, k1, k2, rfl, r1, r2⟩ := hp i d hd
  rw [k1] at g1
  rw [k2] at g2
  cases g1
  cases g2
  have x1 : Ext W F1 H1 (upd F1 T (.tup [v1, v2])) (upd H1 T (.tup [v1, v2])) := Ext.new u w hT
  exact ⟨_, x1, .tup (SqT.of upd_same) (by show 2 ≤ sizeLine; decide) (.cons (Rp.mono (e.trans x1.f) r1) (.cons (Rp.mono (e.trans x1.f) r2) .nil))⟩
def enumD (ds : List D) : List D := ds.zipIdx.map fun p => .tuple [.int (p.2 : Nat), p.1]
theorem enumD_length : (enumD ds).length = ds.length := by unfold enumD; rw [List.length_map, List.length_zipIdx]
theorem enumD_get {i : Nat} {d : D} (h : (enumD ds)[i]? = some d) : ∃ x, ds[i]? = some x ∧ d = .tuple [.int (i : Nat), x] := by
  unfold enumD at h
  rw [List.getElem?_map, List.getElem?_zipIdx] at h
  cases z : ds[i]? with
  | none => rw [z] at h; cases h
  | some x =>
    rw [z] at h
    simp at h
    exact ⟨x, rfl, h.symm⟩
theorem walkD_enum (hl : vs.length ≤ sizeLine) (h : F a = some (.lst vs)) (r : Rps K F vs ds) : WalkD K W (Ite K a) F (enumD ds) := by
  refine pairD (by rw [enumD_length, ← r.length]; exact hl) (B := fun H => SqL K H a vs) (f := fun i => some (.int (i : Nat))) (g := fun i => vs[i]?) (by rw [enumD_length, ← r.length]; exact walk_enum) (fun F1 H1 e u => SqL.of (u _ _ (e _ _ h))) fun i d hd => ?_
  obtain ⟨x, h1, rfl⟩ := enumD_get hd
  obtain ⟨v, h2, h3⟩ := r.getD h1
  exact ⟨_, v, _, _, rfl, h2, rfl, .int _, h3⟩
theorem walk_enumT : Walk (IteT K a) vs.length (fun H => SqT K H a vs) (YPair (fun i => some (.int (i : Nat))) (fun i => vs[i]?)) := by
  refine ⟨fun i _ hi q => ⟨vs, vs[i], q, by simp [hi]⟩, fun _ q => ⟨vs, q, Nat.le_refl _⟩, fun i H v H' _ q y => ?_⟩
  obtain ⟨T, x, h1, h2, h3, h4⟩ := y
  exact ⟨T, .int (i : Nat), x, h1, h2, h3, rfl, h4 vs q⟩
theorem walkD_enumT (hl : vs.length ≤ sizeLine) (h : SqT K F a vs) (r : Rps K F vs ds) : WalkD K W (IteT K a) F (enumD ds) := by
  refine pairD (by rw [enumD_length, ← r.length]; exact hl) (B := fun H => SqT K H a vs) (f := fun i => some (.int (i : Nat))) (g := fun i => vs[i]?) (by rw [enumD_length, ← r.length]; exact walk_enumT) (fun F1 H1 e u => sameT u (sameT e h)) fun i d hd => ?_
  obtain ⟨x, h1, rfl⟩ := enumD_get hd
  obtain ⟨v, h2, h3⟩ := r.getD h1
  exact ⟨_, v, _, _, rfl, h2, rfl, .int _, h3⟩
def zipD (ds es : List D) : List D := List.zipWith (fun x y => .tuple [x, y]) ds es
theorem zipD_get {i : Nat} {d : D} (h : (zipD ds es)[i]? = some d) : ∃ x y, ds[i]? = some x ∧ es[i]? = some y ∧ d = .tuple [x, y] := by
  unfold zipD at h
  rw [List.getElem?_zipWith] at h
  cases z : ds[i]? with
  | none => rw [z] at h; cases h
  | some x =>
    cases z2 : es[i]? with
    | none => rw [z, z2] at h; cases h
    | some y =>
      rw [z, z2] at h
      cases h
      exact ⟨x, y, rfl, rfl, rfl⟩
theorem zipD_length : (zipD ds es).length = min ds.length es.length := by unfold zipD; rw [List.length_zipWith]
theorem walkD_zip (hl : vs.length ≤ sizeLine) (h : F a = some (.lst vs)) (r : Rps K F vs ds) (h' : F b = some (.lst ws)) (r' : Rps K F ws es) : WalkD K W (Itz K a b) F (zipD ds es) := by
  have hn : (zipD ds es).length = min vs.length ws.length := by rw [zipD_length, r.length, r'.length]
  refine pairD (by rw [hn]; omega) (B := fun H => SqL K H a vs ∧ SqL K H b ws) (f := fun i => vs[i]?) (g := fun i => ws[i]?) (walk_zip hn) (fun F1 H1 e u => ⟨SqL.of (u _ _ (e _ _ h)), SqL.of (u _ _ (e _ _ h'))⟩) fun i d hd => ?_
  obtain ⟨x, y, h1, h2, rfl⟩ := zipD_get hd
  obtain ⟨v, g1, g2⟩ := r.getD h1
  obtain ⟨u, k1, k2⟩ := r'.getD h2
  exact ⟨v, u, _, _, g1, k1, rfl, g2, k2⟩
theorem walk_zipT {n : Nat} (hn : n = min vs.length ws.length) : Walk (RZ.ItzT K a b) n (fun H => SqT K H a vs ∧ SqT K H b ws) (YPair (fun i => vs[i]?) (fun i => ws[i]?)) := by
  subst hn
  refine ⟨fun i _ hi q => ?_, fun _ q => ⟨vs, ws, q.1, q.2, by omega⟩, fun i H v H' _ q y => ?_⟩
  · have h1 : i < vs.length := by omega
    have h2 : i < ws.length := by omega
    exact ⟨vs, ws, vs[i], ws[i], q.1, q.2, by simp [h1], by simp [h2]⟩
  · obtain ⟨T, x, z, h1, h2, h3, h4, h5⟩ := y
    exact ⟨T, x, z, h1, h2, h3, h4 vs q.1, h5 ws q.2⟩
theorem walkD_zipT (hl : vs.length ≤ sizeLine) (h : SqT K F a vs) (r : Rps K F vs ds) (h' : SqT K F b ws) (r' : Rps K F ws es) : WalkD K W (RZ.ItzT K a b) F (zipD ds es) := by
  have hn : (zipD ds es).length = min vs.length ws.length := by rw [zipD_length, r.length, r'.length]
  refine pairD (by rw [hn]; omega) (B := fun H => SqT K H a vs ∧ SqT K H b ws) (f := fun i => vs[i]?) (g := fun i => ws[i]?) (walk_zipT hn) (fun F1 H1 e u => ⟨sameT u (sameT e h), sameT u (sameT e h')⟩) fun i d hd => ?_
  obtain ⟨x, y, h1, h2, rfl⟩ := zipD_get hd
  obtain ⟨v, g1, g2⟩ := r.getD h1
  obtain ⟨u, k1, k2⟩ := r'.getD h2
  exact ⟨v, u, _, _, g1, k1, rfl, g2, k2⟩
end
section
variable {G : Fam} {e tg : Expr} {w : WE} {wl : WL} {p pos : Pos}
/-- for x in e, e a list or a tuple -/
def iSq (K : PySem.W.Frag) (t : TE) : TI := fun σ H R => t σ H fun x H1 => iList K (tC x) σ H1 R ∨ iTup K (tC x) σ H1 R
theorem pi_sq {X : Cx} {t : TE} (h : PE X e t) : PI X tg e (iSq X.K t) := by
  refine ⟨fun pins s σ H R I hw => ?_⟩
  refine thn (h.run pins s σ H _ I hw) fun v s1 ⟨x, H1, I1, r1, q⟩ => ?_
  rcases q with ⟨a, rfl, ⟨xs, hq⟩, q⟩ | ⟨a, rfl, ⟨xs, hq⟩, q⟩
  · cases r1
    obtain ⟨its, rv, p, _⟩ := I1.list hq
    refine wpAny_pyIter_list p.isList ⟨s1.heap.objs.size, [s1.heap.objs.size], _, _, H1, rfl, I1.kept (t' := s1.toks) fun b o e => Heap.get?_push_of_some _ e, turn_list a _, ⟨_, Heap.get?_push_size _ rfl, rfl, rfl⟩, fun b hb => ?_, q⟩
    cases (show b = s1.heap.objs.size by simpa using hb)
    exact I1.fpOk (Nat.le_refl _) I1.fresh
  · cases r1
    obtain ⟨its, rv, p, _⟩ := I1.tuple hq
    refine wpAny_pyIter_tuple (show s1.heap.IsTuple a its.toArray from p) ⟨s1.heap.objs.size, [s1.heap.objs.size], _, _, H1, rfl, I1.kept (t' := s1.toks) fun b o e => Heap.get?_push_of_some _ e, turn_tuple a _, ⟨_, Heap.get?_push_size _ rfl, rfl, rfl⟩, fun b hb => ?_, q⟩
    cases (show b = s1.heap.objs.size by simpa using hb)
    exact I1.fpOk (Nat.le_refl _) I1.fresh
def wSq (w : WE) : WL := fun env Q => w env fun d => match d with
  | .list ds => Q ds
  | .tuple ds => Q ds
  | _ => False
@[simp ↓] theorem wSq_ap (w : WE) env Q : wSq w env Q = (w env fun d => match d with
  | .list ds => Q ds
  | .tuple ds => Q ds
  | _ => False) := Eq.trans rfl rfl
theorem piK {X : Cx} {K : PySem.W.Frag} {r : PySem.W.Frag → TI} (h : X.K = K) (o : PI X tg e (r X.K)) : PI X tg e (r K) := by
  subst h
  exact o
theorem i_sq (h : DenE G e w) : DenI G tg e (wSq w) := by
  obtain ⟨t, h1, h2⟩ := h
  refine ⟨_, fun i => piK (r := fun K => iSq K t) (G.hK i) (pi_sq (h1 i)), fun W F0 H0 F H σ env Q R s hw k => ?_⟩
  refine h2 W F0 H0 F H σ env _ _ s hw fun v d F' H' x r q => ?_
  cases r with
  | lst g1 g2 g3 => exact .inl ⟨_, rfl, ⟨_, SqL.of (x.u _ _ g1)⟩, k _ _ F' H' x (walkD_list g2 g1 g3) q⟩
  | tup g1 g2 g3 => exact .inr ⟨_, rfl, ⟨_, sameT x.u g1⟩, k _ _ F' H' x (walkD_tup g2 g1 g3) q⟩
  | _ => exact (show False from q).elim
/-- range -/
def wRng1 (w : WL) : WL := fun env Q => w env fun ds => match ds with
  | [.int n] => (-(2 ^ 62) ≤ n ∧ n ≤ 16777216) ∧ Q (rngD 0 n.toNat)
  | _ => False
@[simp ↓] theorem wRng1_ap (w : WL) env Q : wRng1 w env Q = (w env fun ds => match ds with
  | [.int n] => (-(2 ^ 62) ≤ n ∧ n ≤ 16777216) ∧ Q (rngD 0 n.toNat)
  | _ => False) := Eq.trans rfl rfl
def wRng2 (w : WL) : WL := fun env Q => w env fun ds => match ds with
  | [.int m, .int n] => (-(2 ^ 62) ≤ m ∧ m < 2 ^ 62 ∧ -(2 ^ 62) ≤ n ∧ n < 2 ^ 62 ∧ n - m ≤ 16777216) ∧ Q (rngD m (n - m).toNat)
  | _ => False
@[simp ↓] theorem wRng2_ap (w : WL) env Q : wRng2 w env Q = (w env fun ds => match ds with
  | [.int m, .int n] => (-(2 ^ 62) ≤ m ∧ m < 2 ^ 62 ∧ -(2 ^ 62) ≤ n ∧ n < 2 ^ 62 ∧ n - m ≤ 16777216) ∧ Q (rngD m (n - m).toNat)
  | _ => False) := Eq.trans rfl rfl
theorem i_rng1 {a : Expr} (hg : ∀ i, Gl (G.X i) "range" := by intro _; rfl) (hm : ∀ i, (G.X i).mg "range" = none) (ha : DenL G [a] wl) (hs : ∀ i, starEach [a] (G.X i).env = [(false, eval a (G.X i).env)] := by intro _; rfl) : DenI G tg (.Call (.Name "range" p) [a] [] pos) (wRng1 wl) := by
  obtain ⟨t, a1, a2⟩ := ha
  refine ⟨_, fun i => pi_range1 (hg i) (hm i) (a1 i) (hs i), fun W F0 H0 F H σ env Q R s hw k => ?_⟩
  refine a2 W F0 H0 F H σ env _ _ s hw fun vs ds F' H' x r q => ?_
  split at q
  · obtain ⟨v, rfl, h⟩ := r.one
    cases h.int
    exact ⟨_, rfl, q.1.1, by have := q.1.2; omega, k _ _ F' H' x (walkD_rng (by rw [sizeLine_eq]; have := q.1.2; omega)) q.2⟩
  · exact q.elim
theorem i_rng2 {a b : Expr} (hg : ∀ i, Gl (G.X i) "range" := by intro _; rfl) (hm : ∀ i, (G.X i).mg "range" = none) (ha : DenL G [a, b] wl) (hs : ∀ i, starEach [a, b] (G.X i).env = [(false, eval a (G.X i).env), (false, eval b (G.X i).env)] := by intro _; rfl) (hs2 : ∀ i, starEach [b] (G.X i).env = [(false, eval b (G.X i).env)] := by intro _; rfl) : DenI G tg (.Call (.Name "range" p) [a, b] [] pos) (wRng2 wl) := by
  obtain ⟨t, a1, a2⟩ := ha
  refine ⟨_, fun i => pi_range2 (hg i) (hm i) (a1 i) (hs i) (hs2 i), fun W F0 H0 F H σ env Q R s hw k => ?_⟩
  refine a2 W F0 H0 F H σ env _ _ s hw fun vs ds F' H' x r q => ?_
  split at q
  · obtain ⟨v, u, rfl, h, h'⟩ := r.two
    cases h.int
    cases h'.int
    exact ⟨_, _, rfl, ⟨q.1.1, q.1.2.1, q.1.2.2.1, q.1.2.2.2.1⟩, k _ _ F' H' x (walkD_rng (by rw [sizeLine_eq]; have := q.1.2.2.2.2; omega)) q.2⟩
  · exact q.elim
/-- enumerate -/
def iEnumA (K : PySem.W.Frag) (t : TA) : TI := fun σ H R => t σ H fun vs H1 => ∃ a xs, vs = [.ref a] ∧ ((SqL K H1 a xs ∧ R (Ite K a) H1) ∨ (SqT K H1 a xs ∧ R (IteT K a) H1))
theorem pi_enumA {X : Cx} {t : TA} {elts : List Expr} {kk : Nat} {tpos : Pos} (hg : Gl X "enumerate") (hm : X.mg "enumerate" = none) (ha : PA X [e] t) (hs : starEach [e] X.env = [(false, eval e X.env)]) : PI X (.Tuple elts kk tpos) (.Call (.Name "enumerate" p) [e] [] pos) (iEnumA X.K t) := by
  refine ⟨fun pins s σ H R I h => ?_⟩
  refine Call_ (ld_blt I hg hm boot_enumerate (PyProof.Rows.callWith_type1 (thn (ha.run pos pins s σ H _ I h) fun us s1 ⟨vs, H1, I1, r1, q1⟩ => ?_) hs rfl))
  obtain ⟨a, xs, rfl, q1⟩ := q1
  obtain ⟨u, rfl, ru⟩ := r1.one
  cases ru
  have fresh : ∀ c, c ∈ [s1.heap.objs.size + 1, s1.heap.objs.size] → FpOk X pins H1 c := fun c hc => by
    have le : s1.heap.objs.size ≤ c := by
      rcases (show c = s1.heap.objs.size + 1 ∨ c = s1.heap.objs.size by simpa using hc) with z | z <;> omega
    exact I1.fpOk le (I1.hok.fresh le)
  rcases q1 with ⟨hq, q⟩ | ⟨hq, q⟩
  · obtain ⟨its, rv, pl, _⟩ := I1.list hq
    refine call_enumerate_list pl.isList fun h' he hit hsz hk => wpAny_pyIter_enum he ?_
    exact ⟨s1.heap.objs.size + 1, [s1.heap.objs.size + 1, s1.heap.objs.size], _, _, H1, rfl, I1.kept (t' := s1.toks) hk, turn_enum a (s1.heap.objs.size + 1) s1.heap.objs.size, ⟨⟨.none, he⟩, hit, Nat.succ_ne_self _⟩, fresh, q⟩
  · obtain ⟨its, rv, pl, _⟩ := I1.tuple hq
    refine call_enum_tup pl fun h' he hit hk => wpAny_pyIter_enum he ?_
    exact ⟨s1.heap.objs.size + 1, [s1.heap.objs.size + 1, s1.heap.objs.size], _, _, H1, rfl, I1.kept (t' := s1.toks) hk, turn_enumT a (s1.heap.objs.size + 1) s1.heap.objs.size, ⟨⟨.none, he⟩, hit, Nat.succ_ne_self _⟩, fresh, q⟩
def wEnum (w : WE) : WL := fun env Q => w env fun d => match d with
  | .list ds => Q (enumD ds)
  | .tuple ds => Q (enumD ds)
  | _ => False
@[simp ↓] theorem wEnum_ap (w : WE) env Q : wEnum w env Q = (w env fun d => match d with
  | .list ds => Q (enumD ds)
  | .tuple ds => Q (enumD ds)
  | _ => False) := Eq.trans rfl rfl
theorem i_enum {elts : List Expr} {kk : Nat} {tpos : Pos} (hg : ∀ i, Gl (G.X i) "enumerate" := by intro _; rfl) (hm : ∀ i, (G.X i).mg "enumerate" = none) (h : DenE G e w) (hs : ∀ i, starEach [e] (G.X i).env = [(false, eval e (G.X i).env)] := by intro _; rfl) : DenI G (.Tuple elts kk tpos) (.Call (.Name "enumerate" p) [e] [] pos) (wEnum w) := by
  obtain ⟨t, h1, h2⟩ := h
  refine ⟨_, fun i => piK (r := fun K => iEnumA K (tCons t tNil)) (G.hK i) (pi_enumA (hg i) (hm i) (pa_cons (h1 i) pa_nil (hs i)) (hs i)), fun W F0 H0 F H σ env Q R s hw k => ?_⟩
  refine h2 W F0 H0 F H σ env _ _ s hw fun v d F' H' x r q => ?_
  cases r with
  | lst g1 g2 g3 => exact ⟨_, _, rfl, .inl ⟨SqL.of (x.u _ _ g1), k _ _ F' H' x (walkD_enum g2 g1 g3) q⟩⟩
  | tup g1 g2 g3 => exact ⟨_, _, rfl, .inr ⟨sameT x.u g1, k _ _ F' H' x (walkD_enumT g2 g1 g3) q⟩⟩
  | _ => exact (show False from q).elim
/-- zip of two lists, of two tuples -/
def wZip (w u : WE) : WL := fun env Q => w env fun d => u env fun c => match d, c with
  | .list ds, .list es => Q (zipD ds es)
  | .tuple ds, .tuple es => Q (zipD ds es)
  | _, _ => False
@[simp ↓] theorem wZip_ap (w u : WE) env Q : wZip w u env Q = (w env fun d => u env fun c => match d, c with
  | .list ds, .list es => Q (zipD ds es)
  | .tuple ds, .tuple es => Q (zipD ds es)
  | _, _ => False) := Eq.trans rfl rfl
theorem i_zip {a b : Expr} {wa wb : WE} {elts : List Expr} {kk : Nat} {tpos : Pos} (hg : ∀ i, Gl (G.X i) "zip" := by intro _; rfl) (hm : ∀ i, (G.X i).mg "zip" = none) (ha : DenE G a wa) (hb : DenE G b wb)
    (hs : ∀ i, starEach [a, b] (G.X i).env = (false, eval a (G.X i).env) :: starEach [b] (G.X i).env := by intro _; rfl) (hs2 : ∀ i, starEach [b] (G.X i).env = (false, eval b (G.X i).env) :: starEach [] (G.X i).env := by intro _; rfl) (hpl : ∀ i, (backTo pos (starEach [b] (G.X i).env)).any (·.1) = false := by intro _; rfl) :
    DenI G (.Tuple elts kk tpos) (.Call (.Name "zip" p) [a, b] [] pos) (wZip wa wb) := by
  obtain ⟨t, h1, h2⟩ := ha
  obtain ⟨u, k1, k2⟩ := hb
  refine ⟨_, fun i => piK (r := fun K => RZ.iZipA K (tCons t (tCons u tNil))) (G.hK i) (RZ.pi_zipA (hg i) (hm i) (pa_cons (h1 i) (pa_cons (k1 i) pa_nil (hs2 i)) (hs i)) (hs i) (hpl i)), fun W F0 H0 F H σ env Q R s hw k => ?_⟩
  refine h2 W F0 H0 F H σ env _ _ s hw fun v d F1 H1 e1 r1 q1 => ?_
  refine k2 W F0 H0 F1 H1 σ env _ _ (s.step e1) q1 fun z c F' H' e2 r q => ?_
  have r1 := Rp.mono e2.f r1
  have x := e1.trans e2
  cases r1 with
  | lst g1 g2 g3 =>
    cases r with
    | lst l1 l2 l3 => exact ⟨_, _, _, _, rfl, .inl ⟨SqL.of (x.u _ _ g1), SqL.of (x.u _ _ l1), k _ _ F' H' x (walkD_zip g2 g1 g3 l1 l3) q⟩⟩
    | _ => exact (show False from q).elim
  | tup g1 g2 g3 =>
    cases r with
    | tup l1 l2 l3 => exact ⟨_, _, _, _, rfl, .inr ⟨sameT x.u g1, sameT x.u l1, k _ _ F' H' x (walkD_zipT g2 g1 g3 l1 l3) q⟩⟩
    | _ => exact (show False from q).elim
  | _ =>
    exfalso
    cases c <;> exact q

/-! ### targets -/
abbrev WG := D → Env → (Env → Prop) → Prop
abbrev WGs := List D → Env → (Env → Prop) → Prop
def DenG (G : Fam) (tg : Expr) (vs : List Nat) (g : WG) : Prop := ∃ t, (∀ i, PG (G.X i) tg t) ∧ ∀ (W : Option Addr) (F0 H0 F H : Hp) (σ : L2.St) (env : Env) (v : V) (d : D) (Q : Env → Prop) (R : L2.St → Hp → Prop), StR G.K W F0 H0 F H σ env → Rp G.K F v d → g d env Q →
  (∀ σ' env', StR G.K W F0 H0 F H σ' env' → (∀ us, (∀ j ∈ vs, j ∈ us) → L2.wipe σ' us = L2.wipe σ us) → Q env' → R σ' H) → t v σ H R
def DenGs (G : Fam) (tgs : List Expr) (vs : List Nat) (g : WGs) : Prop := ∃ t, (∀ i, PGs (G.X i) tgs t) ∧ ∀ (W : Option Addr) (F0 H0 F H : Hp) (σ : L2.St) (env : Env) (xs : List V) (ds : List D) (Q : Env → Prop) (R : L2.St → Hp → Prop), StR G.K W F0 H0 F H σ env → Rps G.K F xs ds → g ds env Q →
  (∀ σ' env', StR G.K W F0 H0 F H σ' env' → (∀ us, (∀ j ∈ vs, j ∈ us) → L2.wipe σ' us = L2.wipe σ us) → Q env' → R σ' H) → t xs σ H R
def gN (i : Nat) : WG := fun d env Q => Q (env.set i (some (.sh d)))
@[simp ↓] theorem gN_ap (i : Nat) d env Q : gN i d env Q = (Q (env.set i (some (.sh d)))) := Eq.trans rfl rfl
def gNil : WGs := fun ds env Q => match ds with
  | [] => Q env
  | _ :: _ => False
@[simp ↓] theorem gNil_ap ds env Q : gNil ds env Q = (match ds with
  | [] => Q env
  | _ :: _ => False) := Eq.trans rfl rfl
def gCons (g : WG) (r : WGs) : WGs := fun ds env Q => match ds with
  | [] => False
  | d :: ds => g d env fun env' => r ds env' Q
@[simp ↓] theorem gCons_ap (g : WG) (r : WGs) ds env Q : gCons g r ds env Q = (match ds with
  | [] => False
  | d :: ds => g d env fun env' => r ds env' Q) := Eq.trans rfl rfl
def gT (g : WGs) : WG := fun d env Q => match d with
  | .tuple ds => g ds env Q
  | _ => False
@[simp ↓] theorem gT_ap (g : WGs) d env Q : gT g d env Q = (match d with
  | .tuple ds => g ds env Q
  | _ => False) := Eq.trans rfl rfl
theorem wipe_set {i : Nat} {x : Option V} : ∀ {us : List Nat} {σ : L2.St}, i ∈ us → L2.wipe (σ.set i x) us = L2.wipe σ us := by
  intro us
  induction us with
  | nil => intro σ h; simp at h
  | cons u us ih =>
    intro σ h
    unfold L2.wipe
    by_cases q : i ∈ us
    · rw [ih q]
    · have e : i = u := by
        rcases List.mem_cons.mp h with z | z
        · exact z
        · exact absurd z q
      subst e
      apply List.ext_getElem?
      intro j
      by_cases hj : j = i
      · subst hj
        by_cases l : j < σ.length
        · rw [List.getElem?_set_self (by rw [L2.wipe_length, List.length_set]; exact l), List.getElem?_set_self (by rw [L2.wipe_length]; exact l)]
        · rw [List.getElem?_eq_none (by rw [List.length_set, L2.wipe_length, List.length_set]; omega), List.getElem?_eq_none (by rw [List.length_set, L2.wipe_length]; omega)]
      · rw [List.getElem?_set_ne (Ne.symm hj), List.getElem?_set_ne (Ne.symm hj)]
        by_cases r : j ∈ us
        · have z : ∀ τ : L2.St, τ.length = σ.length → (L2.wipe τ us)[j]? = if j < σ.length then some none else none := fun τ ht => by
            cases y : (L2.wipe τ us)[j]? with
            | none =>
              have := List.getElem?_eq_none_iff.mp y
              rw [L2.wipe_length, ht] at this
              rw [if_neg (by omega)]
            | some o =>
              have l := (List.getElem?_eq_some_iff.mp y).1
              rw [L2.wipe_length, ht] at l
              rw [if_pos l]
              cases o with
              | none => rfl
              | some v => exact absurd r (L2.wipe_some y).2
          rw [z _ (by rw [List.length_set]), z _ rfl]
        · rw [wipe_get r, wipe_get r, List.getElem?_set_ne (Ne.symm hj)]
theorem g_name {i : Nat} {x : Str} (hN : ∀ j, (G.X j).N.Nodup) (hi : ∀ j, (G.X j).N[i]? = some x := by intro _; rfl) (hx : ∀ j, Loc (G.X j).env.scope x := by intro _; first | exact Or.inl rfl | exact Or.inr rfl) (hf : ∀ j, (G.X j).fn x = true ∨ (G.X j).env.scope.names.lookup x = some .local := by intro _; first | exact Or.inl rfl | exact Or.inr rfl) : DenG G (.Name x pos) [i] (gN i) := by
  refine ⟨_, fun j => pg_name (hN j) (hi j) (hx j) (hf j), fun W F0 H0 F H σ env v d Q R s r h k => ?_⟩
  exact k _ _ (s.setSh r) (fun us hu => wipe_set (hu i (by simp))) h
theorem gs_nil : DenGs G [] [] gNil := by
  refine ⟨_, fun _ => pgs_nil, fun W F0 H0 F H σ env xs ds Q R s r h k => ?_⟩
  cases r with
  | nil => exact ⟨rfl, k σ env s (fun _ _ => rfl) h⟩
  | cons _ _ => exact (show False from h).elim
theorem gs_cons {es : List Expr} {vs us : List Nat} {g : WG} {r : WGs} (h1 : DenG G e vs g) (h2 : DenGs G es us r) (hs : ∀ i, (assignEach (e :: es) (G.X i).env).map (·.2) = assign e (G.X i).env :: (assignEach es (G.X i).env).map (·.2) := by intro _; rfl) : DenGs G (e :: es) (vs ++ us) (gCons g r) := by
  obtain ⟨t, a1, a2⟩ := h1
  obtain ⟨u, b1, b2⟩ := h2
  refine ⟨_, fun i => pgs_cons (a1 i) (b1 i) (hs i), fun W F0 H0 F H σ env xs ds Q R s rr h k => ?_⟩
  cases rr with
  | nil => exact (show False from h).elim
  | cons r1 r2 =>
    refine ⟨_, _, rfl, a2 W F0 H0 F H σ env _ _ _ _ s r1 h fun σ1 env1 s1 w1 q1 => ?_⟩
    exact b2 W F0 H0 F H σ1 env1 _ _ _ _ s1 r2 q1 fun σ2 env2 s2 w2 q2 => k σ2 env2 s2 (fun zs hz => (w2 zs fun j hj => hz j (by simp [hj])).trans (w1 zs fun j hj => hz j (by simp [hj]))) q2
theorem g_tup {es : List Expr} {k : Nat} {vs : List Nat} {g : WGs} (n : Nat) (hc : ∀ i, (G.X i).calm = true) (h : DenGs G es vs g) (hn : ∀ i, (assignEach es (G.X i).env).length = n) (hl : ∀ ds env Q, g ds env Q → ds.length = n) (hst : ∀ i, (assignEach es (G.X i).env).findIdx? (·.1) = none := by intro _; rfl) :
    DenG G (.Tuple es k pos) vs (gT g) := by
  obtain ⟨t, a1, a2⟩ := h
  refine ⟨fun v σ H Q => ∃ a xs, v = .ref a ∧ SqT G.K H a xs ∧ xs.length = n ∧ t xs σ H Q, fun i => ?_, fun W F0 H0 F H σ env v d Q R s r h kk => ?_⟩
  · have z := pg_tup (k := k) (pos := pos) (hc i) (a1 i) (hn i) (hst i)
    unfold gTup at z
    rw [G.hK i] at z
    exact z
  · cases r with
    | tup g1 g2 g3 => exact ⟨_, _, rfl, sameT s.u g1, by rw [g3.length]; exact hl _ _ _ h, a2 W F0 H0 F H σ env _ _ _ _ s g3 h kk⟩
    | _ => exact (show False from h).elim
theorem gNil_len : ∀ ds env Q, gNil ds env Q → ds.length = 0 := fun ds env Q h => by
  cases ds with
  | nil => rfl
  | cons _ _ => exact h.elim
theorem gCons_len {i n : Nat} {r : WGs} (hr : ∀ ds env Q, r ds env Q → ds.length = n) : ∀ ds env Q, gCons (gN i) r ds env Q → ds.length = n + 1 := fun ds env Q h => by
  cases ds with
  | nil => exact h.elim
  | cons d ds => exact congrArg (· + 1) (hr _ _ _ h)
end
end Dn
/-! Dn7: comprehensions, statements, defs. -/
namespace Dn
open PySem PySem.Spec PyProof.Rows L2
section
variable {K : PySem.W.Frag} {W : Option Addr} {F0 H0 F H : Hp} {σ : L2.St} {env : Env}
/-- an object that the environment does not know is laid or changed: the list that a comprehension fills -/
theorem StR.aside {a : Addr} {o : HO} (s : StR K W F0 H0 F H σ env) (h0 : H0 a = none) (fa : F a = none) (nw : W ≠ some a) (no : ∀ (j : Nat) (u : Option Addr) (es : List PyData), env[j]? = some (some (.ow u es)) → σ[j]? ≠ some (some (.ref a))) : StR K W F0 H0 F (upd H a o) σ env := by
  refine ⟨s.ext.write h0 nw fa, s.len, fun i en h => ?_, s.apart⟩
  obtain ⟨v, h1, h2⟩ := s.ent i en h
  refine ⟨v, h1, ?_⟩
  cases en with
  | sh d => exact h2
  | ob b => exact h2
  | ow t us =>
    obtain ⟨b, xs, rfl, qt, q2, q3, q4, q5, q6, q7⟩ := h2
    have nb : b ≠ a := fun e => no i t us h (by rw [h1, e])
    exact ⟨b, xs, rfl, qt, q2, q3, q4, by rw [upd_ne nb]; exact q5, q6, q7⟩
/-- what is fresh was not there at the entry -/
theorem Ext.fresh {a : Addr} (e : Ext W F0 H0 F H) (h : H a = none) : H0 a = none ∧ F a = none ∧ W ≠ some a := by
  have nw : W ≠ some a := fun z => by
    obtain ⟨_, c, p, l, x, n, cs, h1, _⟩ := e.w a z
    rw [h] at h1
    cases h1
  refine ⟨?_, e.u.free h, nw⟩
  cases q : H0 a with
  | none => rfl
  | some o =>
    have z := e.keep a o q nw
    rw [h] at z
    cases z
theorem StR.notOw {a : Addr} (s : StR K W F0 H0 F H σ env) (h : H a = none) : ∀ (j : Nat) (u : Option Addr) (es : List PyData), env[j]? = some (some (.ow u es)) → σ[j]? ≠ some (some (.ref a)) := fun j u es q z => by
  obtain ⟨v, h1, b, xs, rfl, qt, q2, q3, q4, q5, _⟩ := s.ent j _ q
  rw [h1] at z
  cases z
  rw [h] at q5
  cases q5
end

theorem wipe_wipe (σ : L2.St) (vs : List Nat) : L2.wipe (L2.wipe σ vs) vs = L2.wipe σ vs := by
  apply List.ext_getElem?
  intro j
  by_cases h : j ∈ vs
  · have z : ∀ τ : L2.St, τ.length = σ.length → (L2.wipe τ vs)[j]? = if j < σ.length then some none else none := fun τ ht => by
      cases y : (L2.wipe τ vs)[j]? with
      | none =>
        have := List.getElem?_eq_none_iff.mp y
        rw [L2.wipe_length, ht] at this
        rw [if_neg (by omega)]
      | some o =>
        have l := (List.getElem?_eq_some_iff.mp y).1
        rw [L2.wipe_length, ht] at l
        rw [if_pos l]
        cases o with
        | none => rfl
        | some v => exact absurd h (L2.wipe_some y).2
    rw [z _ (L2.wipe_length σ vs), z _ rfl]
  · rw [wipe_get h]
/-! ### comprehensions -/
def DenTs (G : Fam) (ifs : List Expr) (w : WT) : Prop := ∃ t, (∀ i, PTs (G.X i) ifs t) ∧ SndT G.K t w
def wYes : WT := fun _ Q => Q true
@[simp ↓] theorem wYes_ap u0_ Q : wYes u0_ Q = (Q true) := Eq.trans rfl rfl
section
variable {G : Fam}
theorem ts_nil : DenTs G [] wYes := ⟨_, fun _ => pts_nil, fun W F0 H0 F H σ env Q R s h k => k true F H (Ext.refl s.u s.w) h⟩
theorem ts_one {c : Expr} {w : WT} (h : DenT G c w) : DenTs G [c] w := by
  obtain ⟨t, h1, h2⟩ := h
  exact ⟨t, fun i => pts_one (h1 i), h2⟩
@[simp] def lcW (g : WG) (tt : WT) (te : WE) (env : Env) : List D → List D → (D → Prop) → Prop
  | [], acc, Q => Q (.list acc)
  | d :: ds, acc, Q => g d env fun env2 => tt env2 fun b => if b = true then te env2 fun y => lcW g tt te env ds (acc ++ [y]) Q else lcW g tt te env ds acc Q
def wLc (wi : WL) (g : WG) (tt : WT) (te : WE) (vs : List Nat) : WE := fun env Q => wi env fun ds => lcW g tt te (wipeE env vs) ds [] Q
@[simp ↓] theorem wLc_ap (wi : WL) (g : WG) (tt : WT) (te : WE) (vs : List Nat) env Q : wLc wi g tt te vs env Q = (wi env fun ds => lcW g tt te (wipeE env vs) ds [] Q) := Eq.trans rfl rfl
theorem snd_lc {K : PySem.W.Frag} {wi : TI} {g : TG} {tt : TT} {te : TE} {vs : List Nat} {ui : WL} {ug : WG} {ut : WT} {ue : WE}
    (hi : ∀ (W : Option Addr) (F0 H0 F H : Hp) (σ : L2.St) (env : Env) (Q : List D → Prop) (R : It → Hp → Prop), StR K W F0 H0 F H σ env → ui env Q → (∀ J ds F' H', Ext W F H F' H' → WalkD K W J F' ds → Q ds → R J H') → wi σ H R)
    (hg : ∀ (W : Option Addr) (F0 H0 F H : Hp) (σ : L2.St) (env : Env) (v : V) (d : D) (Q : Env → Prop) (R : L2.St → Hp → Prop), StR K W F0 H0 F H σ env → Rp K F v d → ug d env Q → (∀ σ' env', StR K W F0 H0 F H σ' env' → (∀ us, (∀ j ∈ vs, j ∈ us) → L2.wipe σ' us = L2.wipe σ us) → Q env' → R σ' H) → g v σ H R)
    (ht : SndT K tt ut) (he : SndE K te ue) : SndE K (tLc wi g tt te vs) (wLc ui ug ut ue vs) := by
  intro W F0 H0 F H σ env Q R s h k
  refine hi W F0 H0 F H σ env _ _ s h fun J ds F1 H1 e1 wk q1 => ?_
  intro D hD
  obtain ⟨hl, B, Y, wk, hB, hY⟩ := wk
  have s1 := s.step e1
  obtain ⟨h0D, fD, nwD⟩ := s1.ext.fresh hD
  have hDD : H D = none := (e1.fresh hD).1
  refine lc_it wk (fun i Hc => ∃ (Fc : Hp) (accV : List V) (acc : List PyData), StR K W F0 H0 Fc Hc σ env ∧ Ext W F H Fc Hc ∧ Same F1 Fc ∧ Hc D = some (.lst accV) ∧ Fc D = none ∧ Rps K Fc accV acc ∧ accV.length ≤ i ∧ lcW ug ut ue (wipeE env vs) (ds.drop i) acc Q) ?_ ?_ ?_ ?_
  · exact ⟨F1, [], [], s1.aside h0D fD nwD (s1.notOw hD), e1.write hDD nwD fD, Same.refl _, upd_same, fD, .nil, Nat.le_refl _, by rw [List.drop_zero]; exact q1⟩
  · rintro i Hc _ ⟨Fc, accV, acc, sc, ec, sm, _⟩
    exact hB Fc Hc sm ec.u
  · rintro i x Hc H' hlt ⟨Fc, accV, acc, sc, ec, sm, hcD, fcD, ra, hla, q⟩ y
    have hd : ds[i]? = some ds[i] := by simp [hlt]
    have hdr : ds.drop i = ds[i] :: ds.drop (i + 1) := List.drop_eq_getElem_cons hlt
    rw [hdr] at q
    obtain ⟨F2, e2, rx⟩ := hY Fc Hc i x H' ds[i] sm ec.u ec.w hd y
    have sw := (sc.step e2).wipe vs
    have nowD : ∀ (j : Nat) (u : Option Addr) (es : List PyData), env[j]? = some (some (.ow u es)) → σ[j]? ≠ some (some (.ref D)) := s1.notOw hD
    refine hg W F0 H0 F2 H' _ _ x ds[i] _ _ sw rx q fun σ2 env2 s2 w2 q2 => ?_
    refine ⟨(w2 vs fun _ h => h).trans (wipe_wipe σ vs), ?_⟩
    refine ht W F0 H0 F2 H' σ2 env2 _ _ s2 q2 fun b F3 H3 e3 q3 => ?_
    cases b with
    | true =>
      rw [if_pos rfl] at q3 ⊢
      refine he W F0 H0 F3 H3 σ2 env2 _ _ (s2.step e3) q3 fun yv yd F4 H4 e4 r4 q4 => ?_
      have e24 := (e2.trans e3).trans e4
      have hD4 : H4 D = some (.lst accV) := e24.keep D _ hcD nwD
      have fD4 : F4 D = none := e24.opn D _ hcD fcD
      refine ⟨accV, hD4, by omega, F4, accV ++ [yv], acc ++ [yd], ?_, ?_, sm.trans e24.f, upd_same, fD4, (Rps.mono e24.f ra).append (.one r4), by rw [List.length_append, List.length_singleton]; omega, q4⟩
      · exact (sc.step e24).aside h0D fD4 nwD nowD
      · exact (ec.trans e24).write hDD nwD fD4
    | false =>
      rw [if_neg Bool.false_ne_true] at q3 ⊢
      have e23 := e2.trans e3
      exact ⟨F3, accV, acc, sc.step e23, ec.trans e23, sm.trans e23.f, e23.keep D _ hcD nwD, e23.opn D _ hcD fcD, Rps.mono e23.f ra, by omega, q3⟩
  · rintro Hc ⟨Fc, accV, acc, sc, ec, sm, hcD, fcD, ra, hla, q⟩
    rw [List.drop_length] at q
    have ef := ec.freeze hDD hcD nwD fcD
    have sm2 : Same Fc (upd Fc D (.lst accV)) := fun b o z => by
      rw [upd_ne (ne_of_none z fcD)]
      exact z
    exact k (.ref D) (.list acc) _ Hc ef (.lst upd_same (by omega) (Rps.mono sm2 ra)) q
end
end Dn
/-! Dn8: comprehensions as expressions, statements over plain data. -/
namespace Dn
open PySem PySem.Spec PyProof.Rows L2
structure Xn where
  cls : Addr
  dat : Option (Str × D)
def XnOk (K : PySem.W.Frag) (F H : Hp) (x : Xn) (oe : Option Addr) : Prop := match x.dat with
  | none => oe = none
  | some (f, d) => ∃ a v, oe = some a ∧ H a = some (.xd [(f, v)]) ∧ Rp K F v d
structure Post where
  nx : Env → Prop
  rt : D → Env → Prop
  bk : Env → Prop
  ct : Env → Prop
  xe : Xn → Env → Prop
/-- Fs: what stands still ahead of the statement -/
structure Conts (K : PySem.W.Frag) (W : Option Addr) (F0 H0 Fs : Hp) (T : Ends) (Wx : WX) (P : Post) : Prop where
  nx : ∀ σ env F H, Same Fs F → StR K W F0 H0 F H σ env → P.nx env → T.nx σ H
  rt : ∀ v d σ env F H, StR K W F0 H0 F H σ env → Rp K F v d → P.rt d env → T.rt v H
  bk : ∀ σ env F H, Same Fs F → StR K W F0 H0 F H σ env → P.bk env → T.bk σ H
  ct : ∀ σ env F H, Same Fs F → StR K W F0 H0 F H σ env → P.ct env → T.ct σ H
  xe : ∀ x oe σ env F H, Same Fs F → StR K W F0 H0 F H σ env → XnOk K F H x oe → P.xe x env → Wx (.ref x.cls) oe σ H
theorem Conts.from {K : PySem.W.Frag} {W : Option Addr} {F0 H0 Fs Ft : Hp} {T : Ends} {Wx : WX} {P : Post} (c : Conts K W F0 H0 Fs T Wx P) (e : Same Fs Ft) : Conts K W F0 H0 Ft T Wx P :=
  ⟨fun σ env F H q => c.nx σ env F H (e.trans q), c.rt, fun σ env F H q => c.bk σ env F H (e.trans q), fun σ env F H q => c.ct σ env F H (e.trans q), fun x oe σ env F H q => c.xe x oe σ env F H (e.trans q)⟩
abbrev WS := Env → Post → Prop
def SndS (K : PySem.W.Frag) (Wx : WX) (t : TS) (w : WS) : Prop := ∀ (W : Option Addr) (F0 H0 F H : Hp) (σ : L2.St) (env : Env) (P : Post) (T : Ends), StR K W F0 H0 F H σ env → w env P → Conts K W F0 H0 F T Wx P → t T σ H
def Den (G : Fam) (Wx : WX) (st : Stmt) (w : WS) : Prop := ∃ t, (∀ i, PS (G.X i) st t) ∧ SndS G.K Wx t w
def Dens (G : Fam) (Wx : WX) (sts : List Stmt) (w : WS) : Prop := ∃ t, (∀ i, PSs (G.X i) sts t) ∧ SndS G.K Wx t w
section
variable {G : Fam} {Wx : WX}
/-! ### comprehensions -/
theorem e_lc {elt tg iter : Expr} {ifs : List Expr} {scope : Scope} {own : List (Str × Nat)} {pos : Pos} {wi : WL} {g : WG} {tt : WT} {te : WE} (hc : Calm G) (hN : ∀ i, (G.X i).N.Nodup) (hi : DenI G tg iter wi) (ok : ∀ i, BlkOk (G.X i).N (G.X i).env.scope scope own := by intro _; exact blkOk_by (by kernel_rfl))
    (hg : DenG (G.blk scope) tg (own.map (·.2)) g) (ht : DenTs (G.blk scope) ifs tt) (he : DenE (G.blk scope) elt te) (hs : ∀ i x, foldedSetIterable iter (G.X i).env x = pure x := by intro _ _; rfl) : DenE G (.ListComp elt [⟨tg, iter, ifs, 0⟩] scope pos) (wLc wi g tt te (own.map (·.2))) := by
  obtain ⟨ti, i1, i2⟩ := hi
  obtain ⟨tg', g1, g2⟩ := hg
  obtain ⟨t2, t1, t3⟩ := ht
  obtain ⟨t4, e1, e2⟩ := he
  exact ⟨_, fun i => pe_lc (hc i) (hN i) (i1 i) (ok i) (fun s H C cl fp => g1 ⟨i, s, H, C, cl, fp⟩) (fun s H C cl fp => t1 ⟨i, s, H, C, cl, fp⟩) (fun s H C cl fp => e1 ⟨i, s, H, C, cl, fp⟩) (hs i), snd_lc i2 g2 t3 e2⟩
/-! ### blocks -/
def wNext : WS := fun env P => P.nx env
@[simp ↓] theorem wNext_ap env P : wNext env P = (P.nx env) := Eq.trans rfl rfl
def wSeq (a b : WS) : WS := fun env P => a env { P with nx := fun env' => b env' P }
@[simp ↓] theorem wSeq_ap (a b : WS) env P : wSeq a b env P = (a env { P with nx := fun env' => b env' P }) := Eq.trans rfl rfl
variable {st : Stmt} {rest : List Stmt} {w w1 w2 : WS} {e : Expr} {we : WE} {pos : Pos}
theorem ss_nil : Dens G Wx [] wNext := ⟨_, fun _ => pss_nil, fun W F0 H0 F H σ env P T s h c => c.nx σ env F H (Same.refl _) s h⟩
theorem ss_one (h : Den G Wx st w) : Dens G Wx [st] w := by
  obtain ⟨t, h1, h2⟩ := h
  exact ⟨t, fun i => pss_one (h1 i), h2⟩
theorem ss_cons (h : Den G Wx st w1) (k : Dens G Wx rest w2) : Dens G Wx (st :: rest) (wSeq w1 w2) := by
  obtain ⟨t, h1, h2⟩ := h
  obtain ⟨u, k1, k2⟩ := k
  refine ⟨_, fun i => pss_cons (h1 i) (k1 i), fun W F0 H0 F H σ env P T s h c => ?_⟩
  exact h2 W F0 H0 F H σ env _ _ s h ⟨fun σ' env' F' H' m s' q => k2 W F0 H0 F' H' σ' env' P T s' q (c.from m), c.rt, c.bk, c.ct, c.xe⟩
theorem s_pass : Den G Wx (.Pass pos) wNext := ⟨_, fun _ => ps_pass, fun W F0 H0 F H σ env P T s h c => c.nx σ env F H (Same.refl _) s h⟩
def wBreak : WS := fun env P => P.bk env
@[simp ↓] theorem wBreak_ap env P : wBreak env P = (P.bk env) := Eq.trans rfl rfl
def wCont : WS := fun env P => P.ct env
@[simp ↓] theorem wCont_ap env P : wCont env P = (P.ct env) := Eq.trans rfl rfl
theorem s_break : Den G Wx (.Break pos) wBreak := ⟨_, fun _ => ps_break, fun W F0 H0 F H σ env P T s h c => c.bk σ env F H (Same.refl _) s h⟩
theorem s_cont : Den G Wx (.Continue pos) wCont := ⟨_, fun _ => ps_continue, fun W F0 H0 F H σ env P T s h c => c.ct σ env F H (Same.refl _) s h⟩
def wDrop (w : WE) : WS := fun env P => w env fun _ => P.nx env
@[simp ↓] theorem wDrop_ap (w : WE) env P : wDrop w env P = (w env fun _ => P.nx env) := Eq.trans rfl rfl
theorem s_expr (h : DenE G e we) (hs : ∀ i, swapsWith e none pos.line (G.X i).env = pure false := by intro _; rfl) : Den G Wx (.Expr e pos) (wDrop we) := by
  obtain ⟨t, h1, h2⟩ := h
  refine ⟨_, fun i => ps_expr (h1 i) (hs i), fun W F0 H0 F H σ env P T s h c => ?_⟩
  exact h2 W F0 H0 F H σ env _ _ s h fun v d F' H' x r q => c.nx σ env F' H' x.f (s.step x) q
def wRet (w : WE) : WS := fun env P => w env fun d => P.rt d env
@[simp ↓] theorem wRet_ap (w : WE) env P : wRet w env P = (w env fun d => P.rt d env) := Eq.trans rfl rfl
theorem s_ret (h : DenE G e we) : Den G Wx (.Return (some e) pos) (wRet we) := by
  obtain ⟨t, h1, h2⟩ := h
  refine ⟨_, fun i => ps_ret (h1 i), fun W F0 H0 F H σ env P T s h c => ?_⟩
  exact h2 W F0 H0 F H σ env _ _ s h fun v d F' H' x r q => c.rt v d σ env F' H' (s.step x) r q
def wRetN : WS := fun env P => P.rt .none env
@[simp ↓] theorem wRetN_ap env P : wRetN env P = (P.rt .none env) := Eq.trans rfl rfl
theorem s_retN : Den G Wx (.Return none pos) wRetN := ⟨_, fun _ => ps_retN, fun W F0 H0 F H σ env P T s h c => c.rt .non .none σ env F H s .non h⟩
def wIfS (c : WT) (a b : WS) : WS := fun env P => c env fun x => if x = true then a env P else b env P
@[simp ↓] theorem wIfS_ap (c : WT) (a b : WS) env P : wIfS c a b env P = (c env fun x => if x = true then a env P else b env P) := Eq.trans rfl rfl
theorem s_if {c : Expr} {a b : List Stmt} {wc : WT} (hc : DenT G c wc) (ha : Dens G Wx a w1) (hb : Dens G Wx b w2) : Den G Wx (.If c a b pos) (wIfS wc w1 w2) := by
  obtain ⟨tc, c1, c2⟩ := hc
  obtain ⟨ta, a1, a2⟩ := ha
  obtain ⟨tb, b1, b2⟩ := hb
  refine ⟨_, fun i => ps_if (c1 i) (a1 i) (b1 i), fun W F0 H0 F H σ env P T s h c => ?_⟩
  refine c2 W F0 H0 F H σ env _ _ s h fun x F' H' e q => ?_
  cases x with
  | true =>
    rw [if_pos rfl] at q ⊢
    exact a2 W F0 H0 F' H' σ env P T (s.step e) q (c.from e.f)
  | false =>
    rw [if_neg Bool.false_ne_true] at q ⊢
    exact b2 W F0 H0 F' H' σ env P T (s.step e) q (c.from e.f)
def wNever : WS := fun _ _ => False
@[simp ↓] theorem wNever_ap u0_ u1_ : wNever u0_ u1_ = (False) := Eq.trans rfl rfl
theorem s_never : Den G Wx st wNever := ⟨_, fun _ => ps_never, fun W F0 H0 F H σ env P T s h c => h.elim⟩
theorem ss_never {sts : List Stmt} : Dens G Wx sts wNever := ⟨_, fun _ => pss_never, fun W F0 H0 F H σ env P T s h c => h.elim⟩
/-! ### stores -/
def wSet (i : Nat) (w : WE) : WS := fun env P => w env fun d => P.nx (env.set i (some (.sh d)))
@[simp ↓] theorem wSet_ap (i : Nat) (w : WE) env P : wSet i w env P = (w env fun d => P.nx (env.set i (some (.sh d)))) := Eq.trans rfl rfl
theorem s_set {i : Nat} {x : Str} {p : Pos} (hN : ∀ j, (G.X j).N.Nodup) (hi : ∀ j, (G.X j).N[i]? = some x := by intro _; rfl) (hx : ∀ j, Loc (G.X j).env.scope x := by intro _; first | exact Or.inl rfl | exact Or.inr rfl) (hf : ∀ j, (G.X j).fn x = true ∨ (G.X j).env.scope.names.lookup x = some .local := by intro _; first | exact Or.inl rfl | exact Or.inr rfl) (h : DenE G e we)
    (hs : ∀ j, swapsWith e (some (.Name x p)) pos.line (G.X j).env = pure false := by intro _; rfl) : Den G Wx (.Assign [.Name x p] e pos) (wSet i we) := by
  obtain ⟨t, h1, h2⟩ := h
  refine ⟨_, fun j => ps_set (hN j) (hi j) (hx j) (h1 j) (hs j) (hf j), fun W F0 H0 F H σ env P T s h c => ?_⟩
  exact h2 W F0 H0 F H σ env _ _ s h fun v d F' H' e r q => c.nx _ _ F' H' e.f ((s.step e).setSh r) q
/-- name = [..], the name a local -/
theorem s_setLc {i : Nat} {y : Str} {py : Pos} {elt tg iter : Expr} {ifs : List Expr} {scope : Scope} {own : List (Str × Nat)} {lpos : Pos} {wi : WL} {g : WG} {tt : WT} {te : WE} (hc : Calm G) (hN : ∀ i, (G.X i).N.Nodup) (hy : ∀ j, (G.X j).N[i]? = some y := by intro _; rfl) (hyl : ∀ j, (G.X j).env.scope.names.lookup y = some .local := by intro _; rfl)
    (hsw : ∀ j, swapsWith (.ListComp elt [⟨tg, iter, ifs, 0⟩] scope lpos) (some (.Name y py)) pos.line (G.X j).env = pure true := by intro _; exact sw_true rfl rfl rfl (by kernel_rfl)) (hi : DenI G tg iter wi) (ok : ∀ i, BlkOk (G.X i).N (G.X i).env.scope scope own := by intro _; exact blkOk_by (by kernel_rfl))
    (hg : DenG (G.blk scope) tg (own.map (·.2)) g) (ht : DenTs (G.blk scope) ifs tt) (he : DenE (G.blk scope) elt te) (hs : ∀ i x, foldedSetIterable iter (G.X i).env x = pure x := by intro _ _; rfl) :
    Den G Wx (.Assign [.Name y py] (.ListComp elt [⟨tg, iter, ifs, 0⟩] scope lpos) pos) (wSet i (wLc wi g tt te (own.map (·.2)))) := by
  obtain ⟨ti, i1, i2⟩ := hi
  obtain ⟨tg', g1, g2⟩ := hg
  obtain ⟨t2, t1, t3⟩ := ht
  obtain ⟨t4, e1, e2⟩ := he
  refine ⟨_, fun j => ps_setLc (hc j) (hN j) (hy j) (hyl j) (hsw j) (i1 j) (ok j) (fun s H C cl fp => g1 ⟨j, s, H, C, cl, fp⟩) (fun s H C cl fp => t1 ⟨j, s, H, C, cl, fp⟩) (fun s H C cl fp => e1 ⟨j, s, H, C, cl, fp⟩) (hs j), fun W F0 H0 F H σ env P T s h c => ?_⟩
  exact snd_lc i2 g2 t3 e2 W F0 H0 F H σ env _ _ s h fun v d F' H' e r q => c.nx _ _ F' H' e.f ((s.step e).setSh r) q
/-- a, b = e -/
def wAsgG (w : WE) (g : WG) : WS := fun env P => w env fun d => g d env P.nx
@[simp ↓] theorem wAsgG_ap (w : WE) (g : WG) env P : wAsgG w g env P = (w env fun d => g d env P.nx) := Eq.trans rfl rfl
theorem s_asg {tg : Expr} {vs : List Nat} {g : WG} (h : DenE G e we) (hg : DenG G tg vs g) (hs : ∀ i, swapsWithSole [tg] e pos.line (G.X i).env = pure false := by intro _; rfl) (hw : ∀ i, swappedStores [tg] e (G.X i).env = pure none := by intro _; rfl)
    (h1 : ∀ i, (assignEach [tg] (G.X i).env).map (·.2) = [assign tg (G.X i).env] := by intro _; rfl) : Den G Wx (.Assign [tg] e pos) (wAsgG we g) := by
  obtain ⟨t, a1, a2⟩ := h
  obtain ⟨u, b1, b2⟩ := hg
  refine ⟨_, fun i => ps_asg (a1 i) (b1 i) (hs i) (hw i) (h1 i), fun W F0 H0 F H σ env P T s h c => ?_⟩
  refine a2 W F0 H0 F H σ env _ _ s h fun v d F' H' e r q => ?_
  exact b2 W F0 H0 F' H' σ env v d _ _ (s.step e) r q fun σ' env' s' _ q' => c.nx σ' env' F' H' e.f s' q'
/-- a, b = x, y, plain names -/
def wPar (i j : Nat) (wa wb : WE) : WS := fun env P => wa env fun d => wb env fun c => P.nx ((env.set i (some (.sh d))).set j (some (.sh c)))
@[simp ↓] theorem wPar_ap (i j : Nat) (wa wb : WE) env P : wPar i j wa wb env P = (wa env fun d => wb env fun c => P.nx ((env.set i (some (.sh d))).set j (some (.sh c)))) := Eq.trans rfl rfl
theorem s_par {i j : Nat} {x y : Str} {a b : Expr} {wa wb : WE} {px py pt pt2 : Pos} {kt k2 : Nat} (hc : Calm G) (hN : ∀ k, (G.X k).N.Nodup) (hi : ∀ k, (G.X k).N[i]? = some x := by intro _; rfl) (hj : ∀ k, (G.X k).N[j]? = some y := by intro _; rfl) (hij : i ≠ j) (hx : ∀ k, (G.X k).env.scope.names.lookup x = some .local := by intro _; rfl) (hy : ∀ k, (G.X k).env.scope.names.lookup y = some .local := by intro _; rfl)
    (ha : DenE G a wa) (hb : DenE G b wb) (hw : ∀ k, swappedStores [.Tuple [.Name x px, .Name y py] kt pt] (.Tuple [a, b] k2 pt2) (G.X k).env = pure (some [x, y]) := by intro _; rfl)
    (hs : ∀ k, swapsWithSole [.Tuple [.Name x px, .Name y py] kt pt] (.Tuple [a, b] k2 pt2) pos.line (G.X k).env = pure false := by intro _; rfl)
    (h1 : ∀ k, starEach [a, b] (G.X k).env = (false, eval a (G.X k).env) :: starEach [b] (G.X k).env := by intro _; rfl) (h2 : ∀ k, starEach [b] (G.X k).env = (false, eval b (G.X k).env) :: starEach [] (G.X k).env := by intro _; rfl) :
    Den G Wx (.Assign [.Tuple [.Name x px, .Name y py] kt pt] (.Tuple [a, b] k2 pt2) pos) (wPar i j wa wb) := by
  obtain ⟨t, a1, a2⟩ := ha
  obtain ⟨u, b1, b2⟩ := hb
  refine ⟨_, fun k => ps_par (hc k) (hN k) (hi k) (hj k) hij (hx k) (hy k) (pa_cons (a1 k) (pa_cons (b1 k) pa_nil (h2 k)) (h1 k)) (hw k) (hs k), fun W F0 H0 F H σ env P T s h c => ?_⟩
  refine a2 W F0 H0 F H σ env _ _ s h fun v d F1 H1 e1 r1 q1 => ?_
  refine b2 W F0 H0 F1 H1 σ env _ _ (s.step e1) q1 fun v2 d2 F2 H2 e2 r2 q2 => ?_
  exact ⟨v, v2, rfl, c.nx _ _ F2 H2 (e1.f.trans e2.f) ((((s.step e1).step e2).setSh (Rp.mono e2.f r1)).setSh r2) q2⟩
/-! ### lists of the frame's own -/
/-- an expression that makes a new list -/
abbrev WN := Env → (List D → Prop) → Prop
def SndN (K : PySem.W.Frag) (t : TE) (w : WN) : Prop := ∀ (W : Option Addr) (F0 H0 F H : Hp) (σ : L2.St) (env : Env) (Q : List D → Prop) (R : VK), StR K W F0 H0 F H σ env → w env Q →
  (∀ a vs ds F1 H1, Ext W F H F1 H1 → H1 a = none → vs.length ≤ sizeLine → Rps K F1 vs ds → Q ds → R (.ref a) (upd H1 a (.lst vs))) → t σ H R
def DenN (G : Fam) (e : Expr) (w : WN) : Prop := ∃ t, (∀ i, PE (G.X i) e t) ∧ SndN G.K t w
def wLstN (r : WA) : WN := fun env Q => r env fun xs => match shs xs with
  | some ds => ds.length ≤ sizeLine ∧ Q ds
  | none => False
@[simp ↓] theorem wLstN_ap (r : WA) env Q : wLstN r env Q = (r env fun xs => match shs xs with
  | some ds => ds.length ≤ sizeLine ∧ Q ds
  | none => False) := Eq.trans rfl rfl
theorem n_lst {es : List Expr} {r : WA} (h : DenA G es r) : DenN G (.List es pos) (wLstN r) := by
  obtain ⟨t, h1, h2⟩ := h
  refine ⟨_, fun i => pe_lst (h1 i), fun W F0 H0 F H σ env Q R s h k => ?_⟩
  refine h2 W F0 H0 F H σ env _ _ s h fun vs ens F1 H1 e1 r1 _ q1 => ?_
  split at q1
  · rename_i ds q
    have r2 := r1.shs q
    exact ⟨by rw [r2.length]; exact q1.1, fun p hp => k p vs ds F1 H1 e1 hp (by rw [r2.length]; exact q1.1) r2 q1.2⟩
  · exact q1.elim
theorem StR.setNew {K : PySem.W.Frag} {W : Option Addr} {F0 H0 F H F1 H1 : Hp} {σ : L2.St} {env : Env} {i : Nat} {a : Addr} {vs : List V} {ds : List D} (s : StR K W F0 H0 F H σ env) (e : Ext W F H F1 H1) (ha : H1 a = none) (hl : vs.length ≤ sizeLine) (r : Rps K F1 vs ds) :
    StR K W F0 H0 F1 (upd H1 a (.lst vs)) (σ.set i (some (.ref a))) (env.set i (some (.ow none ds))) := by
  have s1 := s.step e
  obtain ⟨h0, f1, nw⟩ := s1.ext.fresh ha
  have s2 := s1.aside (o := .lst vs) h0 f1 nw (s1.notOw ha)
  exact s2.setOw (a := a) (t := none) ⟨a, vs, rfl, (fun _ z => nomatch z), h0, f1, nw, upd_same, hl, r⟩ fun j u es _ q => s1.notOw ha j u es q
def wSetN (i : Nat) (w : WN) : WS := fun env P => w env fun ds => P.nx (env.set i (some (.ow none ds)))
@[simp ↓] theorem wSetN_ap (i : Nat) (w : WN) env P : wSetN i w env P = (w env fun ds => P.nx (env.set i (some (.ow none ds)))) := Eq.trans rfl rfl
theorem s_setN {i : Nat} {x : Str} {p : Pos} {wn : WN} (hN : ∀ j, (G.X j).N.Nodup) (hi : ∀ j, (G.X j).N[i]? = some x := by intro _; rfl) (hx : ∀ j, Loc (G.X j).env.scope x := by intro _; first | exact Or.inl rfl | exact Or.inr rfl) (hf : ∀ j, (G.X j).fn x = true ∨ (G.X j).env.scope.names.lookup x = some .local := by intro _; first | exact Or.inl rfl | exact Or.inr rfl) (h : DenN G e wn)
    (hs : ∀ j, swapsWith e (some (.Name x p)) pos.line (G.X j).env = pure false := by intro _; rfl) : Den G Wx (.Assign [.Name x p] e pos) (wSetN i wn) := by
  obtain ⟨t, h1, h2⟩ := h
  refine ⟨_, fun j => ps_set (hN j) (hi j) (hx j) (h1 j) (hs j) (hf j), fun W F0 H0 F H σ env P T s h c => ?_⟩
  exact h2 W F0 H0 F H σ env _ _ s h fun a vs ds F1 H1 e ha hl r q => c.nx _ _ F1 _ e.f (s.setNew e ha hl r) q
/-- a, b = x, a new list -/
def wParN (i j : Nat) (wa : WE) (wb : WN) : WS := fun env P => wa env fun d => wb env fun ds => P.nx ((env.set i (some (.sh d))).set j (some (.ow none ds)))
@[simp ↓] theorem wParN_ap (i j : Nat) (wa : WE) (wb : WN) env P : wParN i j wa wb env P = (wa env fun d => wb env fun ds => P.nx ((env.set i (some (.sh d))).set j (some (.ow none ds)))) := Eq.trans rfl rfl
theorem s_parN {i j : Nat} {x y : Str} {a b : Expr} {wa : WE} {wb : WN} {px py pt pt2 : Pos} {kt k2 : Nat} (hc : Calm G) (hN : ∀ k, (G.X k).N.Nodup) (hi : ∀ k, (G.X k).N[i]? = some x := by intro _; rfl) (hj : ∀ k, (G.X k).N[j]? = some y := by intro _; rfl) (hij : i ≠ j) (hx : ∀ k, (G.X k).env.scope.names.lookup x = some .local := by intro _; rfl) (hy : ∀ k, (G.X k).env.scope.names.lookup y = some .local := by intro _; rfl)
    (ha : DenE G a wa) (hb : DenN G b wb) (hw : ∀ k, swappedStores [.Tuple [.Name x px, .Name y py] kt pt] (.Tuple [a, b] k2 pt2) (G.X k).env = pure (some [x, y]) := by intro _; rfl)
    (hs : ∀ k, swapsWithSole [.Tuple [.Name x px, .Name y py] kt pt] (.Tuple [a, b] k2 pt2) pos.line (G.X k).env = pure false := by intro _; rfl)
    (h1 : ∀ k, starEach [a, b] (G.X k).env = (false, eval a (G.X k).env) :: starEach [b] (G.X k).env := by intro _; rfl) (h2 : ∀ k, starEach [b] (G.X k).env = (false, eval b (G.X k).env) :: starEach [] (G.X k).env := by intro _; rfl) :
    Den G Wx (.Assign [.Tuple [.Name x px, .Name y py] kt pt] (.Tuple [a, b] k2 pt2) pos) (wParN i j wa wb) := by
  obtain ⟨t, a1, a2⟩ := ha
  obtain ⟨u, b1, b2⟩ := hb
  refine ⟨_, fun k => ps_par (hc k) (hN k) (hi k) (hj k) hij (hx k) (hy k) (pa_cons (a1 k) (pa_cons (b1 k) pa_nil (h2 k)) (h1 k)) (hw k) (hs k), fun W F0 H0 F H σ env P T s h c => ?_⟩
  refine a2 W F0 H0 F H σ env _ _ s h fun v d F1 H1 e1 r1 q1 => ?_
  refine b2 W F0 H0 F1 H1 σ env _ _ (s.step e1) q1 fun l vs ds F2 H2 e2 hl hz r2 q2 => ?_
  refine ⟨v, .ref l, rfl, c.nx _ _ F2 _ (e1.f.trans e2.f) ?_ q2⟩
  exact ((s.step e1).setSh r1).setNew e2 hl hz r2
/-- x = y, y's own list goes -/
def wMove (i j : Nat) : WS := fun env P => match env[j]? with
  | some (some (.ow t ds)) => P.nx ((env.set j none).set i (some (.sh (.list ds))))
  | _ => False
@[simp ↓] theorem wMove_ap (i j : Nat) env P : wMove i j env P = (match env[j]? with
  | some (some (.ow t ds)) => P.nx ((env.set j none).set i (some (.sh (.list ds))))
  | _ => False) := Eq.trans rfl rfl
theorem StR.moved {K : PySem.W.Frag} {W : Option Addr} {F0 H0 F H : Hp} {σ : L2.St} {env : Env} {j : Nat} {t : Option Addr} {ds : List D} (s : StR K W F0 H0 F H σ env) (hj : env[j]? = some (some (.ow t ds))) : ∃ a F1, σ[j]? = some (some (.ref a)) ∧ Same F F1 ∧ StR K W F0 H0 F1 H σ (env.set j none) ∧ Rp K F1 (.ref a) (.list ds) := by
  obtain ⟨v, h1, a, vs, rfl, qt, q2, q3, q4, q5, q6, q7⟩ := s.ent j _ hj
  have sm : Same F (upd F a (.lst vs)) := fun b o z => by
    rw [upd_ne (ne_of_none z q3)]
    exact z
  exact ⟨a, upd F a (.lst vs), h1, sm, s.letGo hj h1 q2 q3 q4 q5, .lst upd_same q6 (Rps.mono sm q7)⟩
theorem s_move {i j : Nat} {x y : Str} {p p2 : Pos} (hN : ∀ k, (G.X k).N.Nodup) (hi : ∀ k, (G.X k).N[i]? = some x := by intro _; rfl) (hx : ∀ k, Loc (G.X k).env.scope x := by intro _; first | exact Or.inl rfl | exact Or.inr rfl) (hf : ∀ k, (G.X k).fn x = true ∨ (G.X k).env.scope.names.lookup x = some .local := by intro _; first | exact Or.inl rfl | exact Or.inr rfl) (hj : ∀ k, (G.X k).N[j]? = some y := by intro _; rfl) (hv : ∀ k, Vis (G.X k).env.scope y := by intro _; first | exact Or.inl rfl | exact Or.inr (Or.inl rfl) | exact Or.inr (Or.inr rfl))
    (hd : (y == ("__debug__" : Str)) = false := by decide) (hcd : (y == ("__classdict__" : Str)) = false := by decide)
    (hs : ∀ k, swapsWith (.Name y p2) (some (.Name x p)) pos.line (G.X k).env = pure false := by intro _; rfl) : Den G Wx (.Assign [.Name x p] (.Name y p2) pos) (wMove i j) := by
  refine ⟨_, fun k => ps_set (hN k) (hi k) (hx k) (pe_var (hj k) (hv k) hd hcd) (hs k) (hf k), fun W F0 H0 F H σ env P T s h c => ?_⟩
  unfold wMove at h
  split at h
  · rename_i t ds q
    obtain ⟨a, F1, h1, m, s1, r⟩ := s.moved q
    exact ⟨_, h1, c.nx _ _ F1 H m (s1.setSh r) h⟩
  · exact h.elim
def wRetOw (j : Nat) : WS := fun env P => match env[j]? with
  | some (some (.ow t ds)) => P.rt (.list ds) (env.set j none)
  | _ => False
@[simp ↓] theorem wRetOw_ap (j : Nat) env P : wRetOw j env P = (match env[j]? with
  | some (some (.ow t ds)) => P.rt (.list ds) (env.set j none)
  | _ => False) := Eq.trans rfl rfl
theorem s_retOw {j : Nat} {y : Str} {p2 : Pos} (hj : ∀ k, (G.X k).N[j]? = some y := by intro _; rfl) (hv : ∀ k, Vis (G.X k).env.scope y := by intro _; first | exact Or.inl rfl | exact Or.inr (Or.inl rfl) | exact Or.inr (Or.inr rfl)) (hd : (y == ("__debug__" : Str)) = false := by decide) (hcd : (y == ("__classdict__" : Str)) = false := by decide) : Den G Wx (.Return (some (.Name y p2)) pos) (wRetOw j) := by
  refine ⟨_, fun k => ps_ret (pe_var (hj k) (hv k) hd hcd), fun W F0 H0 F H σ env P T s h c => ?_⟩
  unfold wRetOw at h
  split at h
  · rename_i t ds q
    obtain ⟨a, F1, h1, m, s1, r⟩ := s.moved q
    exact ⟨_, h1, c.rt _ _ σ _ F1 H s1 r h⟩
  · exact h.elim
/-- x.append(e) -/
def wApp (i : Nat) (w : WE) : WS := fun env P => match env[i]? with
  | some (some (.ow t ds)) => w env fun d => ds.length < sizeLine ∧ P.nx (env.set i (some (.ow t (ds ++ [d]))))
  | _ => False
@[simp ↓] theorem wApp_ap (i : Nat) (w : WE) env P : wApp i w env P = (match env[i]? with
  | some (some (.ow t ds)) => w env fun d => ds.length < sizeLine ∧ P.nx (env.set i (some (.ow t (ds ++ [d]))))
  | _ => False) := Eq.trans rfl rfl
theorem s_app {i : Nat} {x : Str} {p apos cpos : Pos} (hi : ∀ k, (G.X k).N[i]? = some x := by intro _; rfl) (hv : ∀ k, Vis (G.X k).env.scope x := by intro _; first | exact Or.inl rfl | exact Or.inr (Or.inl rfl) | exact Or.inr (Or.inr rfl)) (h : DenE G e we) (hd : (x == ("__debug__" : Str)) = false := by decide) (hcd : (x == ("__classdict__" : Str)) = false := by decide)
    (hbase : ∀ k, attributeBase (.Name x p) "append" (G.X k).env (eval (.Name x p) (G.X k).env) = eval (.Name x p) (G.X k).env := by intro _; rfl)
    (hfew : ∀ k, ((backTo cpos (starEach [e] (G.X k).env)).all (fun x => !x.1) && (backToKw cpos (keywordEach [] (G.X k).env)).all (fun x => x.1.isSome)
      && decide (([e] : List Expr).length + ([] : List Keyword).length + (if ([] : List Keyword).isEmpty then 0 else 1) < 30)) = true := by intro _; rfl)
    (hline : (apos.endLine == cpos.line) = true := by rfl) (hs : ∀ k, starEach [e] (G.X k).env = (false, eval e (G.X k).env) :: starEach [] (G.X k).env := by intro _; rfl)
    (hsw : ∀ k, swapsWith (.Call (.Attribute (.Name x p) "append" apos) [e] [] cpos) none pos.line (G.X k).env = pure false := by intro _; rfl) :
    Den G Wx (.Expr (.Call (.Attribute (.Name x p) "append" apos) [e] [] cpos) pos) (wApp i we) := by
  obtain ⟨t, h1, h2⟩ := h
  refine ⟨fun T σ H => tVar i σ H fun x H1 => tyV G.K "list" x H1 ∧ tCons t tNil σ H1 fun xs H2 => rAppend x xs H2 fun _ H3 => T.nx σ H3, fun k => ?_, fun W F0 H0 F H σ env P T s h c => ?_⟩
  · have z := ps_expr (pos := pos) (pe_bm (T := "list") (name := "append") (id := "list.append") (apos := apos) (cpos := cpos) PySem.F.plainAttrs_list PySem.F.slot_list_append PySem.F.type_list_append mt_append (pe_var (pos := p) (hi k) (hv k) hd hcd) (pa_cons (h1 k) pa_nil (hs k)) (hbase k) (hfew k) hline (hs k) rfl) (hsw k)
    unfold tBM tDrop at z
    rw [G.hK k] at z
    exact z
  · unfold wApp at h
    split at h
    · rename_i t ds q
      obtain ⟨v, g1, a, vs, rfl, gt, g2, g3, g4, g5, g6, g7⟩ := s.ent i _ q
      refine ⟨_, g1, .inl ⟨rfl, vs, SqL.of g5⟩, ?_⟩
      refine h2 W F0 H0 F H σ env _ _ s h fun v d F1 H1 e1 r1 q1 => ?_
      have s1 := s.step e1
      have ha : H1 a = some (.lst vs) := e1.keep a _ g5 g4
      exact ⟨a, vs, v, rfl, rfl, ha, by rw [g7.length]; exact q1.1, c.nx _ _ F1 _ e1.f (s1.mutOw gt q g1 g2 (e1.opn a _ g5 g3) g4 (by rw [List.length_append, List.length_singleton, g7.length]; exact q1.1) ((Rps.mono e1.f g7).append (.one r1))) q1.2⟩
    · exact h.elim
/-- x.extend(e) -/
def wExt (i : Nat) (w : WE) : WS := fun env P => match env[i]? with
  | some (some (.ow t ds)) => w env fun d => match d with
    | .list es => ds.length + es.length ≤ sizeLine ∧ P.nx (env.set i (some (.ow t (ds ++ es))))
    | _ => False
  | _ => False
@[simp ↓] theorem wExt_ap (i : Nat) (w : WE) env P : wExt i w env P = (match env[i]? with
  | some (some (.ow t ds)) => w env fun d => match d with
    | .list es => ds.length + es.length ≤ sizeLine ∧ P.nx (env.set i (some (.ow t (ds ++ es))))
    | _ => False
  | _ => False) := Eq.trans rfl rfl
theorem s_ext {i : Nat} {x : Str} {p apos cpos : Pos} (hi : ∀ k, (G.X k).N[i]? = some x := by intro _; rfl) (hv : ∀ k, Vis (G.X k).env.scope x := by intro _; first | exact Or.inl rfl | exact Or.inr (Or.inl rfl) | exact Or.inr (Or.inr rfl)) (h : DenB G e we) (hd : (x == ("__debug__" : Str)) = false := by decide) (hcd : (x == ("__classdict__" : Str)) = false := by decide)
    (hbase : ∀ k, attributeBase (.Name x p) "extend" (G.X k).env (eval (.Name x p) (G.X k).env) = eval (.Name x p) (G.X k).env := by intro _; rfl)
    (hfew : ∀ k, ((backTo cpos (starEach [e] (G.X k).env)).all (fun x => !x.1) && (backToKw cpos (keywordEach [] (G.X k).env)).all (fun x => x.1.isSome)
      && decide (([e] : List Expr).length + ([] : List Keyword).length + (if ([] : List Keyword).isEmpty then 0 else 1) < 30)) = true := by intro _; rfl)
    (hline : (apos.endLine == cpos.line) = true := by rfl) (hs : ∀ k, starEach [e] (G.X k).env = (false, eval e (G.X k).env) :: starEach [] (G.X k).env := by intro _; rfl)
    (hsw : ∀ k, swapsWith (.Call (.Attribute (.Name x p) "extend" apos) [e] [] cpos) none pos.line (G.X k).env = pure false := by intro _; rfl) :
    Den G Wx (.Expr (.Call (.Attribute (.Name x p) "extend" apos) [e] [] cpos) pos) (wExt i we) := by
  obtain ⟨t, h1, h2⟩ := h
  refine ⟨fun T σ H => tVar i σ H fun x H1 => tyV G.K "list" x H1 ∧ tCons t tNil σ H1 fun xs H2 => rExtend x xs H2 fun _ H3 => T.nx σ H3, fun k => ?_, fun W F0 H0 F H σ env P T s h c => ?_⟩
  · have z := ps_expr (pos := pos) (pe_bm (T := "list") (name := "extend") (id := "list.extend") (apos := apos) (cpos := cpos) PySem.F.plainAttrs_list PySem.F.slot_list_extend PySem.F.type_list_extend mt_extend (pe_var (pos := p) (hi k) (hv k) hd hcd) (pa_cons (h1 k) pa_nil (hs k)) (hbase k) (hfew k) hline (hs k) rfl) (hsw k)
    unfold tBM tDrop at z
    rw [G.hK k] at z
    exact z
  · unfold wExt at h
    split at h
    · rename_i t ds q
      obtain ⟨v, g1, a, vs, rfl, gt, g2, g3, g4, g5, g6, g7⟩ := s.ent i _ q
      refine ⟨_, g1, .inl ⟨rfl, vs, SqL.of g5⟩, ?_⟩
      refine h2 W F0 H0 F H σ env _ _ s h fun v d F1 H1 e1 r1 q1 => ?_
      have s1 := s.step e1
      have ha : H1 a = some (.lst vs) := e1.keep a _ g5 g4
      split at q1
      · obtain ⟨b, ws, rfl, k1, k2, k3⟩ := r1.list e1.u
        have hl : vs.length + ws.length ≤ sizeLine := by rw [g7.length, k3.length]; exact q1.1
        exact ⟨a, b, vs, ws, rfl, rfl, ha, k1, hl, c.nx _ _ F1 _ e1.f (s1.mutOw gt q g1 g2 (e1.opn a _ g5 g3) g4 (by rw [List.length_append]; exact hl) ((Rps.mono e1.f g7).append k3)) q1.2⟩
      · exact q1.elim
    · exact h.elim
/-- x += e, ints -/
def wAugI (i : Nat) (f : Int → Int → Int) (w : WE) : WS := fun env P => match env[i]? with
  | some (some (.sh (.int m))) => w env fun d => match d with
    | .int n => P.nx (env.set i (some (.sh (.int (f m n)))))
    | _ => False
  | _ => False
@[simp ↓] theorem wAugI_ap (i : Nat) (f : Int → Int → Int) (w : WE) env P : wAugI i f w env P = (match env[i]? with
  | some (some (.sh (.int m))) => w env fun d => match d with
    | .int n => P.nx (env.set i (some (.sh (.int (f m n)))))
    | _ => False
  | _ => False) := Eq.trans rfl rfl
theorem s_augI {i : Nat} {x : Str} {p : Pos} {op : Operator} {f : Int → Int → Int} (hN : ∀ j, (G.X j).N.Nodup) (hi : ∀ j, (G.X j).N[i]? = some x := by intro _; rfl) (hx : ∀ j, Loc (G.X j).env.scope x := by intro _; first | exact Or.inl rfl | exact Or.inr rfl) (hf : ∀ j, (G.X j).fn x = true ∨ (G.X j).env.scope.names.lookup x = some .local := by intro _; first | exact Or.inl rfl | exact Or.inr rfl) (ho : ∀ j, PIp (G.X j) op (ipI f)) (h : DenE G e we) : Den G Wx (.AugAssign (.Name x p) op e pos) (wAugI i f we) := by
  obtain ⟨t, h1, h2⟩ := h
  refine ⟨_, fun j => ps_aug (hN j) (hi j) (hx j) (h1 j) (ho j) (hf j), fun W F0 H0 F H σ env P T s h c => ?_⟩
  unfold wAugI at h
  split at h
  · rename_i m q
    obtain ⟨v, g1, g2⟩ := s.ent i _ q
    cases g2
    refine ⟨_, g1, h2 W F0 H0 F H σ env _ _ s h fun v d F1 H1 e1 r1 q1 => ?_⟩
    split at q1
    · cases r1
      exact ⟨_, _, rfl, rfl, c.nx _ _ F1 H1 e1.f ((s.step e1).setSh (.int _)) q1⟩
    · exact q1.elim
  · exact h.elim
/-! ### loops -/
@[simp] def forW (g : WG) (b : WS) (ws : List Nat) (P : Post) : List D → Env → Prop
  | [], env => P.nx env
  | d :: ds, env => g d env fun env2 => b env2 { P with nx := fun env3 => forW g b ws P ds (wipeE env3 ws), ct := fun env3 => forW g b ws P ds (wipeE env3 ws), bk := P.nx }
/-- ws: the slots that no later turn and nothing behind the loop asks for -/
def wFor (wi : WL) (g : WG) (b : WS) (ws : List Nat) : WS := fun env P => wi env fun ds => forW g b ws P ds (wipeE env ws)
@[simp ↓] theorem wFor_ap (wi : WL) (g : WG) (b : WS) (ws : List Nat) env P : wFor wi g b ws env P = (wi env fun ds => forW g b ws P ds (wipeE env ws)) := Eq.trans rfl rfl
theorem s_for {tg iter : Expr} {body : List Stmt} {vs : List Nat} {wi : WL} {g : WG} {wb : WS} (ws : List Nat) (hp : ∀ i, PassesOwn (model (G.X i).prog (G.X i).w) (G.X i).A (G.X i).env (G.X i).xe) (hc : Calm G) (hi : DenI G tg iter wi) (hg : DenG G tg vs g) (hb : Dens G Wx body wb)
    (hs : ∀ i x, foldedSetIterable iter (G.X i).env x = pure x := by intro _ _; rfl) : Den G Wx (.For tg iter body [] pos) (wFor wi g wb ws) := by
  obtain ⟨ti, i1, i2⟩ := hi
  obtain ⟨tg', g1, g2⟩ := hg
  obtain ⟨tb, b1, b2⟩ := hb
  refine ⟨_, fun i => ps_for (hp i) (hc i) (i1 i) (g1 i) (b1 i) (hs i), fun W F0 H0 F H σ env P T s h c => ?_⟩
  refine i2 W F0 H0 F H σ env _ _ s h fun J ds F1 H1 e1 wk q1 => ?_
  obtain ⟨hl, B, Y, wk, hB, hY⟩ := wk
  refine for_it wk (fun i σ' H' => ∃ (Fc : Hp) (env' : Env), StR G.K W F0 H0 Fc H' σ' env' ∧ Same F1 Fc ∧ forW g wb ws P (ds.drop i) env') ?_ ?_ ?_ ?_
  · exact ⟨F1, _, (s.step e1).forget ws, Same.refl _, by rw [List.drop_zero]; exact q1⟩
  · rintro i σ' H' _ ⟨Fc, env', sc, sm, _⟩
    exact hB Fc H' sm sc.u
  · rintro i x σ' Hc H' hlt ⟨Fc, env', sc, sm, q⟩ y
    have hd : ds[i]? = some ds[i] := by simp [hlt]
    rw [List.drop_eq_getElem_cons hlt] at q
    obtain ⟨F2, e2, rx⟩ := hY Fc Hc i x H' ds[i] sm sc.u sc.w hd y
    refine g2 W F0 H0 F2 H' σ' env' x ds[i] _ _ (sc.step e2) rx q fun σ2 env2 s2 _ q2 => ?_
    have sm2 := sm.trans e2.f
    have sm3 : Same F F2 := e1.f.trans sm2
    refine b2 W F0 H0 F2 H' σ2 env2 _ _ s2 q2 ⟨fun σ3 env3 F3 H3 m s3 q3 => ⟨F3, _, s3.forget ws, sm2.trans m, q3⟩, c.rt, fun σ3 env3 F3 H3 m s3 q3 => c.nx σ3 env3 F3 H3 (sm3.trans m) s3 q3, fun σ3 env3 F3 H3 m s3 q3 => ⟨F3, _, s3.forget ws, sm2.trans m, q3⟩, fun x oe σ3 env3 F3 H3 m => c.xe x oe σ3 env3 F3 H3 (sm3.trans m)⟩
  · rintro σ' H' ⟨Fc, env', sc, sm, q⟩
    rw [List.drop_length] at q
    exact c.nx σ' env' Fc H' (e1.f.trans sm) sc q
def whileW (c : WT) (b : WS) (ws : List Nat) (P : Post) : Nat → Env → Prop
  | 0, _ => False
  | n + 1, env => c env fun x => if x = true then b env { P with nx := fun env2 => whileW c b ws P n (wipeE env2 ws), ct := fun env2 => whileW c b ws P n (wipeE env2 ws), bk := P.nx } else P.nx env
def wWhile (c : WT) (b : WS) (ws : List Nat) : WS := fun env P => ∃ n, whileW c b ws P n (wipeE env ws)
theorem s_while {c : Expr} {body : List Stmt} {wc : WT} {wb : WS} (ws : List Nat) (hp : ∀ i, PassesOwn (model (G.X i).prog (G.X i).w) (G.X i).A (G.X i).env (G.X i).xe) (hc : DenT G c wc) (hb : Dens G Wx body wb) : Den G Wx (.While c body [] pos) (wWhile wc wb ws) := by
  obtain ⟨tc, c1, c2⟩ := hc
  obtain ⟨tb, b1, b2⟩ := hb
  refine ⟨_, fun i => ps_while (hp i) (c1 i) (b1 i), fun W F0 H0 F H σ env P T s h c => ?_⟩
  obtain ⟨n, h⟩ := h
  refine ⟨fun m σ' H' => ∃ (Fc : Hp) (env' : Env), StR G.K W F0 H0 Fc H' σ' env' ∧ Same F Fc ∧ whileW wc wb ws P m env', ⟨n, F, _, s.forget ws, Same.refl _, h⟩, ?_⟩
  rintro m σ' H' ⟨Fc, env', sc, sm, q⟩
  cases m with
  | zero => exact q.elim
  | succ m =>
    refine c2 W F0 H0 Fc H' σ' env' _ _ sc q fun x F1 H1 e1 q1 => ?_
    have sm1 := sm.trans e1.f
    cases x with
    | true =>
      rw [if_pos rfl] at q1 ⊢
      refine ⟨fun σ2 H2 => ∃ (F2 : Hp) (env2 : Env), StR G.K W F0 H0 F2 H2 σ2 env2 ∧ Same F F2 ∧ whileW wc wb ws P m env2, fun σ2 H2 p => ⟨m, Nat.lt_succ_self m, p⟩, ?_⟩
      exact b2 W F0 H0 F1 H1 σ' env' _ _ (sc.step e1) q1 ⟨fun σ3 env3 F3 H3 k s3 q3 => ⟨F3, _, s3.forget ws, sm1.trans k, q3⟩, c.rt, fun σ3 env3 F3 H3 k s3 q3 => c.nx σ3 env3 F3 H3 (sm1.trans k) s3 q3, fun σ3 env3 F3 H3 k s3 q3 => ⟨F3, _, s3.forget ws, sm1.trans k, q3⟩, fun x oe σ3 env3 F3 H3 k => c.xe x oe σ3 env3 F3 H3 (sm1.trans k)⟩
    | false =>
      rw [if_neg Bool.false_ne_true] at q1 ⊢
      exact c.nx σ' env' F1 H1 sm1 (sc.step e1) q1
/-- x[k] = e, a list of the frame's own -/
def wSetIx (i : Nat) (wk w : WE) : WS := fun env P => w env fun d => match env[i]? with
  | some (some (.ow t ds)) => wk env fun k => match k with
    | .int k => match ixN ds.length k with
      | some j => P.nx (env.set i (some (.ow t (ds.set j d))))
      | none => False
    | _ => False
  | _ => False
@[simp ↓] theorem wSetIx_ap (i : Nat) (wk w : WE) env P : wSetIx i wk w env P = (w env fun d => match env[i]? with
  | some (some (.ow t ds)) => wk env fun k => match k with
    | .int k => match ixN ds.length k with
      | some j => P.nx (env.set i (some (.ow t (ds.set j d))))
      | none => False
    | _ => False
  | _ => False) := Eq.trans rfl rfl
theorem s_setIx {i : Nat} {x : Str} {p p2 : Pos} {ix : Expr} {wk : WE} (hi : ∀ k, (G.X k).N[i]? = some x := by intro _; rfl) (hv : ∀ k, Vis (G.X k).env.scope x := by intro _; first | exact Or.inl rfl | exact Or.inr (Or.inl rfl) | exact Or.inr (Or.inr rfl)) (hk : DenE G ix wk) (h : DenE G e we) (hd : (x == ("__debug__" : Str)) = false := by decide) (hcd : (x == ("__classdict__" : Str)) = false := by decide)
    (ha : ∀ k v, assign (.Subscript (.Name x p) ix p2) (G.X k).env v = (do
      let ov ← holding [v] (eval (.Name x p) (G.X k).env)
      let iv ← holding [v, ov] (eval ix (G.X k).env)
      standAt p2
      holding [v, ov, iv] (setItem ov iv v)
      release [v, ov, iv] []) := by intro _ _; rfl)
    (hs : ∀ k, swapsWithSole [.Subscript (.Name x p) ix p2] e pos.line (G.X k).env = pure false := by intro _; rfl) (hw : ∀ k, swappedStores [.Subscript (.Name x p) ix p2] e (G.X k).env = pure none := by intro _; rfl)
    (h1 : ∀ k, (assignEach [.Subscript (.Name x p) ix p2] (G.X k).env).map (·.2) = [assign (.Subscript (.Name x p) ix p2) (G.X k).env] := by intro _; rfl) : Den G Wx (.Assign [.Subscript (.Name x p) ix p2] e pos) (wSetIx i wk we) := by
  obtain ⟨t, a1, a2⟩ := h
  obtain ⟨u, b1, b2⟩ := hk
  refine ⟨_, fun k => ps_asg (a1 k) (pg_sub (pe_var (pos := p) (hi k) (hv k) hd hcd) (b1 k) set_list (ha k)) (hs k) (hw k) (h1 k), fun W F0 H0 F H σ env P T s h c => ?_⟩
  refine a2 W F0 H0 F H σ env _ _ s h fun v d F1 H1 e1 r1 q1 => ?_
  have s1 := s.step e1
  split at q1
  · rename_i t ds q
    obtain ⟨v0, g1, a, vs, rfl, gt, g2, g3, g4, g5, g6, g7⟩ := s1.ent i _ q
    refine ⟨_, g1, b2 W F0 H0 F1 H1 σ env _ _ s1 q1 fun kv kd F2 H2 e2 r2 q2 => ?_⟩
    split at q2
    · rename_i k
      cases r2
      split at q2
      · rename_i j hj
        have ha2 := e2.keep a _ g5 g4
        exact ⟨a, vs, k, j, rfl, rfl, ha2, by rw [g7.length]; exact hj, c.nx _ _ F2 _ (e1.f.trans e2.f) ((s1.step e2).mutOw gt q g1 g2 (e2.opn a _ g5 g3) g4 (by rw [List.length_set]; exact g6) ((Rps.mono e2.f g7).set (Rp.mono e2.f r1) j)) q2⟩
      · exact q2.elim
    · exact q2.elim
  · exact q1.elim
end
end Dn
/-! Dn9: defs, calls, raise, try. -/
namespace Dn
open PySem PySem.Spec PyProof.Rows L2
/-- what a def does with its arguments: wanted of what it hands back, of what it raises -/
abbrev WF := List En → (D → Prop) → (Xn → Prop) → Prop
def spW (K : PySem.W.Frag) (n : Nat) (w : WF) : Sp := fun vs H Q E => ∃ (W : Option Addr) (F : Hp) (as : List En) (A : D → Prop) (B : Xn → Prop), Same F H ∧ WdOk W F H ∧ RpAs K W F vs as ∧ as.length = n ∧ w as A B ∧
  (∀ v d F' H', Ext W F H F' H' → Rp K F' v d → A d → Q v H') ∧ ∀ x oe F' H', Ext W F H F' H' → XnOk K F' H' x oe → B x → E (.ref x.cls) oe H'
theorem RpAs.length {K : PySem.W.Frag} {W : Option Addr} {F : Hp} {vs : List V} {as : List En} (r : RpAs K W F vs as) : vs.length = as.length := Paired.length r
theorem spW_len {K : PySem.W.Frag} {n : Nat} {w : WF} (vs : List V) (H : Hp) (Q : VK) (E : XK) (h : spW K n w vs H Q E) : vs.length = n := by
  obtain ⟨W, F, as, A, B, _, _, r, l, _⟩ := h
  exact r.length.trans l
@[simp] def startE (n : Nat) (as : List En) : Env := as.map some ++ List.replicate (n - as.length) none
theorem RpAs.get {K : PySem.W.Frag} {W : Option Addr} {F : Hp} : ∀ {vs : List V} {as : List En} {i : Nat} {en : En}, RpAs K W F vs as → as[i]? = some en → ∃ v, vs[i]? = some v ∧ RpA K W F v en
  | _, _, _, _, .nil, e => by simp at e
  | _, _, 0, _, .cons h _, e => by simp at e; subst e; exact ⟨_, rfl, h⟩
  | _, _, i + 1, _, .cons _ r, e => by
    obtain ⟨d, h1, h2⟩ := RpAs.get (i := i) r (by simpa using e)
    exact ⟨d, by simpa using h1, h2⟩
theorem stR_start {K : PySem.W.Frag} {W : Option Addr} {F H : Hp} {N : List Str} {vs : List V} {as : List En} (u : Same F H) (w : WdOk W F H) (r : RpAs K W F vs as) : StR K W F H F H (L2.start N vs) (startE N.length as) := by
  have hl := r.length
  have key : ∀ (i : Nat) (en : En), (startE N.length as)[i]? = some (some en) → as[i]? = some en := fun i en h => by
    unfold startE at h
    by_cases q : i < as.length
    · rw [List.getElem?_append_left (by simpa using q), List.getElem?_map] at h
      cases z : as[i]? with
      | none => rw [z] at h; cases h
      | some x => rw [z] at h; cases h; rfl
    · rw [List.getElem?_append_right (by simpa using q)] at h
      have m := List.mem_of_getElem? h
      rw [List.mem_replicate] at m
      cases m.2
  refine ⟨Ext.refl u w, by unfold L2.start startE; simp [hl], fun i en h => ?_, fun i j t u ds es n a b => ?_⟩
  · obtain ⟨v, h1, h2⟩ := r.get (key i en h)
    refine ⟨v, ?_, ?_⟩
    · have lt := (List.getElem?_eq_some_iff.mp h1).1
      unfold L2.start
      rw [List.getElem?_append_left (by simpa using lt), List.getElem?_map, h1]
      rfl
    · cases en with
      | sh d => exact h2
      | ob a => exact h2
      | ow _ _ => exact h2.elim
  · obtain ⟨v, h1, h2⟩ := r.get (key i _ a)
    exact h2.elim
/-- nothing is raised -/
abbrev Wno : WX := fun _ _ _ _ => False
def fnW (n : Nat) (wb : WS) : WF := fun as A _ => wb (startE n as) ⟨fun _ => A .none, fun d _ => A d, fun _ => False, fun _ => False, fun _ _ => False⟩
@[simp ↓] theorem fnW_ap (n : Nat) (wb : WS) as A u0_ : fnW n wb as A u0_ = (wb (startE n as) ⟨fun _ => A .none, fun d _ => A d, fun _ => False, fun _ => False, fun _ _ => False⟩) := Eq.trans rfl rfl
def fnWX (n : Nat) (wb : WS) : WF := fun as A B => wb (startE n as) ⟨fun _ => A .none, fun d _ => A d, fun _ => False, fun _ => False, fun x _ => B x⟩
@[simp ↓] theorem fnWX_ap (n : Nat) (wb : WS) as A B : fnWX n wb as A B = (wb (startE n as) ⟨fun _ => A .none, fun d _ => A d, fun _ => False, fun _ => False, fun x _ => B x⟩) := Eq.trans rfl rfl
section
variable {P : Program} {w : World} {K : PySem.W.Frag} {mg : Str → Option Value} {base : Heap} {x qual : Str} {st : Stmt} {f : Addr} {fd : FuncData} {N ps : List Str} {k : Nat} {wb : WS}
/-- the family of contexts of a def's body -/
abbrev famOf (P : Program) (w : World) (K : PySem.W.Frag) (mg : Str → Option Value) (base : Heap) (N : List Str) (qual : Str) (st : Stmt) (f : Addr) (cdv : Value) (A : Around) (outer : List PySem.Env) (s : Shared) (H : Hp) (E : XK) : Fam :=
  Fam.one (cxOf CX0 P w K mg base N qual (defScope st) f cdv A outer s H E).nox
abbrev famX (P : Program) (w : World) (K : PySem.W.Frag) (mg : Str → Option Value) (base : Heap) (N : List Str) (qual : Str) (st : Stmt) (f : Addr) (cdv : Value) (A : Around) (outer : List PySem.Env) (s : Shared) (H : Hp) (E : XK) : Fam :=
  Fam.one (cxOf (L2.CX P w) P w K mg base N qual (defScope st) f cdv A outer s H E)
theorem fn_ok (F : Fun K x qual st f fd) (S : FnScope N ps (defScope st)) (hb : ∀ (cdv : Value) (A : Around) (outer : List PySem.Env) (s : Shared) (H : Hp) (E : XK), Room k (A.deeper (envOfC qual (defScope st) s.heap.objs.size f cdv)) → Dens (famOf P w K mg base N qual st f cdv A outer s H E) Wno (defBody st) wb) :
    FnOk P w K mg base CX0 (k + 1) f fd ps (spW K ps.length (fnW N.length wb)) := by
  refine F.ok S spW_len fun cdv A outer s H vs Q E hr h => ?_
  obtain ⟨W, F0, as, A', B', sm, wd, ra, hl, hw, kq, kx⟩ := h
  obtain ⟨t, h1, h2⟩ := hb cdv A outer s H E hr
  refine ⟨t, h1 (), ?_⟩
  refine h2 W F0 H F0 H _ _ _ _ (stR_start sm wd ra) hw ⟨fun σ env F1 H1 _ s1 q => kq .non .none F1 H1 s1.ext .non q, fun v d σ env F1 H1 s1 r q => kq v d F1 H1 s1.ext r q, fun σ env F1 H1 _ _ q => q.elim, fun σ env F1 H1 _ _ q => q.elim, fun x oe σ env F1 H1 _ _ _ q => q.elim⟩
theorem fn_okX (F : Fun K x qual st f fd) (S : FnScope N ps (defScope st)) (hb : ∀ (cdv : Value) (A : Around) (outer : List PySem.Env) (s : Shared) (H : Hp) (E : XK), Room k (A.deeper (envOfC qual (defScope st) s.heap.objs.size f cdv)) → Dens (famX P w K mg base N qual st f cdv A outer s H E) (fun cls d _ H' => E cls d H') (defBody st) wb) :
    FnOk P w K mg base (L2.CX P w) (k + 1) f fd ps (spW K ps.length (fnWX N.length wb)) := by
  refine F.okX S spW_len fun cdv A outer s H vs Q E hr h => ?_
  obtain ⟨W, F0, as, A', B', sm, wd, ra, hl, hw, kq, kx⟩ := h
  obtain ⟨t, h1, h2⟩ := hb cdv A outer s H E hr
  refine ⟨t, h1 (), ?_⟩
  refine h2 W F0 H F0 H _ _ _ _ (stR_start sm wd ra) hw ⟨fun σ env F1 H1 _ s1 q => kq .non .none F1 H1 s1.ext .non q, fun v d σ env F1 H1 s1 r q => kq v d F1 H1 s1.ext r q, fun σ env F1 H1 _ _ q => q.elim, fun σ env F1 H1 _ _ q => q.elim, fun x oe σ env F1 H1 _ s1 xo q => kx x oe F1 H1 s1.ext xo q⟩
/-- a def known by its reading may be known by another that asks more -/
theorem fn_imp {CX : CXT} {n : Nat} {w1 w2 : WF} (F : FnOk P w K mg base CX k f fd ps (spW K n w1)) (h : ∀ as A B, w2 as A B → w1 as A B) : FnOk P w K mg base CX k f fd ps (spW K n w2) :=
  F.imp fun vs H Q E ⟨W, F0, as, A', B', sm, wd, ra, hl, hw, kq, kx⟩ => ⟨W, F0, as, A', B', sm, wd, ra, hl, h _ _ _ hw, kq, kx⟩
end
/-! ### calls -/
def wCl (f : WF) (r : WA) : WE := fun env Q => r env fun as => f as Q fun _ => False
/-- a call: nothing behind it is looked into -/
def cal (f : WF) (as : List En) (A : D → Prop) (B : Xn → Prop) : Prop := f as A B
theorem cal_of {f : WF} {as : List En} {A : D → Prop} {B : Xn → Prop} (h : f as A B) : cal f as A B := h
theorem cal_congr {f : WF} {as bs : List En} {A : D → Prop} {B : Xn → Prop} (h : as = bs) : cal f as A B = cal f bs A B := by rw [h]
@[simp ↓] theorem wCl_ap (f : WF) (r : WA) env Q : wCl f r env Q = (r env fun as => cal f as Q fun _ => False) := Eq.trans rfl rfl
section
variable {G : Fam} {Wx : WX} {CX : CXT} {k : Nat} {f : Addr} {fd : FuncData} {ps : List Str} {n : Nat} {wf : WF} {x : Str} {e : Expr} {es : List Expr} {r : WA} {p pos : Pos}
theorem e_call (hF : ∀ i, FnOk (G.X i).prog (G.X i).w (G.X i).K (G.X i).mg (G.X i).base CX k f fd ps (spW G.K n wf)) (hr : ∀ i, Room k (G.X i).A) (hg : ∀ i, Gl (G.X i) x := by intro _; rfl) (hm : ∀ i, (G.X i).mg x = some (.ref f)) (hk : ∀ i, PySem.W.keepIn (G.X i).K (.ref f) = true) (hb : ∀ i, Binds (G.X i).K fd ps []) (hx : ∀ i, Passes CX (G.X i) E0)
    (ha : DenA G (e :: es) r) (hn : (e :: es).length = n) (hdb : (x == ("__debug__" : Str)) = false := by decide) (he : ∀ i, starEach (e :: es) (G.X i).env = (false, eval e (G.X i).env) :: starEach es (G.X i).env := by intro _; rfl) (hpl : ∀ i, (backTo pos (starEach es (G.X i).env)).any (·.1) = false := by intro _; rfl) :
    DenE G (.Call (.Name x p) (e :: es) [] pos) (wCl wf r) := by
  obtain ⟨t, a1, a2⟩ := ha
  refine ⟨_, fun i => pe_call (hF i) (hr i) (hg i) (hm i) (hk i) (hb i) .nil (hx i) (a1 i) hdb (he i) (hpl i), fun W F0 H0 F H σ env Q R s h kk => ?_⟩
  refine a2 W F0 H0 F H σ env _ _ s h fun vs as F1 H1 e1 r1 l1 q1 => ?_
  show spW G.K n wf (vs ++ []) H1 R E0
  rw [List.append_nil]
  exact ⟨W, F1, as, Q, fun _ => False, e1.u, e1.w, r1, l1.trans hn, q1, fun v d F' H' e2 rd qd => kk v d F' H' (e1.trans e2) rd qd, fun _ _ _ _ _ _ z => z⟩
theorem e_call0 (hF : ∀ i, FnOk (G.X i).prog (G.X i).w (G.X i).K (G.X i).mg (G.X i).base CX k f fd ps (spW G.K 0 wf)) (hr : ∀ i, Room k (G.X i).A) (hg : ∀ i, Gl (G.X i) x := by intro _; rfl) (hm : ∀ i, (G.X i).mg x = some (.ref f)) (hk : ∀ i, PySem.W.keepIn (G.X i).K (.ref f) = true) (hb : ∀ i, Binds (G.X i).K fd ps []) (hx : ∀ i, Passes CX (G.X i) E0)
    (hdb : (x == ("__debug__" : Str)) = false := by decide) : DenE G (.Call (.Name x p) [] [] pos) (wCl wf wANil) := by
  refine ⟨_, fun i => pe_call0 (hF i) (hr i) (hg i) (hm i) (hk i) (hb i) .nil (hx i) hdb, fun W F0 H0 F H σ env Q R s h kk => ?_⟩
  exact ⟨W, F, [], Q, fun _ => False, s.u, s.w, .nil, rfl, h, fun v d F' H' e2 rd qd => kk v d F' H' e2 rd qd, fun _ _ _ _ _ _ z => z⟩
/-! what may raise -/
abbrev WEX := Env → (D → Prop) → (Xn → Prop) → Prop
def DenX (G : Fam) (Wx : WX) (e : Expr) (w : WEX) : Prop := ∃ t : TE, (∀ i, PE (G.X i) e t) ∧ ∀ (W : Option Addr) (F0 H0 F H : Hp) (σ : L2.St) (env : Env) (Q : D → Prop) (B : Xn → Prop) (R : VK), StR G.K W F0 H0 F H σ env → w env Q B →
  (∀ v d F' H', Ext W F H F' H' → Rp G.K F' v d → Q d → R v H') → (∀ x oe F' H', Ext W F H F' H' → XnOk G.K F' H' x oe → B x → Wx (.ref x.cls) oe σ H') → t σ H R
def wClX (f : WF) (r : WA) : WEX := fun env Q B => r env fun as => f as Q B
@[simp ↓] theorem wClX_ap (f : WF) (r : WA) env Q B : wClX f r env Q B = (r env fun as => cal f as Q B) := Eq.trans rfl rfl
theorem x_call (hF : ∀ i, FnOk (G.X i).prog (G.X i).w (G.X i).K (G.X i).mg (G.X i).base (L2.CX (G.X i).prog (G.X i).w) k f fd ps (spW G.K n wf)) (hr : ∀ i, Room k (G.X i).A) (hg : ∀ i, Gl (G.X i) x := by intro _; rfl) (hm : ∀ i, (G.X i).mg x = some (.ref f)) (hk : ∀ i, PySem.W.keepIn (G.X i).K (.ref f) = true) (hb : ∀ i, Binds (G.X i).K fd ps [])
    (tk : ∀ i, Takes (G.X i) Wx) (ha : DenA G (e :: es) r) (hn : (e :: es).length = n) (hdb : (x == ("__debug__" : Str)) = false := by decide) (he : ∀ i, starEach (e :: es) (G.X i).env = (false, eval e (G.X i).env) :: starEach es (G.X i).env := by intro _; rfl) (hpl : ∀ i, (backTo pos (starEach es (G.X i).env)).any (·.1) = false := by intro _; rfl) :
    DenX G Wx (.Call (.Name x p) (e :: es) [] pos) (wClX wf r) := by
  obtain ⟨t, a1, a2⟩ := ha
  refine ⟨_, fun i => pe_callS (E := L2.WE Wx) (hF i) (hr i) (hg i) (hm i) (hk i) (hb i) (fun σ => passAt (tk i) σ) (a1 i) hdb (he i) (hpl i), fun W F0 H0 F H σ env Q B R s h kk kx => ?_⟩
  refine a2 W F0 H0 F H σ env _ _ s h fun vs as F1 H1 e1 r1 l1 q1 => ?_
  exact ⟨W, F1, as, Q, B, e1.u, e1.w, r1, l1.trans hn, q1, fun v d F' H' e2 rd qd => kk v d F' H' (e1.trans e2) rd qd, fun x oe F' H' e2 xo q => kx x oe F' H' (e1.trans e2) xo q⟩
def wDropX (w : WEX) : WS := fun env P => w env (fun _ => P.nx env) fun x => P.xe x env
@[simp ↓] theorem wDropX_ap (w : WEX) env P : wDropX w env P = (w env (fun _ => P.nx env) fun x => P.xe x env) := Eq.trans rfl rfl
theorem s_exprX {we : WEX} (h : DenX G Wx e we) (hs : ∀ i, swapsWith e none pos.line (G.X i).env = pure false := by intro _; rfl) : Den G Wx (.Expr e pos) (wDropX we) := by
  obtain ⟨t, h1, h2⟩ := h
  refine ⟨_, fun i => ps_expr (h1 i) (hs i), fun W F0 H0 F H σ env P T s h c => ?_⟩
  exact h2 W F0 H0 F H σ env _ _ _ s h (fun v d F' H' x r q => c.nx σ env F' H' x.f (s.step x) q) fun x oe F' H' e xo q => c.xe x oe σ env F' H' e.f (s.step e) xo q
def wRetX (w : WEX) : WS := fun env P => w env (fun d => P.rt d env) fun x => P.xe x env
@[simp ↓] theorem wRetX_ap (w : WEX) env P : wRetX w env P = (w env (fun d => P.rt d env) fun x => P.xe x env) := Eq.trans rfl rfl
theorem s_retX {we : WEX} (h : DenX G Wx e we) : Den G Wx (.Return (some e) pos) (wRetX we) := by
  obtain ⟨t, h1, h2⟩ := h
  refine ⟨_, fun i => ps_ret (h1 i), fun W F0 H0 F H σ env P T s h c => ?_⟩
  exact h2 W F0 H0 F H σ env _ _ _ s h (fun v d F' H' x r q => c.rt v d σ env F' H' (s.step x) r q) fun x oe F' H' e xo q => c.xe x oe σ env F' H' e.f (s.step e) xo q
def wSetX (i : Nat) (w : WEX) : WS := fun env P => w env (fun d => P.nx (env.set i (some (.sh d)))) fun x => P.xe x env
@[simp ↓] theorem wSetX_ap (i : Nat) (w : WEX) env P : wSetX i w env P = (w env (fun d => P.nx (env.set i (some (.sh d)))) fun x => P.xe x env) := Eq.trans rfl rfl
theorem s_setX {we : WEX} {i : Nat} {x : Str} {p : Pos} (hN : ∀ j, (G.X j).N.Nodup) (hi : ∀ j, (G.X j).N[i]? = some x := by intro _; rfl) (hx : ∀ j, Loc (G.X j).env.scope x := by intro _; first | exact Or.inl rfl | exact Or.inr rfl) (hf : ∀ j, (G.X j).fn x = true ∨ (G.X j).env.scope.names.lookup x = some .local := by intro _; first | exact Or.inl rfl | exact Or.inr rfl) (h : DenX G Wx e we)
    (hs : ∀ j, swapsWith e (some (.Name x p)) pos.line (G.X j).env = pure false := by intro _; rfl) : Den G Wx (.Assign [.Name x p] e pos) (wSetX i we) := by
  obtain ⟨t, h1, h2⟩ := h
  refine ⟨_, fun j => ps_set (hN j) (hi j) (hx j) (h1 j) (hs j) (hf j), fun W F0 H0 F H σ env P T s h c => ?_⟩
  exact h2 W F0 H0 F H σ env _ _ _ s h (fun v d F' H' e r q => c.nx _ _ F' H' e.f ((s.step e).setSh r) q) fun x oe F' H' e xo q => c.xe x oe σ env F' H' e.f (s.step e) xo q
/-! raise -/
theorem pmk_own0 {X : Cx} {C : Addr} {bmB : List Value} {B newId initId : String} {x : Str} {p pos : Pos} (F : ExcBaseFacts B newId initId bmB) (q : PySem.W.excIn X.K C bmB newId = true) (gC : X.mg x = some (.ref C)) (kC : PySem.W.keepIn X.K (.ref C) = true) (r : Raises X (.ref C)) (hg : Gl X x)
    (hdb : (x == ("__debug__" : Str)) = false := by decide) : PMk X (.Call (.Name x p) [] [] pos) (fun _ H Q => Q (.ref C) none H) := by
  intro pins s σ H Q I h
  refine wpAny_Call_Name_kw (ld_glob I hg gC ?_ hdb)
  refine PySem.W.callWith_K0 I.kIn kC ?_
  show wpAny _ _ (call (.ref C) []) _ _ _
  obtain ⟨bm, N, nm, qn, bs, hdct, sn, sub, ab, col, dd, k0, k1, k2, k3, k5, mN, hC, hN, hni, T⟩ := exc_obj I.kIn q
  exact wpAny_call_exc_subT F T hC hN hni (fun h' e hm => mk_of I hm r h (I.hok.gone hm.new)) (Nat.zero_le _)
def wRaise (C : Addr) : WS := fun env P => P.xe ⟨C, none⟩ env
@[simp ↓] theorem wRaise_ap (C : Addr) env P : wRaise C env P = (P.xe ⟨C, none⟩ env) := Eq.trans rfl rfl
theorem s_raise0 {C : Addr} {bmB : List Value} {B newId initId : String} (hc : Calm G) (tk : ∀ i, Takes (G.X i) Wx) (F : ExcBaseFacts B newId initId bmB) (q : ∀ i, PySem.W.excIn (G.X i).K C bmB newId = true) (gC : ∀ i, (G.X i).mg x = some (.ref C)) (kC : ∀ i, PySem.W.keepIn (G.X i).K (.ref C) = true) (r : ∀ i, Raises (G.X i) (.ref C)) (hg : ∀ i, Gl (G.X i) x := by intro _; rfl)
    (hdb : (x == ("__debug__" : Str)) = false := by decide) {p2 : Pos} : Den G Wx (.Raise (some (.Call (.Name x p) [] [] pos)) none p2) (wRaise C) := by
  refine ⟨_, fun i => ps_raise (hc i) (tk i) (pmk_own0 F (q i) (gC i) (kC i) (r i) (hg i) hdb), fun W F0 H0 F H σ env P T s h c => ?_⟩
  exact c.xe ⟨C, none⟩ none σ env F H (Same.refl _) s rfl h
end
theorem fn_false {P : Program} {w : World} {K : PySem.W.Frag} {mg : Str → Option Value} {base : Heap} {CX : CXT} {k n : Nat} {f : Addr} {fd : FuncData} {ps : List Str} (hn : ps.length = n) : FnOk P w K mg base CX k f fd ps (spW K n fun _ _ _ => False) :=
  ⟨fun vs H Q E h => (spW_len vs H Q E h).trans hn.symm, fun A outer s H args us vs Q E hr he hb hv h => by
    obtain ⟨W, F, as, A', B', _, _, _, _, z, _⟩ := h
    exact z.elim⟩
theorem room65 {k : Nat} {A : Around} (r : Room k A) : A.units + 65 < cLine := by
  have := r.un
  omega
/-! ### the hand -/
/-- what a draw is: some number below the bound -/
def wDraw : WF := fun as A _ => ∃ (a : Addr) (m : Int), as = [.ob a, .sh (.int m)] ∧ (0 < m ∧ m < 1073741824) ∧ ∀ k : Int, 0 ≤ k → k < m → A (.int k)
def handD (cs : List Int) (p l x n : Int) : List D := [.list (cs.map .int), .int p, .int l, .int x, .int n]
def HandOk (cs : List Int) (p l x n : Int) : Prop := cs.length ≤ 63 ∧ (∀ i ∈ cs, 0 ≤ i) ∧ 0 ≤ p ∧ 0 ≤ l ∧ 0 ≤ x ∧ 0 ≤ n
theorem rps_ints {K : PySem.W.Frag} {F : Hp} : ∀ cs : List Int, Rps K F (cs.map V.int) (cs.map .int)
  | [] => .nil
  | i :: r => .cons (.int i) (rps_ints r)
theorem rps_ints_inv {K : PySem.W.Frag} {F : Hp} : ∀ {cs : List Int} {vs : List V}, Rps K F vs (cs.map .int) → vs = cs.map V.int
  | [], _, .nil => rfl
  | i :: r, _, .cons h t => by
    cases h
    rw [rps_ints_inv t]
    rfl
theorem draw_ok {P : Program} {w : World} {K : PySem.W.Frag} {mg : Str → Option Value} {base : Heap} {x qual : Str} {st : Stmt} {f : Addr} {fd : FuncData} {N ps : List Str} {k : Nat} {wb : WS} (F : Fun K x qual st f fd) (S : FnScope N ps (defScope st)) (h2 : ps.length = 2) (hN : 2 ≤ N.length)
    (hb : ∀ (cdv : Value) (A : Around) (outer : List PySem.Env) (s : Shared) (H : Hp) (E : XK), Room k (A.deeper (envOfC qual (defScope st) s.heap.objs.size f cdv)) → Dens (famOf P w K mg base N qual st f cdv A outer s H E) Wno (defBody st) wb)
    (hw : ∀ (h : Addr) (cs : List Int) (p l x n m : Int), HandOk cs p l x n → 0 < m → m < 1073741824 → wb (some (.ow (some h) (handD cs p l x n)) :: some (.sh (.int m)) :: List.replicate (N.length - 2) none)
      ⟨fun _ => False, fun d env => ∃ (k : Int) (cs' : List Int) (p' l' x' n' : Int), d = .int k ∧ (0 ≤ k ∧ k < m) ∧ env[0]? = some (some (.ow (some h) (handD cs' p' l' x' n'))) ∧ HandOk cs' p' l' x' n', fun _ => False, fun _ => False, fun _ _ => False⟩) :
    FnOk P w K mg base CX0 (k + 1) f fd ps (spW K 2 wDraw) := by
  refine F.ok S (fun vs H Q E h => (spW_len vs H Q E h).trans h2.symm) fun cdv A outer s H vs Q E hr h => ?_
  obtain ⟨W, F0, as, A', B', sm, wd, ra, hl, ⟨a, m, rfl, ⟨hm, hm2⟩, hA⟩, kq, kx⟩ := h
  obtain ⟨v1, v2, rfl, r1, r2⟩ : ∃ v1 v2, vs = [v1, v2] ∧ RpA K W F0 v1 (.ob a) ∧ RpA K W F0 v2 (.sh (.int m)) := by
    cases ra with
    | cons r1 t =>
      cases t with
      | cons r2 t =>
        cases t
        exact ⟨_, _, rfl, r1, r2⟩
  obtain ⟨rfl, rfl⟩ := r1
  cases (show Rp K F0 v2 (.int m) from r2)
  obtain ⟨fa, c, p, l, x, n, cs, hH, hF, ok⟩ := wd a rfl
  obtain ⟨t, t1, t2⟩ := hb cdv A outer s H E hr
  refine ⟨t, t1 (), ?_⟩
  have hid : ∀ b o, (if b = a then none else H b) = some o → H b = some o := fun b o z => by
    by_cases q : b = a
    · rw [if_pos q] at z; cases z
    · rw [if_neg q] at z; exact z
  have lc : cs.length ≤ sizeLine := Nat.le_trans ok.1 (by decide)
  have st0 : StR K none F0 (fun b => if b = a then none else H b) F0 H (L2.start N [.ref a, .int m]) (some (.ow (some a) (handD cs p l x n)) :: some (.sh (.int m)) :: List.replicate (N.length - 2) none) := by
    refine ⟨⟨Same.refl _, sm, fun _ z => (nomatch z), fun b o z _ => hid b o z, fun b o _ z => z⟩, by unfold L2.start; simp, fun i en hi => ?_, fun i j t u ds es ne q1 q2 => ?_⟩
    · match i, hi with
      | 0, hi =>
        cases hi
        refine ⟨.ref a, rfl, a, _, rfl, fun b z => Option.some.inj z, if_pos rfl, fa, (fun z => nomatch z), hH, by show 5 ≤ sizeLine; decide, ?_⟩
        exact .cons (.lst hF (by rw [List.length_map]; exact lc) (rps_ints cs)) (.cons (.int _) (.cons (.int _) (.cons (.int _) (.cons (.int _) .nil))))
      | 1, hi =>
        cases hi
        exact ⟨.int m, rfl, .int m⟩
      | i + 2, hi =>
        have z : (List.replicate (N.length - 2) (none : Option En))[i]? = some (some en) := hi
        have := List.mem_of_getElem? z
        rw [List.mem_replicate] at this
        cases this.2
    · have only : ∀ (i : Nat) (t : Option Addr) (ds : List PyData), (some (En.ow (some a) (handD cs p l x n)) :: some (.sh (.int m)) :: List.replicate (N.length - 2) none)[i]? = some (some (.ow t ds)) → i = 0 := fun i t ds z => by
        match i, z with
        | 0, _ => rfl
        | 1, z => cases z
        | i + 2, z =>
          have z : (List.replicate (N.length - 2) (none : Option En))[i]? = some (some _) := z
          have := List.mem_of_getElem? z
          rw [List.mem_replicate] at this
          cases this.2
      exact absurd ((only i t ds q1).trans (only j u es q2).symm) ne
  refine t2 none F0 _ F0 H _ _ _ _ st0 (hw a cs p l x n m ok hm hm2) ⟨fun σ env F1 H1 _ s1 q => q.elim, fun v d σ env F1 H1 s1 r q => ?_, fun σ env F1 H1 _ _ q => q.elim, fun σ env F1 H1 _ _ q => q.elim, fun x oe σ env F1 H1 _ _ _ q => q.elim⟩
  obtain ⟨k', cs', p', l', x', n', rfl, ⟨k1, k2⟩, e0, ok'⟩ := q
  obtain ⟨v0, g1, b, ws, rfl, gt, g2, g3, g4, g5, g6, g7⟩ := s1.ent 0 _ e0
  cases gt a rfl
  obtain ⟨c', vs', rfl, hc1⟩ : ∃ c' vs', ws = .ref c' :: vs' ∧ F1 c' = some (.lst (cs'.map V.int)) := by
    cases g7 with
    | cons h1 h2 =>
      cases h1 with
      | lst q1 q2 q3 =>
        rw [rps_ints_inv q3] at q1
        exact ⟨_, _, rfl, q1⟩
  have e4 : vs' = [.int p', .int l', .int x', .int n'] := by
    cases g7 with
    | cons _ h2 =>
      cases h2 with
      | cons i1 h2 => cases i1; cases h2 with
        | cons i1 h2 => cases i1; cases h2 with
          | cons i1 h2 => cases i1; cases h2 with
            | cons i1 h2 => cases i1; cases h2; rfl
  subst e4
  refine kq v (.int k') F1 H1 ⟨s1.ext.f, s1.ext.u, fun h hh => ?_, fun b o z nb => ?_, fun b o z fz => ?_⟩ r (hA k' k1 k2)
  · cases hh
    exact ⟨g3, c', p', l', x', n', cs', g5, hc1, ok'⟩
  · have nba : b ≠ a := fun q => nb (by rw [q])
    exact s1.ext.keep b o (by rw [if_neg nba]; exact z) (fun q => nomatch q)
  · by_cases q : b = a
    · rw [q]; exact g3
    · exact s1.ext.opn b o (by rw [if_neg q]; exact z) fz
end Dn
/-! Dn10: written dicts, negation, try. -/
namespace Dn
open PySem PySem.Spec PyProof.Rows L2
section
variable {G : Fam} {Wx : WX} {e : Expr} {w : WE} {pos : Pos}
theorem e_dict0 : DenE G (.Dict [] [] pos) (wC (.dict [])) := by
  refine ⟨_, fun _ => pe_dnewK, fun W F0 H0 F H σ env Q R s h k p hp => ?_⟩
  exact k _ _ _ _ (Ext.new s.u s.w hp) (.dct upd_same) h
/-- {k: v}, k a written int -/
def wDict1 (i : Int) (w : WE) : WE := fun env Q => w env fun d => Q (.dict [(.int i, d)])
@[simp ↓] theorem wDict1_ap (i : Int) (w : WE) env Q : wDict1 i w env Q = (w env fun d => Q (.dict [(.int i, d)])) := Eq.trans rfl rfl
theorem e_dict1 {i : Int} {j : Nat} {p2 : Pos} (h : DenE G e w) : DenE G (.Dict [some (.Constant (.int i) j p2)] [e] pos) (wDict1 i w) := by
  obtain ⟨t, h1, h2⟩ := h
  refine ⟨_, fun k => pe_disp (pps_cons pe_int (h1 k) pps_nil) rfl rfl (fun z => nomatch z) (by show 1 ≤ 15; decide), fun W F0 H0 F H σ env Q R s h k p hp => ?_⟩
  obtain ⟨h0, fp, nw⟩ := s.ext.fresh hp
  have s1 := s.aside (o := .dK []) h0 fp nw (s.notOw hp)
  have e0 : Ext W F H F (upd H p (.dK [])) := (Ext.refl s.u s.w).write hp nw fp
  show t σ (upd H p (.dK [])) _
  refine h2 W F0 H0 F _ σ env _ _ s1 h fun v d F2 H2 e2 r2 q2 => ?_
  have hp2 : H2 p = some (.dK []) := e2.keep p _ upd_same nw
  have fp2 : F2 p = none := e2.opn p _ upd_same fp
  refine ⟨hp2, [(.inl i, v)], rfl, by show 1 ≤ 15; decide, ?_⟩
  have e3 := (e0.trans e2).write (o := .dK (mergeK [] [(.inl i, v)])) hp nw fp2
  have e4 := e3.freeze hp upd_same nw fp2
  exact k _ _ _ _ e4 (.dct upd_same) q2
def wNeg (w : WE) : WE := fun env Q => w env fun d => match d with
  | .int i => Q (.int (-i))
  | _ => False
@[simp ↓] theorem wNeg_ap (w : WE) env Q : wNeg w env Q = (w env fun d => match d with
  | .int i => Q (.int (-i))
  | _ => False) := Eq.trans rfl rfl
theorem e_neg (h : DenE G e w) : DenE G (.UnaryOp .USub e pos) (wNeg w) := by
  obtain ⟨t, h1, h2⟩ := h
  refine ⟨_, fun k => pe_un un_neg (h1 k), fun W F0 H0 F H σ env Q R s h k => ?_⟩
  refine h2 W F0 H0 F H σ env _ _ s h fun v d F2 H2 e2 r2 q2 => ?_
  cases r2 with
  | int i => exact ⟨i, rfl, k _ _ F2 H2 e2 (.int _) q2⟩
  | _ => exact (show False from q2).elim
theorem takes_no {X : Cx} : Takes X Wno := fun _ _ ⟨_, _, _, _, _, _, _, _, _, _, _, _, _, _, _, _, w⟩ => w.elim
/-- the contexts of a try's body -/
def Fam.tr (G : Fam) (Wb : WX) : Fam := ⟨{p : G.ι × List (Addr × Obj) × (Value → Shared → Prop) // Takes ((G.X p.1).tr p.2.1 p.2.2) Wb ∧ PassesOwn (model (G.X p.1).prog (G.X p.1).w) (G.X p.1).A (G.X p.1).env p.2.2},
  fun p => (G.X p.1.1).tr p.1.2.1 p.1.2.2, G.K, fun p => G.hK p.1.1⟩
def Fam.suite (G : Fam) : Fam := ⟨G.ι × Addr × Obj × List (Addr × Obj), fun p => (G.X p.1).suite p.2.1 ((p.2.1, p.2.2.1) :: p.2.2.2), G.K, fun p => G.hK p.1⟩
/-- try: body, except C: suite -/
def wTry (mt : Addr → Option Bool) (wb ws : WS) : WS := fun env P => wb env { P with xe := fun x env' => match mt x.cls with
  | some true => ws env' { P with xe := fun _ _ => False }
  | some false => P.xe x env'
  | none => False }
@[simp ↓] theorem wTry_ap (mt : Addr → Option Bool) (wb ws : WS) env P : wTry mt wb ws env P = (wb env { P with xe := fun x env' => match mt x.cls with
  | some true => ws env' { P with xe := fun _ _ => False }
  | some false => P.xe x env'
  | none => False }) := Eq.trans rfl rfl
theorem s_try {x : Str} {C : Addr} {body suite : List Stmt} {b₀ : Stmt} {np pos' : Pos} {wb ws : WS} {mt : Addr → Option Bool} (hst : ∀ i, (G.X i).stack = (G.X i).env :: (G.X i).outer) (hf : ∀ i, (G.X i).env.frame = some (G.X i).env.locals) (hc : ∀ i, Names (G.X i) x (.ref C)) (tk : ∀ i, Takes (G.X i) Wx)
    (hm : ∀ cls b, mt cls = some b → PySem.W.exmOne G.K (.ref cls) (.ref C) = some b) (hb : ∀ Wb, Dens (G.tr Wb) Wb body wb) (hsu : Dens G.suite Wno (b₀ :: suite) ws) :
    Den G Wx (.Try body [.ExceptHandler (some (.Name x np)) none (b₀ :: suite) pos'] [] [] pos) (wTry mt wb ws) := by
  obtain ⟨ts, u1, u2⟩ := hsu
  refine ⟨fun T σ H => (hb (wOnly G.K (.ref C) (fun _ _ _ => ts) Wx T)).choose T σ H, fun i => ?_, fun W F0 H0 F H σ env P T s h c => ?_⟩
  · have z := ps_try_only (pos := pos) (pos' := pos') (np := np) (tb := fun Wb => (hb Wb).choose) (ts := fun _ _ _ => ts) (hst i) (hf i) (hc i) (tk i) (fun Wb pn xe t p => (hb Wb).choose_spec.1 ⟨⟨i, pn, xe⟩, t, p⟩) (fun a oe cls d pn _ _ => u1 ⟨i, a, oe, pn⟩)
    rw [G.hK i] at z
    exact z
  · refine (hb _).choose_spec.2 W F0 H0 F H σ env _ T s h ⟨c.nx, c.rt, c.bk, c.ct, fun x oe σ' env' F' H' m s' xo q => ?_⟩
    have q' : (match mt x.cls with | some true => ws env' { P with xe := fun _ _ => False } | some false => P.xe x env' | none => False) := q
    cases hx : mt x.cls with
    | none => rw [hx] at q'; exact q'.elim
    | some b =>
      rw [hx] at q'
      cases b with
      | true =>
        refine ⟨true, hm _ _ hx, fun _ a _ => ?_, fun z => nomatch z⟩
        exact u2 W F0 H0 F' H' σ' env' _ T s' q' ⟨fun σ env F H m2 => c.nx σ env F H (m.trans m2), c.rt, fun σ env F H m2 => c.bk σ env F H (m.trans m2), fun σ env F H m2 => c.ct σ env F H (m.trans m2), fun _ _ _ _ _ _ _ _ _ z => z⟩
      | false =>
        refine ⟨false, hm _ _ hx, (fun z => nomatch z), fun _ => ?_⟩
        exact c.xe x oe σ' env' F' H' m s' xo q'
end
/-! ### the hand is made -/
theorem yes_do {σ : L2.St} {H : Hp} {A B : Hp → Prop} (h : A H) : tYes σ H (fun b H3 => if b = true then A H3 else B H3) := h
/-- a def that is handed the script and hands back the hand -/
def spHand (K : PySem.W.Frag) : Sp := fun vs H Q _ => ∃ (a : Addr) (ns : List Int), vs = [.ref a] ∧ SqL K H a (ns.map V.int) ∧ ns.length ≤ 63 ∧ ∀ H' h c x cs, Same H H' → H h = none → H c = none → h ≠ c → H' h = some (.lst [.ref c, .int 0, .int 0, .int x, .int 0]) → H' c = some (.lst (cs.map V.int)) → HandOk cs 0 0 x 0 → Q (.ref h) H'
/-- the law: hand = make(script), then the rest -/
def spLaw (K : PySem.W.Frag) : Sp := fun vs H Q _ => ∃ (a : Addr) (ns : List Int), vs = [.ref a] ∧ SqL K H a (ns.map V.int) ∧ ns.length ≤ 63 ∧ ∀ H', Q (.bl true) H'
theorem law_ok {P : Program} {w : World} {K : PySem.W.Frag} {mg : Str → Option Value} {base : Heap} {x qual : Str} {st : Stmt} {f : Addr} {fd : FuncData} {N : List Str} {k kh : Nat} {wb : WS} {g : Addr} {gd : FuncData} {hn hs : Str} {hps : List Str} {p1 p2 p3 p4 p5 : Pos} {rest : List Stmt} (F : Fun K x qual st f fd) (S : FnScope N ["script"] (defScope st)) (hN : 2 ≤ N.length) (hh : N[1]? = some hn) (h0 : N[0]? = some ("script" : Str))
    (hb0 : defBody st = .Assign [.Name hn p1] (.Call (.Name hs p2) [.Name "script" p3] [] p4) p5 :: rest) (Gh : FnOk P w K mg base CX0 kh g gd hps (spHand K)) (hkh : kh ≤ k) (hgl : (defScope st).names.lookup hs = some .globalImplicit) (hmg : mg hs = some (.ref g)) (hkp : PySem.W.keepIn K (.ref g) = true) (hbi : Binds K gd hps [])
    (hdb : (hs == ("__debug__" : Str)) = false) (hl1 : (defScope st).names.lookup hn = some .local) (hl0 : (defScope st).names.lookup ("script" : Str) = some .local ∨ (defScope st).names.lookup ("script" : Str) = some .cell)
    (hd : ∀ (cdv : Value) (A : Around) (outer : List PySem.Env) (s : Shared) (H : Hp) (E : XK), Room k (A.deeper (envOfC qual (defScope st) s.heap.objs.size f cdv)) → Dens (famOf P w K mg base N qual st f cdv A outer s H E) Wno rest wb)
    (hw : ∀ h : Addr, wb (none :: some (.ob h) :: List.replicate (N.length - 2) none) ⟨fun _ => False, fun d _ => d = .bool true, fun _ => False, fun _ => False, fun _ _ => False⟩) : FnOk P w K mg base CX0 (k + 1) f fd ["script"] (spLaw K) := by
  refine F.ok S (fun vs H Q E h => ?_) fun cdv A outer s H vs Q E hr h => ?_
  · obtain ⟨a, ns, rfl, _⟩ := h
    rfl
  obtain ⟨a, ns, rfl, hS, hlen, hQ⟩ := h
  obtain ⟨t, t1, t2⟩ := hd cdv A outer s H E hr
  rw [hb0]
  have head : PS (cxOf CX0 P w K mg base N qual (defScope st) f cdv A outer s H E).nox (.Assign [.Name hn p1] (.Call (.Name hs p2) [.Name "script" p3] [] p4) p5) (tAsg (tCall (spHand K) [] E0 (tCons (tVar 0) tNil)) (gName 1)) := by
    refine ps_set S.nd hh (Or.inl hl1) (pe_call Gh (hr.mono hkh) hgl hmg hkp hbi .nil pass0 (pa_cons (pe_var h0 ?_) pa_nil) hdb) ?_ (Or.inl rfl)
    · rcases hl0 with z | z
      · exact .inl z
      · exact .inr (.inl z)
    · rfl
  refine ⟨_, pss_cons head (t1 ()), ?_⟩
  have e0 : (L2.start N [V.ref a])[0]? = some (some (.ref a)) := rfl
  refine ⟨.ref a, e0, ?_⟩
  refine ⟨a, ns, rfl, hS, hlen, fun H' h c x cs sm hh0 hc0 hne h1 h2 ok => ?_⟩
  have st0 : StR K (some h) (upd H c (.lst (cs.map V.int))) H' (upd H c (.lst (cs.map V.int))) H' ((L2.start N [V.ref a]).set 1 (some (.ref h))) (none :: some (.ob h) :: List.replicate (N.length - 2) none) := by
    refine ⟨⟨Same.refl _, fun b o z => ?_, fun h' hh' => ?_, fun _ _ z _ => z, fun _ _ _ z => z⟩, by unfold L2.start; simp; omega, fun i en hi => ?_, fun i j t u ds es ne q1 q2 => ?_⟩
    · by_cases q : b = c
      · subst q
        rw [upd_same] at z
        cases z
        exact h2
      · rw [upd_ne q] at z
        exact sm b o z
    · cases hh'
      exact ⟨by rw [upd_ne hne]; exact hh0, c, 0, 0, x, 0, cs, h1, upd_same, ok⟩
    · match i, hi with
      | 0, hi => cases hi
      | 1, hi =>
        cases hi
        refine ⟨.ref h, ?_, rfl, rfl⟩
        rw [List.getElem?_set_self (by unfold L2.start; simp; omega)]
      | i + 2, hi =>
        have z : (List.replicate (N.length - 2) (none : Option En))[i]? = some (some en) := hi
        have := List.mem_of_getElem? z
        rw [List.mem_replicate] at this
        cases this.2
    · match i, q1 with
      | 0, q1 => cases q1
      | 1, q1 => cases q1
      | i + 2, q1 =>
        have z : (List.replicate (N.length - 2) (none : Option En))[i]? = some (some _) := q1
        have := List.mem_of_getElem? z
        rw [List.mem_replicate] at this
        cases this.2
  refine t2 (some h) _ _ _ _ _ _ _ _ st0 (hw h) ⟨fun σ env F1 H1 _ _ q => q.elim, fun v d σ env F1 H1 _ r q => ?_, fun σ env F1 H1 _ _ q => q.elim, fun σ env F1 H1 _ _ q => q.elim, fun x oe σ env F1 H1 _ _ _ q => q.elim⟩
  cases q
  cases r
  exact hQ H1
end Dn
/-! DnP: plain Lean over the readings. -/
namespace Dn
open PySem L2
/-! ### equality, shape -/
@[simp] theorem shp_none : SeqAt.shaped .none = true := rfl
@[simp] theorem shp_bool (b : Bool) : SeqAt.shaped (.bool b) = true := rfl
@[simp] theorem shp_int (i : Int) : SeqAt.shaped (.int i) = true := rfl
@[simp] theorem eqv_nn : PyData.eqv .none .none = true := rfl
@[simp] theorem eqv_bb (a b : Bool) : PyData.eqv (.bool a) (.bool b) = (a == b) := rfl
@[simp] theorem eqv_bi (a : Bool) (j : Int) : PyData.eqv (.bool a) (.int j) = ((if a then 1 else 0) == j) := rfl
@[simp] theorem eqv_ib (i : Int) (b : Bool) : PyData.eqv (.int i) (.bool b) = (i == (if b then 1 else 0)) := rfl
@[simp] theorem eqv_ii (i j : Int) : PyData.eqv (.int i) (.int j) = (i == j) := rfl
@[simp] theorem eqv_ni (j : Int) : PyData.eqv .none (.int j) = false := rfl
@[simp] theorem eqv_in (j : Int) : PyData.eqv (.int j) .none = false := rfl
@[simp] theorem eqv_nb (j : Bool) : PyData.eqv .none (.bool j) = false := rfl
@[simp] theorem eqv_bn (j : Bool) : PyData.eqv (.bool j) .none = false := rfl
@[simp] theorem eqv_tt (a b : List D) : PyData.eqv (.tuple a) (.tuple b) = PyData.eqvAll a b := rfl
@[simp] theorem eqv_ll (a b : List D) : PyData.eqv (.list a) (.list b) = PyData.eqvAll a b := rfl
@[simp] theorem eqvAll_nil : PyData.eqvAll [] [] = true := rfl
@[simp] theorem eqvAll_cons (x y : D) (xs ys : List D) : PyData.eqvAll (x :: xs) (y :: ys) = (PyData.eqv x y && PyData.eqvAll xs ys) := rfl
@[simp] theorem kit_tup (d : D) : kitB (tyD d) "tuple" = some (match d with | .tuple _ => true | _ => false) := by cases d <;> rfl
@[simp] theorem kit_lst (d : D) : kitB (tyD d) "list" = some (match d with | .list _ => true | _ => false) := by cases d <;> rfl
@[simp] theorem kit_int (d : D) : kitB (tyD d) "int" = some (match d with | .int _ => true | .bool _ => true | _ => false) := by cases d <;> rfl
@[simp] theorem kit_bool (d : D) : kitB (tyD d) "bool" = some (match d with | .bool _ => true | _ => false) := by cases d <;> rfl
@[simp] theorem kit_str (d : D) : kitB (tyD d) "str" = some (match d with | .str _ => true | _ => false) := by cases d <;> rfl
@[simp] theorem kit_dict (d : D) : kitB (tyD d) "dict" = some (match d with | .dict _ => true | _ => false) := by cases d <;> rfl
@[simp] theorem isi_tup (d : D) : isi d ["tuple"] = some (match d with | .tuple _ => true | _ => false) := by
  unfold isi; rw [kit_tup]; cases d <;> rfl
@[simp] theorem isi_lst (d : D) : isi d ["list"] = some (match d with | .list _ => true | _ => false) := by
  unfold isi; rw [kit_lst]; cases d <;> rfl
@[simp] theorem isi_int (d : D) : isi d ["int"] = some (match d with | .int _ => true | .bool _ => true | _ => false) := by
  unfold isi; rw [kit_int]; cases d <;> rfl
@[simp] theorem isi_bool (d : D) : isi d ["bool"] = some (match d with | .bool _ => true | _ => false) := by
  unfold isi; rw [kit_bool]; cases d <;> rfl
@[simp] theorem isi_str (d : D) : isi d ["str"] = some (match d with | .str _ => true | _ => false) := by
  unfold isi; rw [kit_str]; cases d <;> rfl
@[simp] theorem isi_dict (d : D) : isi d ["dict"] = some (match d with | .dict _ => true | _ => false) := by
  unfold isi; rw [kit_dict]; cases d <;> rfl
@[simp] theorem isi_tl (d : D) : isi d ["tuple", "list"] = some (match d with | .tuple _ => true | .list _ => true | _ => false) := by
  unfold isi; rw [kit_tup]; cases d <;> first | rfl | exact isi_lst _
/-! ### places -/
theorem atI_nat' {α : Type} (xs : List α) (n : Nat) : atI xs (n : Int) = xs[n]? := by
  unfold atI ixN
  rw [if_pos (Int.natCast_nonneg n)]
  by_cases h : n < xs.length
  · rw [if_pos (by omega)]
    rfl
  · rw [if_neg (by omega)]
    show none = _
    rw [List.getElem?_eq_none (by omega)]
theorem atI_of {α : Type} (xs : List α) (i : Int) (h : 0 ≤ i) : atI xs i = xs[i.toNat]? := by
  have := atI_nat' xs i.toNat
  rwa [Int.toNat_of_nonneg h] at this
@[simp] theorem atI_0 {α : Type} (xs : List α) : atI xs 0 = xs[0]? := atI_nat' xs 0
@[simp] theorem atI_1 {α : Type} (xs : List α) : atI xs 1 = xs[1]? := atI_nat' xs 1
@[simp] theorem atI_2 {α : Type} (xs : List α) : atI xs 2 = xs[2]? := atI_nat' xs 2
@[simp] theorem atI_3 {α : Type} (xs : List α) : atI xs 3 = xs[3]? := atI_nat' xs 3
@[simp] theorem atI_4 {α : Type} (xs : List α) : atI xs 4 = xs[4]? := atI_nat' xs 4
@[simp] theorem bools_map' {α : Type} (f : α → Bool) (xs : List α) : bools (xs.map fun x => .bool (f x)) = some (xs.map f) := by
  have := bools_map (xs.map f)
  rwa [List.map_map] at this
@[simp] theorem ints_map' {α : Type} (f : α → Int) (xs : List α) : intsD (xs.map fun x => .int (f x)) = some (xs.map f) := by
  have := ints_map (xs.map f)
  rwa [List.map_map] at this
/-! ### comprehensions -/
theorem lcW_fm {α : Type} {g : WG} {tt : WT} {te : WE} {env : Env} (f : α → Option D) (h : α → D) : ∀ (xs : List α) (acc : List D) (Q : D → Prop), (∀ x ∈ xs, ∀ (Y : D → Prop) (N : Prop), (match f x with | some y => Y y | none => N) → g (h x) env fun e2 => tt e2 fun b => if b = true then te e2 Y else N) →
    Q (.list (acc ++ xs.filterMap f)) → lcW g tt te env (xs.map h) acc Q
  | [], acc, Q, _, q => by simpa using q
  | x :: xs, acc, Q, hx, q => by
    show g (h x) env _
    refine hx x List.mem_cons_self _ _ ?_
    cases e : f x with
    | none =>
      refine lcW_fm f h xs acc Q (fun y hy => hx y (List.mem_cons_of_mem _ hy)) ?_
      rwa [List.filterMap_cons, e] at q
    | some y =>
      refine lcW_fm f h xs (acc ++ [y]) Q (fun y hy => hx y (List.mem_cons_of_mem _ hy)) ?_
      rw [List.append_assoc]
      rwa [List.filterMap_cons, e] at q
/-- without a test -/
theorem lcW_map {α : Type} {g : WG} {te : WE} {env : Env} (f : α → D) (h : α → D) (xs : List α) (Q : D → Prop) (hx : ∀ x ∈ xs, ∀ Y : D → Prop, Y (f x) → g (h x) env fun e2 => te e2 Y) (q : Q (.list (xs.map f))) : lcW g wYes te env (xs.map h) [] Q := by
  refine lcW_fm (fun x => some (f x)) h xs [] Q (fun x m Y N y => ?_) ?_
  · have := hx x m Y y
    simpa using this
  · have e : xs.filterMap (fun x => some (f x)) = xs.map f := by
      induction xs with
      | nil => rfl
      | cons x r ih => simp
    rw [e]
    exact q
theorem fm_filter {α : Type} (p : α → Bool) (f : α → D) : ∀ xs : List α, xs.filterMap (fun x => if p x = true then some (f x) else none) = (xs.filter p).map f
  | [] => rfl
  | x :: r => by
    rw [List.filterMap_cons, List.filter_cons]
    cases e : p x with
    | true => simp [fm_filter p f r]
    | false => simp [fm_filter p f r]
/-- with a test -/
theorem lcW_filter {α : Type} {g : WG} {tt : WT} {te : WE} {env : Env} (p : α → Bool) (f : α → D) (h : α → D) (xs : List α) (Q : D → Prop) (hx : ∀ x ∈ xs, ∀ (Y : D → Prop) (N : Prop), (p x = true → Y (f x)) → (p x = false → N) → g (h x) env fun e2 => tt e2 fun b => if b = true then te e2 Y else N)
    (q : Q (.list ((xs.filter p).map f))) : lcW g tt te env (xs.map h) [] Q := by
  refine lcW_fm (fun x => if p x = true then some (f x) else none) h xs [] Q (fun x m Y N y => ?_) ?_
  · refine hx x m Y N (fun e => ?_) (fun e => ?_)
    · rw [e] at y
      exact y
    · rw [e] at y
      exact y
  · rw [List.nil_append, fm_filter]
    exact q
/-! ### ints -/
theorem fmodB (a : Int) {b : Int} (h : 0 < b) : 0 ≤ a.fmod b ∧ a.fmod b < b := ⟨Int.fmod_nonneg_of_pos a h, Int.fmod_lt_of_pos a h⟩
theorem cmul_fm (a b c : Int) (h : 0 < b) (h2 : b < 4294967296) : CMul (a.fmod b) c := by
  have := fmodB a h
  exact .inl ⟨by omega, by omega⟩
theorem cmul_r (a b : Int) (h : -4294967296 < b) (h2 : b < 4294967296) : CMul a b := .inr ⟨by omega, by omega⟩
theorem cmul_l (a b : Int) (h : -4294967296 < a) (h2 : a < 4294967296) : CMul a b := .inl ⟨by omega, by omega⟩
theorem ix51 : ixN 5 1 = some 1 := rfl
theorem ix52 : ixN 5 2 = some 2 := rfl
theorem ix53 : ixN 5 3 = some 3 := rfl
theorem ix54 : ixN 5 4 = some 4 := rfl
/-! ### loops: nothing inside is looked into -/
theorem forW_congr {g : WG} {b : WS} {ws : List Nat} {P : Post} {ds es : List D} {env env' : Dn.Env} (h : ds = es) (h2 : env = env') : forW g b ws P ds env = forW g b ws P es env' := by rw [h, h2]
theorem lcW_congr {g : WG} {tt : WT} {te : WE} {env env' : Dn.Env} {ds es acc acc' : List D} {Q : D → Prop} (h2 : env = env') (h : ds = es) (h3 : acc = acc') : lcW g tt te env ds acc Q = lcW g tt te env' es acc' Q := by rw [h, h2, h3]
theorem whileW_congr {c : WT} {b : WS} {ws : List Nat} {P : Post} {n : Nat} {env env' : Dn.Env} (h2 : env = env') : whileW c b ws P n env = whileW c b ws P n env' := by rw [h2]
/-- a loop with a state -/
theorem forW_acc {S : Type} {g : WG} {b : WS} {ws : List Nat} {P : Post} (st : S → Dn.Env) (f : S → D → S) : ∀ (ds : List D) (s : S), (∀ s, ∀ d ∈ ds, ∀ N : Dn.Env → Prop, N (st (f s d)) → g d (st s) fun e2 => b e2 { P with nx := fun e3 => N (wipeE e3 ws), ct := fun e3 => N (wipeE e3 ws), bk := P.nx }) →
    P.nx (st (ds.foldl f s)) → forW g b ws P ds (st s)
  | [], s, _, q => q
  | d :: ds, s, h, q => h s d List.mem_cons_self (fun e => forW g b ws P ds e) (forW_acc st f ds (f s d) (fun s d m => h s d (List.mem_cons_of_mem _ m)) q)
/-- a loop that leaves all as it was -/
theorem forW_same {g : WG} {b : WS} {ws : List Nat} {P : Post} {env : Dn.Env} : ∀ (ds : List D), (∀ d ∈ ds, ∀ N : Dn.Env → Prop, N env → g d env fun e2 => b e2 { P with nx := fun e3 => N (wipeE e3 ws), ct := fun e3 => N (wipeE e3 ws), bk := P.nx }) → P.nx env → forW g b ws P ds env
  | [], _, q => q
  | d :: ds, h, q => h d List.mem_cons_self (fun e => forW g b ws P ds e) (forW_same ds (fun d m => h d (List.mem_cons_of_mem _ m)) q)
/-- a loop that ends the def at the first bad one -/
theorem forW_any {R : Prop} {g : WG} {b : WS} {ws : List Nat} {P : Post} {env : Dn.Env} (bad : D → Bool) : ∀ (ds : List D), (∀ d ∈ ds, ∀ N : Dn.Env → Prop, (bad d = true → R) → (bad d = false → N env) → g d env fun e2 => b e2 { P with nx := fun e3 => N (wipeE e3 ws), ct := fun e3 => N (wipeE e3 ws), bk := P.nx }) →
    (ds.any bad = true → R) → (ds.any bad = false → P.nx env) → forW g b ws P ds env
  | [], _, _, q => q rfl
  | d :: ds, h, r, q => by
    refine h d List.mem_cons_self (fun e => forW g b ws P ds e) (fun e => r (by rw [List.any_cons, e]; rfl)) (fun e => ?_)
    refine forW_any bad ds (fun d m => h d (List.mem_cons_of_mem _ m)) (fun z => r ?_) (fun z => q ?_)
    · rw [List.any_cons, e, z]; rfl
    · rw [List.any_cons, e, z]; rfl
/-- a loop with an invariant -/
theorem forW_inv {g : WG} {b : WS} {ws : List Nat} {P : Post} (I : Dn.Env → Prop) : ∀ (ds : List D) (env : Dn.Env), (∀ env, I env → ∀ d ∈ ds, ∀ N : Dn.Env → Prop, (∀ e, I e → N e) → g d env fun e2 => b e2 { P with nx := fun e3 => N (wipeE e3 ws), ct := fun e3 => N (wipeE e3 ws), bk := P.nx }) →
    I env → (∀ e, I e → P.nx e) → forW g b ws P ds env
  | [], env, _, i, q => q env i
  | d :: ds, env, h, i, q => h env i d List.mem_cons_self (fun e => forW g b ws P ds e) fun e i => forW_inv I ds e (fun env i d m => h env i d (List.mem_cons_of_mem _ m)) i q
/-- a draw -/
theorem draw_cal {a : Addr} {m : Int} {A : D → Prop} {B : Xn → Prop} (h : 0 < m) (h2 : m < 1073741824) (k : ∀ k : Int, 0 ≤ k → k < m → A (.int k)) : cal wDraw [.ob a, .sh (.int m)] A B := ⟨a, m, rfl, ⟨h, h2⟩, k⟩
/-! ### range -/
@[simp] theorem rng0 (n : Nat) : rngD 0 n = (List.range n).map fun k => .int (k : Nat) := by
  unfold rngD
  simp
@[simp] theorem rngN0 (n : Int) : rngD n 0 = [] := rfl
theorem rngD_1 (m : Int) : rngD m 1 = [.int m] := by
  unfold rngD
  simp
theorem rngD_2 (m : Int) : rngD m 2 = [.int m, .int (m + 1)] := by
  unfold rngD
  simp [List.range_succ]
theorem cut_take {α : Type} (xs : List α) (k : Nat) : cutD xs none (some (k : Int)) = xs.take k := by
  unfold cutD
  rw [HT.sIx_none, HT.sIx_nat, List.drop_zero, Nat.sub_zero]
  by_cases h : k ≤ xs.length
  · rw [Nat.min_eq_left h]
  · rw [Nat.min_eq_right (by omega), List.take_of_length_le (Nat.le_refl _), List.take_of_length_le (by omega)]
theorem cut_drop {α : Type} (xs : List α) (k : Nat) : cutD xs (some (k : Int)) none = xs.drop k := by
  unfold cutD
  rw [HT.sIx_none, HT.sIx_nat]
  by_cases h : k ≤ xs.length
  · rw [Nat.min_eq_left h, List.take_of_length_le (by rw [List.length_drop]; exact Nat.le_refl _)]
  · rw [Nat.min_eq_right (by omega), List.drop_eq_nil_of_le (Nat.le_refl _), List.drop_eq_nil_of_le (by omega)]
    simp
theorem cut_drop1 {α : Type} (xs : List α) (k : Nat) : cutD xs (some ((k : Int) + 1)) none = xs.drop (k + 1) := cut_drop xs (k + 1)
theorem splice {α : Type} (g : Nat → α) (x : α) (n i : Nat) (h : i < n) : ((List.range n).map g).take i ++ [x] ++ ((List.range n).map g).drop (i + 1) = (List.range n).map fun k => if k = i then x else g k := by
  apply List.ext_getElem?
  intro k
  by_cases h1 : k < i
  · rw [List.append_assoc, List.getElem?_append_left (by simp; omega)]
    rw [List.getElem?_take, if_pos h1]
    simp [show ¬ k = i by omega, show k < n by omega]
  · by_cases h2 : k = i
    · subst h2
      rw [List.append_assoc, List.getElem?_append_right (by simp; omega)]
      simp [show min k n = k by omega, h]
    · rw [List.getElem?_append_right (by simp; omega)]
      rw [List.getElem?_drop]
      have e : i + 1 + (k - (List.take i (List.map g (List.range n)) ++ [x]).length) = k := by
        simp
        omega
      rw [e]
      by_cases h3 : k < n
      · simp [h2, h3]
      · simp [h3]
/-- a loop over places -/
theorem forW_from {g : WG} {b : WS} {ws : List Nat} {P : Post} (h : Nat → D) (st : Nat → Dn.Env) (n : Nat) (hs : ∀ k, k < n → ∀ N : Dn.Env → Prop, N (st (k + 1)) → g (h k) (st k) fun e2 => b e2 { P with nx := fun e3 => N (wipeE e3 ws), ct := fun e3 => N (wipeE e3 ws), bk := P.nx }) (q : P.nx (st n)) :
    ∀ (m k : Nat), k + m = n → forW g b ws P ((List.range' k m).map h) (st k)
  | 0, k, e => by
    have : k = n := by omega
    subst this
    exact q
  | m + 1, k, e => hs k (by omega) (fun e => forW g b ws P ((List.range' (k + 1) m).map h) e) (forW_from h st n hs q m (k + 1) (by omega))
theorem forW_range {g : WG} {b : WS} {ws : List Nat} {P : Post} {h : Nat → D} (st : Nat → Dn.Env) (n : Nat) (hs : ∀ k, k < n → ∀ N : Dn.Env → Prop, N (st (k + 1)) → g (h k) (st k) fun e2 => b e2 { P with nx := fun e3 => N (wipeE e3 ws), ct := fun e3 => N (wipeE e3 ws), bk := P.nx }) (q : P.nx (st n)) : forW g b ws P ((List.range n).map h) (st 0) := by
  rw [List.range_eq_range']
  exact forW_from h st n hs q n 0 (by omega)
/-- a loop over a list, with what came before -/
theorem forW_pre {α : Type} {g : WG} {b : WS} {ws : List Nat} {P : Post} {h : α → D} (st : List α → Dn.Env) : ∀ (xs pre : List α), (∀ p x r, pre ++ xs = p ++ x :: r → ∀ N : Dn.Env → Prop, N (st (p ++ [x])) → g (h x) (st p) fun e2 => b e2 { P with nx := fun e3 => N (wipeE e3 ws), ct := fun e3 => N (wipeE e3 ws), bk := P.nx }) →
    P.nx (st (pre ++ xs)) → forW g b ws P (xs.map h) (st pre)
  | [], pre, _, q => by rw [List.append_nil] at q; exact q
  | x :: xs, pre, hs, q => hs pre x xs rfl (fun e => forW g b ws P (xs.map h) e) (forW_pre st xs (pre ++ [x]) (fun p y r e => hs p y r (by rw [← e]; simp)) (by simpa using q))
theorem fm_succ {α : Type} (F : Nat → List α) (k : Nat) : (List.range (k + 1)).flatMap F = (List.range k).flatMap F ++ F k := by
  rw [List.range_succ, List.flatMap_append]
  simp
theorem fm_len {α : Type} (F : Nat → List α) (m : Nat) (h : ∀ k, (F k).length ≤ m) (k : Nat) : ((List.range k).flatMap F).length ≤ m * k := by
  induction k with
  | zero => simp
  | succ k ih =>
    rw [fm_succ, List.length_append]
    have := h k
    have : m * (k + 1) = m * k + m := Nat.mul_succ _ _
    omega
theorem enum_range (n : Nat) (g : Nat → D) : enumD ((List.range n).map g) = (List.range n).map fun k => .tuple [.int (k : Nat), g k] := by
  unfold enumD
  apply List.ext_getElem?
  intro k
  by_cases h : k < n
  · simp [h]
  · simp [h]
theorem forW_rangeE {g : WG} {b : WS} {ws : List Nat} {P : Post} {h : Nat → D} {env : Dn.Env} (st : Nat → Dn.Env) (n : Nat) (he : env = st 0) (hs : ∀ k, k < n → ∀ N : Dn.Env → Prop, N (st (k + 1)) → g (h k) (st k) fun e2 => b e2 { P with nx := fun e3 => N (wipeE e3 ws), ct := fun e3 => N (wipeE e3 ws), bk := P.nx }) (q : P.nx (st n)) : forW g b ws P ((List.range n).map h) env := by
  rw [he]
  exact forW_range st n hs q
/-! ### shapes -/
def Shp (k : Nat) (d : D) : Prop := d.canLay0 = true ∧ d.depth ≤ k
theorem shaped_of {k : Nat} {d : D} (h : Shp k d) (hk : k ≤ 64) : SeqAt.shaped d = true := by
  unfold SeqAt.shaped
  rw [h.1, decide_eq_true (by have := h.2; omega)]
  rfl
theorem shp_int' (i : Int) : Shp 1 (.int i) := ⟨rfl, by show PyData.depth _ ≤ 1; simp [PyData.depth]⟩
theorem shp_none' : Shp 1 .none := ⟨rfl, by show PyData.depth _ ≤ 1; simp [PyData.depth]⟩
theorem shp_bool' (b : Bool) : Shp 1 (.bool b) := ⟨rfl, by show PyData.depth _ ≤ 1; simp [PyData.depth]⟩
theorem shp_all {k : Nat} : ∀ {xs : List D}, (∀ x ∈ xs, Shp k x) → PyData.canLayAll0 xs = true ∧ PyData.depthAll xs ≤ k
  | [], _ => ⟨rfl, by simp [PyData.depthAll]⟩
  | x :: r, h => by
    obtain ⟨h1, h2⟩ := shp_all fun y m => h y (List.mem_cons_of_mem _ m)
    obtain ⟨h3, h4⟩ := h x List.mem_cons_self
    refine ⟨by simp [PyData.canLayAll0, h1, h3], ?_⟩
    simp only [PyData.depthAll]
    omega
theorem Shp.list {k : Nat} {xs : List D} (h : ∀ x ∈ xs, Shp k x) : Shp (k + 1) (.list xs) := by
  obtain ⟨h1, h2⟩ := shp_all h
  refine ⟨by simp [PyData.canLay0, h1], ?_⟩
  simp only [PyData.depth]
  omega
theorem Shp.tuple {k : Nat} {xs : List D} (h : ∀ x ∈ xs, Shp k x) : Shp (k + 1) (.tuple xs) := by
  obtain ⟨h1, h2⟩ := shp_all h
  refine ⟨by simp [PyData.canLay0, h1], ?_⟩
  simp only [PyData.depth]
  omega
theorem Shp.mono {k m : Nat} {d : D} (h : Shp k d) (hk : k ≤ m) : Shp m d := ⟨h.1, Nat.le_trans h.2 hk⟩
theorem lcW_mapL {g : WG} {te : WE} {env : Dn.Env} (f : D → D) (xs : List D) (Q : D → Prop) (hx : ∀ x ∈ xs, ∀ Y : D → Prop, Y (f x) → g x env fun e2 => te e2 Y) (q : Q (.list (xs.map f))) : lcW g wYes te env xs [] Q := by
  have z := lcW_map (g := g) (te := te) (env := env) f id xs Q hx q
  rwa [List.map_id] at z
theorem lcW_filterL {g : WG} {tt : WT} {te : WE} {env : Dn.Env} (p : D → Bool) (f : D → D) (xs : List D) (Q : D → Prop) (hx : ∀ x ∈ xs, ∀ (Y : D → Prop) (N : Prop), (p x = true → Y (f x)) → (p x = false → N) → g x env fun e2 => tt e2 fun b => if b = true then te e2 Y else N)
    (q : Q (.list ((xs.filter p).map f))) : lcW g tt te env xs [] Q := by
  have z := lcW_filter (g := g) (tt := tt) (te := te) (env := env) p f id xs Q hx q
  rwa [List.map_id] at z
/-- of depth k at most, no dicts -/
def OkS : Nat → D → Prop
  | 0, _ => False
  | k + 1, d => match d with
    | .tuple xs => ∀ x ∈ xs, OkS k x
    | .list xs => ∀ x ∈ xs, OkS k x
    | .none => True
    | .bool _ => True
    | .int _ => True
    | .str z => SeqAt.shaped (.str z) = true ∧ PyData.eqv (.str z) (.str z) = true
    | _ => False
theorem zipD_self : ∀ xs : List D, zipD xs xs = xs.map fun x => .tuple [x, x]
  | [] => rfl
  | x :: r => congrArg (List.cons (PyData.tuple [x, x])) (zipD_self r)
theorem atI_ex {α : Type} {xs : List α} {k : Int} (k0 : 0 ≤ k) (k1 : k < xs.length) : ∃ x, atI xs k = some x ∧ x ∈ xs := by
  rw [atI_of _ _ k0, List.getElem?_eq_getElem (by omega)]
  exact ⟨_, rfl, List.getElem_mem _⟩
end Dn
/-! DnB: boards: n rows of n cells, each a sign or None. -/
namespace Dn
open PySem L2
def cD : Option Int → D
  | none => .none
  | some i => .int i
abbrev Gr := Nat → Nat → Option Int
/-- a line of n cells -/
def lnD (n : Nat) (l : Nat → Option Int) : List D := (List.range n).map fun c => cD (l c)
def gD (n : Nat) (f : Gr) : D := .tuple ((List.range n).map fun r => .tuple (lnD n (f r)))
@[simp] theorem cD_flat (a : Option Int) : flatD (cD a) = true := by cases a <;> rfl
@[simp] theorem cD_shaped (a : Option Int) : SeqAt.shaped (cD a) = true := by cases a <;> rfl
@[simp] theorem cD_eqv (a b : Option Int) : PyData.eqv (cD a) (cD b) = decide (a = b) := by
  cases a with
  | none => cases b <;> simp [cD]
  | some i =>
    cases b with
    | none => simp [cD]
    | some j =>
      simp [cD]
      by_cases h : i = j <;> simp [h]
@[simp] theorem cD_eqvI (a : Option Int) (i : Int) : PyData.eqv (cD a) (.int i) = decide (a = some i) := cD_eqv a (some i)
@[simp] theorem cD_isN (a : Option Int) : oIsN (cD a) = decide (a = none) := by cases a <;> rfl
@[simp] theorem lnD_length (n : Nat) (l : Nat → Option Int) : (lnD n l).length = n := by simp [lnD]
theorem lnD_flat (n : Nat) (l : Nat → Option Int) : (lnD n l).all flatD = true := by
  simp [lnD, List.all_eq_true]
theorem atI_map {α : Type} (g : Nat → α) (n i : Nat) (h : i < n) : atI ((List.range n).map g) (i : Int) = some (g i) := by
  rw [atI_nat']
  simp [h]
theorem at_ln (n : Nat) (l : Nat → Option Int) (i : Nat) (h : i < n) : atI (lnD n l) (i : Int) = some (cD (l i)) := atI_map _ n i h
/-- one more sign -/
def put3 (f : Gr) (r c : Nat) (s : Int) : Gr := fun i j => if i = r ∧ j = c then some s else f i j
theorem ln_put {n c : Nat} (l : Nat → Option Int) (s : Option Int) (h : c < n) : (lnD n l).take c ++ [cD s] ++ (lnD n l).drop (c + 1) = lnD n fun k => if k = c then s else l k := by
  unfold lnD
  rw [splice _ _ _ _ h]
  apply List.map_congr_left
  intro k _
  by_cases e : k = c <;> simp [e]
theorem g_put {n r c : Nat} (f : Gr) (s : Int) (h : r < n) (h2 : c < n) : PyData.tuple (((List.range n).map fun r => PyData.tuple (lnD n (f r))).take r ++ [PyData.tuple ((lnD n (f r)).take c ++ [PyData.int s] ++ (lnD n (f r)).drop (c + 1))] ++ ((List.range n).map fun r => PyData.tuple (lnD n (f r))).drop (r + 1)) = gD n (put3 f r c s) := by
  rw [show PyData.int s = cD (some s) from rfl, ln_put _ _ h2, splice _ _ _ _ h]
  unfold gD
  congr 1
  apply List.map_congr_left
  intro k _
  by_cases e : k = r
  · rw [if_pos e]
    congr 1
    unfold lnD
    apply List.map_congr_left
    intro j _
    unfold put3
    by_cases e2 : j = c
    · simp [e, e2]
    · simp [e, e2]
  · rw [if_neg e]
    congr 1
    unfold lnD
    apply List.map_congr_left
    intro j _
    unfold put3
    simp [e]
/-! ### what can be put -/
def trD (r c : Nat) (s : Int) : D := .tuple [.int r, .int c, .int s]
/-- the sign s stands neither in row r nor in column c -/
def fits (n : Nat) (f : Gr) (r c : Nat) (s : Nat) : Bool := (List.range n).all fun k => !decide (f r k = some (s : Int)) && !decide (f k c = some (s : Int))
def putsAt (n : Nat) (f : Gr) (r c : Nat) : List D := if f r c = none then ((List.range n).filter fun (s : Nat) => fits n f r c s).map fun (s : Nat) => trD r c (s : Int) else []
def puts (n : Nat) (f : Gr) : List D := (List.range n).flatMap fun r => (List.range n).flatMap fun c => putsAt n f r c
theorem any_ln (n : Nat) (l : Nat → Option Int) (s : Nat) : ((lnD n l).any fun z => PyData.eqv z (.int s)) = (List.range n).any fun k => decide (l k = some (s : Int)) := by
  unfold lnD
  rw [List.any_map]
  congr 1
  funext k
  simp
theorem fits_aux (a b x y : Bool) : (!a && !b && (!x && !y)) = (!(a || x) && !(b || y)) := by cases a <;> cases b <;> cases x <;> cases y <;> rfl
theorem fits_any (n : Nat) (f : Gr) (r c s : Nat) : fits n f r c s = (!((lnD n (f r)).any fun z => PyData.eqv z (.int s)) && !((lnD n fun k => f k c).any fun z => PyData.eqv z (.int s))) := by
  rw [any_ln, any_ln]
  unfold fits
  induction (List.range n) with
  | nil => rfl
  | cons k r ih =>
    rw [List.all_cons, List.any_cons, List.any_cons, ih]
    exact fits_aux _ _ _ _
theorem foldl_app {α : Type} (g : D → List α) : ∀ (ds : List D) (acc : List α), ds.foldl (fun a d => a ++ g d) acc = acc ++ ds.flatMap g
  | [], acc => by simp
  | d :: ds, acc => by
    rw [List.foldl_cons, foldl_app g ds, List.flatMap_cons, List.append_assoc]
theorem flatMap_map' {α β : Type} (h : Nat → β) (g : β → List α) (xs : List Nat) : (xs.map h).flatMap g = xs.flatMap fun k => g (h k) := by
  induction xs with
  | nil => rfl
  | cons x r ih => simp [ih]
theorem len_flatMap {α : Type} (g : Nat → List α) (m : Nat) (hg : ∀ k, (g k).length ≤ m) : ∀ xs : List Nat, (xs.flatMap g).length ≤ m * xs.length
  | [] => by simp
  | x :: r => by
    have ih := len_flatMap g m hg r
    have h := hg x
    rw [List.flatMap_cons, List.length_append, List.length_cons]
    have : m * (r.length + 1) = m * r.length + m := Nat.mul_succ _ _
    omega
theorem putsAt_len (n : Nat) (f : Gr) (r c : Nat) : (putsAt n f r c).length ≤ n := by
  unfold putsAt
  split
  · rw [List.length_map]
    exact Nat.le_trans (List.length_filter_le _ _) (by simp)
  · simp
theorem puts_len (n : Nat) (f : Gr) : (puts n f).length ≤ n * n * n := by
  unfold puts
  have := len_flatMap (fun r => (List.range n).flatMap fun c => putsAt n f r c) (n * n) (fun r => by
    have := len_flatMap (fun c => putsAt n f r c) n (fun c => putsAt_len n f r c) (List.range n)
    rwa [List.length_range] at this) (List.range n)
  rwa [List.length_range] at this
theorem mem_puts {n : Nat} {f : Gr} {d : D} : d ∈ puts n f ↔ ∃ r c s : Nat, r < n ∧ c < n ∧ s < n ∧ f r c = none ∧ fits n f r c s = true ∧ d = trD r c s := by
  unfold puts putsAt
  simp only [List.mem_flatMap, List.mem_range]
  constructor
  · rintro ⟨r, hr, c, hc, h⟩
    split at h
    · rename_i e
      simp only [List.mem_map, List.mem_filter, List.mem_range] at h
      obtain ⟨s, ⟨h1, h2⟩, rfl⟩ := h
      exact ⟨r, c, s, hr, hc, h1, e, h2, rfl⟩
    · cases h
  · rintro ⟨r, c, s, hr, hc, hs, e, h2, rfl⟩
    refine ⟨r, hr, c, hc, ?_⟩
    rw [if_pos e]
    simp only [List.mem_map, List.mem_filter, List.mem_range]
    exact ⟨s, ⟨hs, h2⟩, rfl⟩
theorem fits_iff {n : Nat} {f : Gr} {r c s : Nat} : fits n f r c s = true ↔ (∀ k, k < n → ¬ f r k = some (s : Int)) ∧ ∀ k, k < n → ¬ f k c = some (s : Int) := by
  unfold fits
  simp only [List.all_eq_true, List.mem_range, Bool.and_eq_true, Bool.not_eq_true', decide_eq_false_iff_not]
  exact ⟨fun h => ⟨fun k hk => (h k hk).1, fun k hk => (h k hk).2⟩, fun h k hk => ⟨h.1 k hk, h.2 k hk⟩⟩
theorem ln_all {n : Nat} {l : Nat → Option Int} {p : D → Prop} : (∀ x, x ∈ lnD n l → p x) ↔ ∀ k, k < n → p (cD (l k)) := by
  unfold lnD
  simp only [List.mem_map, List.mem_range]
  exact ⟨fun h k hk => h _ ⟨k, hk, rfl⟩, fun h x ⟨k, hk, e⟩ => e ▸ h k hk⟩
theorem shp_cD (a : Option Int) : Shp 1 (cD a) := by
  cases a with
  | none => exact shp_none'
  | some i => exact shp_int' i
theorem shp_ln (n : Nat) (l : Nat → Option Int) : ∀ x ∈ lnD n l, Shp 1 x := ln_all.mpr fun k _ => shp_cD _
theorem shp_g (n : Nat) (f : Gr) : Shp 3 (gD n f) := by
  refine Shp.tuple fun x hx => ?_
  simp only [List.mem_map, List.mem_range] at hx
  obtain ⟨k, _, rfl⟩ := hx
  exact Shp.tuple (shp_ln _ _)
theorem shp_tr (r c : Nat) (s : Int) : Shp 2 (trD r c s) := by
  refine Shp.tuple fun x hx => ?_
  simp only [List.mem_cons, List.not_mem_nil, or_false] at hx
  rcases hx with rfl | rfl | rfl <;> exact shp_int' _
theorem enum_ln (n : Nat) (l : Nat → Option Int) : enumD (lnD n l) = (List.range n).map fun k => .tuple [.int (k : Nat), cD (l k)] := enum_range n _
/-! ### what is a board -/
def isI : D → Bool
  | .int _ => true
  | _ => false
def wiB (d : D) (lo hi : Int) : Bool := match d with
  | .int i => decide (lo ≤ i) && decide (i ≤ hi)
  | _ => false
def szB (d : D) (lo hi : Int) : Bool := match d with
  | .tuple xs => decide (lo ≤ (xs.length : Int)) && decide ((xs.length : Int) ≤ hi)
  | _ => false
def cellOk (n : Nat) (c : D) : Bool := match c with
  | .none => true
  | .int i => decide (0 ≤ i) && decide (i < n)
  | _ => false
def rowOk (n : Nat) (r : D) : Bool := match r with
  | .tuple cs => cs.length == n && cs.all (cellOk n)
  | _ => false
def InR (n : Nat) (f : Gr) : Prop := ∀ r c s, r < n → c < n → f r c = some s → 0 ≤ s ∧ s < n
def cellOf (c : D) : Option Int := match c with
  | .int i => some i
  | _ => none
theorem cellOf_ok {n : Nat} {c : D} (h : cellOk n c = true) : cD (cellOf c) = c ∧ ∀ s, cellOf c = some s → 0 ≤ s ∧ s < n := by
  cases c with
  | none => exact ⟨rfl, fun s h => nomatch h⟩
  | int i =>
    simp [cellOk] at h
    exact ⟨rfl, fun s e => by cases e; exact h⟩
  | _ => cases h
theorem ext_range {α : Type} {xs : List α} {n : Nat} {g : Nat → α} (hl : xs.length = n) (h : ∀ k x, k < n → xs[k]? = some x → g k = x) : xs = (List.range n).map g := by
  apply List.ext_getElem?
  intro k
  by_cases hk : k < n
  · have : k < xs.length := by omega
    have e : xs[k]? = some xs[k] := List.getElem?_eq_getElem this
    rw [e, ← h k _ hk e]
    simp [hk]
  · rw [List.getElem?_eq_none (by omega), List.getElem?_eq_none (by simp; omega)]
theorem board_of {rows : List D} (h : rows.all (rowOk rows.length) = true) : ∃ f : Gr, PyData.tuple rows = gD rows.length f ∧ InR rows.length f := by
  have hr : ∀ (k : Nat) (x : D), rows[k]? = some x → ∃ cs, x = .tuple cs ∧ cs.length = rows.length ∧ ∀ c ∈ cs, cellOk rows.length c = true := fun k x e => by
    have m := List.all_eq_true.mp h x (List.mem_of_getElem? e)
    cases x with
    | tuple cs =>
      simp [rowOk] at m
      exact ⟨cs, rfl, m.1, m.2⟩
    | _ => cases m
  let f : Gr := fun r c => match rows[r]? with
    | some (.tuple cs) => match cs[c]? with
      | some d => cellOf d
      | none => none
    | _ => none
  refine ⟨f, ?_, ?_⟩
  · unfold gD
    congr 1
    refine ext_range rfl fun k x hk e => ?_
    obtain ⟨cs, rfl, hl, hc⟩ := hr k x e
    congr 1
    symm
    refine ext_range hl fun j y hj ey => ?_
    have ef : f k j = cellOf y := by
      show (match rows[k]? with | some (.tuple cs) => (match cs[j]? with | some d => cellOf d | none => none) | _ => none) = _
      rw [e]
      show (match cs[j]? with | some d => cellOf d | none => none) = _
      rw [ey]
    rw [ef]
    exact (cellOf_ok (hc y (List.mem_of_getElem? ey))).1
  · intro r c s hr' hc' e
    have e1 : (match rows[r]? with | some (.tuple cs) => (match cs[c]? with | some d => cellOf d | none => none) | _ => none) = some s := e
    have l1 : r < rows.length := hr'
    obtain ⟨cs, ec, hl, hc⟩ := hr r _ (List.getElem?_eq_getElem l1)
    rw [List.getElem?_eq_getElem l1, ec] at e1
    have l2 : c < cs.length := by omega
    have e2 : (match cs[c]? with | some d => cellOf d | none => none) = some s := e1
    rw [List.getElem?_eq_getElem l2] at e2
    exact (cellOf_ok (hc _ (List.getElem_mem l2))).2 s e2
/-- no sign twice -/
def lnFree (n : Nat) (l : Nat → Option Int) : Bool := (List.range n).all fun k => decide (l k = none) || (List.range n).all fun j => decide (j = k) || !decide (l j = l k)
def grFree (n : Nat) (f : Gr) : Bool := ((List.range n).all fun r => lnFree n (f r)) && (List.range n).all fun c => lnFree n fun r => f r c
theorem lnFree_iff {n : Nat} {l : Nat → Option Int} : lnFree n l = true ↔ ∀ k j, k < n → j < n → l k ≠ none → l j = l k → j = k := by
  unfold lnFree
  simp only [List.all_eq_true, List.mem_range, Bool.or_eq_true, decide_eq_true_eq, Bool.not_eq_true', decide_eq_false_iff_not]
  constructor
  · intro h k j hk hj hn e
    rcases h k hk with h | h
    · exact absurd h hn
    · rcases h j hj with h | h
      · exact h
      · exact absurd e h
  · intro h k hk
    by_cases hn : l k = none
    · exact .inl hn
    · refine .inr fun j hj => ?_
      by_cases e : l j = l k
      · exact .inl (h k j hk hj hn e)
      · exact .inr e
/-- how often one stands in a line -/
theorem count_le {n : Nat} {p : Nat → Bool} : (List.range n).countP p ≤ 1 ↔ ∀ k j, k < n → j < n → p k = true → p j = true → j = k := by
  induction n with
  | zero => simp
  | succ n ih =>
    rw [List.range_succ, List.countP_append, List.countP_singleton]
    constructor
    · intro h k j hk hj pk pj
      by_cases e : p n = true
      · rw [if_pos e] at h
        have z : (List.range n).countP p = 0 := by omega
        rw [List.countP_eq_zero] at z
        have no : ∀ x, x < n → p x = true → False := fun x hx q => z x (List.mem_range.mpr hx) q
        by_cases h1 : k = n
        · by_cases h2 : j = n
          · omega
          · exact (no j (by omega) pj).elim
        · exact (no k (by omega) pk).elim
      · rw [if_neg e] at h
        have h1 : k ≠ n := fun q => e (q ▸ pk)
        have h2 : j ≠ n := fun q => e (q ▸ pj)
        exact ih.mp (by omega) k j (by omega) (by omega) pk pj
    · intro h
      by_cases e : p n = true
      · rw [if_pos e]
        have z : (List.range n).countP p = 0 := by
          rw [List.countP_eq_zero]
          intro x hx q
          have := h x n (by have := List.mem_range.mp hx; omega) (by omega) q e
          have := List.mem_range.mp hx
          omega
        omega
      · rw [if_neg e]
        have := ih.mpr fun k j hk hj => h k j (by omega) (by omega)
        omega
theorem cnt_ln (n : Nat) (l : Nat → Option Int) (a : Option Int) : (lnD n l).countP (fun z => PyData.eqv z (cD a)) = (List.range n).countP fun k => decide (l k = a) := by
  unfold lnD
  rw [List.countP_map]
  congr 1
  funext k
  simp
theorem pos_cnt {n : Nat} {p : Nat → Bool} {k : Nat} (hk : k < n) (h : p k = true) : 0 < (List.range n).countP p := List.countP_pos_iff.mpr ⟨k, List.mem_range.mpr hk, h⟩
theorem lineB (n : Nat) (l : Nat → Option Int) : (((lnD n l).filter fun d => !oIsN d).all fun x => decide (((lnD n l).filter fun d => !oIsN d).countP (fun z => PyData.eqv z x) = 1)) = lnFree n l := by
  rw [Bool.eq_iff_iff, List.all_eq_true, lnFree_iff]
  have cnt : ∀ s : Int, ((lnD n l).filter fun d => !oIsN d).countP (fun z => PyData.eqv z (cD (some s))) = (List.range n).countP fun k => decide (l k = some s) := fun s => by
    rw [List.countP_filter, ← cnt_ln]
    apply List.countP_congr
    intro x hx
    unfold lnD at hx
    simp only [List.mem_map] at hx
    obtain ⟨k, _, rfl⟩ := hx
    simp only [cD_eqv, cD_isN]
    cases l k with
    | none => simp
    | some i => simp
  constructor
  · intro h k j hk hj hn e
    cases ek : l k with
    | none => exact absurd ek hn
    | some s =>
      have m : cD (some s) ∈ (lnD n l).filter fun d => !oIsN d := by
        rw [List.mem_filter]
        refine ⟨?_, rfl⟩
        unfold lnD
        exact List.mem_map.mpr ⟨k, List.mem_range.mpr hk, by rw [ek]⟩
      have q := of_decide_eq_true (h _ m)
      rw [cnt] at q
      exact count_le.mp (Nat.le_of_eq q) k j hk hj (decide_eq_true ek) (decide_eq_true (e.trans ek))
  · intro h x hx
    rw [List.mem_filter] at hx
    obtain ⟨hx, hn⟩ := hx
    unfold lnD at hx
    simp only [List.mem_map, List.mem_range] at hx
    obtain ⟨k, hk, rfl⟩ := hx
    cases ek : l k with
    | none => rw [ek] at hn; simp [cD] at hn
    | some s =>
      rw [decide_eq_true_eq, cnt]
      have h1 := pos_cnt (p := fun k => decide (l k = some s)) hk (decide_eq_true ek)
      have h2 : (List.range n).countP (fun k => decide (l k = some s)) ≤ 1 := count_le.mpr fun a b ha hb pa pb => by
        have pa := of_decide_eq_true pa
        have pb := of_decide_eq_true pb
        exact h a b ha hb (by rw [pa]; exact fun z => nomatch z) (pb.trans pa.symm)
      omega
/-- the law's way -/
theorem lineL {n : Nat} {l : Nat → Option Int} (hr : ∀ k s, k < n → l k = some s → 0 ≤ s ∧ s < n) : ((List.range n).any fun (s : Nat) => decide (1 < (lnD n l).countP (fun z => PyData.eqv z (.int s)))) = !lnFree n l := by
  have e : ∀ s : Nat, (lnD n l).countP (fun z => PyData.eqv z (.int s)) = (List.range n).countP fun k => decide (l k = some (s : Int)) := fun s => cnt_ln n l (some s)
  rw [Bool.eq_iff_iff, Bool.not_eq_true', ← Bool.not_eq_true, lnFree_iff]
  simp only [List.any_eq_true, List.mem_range, decide_eq_true_eq, e]
  constructor
  · rintro ⟨s, hs, h⟩ q
    have : (List.range n).countP (fun k => decide (l k = some (s : Int))) ≤ 1 := count_le.mpr fun a b ha hb pa pb => by
      have pa := of_decide_eq_true pa
      have pb := of_decide_eq_true pb
      exact q a b ha hb (by rw [pa]; exact fun z => nomatch z) (pb.trans pa.symm)
    omega
  · intro h
    refine Classical.byContradiction fun no => h fun k j hk hj hn e2 => ?_
    cases ek : l k with
    | none => exact absurd ek hn
    | some s =>
      obtain ⟨s0, s1⟩ := hr k s hk ek
      have c : (List.range n).countP (fun k => decide (l k = some ((s.toNat : Nat) : Int))) ≤ 1 := by
        refine Nat.le_of_not_lt fun q => no ⟨s.toNat, by omega, q⟩
      rw [Int.toNat_of_nonneg s0] at c
      exact count_le.mp c k j hk hj (decide_eq_true ek) (decide_eq_true (e2.trans ek))
theorem grFree_iff {n : Nat} {f : Gr} : grFree n f = true ↔ ∀ k, k < n → lnFree n (f k) = true ∧ lnFree n (fun r => f r k) = true := by
  unfold grFree
  simp only [Bool.and_eq_true, List.all_eq_true, List.mem_range]
  exact ⟨fun h k hk => ⟨h.1 k hk, h.2 k hk⟩, fun h => ⟨fun k hk => (h k hk).1, fun k hk => (h k hk).2⟩⟩
/-! ### open cells -/
def opr (n : Nat) (l : Nat → Option Int) : Nat := ((List.range n).filter fun c => decide (l c = none)).length
def opn (n : Nat) (f : Gr) : Nat := ((List.range n).map fun r => opr n (f r)).sum
theorem sum_cast : ∀ (xs : List Nat) (g : Nat → Nat), (xs.map fun r => ((g r : Nat) : Int)).sum = (((xs.map g).sum : Nat) : Int)
  | [], _ => rfl
  | x :: r, g => by
    rw [List.map_cons, List.map_cons, List.sum_cons, List.sum_cons, sum_cast r g]
    omega
theorem opr_le (n : Nat) (l : Nat → Option Int) : opr n l ≤ n := Nat.le_trans (List.length_filter_le _ _) (by simp)
theorem sum_le {g : Nat → Nat} {m : Nat} (h : ∀ k, g k ≤ m) : ∀ xs : List Nat, (xs.map g).sum ≤ m * xs.length
  | [] => by simp
  | x :: r => by
    rw [List.map_cons, List.sum_cons, List.length_cons]
    have := sum_le h r
    have := h x
    have : m * (r.length + 1) = m * r.length + m := Nat.mul_succ _ _
    omega
theorem opn_le (n : Nat) (f : Gr) : opn n f ≤ n * n := by
  have := sum_le (fun r => opr_le n (f r)) (List.range n)
  rwa [List.length_range] at this
/-- a drawn board -/
structure Bd (n : Nat) (f : Gr) : Prop where
  lo : 1 ≤ n
  hi : n ≤ 3
  rng : InR n f
  fre : grFree n f = true
theorem bd_open {n : Nat} (h1 : 1 ≤ n) (h3 : n ≤ 3) : Bd n fun _ _ => none := ⟨h1, h3, fun _ _ _ _ _ e => (nomatch e), grFree_iff.mpr fun _ _ => ⟨lnFree_iff.mpr fun _ _ _ _ h => absurd rfl h, lnFree_iff.mpr fun _ _ _ _ h => absurd rfl h⟩⟩
theorem lnFree_put {n c : Nat} {l : Nat → Option Int} {s : Int} (h : lnFree n l = true) (no : ∀ k, k < n → ¬ l k = some s) : lnFree n (fun k => if k = c then some s else l k) = true := by
  rw [lnFree_iff] at h ⊢
  intro k j hk hj hn e
  by_cases hkc : k = c
  · by_cases hjc : j = c
    · omega
    · simp [hkc, hjc] at e
      exact absurd e (no j hj)
  · by_cases hjc : j = c
    · simp [hkc, hjc] at e
      exact absurd e.symm (no k hk)
    · simp [hkc, hjc] at e hn
      exact h k j hk hj hn e
theorem put3_row (f : Gr) (r c : Nat) (s : Int) (i : Nat) : put3 f r c s i = if i = r then fun k => if k = c then some s else f r k else f i := by
  funext k
  unfold put3
  by_cases h : i = r
  · simp [h]
  · simp [h]
theorem put3_col (f : Gr) (r c : Nat) (s : Int) (j : Nat) : (fun i => put3 f r c s i j) = if j = c then fun k => if k = r then some s else f k c else fun i => f i j := by
  by_cases h : j = c
  · subst h
    rw [if_pos rfl]
    funext i
    unfold put3
    by_cases h2 : i = r <;> simp [h2]
  · rw [if_neg h]
    funext i
    unfold put3
    simp [h]
theorem Bd.put {n : Nat} {f : Gr} {r c s : Nat} (b : Bd n f) (hr : r < n) (hc : c < n) (hs : s < n) (hf : fits n f r c s = true) : Bd n (put3 f r c s) := by
  obtain ⟨f1, f2⟩ := fits_iff.mp hf
  refine ⟨b.lo, b.hi, fun i j t hi hj e => ?_, grFree_iff.mpr fun k hk => ⟨?_, ?_⟩⟩
  · unfold put3 at e
    split at e
    · cases e
      omega
    · exact b.rng i j t hi hj e
  · obtain ⟨g1, _⟩ := grFree_iff.mp b.fre k hk
    rw [put3_row]
    split
    · rename_i e
      subst e
      exact lnFree_put g1 f1
    · exact g1
  · obtain ⟨_, g1⟩ := grFree_iff.mp b.fre k hk
    rw [put3_col]
    split
    · rename_i e
      subst e
      exact lnFree_put g1 f2
    · exact g1
theorem filter_len_lt {p q : Nat → Bool} {c : Nat} : ∀ {xs : List Nat}, (∀ k, q k = true → p k = true) → c ∈ xs → p c = true → q c = false → (xs.filter q).length < (xs.filter p).length := by
  intro xs
  induction xs with
  | nil => intro _ h; cases h
  | cons x r ih =>
    intro h m pc qc
    have le : ∀ ys : List Nat, (ys.filter q).length ≤ (ys.filter p).length := fun ys => by
      induction ys with
      | nil => simp
      | cons y t ih =>
        rw [List.filter_cons, List.filter_cons]
        cases eq : q y with
        | true => rw [h y eq]; simp; exact ih
        | false =>
          cases p y with
          | true => simp; omega
          | false => simpa using ih
    rw [List.filter_cons, List.filter_cons]
    rcases List.mem_cons.mp m with rfl | m
    · rw [pc, qc]
      have := le r
      simp
      omega
    · have := ih h m pc qc
      cases eq : q x with
      | true => rw [h x eq]; simp; exact this
      | false =>
        cases p x with
        | true => simp; omega
        | false => simpa using this
theorem opr_put {n c : Nat} {l : Nat → Option Int} {s : Int} (hc : c < n) (h : l c = none) : opr n (fun k => if k = c then some s else l k) < opr n l := by
  unfold opr
  refine filter_len_lt (c := c) (fun k hk => ?_) (List.mem_range.mpr hc) (decide_eq_true h) (by simp)
  have hk := of_decide_eq_true hk
  dsimp only at hk
  split at hk
  · cases hk
  · exact decide_eq_true hk
theorem sum_lt {g h : Nat → Nat} {r : Nat} : ∀ {xs : List Nat}, (∀ k, g k ≤ h k) → r ∈ xs → g r < h r → (xs.map g).sum < (xs.map h).sum := by
  intro xs
  induction xs with
  | nil => intro _ m; cases m
  | cons x t ih =>
    intro le m lt
    have le2 : (t.map g).sum ≤ (t.map h).sum := by
      clear ih m
      induction t with
      | nil => simp
      | cons y u ih => 
        rw [List.map_cons, List.map_cons, List.sum_cons, List.sum_cons]
        have := le y
        omega
    rw [List.map_cons, List.map_cons, List.sum_cons, List.sum_cons]
    have := le x
    rcases List.mem_cons.mp m with rfl | m
    · omega
    · have := ih le m lt
      omega
theorem opn_put {n r c : Nat} {f : Gr} {s : Int} (hr : r < n) (hc : c < n) (h : f r c = none) : opn n (put3 f r c s) < opn n f := by
  unfold opn
  refine sum_lt (r := r) (fun k => ?_) (List.mem_range.mpr hr) ?_
  · rw [put3_row]
    split
    · rename_i e
      subst e
      exact Nat.le_of_lt (opr_put hc h)
    · exact Nat.le_refl _
  · rw [put3_row, if_pos rfl]
    exact opr_put hc h
/-- the board that stands for all that are stuck -/
def bd2 : Gr := fun r c => if r = c then none else some 0
theorem bd2_ok : Bd 2 bd2 := ⟨by decide, by decide, fun r c s hr hc e => by
  unfold bd2 at e
  split at e
  · cases e
  · cases e
    decide, by decide +kernel⟩
theorem bd2_D : gD 2 bd2 = .tuple [.tuple [.none, .int 0], .tuple [.int 0, .none]] := rfl
theorem bd2_open : opn 2 bd2 = 2 := by decide +kernel
theorem any_puts {n : Nat} {f : Gr} {r c s : Nat} : ((puts n f).any fun z => PyData.eqv z (trD r c s)) = true ↔ trD r c s ∈ puts n f := by
  rw [List.any_eq_true]
  constructor
  · rintro ⟨d, hd, e⟩
    obtain ⟨r', c', s', _, _, _, _, _, rfl⟩ := mem_puts.mp hd
    simp [trD] at e
    obtain ⟨e1, e2, e3⟩ := e
    have e1 : r' = r := by omega
    have e2 : c' = c := by omega
    have e3 : s' = s := by omega
    subst e1 e2 e3
    exact hd
  · intro h
    exact ⟨_, h, by simp [trD]⟩
theorem shp_puts (n : Nat) (f : Gr) : Shp 3 (.list (puts n f)) := Shp.list fun x hx => by
  obtain ⟨r, c, s, _, _, _, _, _, rfl⟩ := mem_puts.mp hx
  exact shp_tr _ _ _
theorem oks_g (n : Nat) (f : Gr) : OkS 3 (gD n f) := by
  intro x hx
  obtain ⟨r, _, rfl⟩ := List.mem_map.mp hx
  intro y hy
  obtain ⟨c, _, rfl⟩ := List.mem_map.mp hy
  cases f r c with
  | none => trivial
  | some i => trivial
theorem oks_puts (n : Nat) (f : Gr) : OkS 3 (.tuple (puts n f)) := by
  intro x hx
  obtain ⟨r, c, s, _, _, _, _, _, rfl⟩ := mem_puts.mp hx
  intro y hy
  simp at hy
  rcases hy with rfl | rfl | rfl <;> trivial
end Dn
/-! Dn11: sorted of alike data; a list of the frame's own is let go ahead of a statement. -/
namespace Dn
open PySem PySem.Spec PyProof.Rows L2
/-- the order that sorted gives -/
def srtD (ds : List D) : List D := ds.mergeSort (PySem.W.dataLe false id)
def rSortD (K : PySem.W.Frag) : List V → Hp → VK → Prop := fun vs H Q => ∃ (a : Addr) (xs : List V) (ds : List D), vs = [V.ref a] ∧ SqL K H a xs ∧ DpAll K H xs ds ∧ PySem.W.AllAlike ds ∧ PySem.W.Sortable ds ∧ (∀ d ∈ ds, d.depth ≤ 60) ∧
  ∀ p, H p = none → Q (.ref p) (upd H p (.lst (((xs.zip ds).mergeSort (PySem.W.dataLe false Prod.snd)).map Prod.fst)))
theorem each_zip : ∀ {xs : List V} {us : List Value} {ds : List D}, Vals xs us → xs.length = ds.length → PySem.W.EachIs (fun (v : Value) (b : V × D) => RelV b.1 v) us (xs.zip ds)
  | _, _, [], .nil, _ => .nil
  | _, _, _ :: _, .nil, h => by cases h
  | _, _, [], .cons _ _, h => by cases h
  | _, _, d :: ds, .cons r t, h => .cons r (each_zip t (Nat.succ.inj h))
theorem each_reads {h : Heap} : ∀ {xs : List V} {us : List Value} {ds : List D} {as : List Addr}, ReadsAll h us ds as → xs.length = ds.length → PySem.W.EachIs (fun (v : Value) (b : V × D) => ∃ as, Reads h v b.2 as) us (xs.zip ds)
  | [], _, _, _, .nil, _ => .nil
  | _ :: _, _, _, _, .nil, h => by cases h
  | [], _, _, _, .cons _ _, h => by cases h
  | x :: xs, _, _, _, .cons r t, h => .cons ⟨_, r⟩ (each_reads t (Nat.succ.inj h))
theorem each_vals : ∀ {out : List Value} {bs : List (V × D)}, PySem.W.EachIs (fun (v : Value) (b : V × D) => RelV b.1 v) out bs → Vals (bs.map Prod.fst) out
  | _, _, .nil => .nil
  | _, _, .cons r t => .cons r (each_vals t)
theorem dpAll_len {K : PySem.W.Frag} {H : Hp} : ∀ {vs : List V} {ds : List D}, DpAll K H vs ds → vs.length = ds.length
  | _, _, .nil => rfl
  | _, _, .cons _ t => congrArg (· + 1) (dpAll_len t)
theorem zip_snd {α β : Type} : ∀ {xs : List α} {ys : List β}, xs.length = ys.length → (xs.zip ys).map Prod.snd = ys
  | [], [], _ => rfl
  | _ :: xs, _ :: ys, h => congrArg (List.cons _) (zip_snd (Nat.succ.inj h))
  | [], _ :: _, h => by cases h
  | _ :: _, [], h => by cases h
section
variable {X : Cx}
theorem cr_sortD (hu : X.A.units + 65 < cLine) : CallR X (.builtin "sorted") (rSortD X.K) := by
  intro pins s σ H vs us Q I r h
  obtain ⟨a, xs, ds, rfl, hs, hd, ha, hk, hdep, q⟩ := h
  obtain ⟨its, rv, hl, hz⟩ := I.list hs
  obtain ⟨u, rfl, ru⟩ := vals1 r
  obtain rfl : u = Value.ref a := ru
  obtain ⟨as, rds⟩ := Dp.readsAll I ds xs its hd rv
  have len := dpAll_len hd
  have ez : (xs.zip ds).map Prod.snd = ds := zip_snd len
  have zl : (xs.zip ds).length = xs.length := by
    rw [List.length_zip]
    omega
  refine PySem.W.sorted_data (β := V × D) (R := fun v b => RelV b.1 v) (enc := Prod.snd) (bs := xs.zip ds) hl.isList (each_zip rv len) (each_reads rds len) (by rw [ez]; exact ha) (by rw [ez]; exact hk) (by rw [zl]; exact hz) (fun b hb => ?_) fun out ho eo => ?_
  · have := hdep b.2 (by rw [← ez]; exact List.mem_map.mpr ⟨b, hb, rfl⟩)
    omega
  · obtain ⟨n, hn⟩ := sortedAll_at s.heap its out.toArray
    refine ⟨.ref (s.heap.objs.size + 1), upd H (s.heap.objs.size + 1) (.lst (((xs.zip ds).mergeSort (PySem.W.dataLe false Prod.snd)).map Prod.fst)), I.laid (t' := s.toks) (fun b o e => sortedAll_old e) (Nat.le_succ _) ⟨?_, out, n, each_vals eo, hn⟩, rfl, q _ (I.hok.fresh (Nat.le_succ _))⟩
    rw [List.length_map, List.length_mergeSort, zl]
    exact hz
end
section
variable {G : Fam}
theorem Rps.zipmem {K : PySem.W.Frag} {F : Hp} : ∀ {vs : List V} {ds : List D}, Rps K F vs ds → ∀ b ∈ vs.zip ds, Rp K F b.1 b.2
  | _, _, .nil, b, hb => by cases hb
  | _, _, .cons r t, b, hb => by
    rcases List.mem_cons.mp hb with rfl | hb
    · exact r
    · exact Rps.zipmem t b hb
theorem Rps.ofpairs {K : PySem.W.Frag} {F : Hp} : ∀ {bs : List (V × D)}, (∀ b ∈ bs, Rp K F b.1 b.2) → Rps K F (bs.map Prod.fst) (bs.map Prod.snd)
  | [], _ => .nil
  | b :: bs, h => .cons (h b List.mem_cons_self) (Rps.ofpairs fun c hc => h c (List.mem_cons_of_mem _ hc))
theorem srtD_zip {vs : List V} {ds : List D} (h : vs.length = ds.length) : ((vs.zip ds).mergeSort (PySem.W.dataLe false Prod.snd)).map Prod.snd = srtD ds := by
  unfold srtD
  rw [List.map_mergeSort (r := PySem.W.dataLe false Prod.snd) (s := PySem.W.dataLe false id) (f := Prod.snd) (l := vs.zip ds) fun a _ b _ => rfl, zip_snd h]
def SortOk (ds : List D) : Prop := PyData.canLayAll0 ds = true ∧ PySem.W.AllAlike ds ∧ PySem.W.Sortable ds ∧ ∀ d ∈ ds, d.depth ≤ 60
/-- sorted(list) -/
def cSorted : CD := fun ds Q => match ds with
  | [.list xs] => SortOk xs ∧ Q (.list (srtD xs))
  | _ => False
@[simp ↓] theorem cSorted_ap ds Q : cSorted ds Q = (match ds with
  | [.list xs] => SortOk xs ∧ Q (.list (srtD xs))
  | _ => False) := Eq.trans rfl rfl
theorem c_sorted (hu : Hu G) : CallD G (.builtin "sorted") cSorted := by
  refine ⟨_, fun i => callR_K (r := rSortD) (G.hK i) (cr_sortD (hu i)), fun W F H vs ds Q R u w r q k => ?_⟩
  unfold cSorted at q
  split at q
  · rename_i xs
    obtain ⟨v, rfl, h⟩ := r.one
    obtain ⟨a, vs, rfl, h1, h2, h3⟩ := h.list u
    obtain ⟨⟨q1, q2, q3, q4⟩, q⟩ := q
    have len := h3.length
    refine ⟨a, vs, xs, rfl, SqL.of h1, Rps.dp u q1 h3, q2, q3, q4, ?_⟩
    have rp : Rps G.K F (((vs.zip xs).mergeSort (PySem.W.dataLe false Prod.snd)).map Prod.fst) (srtD xs) := by
      rw [← srtD_zip len]
      exact Rps.ofpairs fun b hb => h3.zipmem b (List.mem_mergeSort.mp hb)
    refine snd_lst u w rp ?_ q k
    rw [List.length_map, List.length_mergeSort, List.length_zip, len]
    have : vs.length ≤ sizeLine := h2
    omega
  · exact q.elim
/-! ### letting go -/
variable {Wx : WX} {st : Stmt} {w : WS}
/-- ahead of the statement the list at slot j is let go: it stands still from now on -/
def wFrz (j : Nat) (w : WS) : WS := fun env P => match env[j]? with
  | some (some (.ow t ds)) => w (env.set j (some (.sh (.list ds)))) P
  | _ => w env P
@[simp ↓] theorem wFrz_ap (j : Nat) (w : WS) env P : wFrz j w env P = (match env[j]? with
  | some (some (.ow t ds)) => w (env.set j (some (.sh (.list ds)))) P
  | _ => w env P) := Eq.trans rfl rfl
theorem StR.share {K : PySem.W.Frag} {W : Option Addr} {F0 H0 F H : Hp} {σ : L2.St} {env : Dn.Env} {i : Nat} {t : Option Addr} {ds : List D} (s : StR K W F0 H0 F H σ env) (hi : env[i]? = some (some (.ow t ds))) :
    ∃ F', Same F F' ∧ StR K W F0 H0 F' H σ (env.set i (some (.sh (.list ds)))) := by
  obtain ⟨v, e1, a, vs, rfl, _, h0, hf, hw, hh, hl, hr⟩ := s.ent i _ hi
  have s2 := s.letGo hi e1 h0 hf hw hh
  have sm : Same F (upd F a (.lst vs)) := fun b q z => by
    rw [upd_ne (ne_of_none z hf)]
    exact z
  have s3 := s2.setSh (i := i) (v := .ref a) (d := .list ds) (.lst upd_same hl (Rps.mono sm hr))
  refine ⟨_, sm, ?_⟩
  have e2 : σ.set i (some (.ref a)) = σ := by
    apply List.ext_getElem?
    intro k
    by_cases hk : k = i
    · subst hk
      rw [e1, List.getElem?_set_self (List.getElem?_eq_some_iff.mp e1).1]
    · rw [List.getElem?_set_ne (Ne.symm hk)]
  rw [e2, List.set_set] at s3
  exact s3
theorem s_frz (j : Nat) (h : Den G Wx st w) : Den G Wx st (wFrz j w) := by
  obtain ⟨t, h1, h2⟩ := h
  refine ⟨t, h1, fun W F0 H0 F H σ env P T s q c => ?_⟩
  unfold wFrz at q
  split at q
  · rename_i t' ds hi
    obtain ⟨F', sm, s'⟩ := s.share hi
    exact h2 W F0 H0 F' H σ _ P T s' q ⟨fun σ env F1 H1 m => c.nx σ env F1 H1 (sm.trans m), fun v d σ env F1 H1 => c.rt v d σ env F1 H1, fun σ env F1 H1 m => c.bk σ env F1 H1 (sm.trans m), fun σ env F1 H1 m => c.ct σ env F1 H1 (sm.trans m), fun x oe σ env F1 H1 m => c.xe x oe σ env F1 H1 (sm.trans m)⟩
  · exact h2 W F0 H0 F H σ env P T s q c
end
theorem forW_preE {g : WG} {b : WS} {ws : List Nat} {P : Post} {env : Dn.Env} (st : List D → Dn.Env) (xs : List D) (he : env = st []) (hs : ∀ p x r, xs = p ++ x :: r → ∀ N : Dn.Env → Prop, N (st (p ++ [x])) → g x (st p) fun e2 => b e2 { P with nx := fun e3 => N (wipeE e3 ws), ct := fun e3 => N (wipeE e3 ws), bk := P.nx }) (q : P.nx (st xs)) : forW g b ws P xs env := by
  have z := forW_pre (g := g) (b := b) (ws := ws) (P := P) (h := id) st xs [] (fun p x r e => hs p x r (by rw [List.nil_append] at e; exact e)) (by rw [List.nil_append]; exact q)
  rw [List.map_id] at z
  rw [he]
  exact z
end Dn
/-! DnS: all fillings of a board, cell by cell. -/
namespace Dn
open PySem L2
def Full (n : Nat) (g : Gr) : Prop := ∀ i j, i < n → j < n → g i j ≠ none
def Same2 (n : Nat) (g h : Gr) : Prop := ∀ i j, i < n → j < n → g i j = h i j
/-- g has all signs of f -/
def Ext2 (n : Nat) (f g : Gr) : Prop := ∀ i j, i < n → j < n → f i j ≠ none → g i j = f i j
def Diff (n : Nat) (g h : Gr) : Prop := ∃ i j, i < n ∧ j < n ∧ g i j ≠ h i j
theorem gD_congr {n : Nat} {g h : Gr} (e : Same2 n g h) : gD n g = gD n h := by
  unfold gD lnD
  congr 1
  apply List.map_congr_left
  intro r hr
  congr 1
  apply List.map_congr_left
  intro c hc
  rw [e r c (List.mem_range.mp hr) (List.mem_range.mp hc)]
theorem cD_inj {a b : Option Int} (h : cD a = cD b) : a = b := by
  cases a <;> cases b <;> first | rfl | (unfold cD at h; cases h; rfl) | (unfold cD at h; cases h)
theorem gD_inj {n : Nat} {g h : Gr} (e : gD n g = gD n h) : Same2 n g h := by
  intro i j hi hj
  unfold gD at e
  injection e with e
  have e1 : ((List.range n).map fun r => PyData.tuple (lnD n (g r)))[i]? = ((List.range n).map fun r => PyData.tuple (lnD n (h r)))[i]? := by rw [e]
  simp [hi] at e1
  have e2 : (lnD n (g i))[j]? = (lnD n (h i))[j]? := by rw [e1]
  unfold lnD at e2
  simp [hj] at e2
  exact cD_inj e2
theorem diff_ne {n : Nat} {g h : Gr} (d : Diff n g h) : gD n g ≠ gD n h := fun e => by
  obtain ⟨i, j, hi, hj, ne⟩ := d
  exact ne (gD_inj e i j hi hj)
def stepC (n i j : Nat) (g : Gr) : List Gr := if g i j = none then ((List.range n).filter fun (s : Nat) => fits n g i j s).map fun (s : Nat) => put3 g i j (s : Int) else [g]
def cellsL (n : Nat) : List (Nat × Nat) := (List.range n).flatMap fun i => (List.range n).map fun j => (i, j)
def fillS (n : Nat) (bs : List Gr) (ij : Nat × Nat) : List Gr := bs.flatMap (stepC n ij.1 ij.2)
def fillL (n : Nat) (f : Gr) : List Gr := (cellsL n).foldl (fillS n) [f]
/-- what holds while the cells are gone through: those in p are done -/
structure FI (n : Nat) (f : Gr) (p : List (Nat × Nat)) (bs : List Gr) : Prop where
  bd : ∀ h ∈ bs, Bd n h
  done : ∀ h ∈ bs, ∀ ij ∈ p, h ij.1 ij.2 ≠ none
  left : ∀ h ∈ bs, ∀ i j, (i, j) ∉ p → h i j = f i j
  keep : ∀ h ∈ bs, ∀ i j, f i j ≠ none → h i j = f i j
  all : ∀ g, Bd n g → Full n g → Ext2 n f g → ∃ h ∈ bs, ∀ i j, i < n → j < n → ((i, j) ∈ p → h i j = g i j) ∧ ((i, j) ∉ p → h i j = f i j)
  apart : bs.Pairwise (Diff n)
theorem FI.start {n : Nat} {f : Gr} (b : Bd n f) : FI n f [] [f] := by
  refine ⟨fun h m => ?_, fun _ _ _ m => (nomatch m), fun h m _ _ _ => ?_, fun h m _ _ _ => ?_, fun g _ _ _ => ⟨f, List.mem_singleton.mpr rfl, fun i j _ _ => ⟨fun m => (nomatch m), fun _ => rfl⟩⟩, List.pairwise_singleton _ _⟩
  all_goals
    rw [List.mem_singleton] at m
    subst m
  · exact b
  · rfl
  · rfl
theorem put3_same (g : Gr) (a b : Nat) (s : Int) : put3 g a b s a b = some s := by simp [put3]
theorem put3_ne (g : Gr) {a b i j : Nat} (s : Int) (h : ¬ (i = a ∧ j = b)) : put3 g a b s i j = g i j := by simp [put3, h]
theorem step_mem {n a b : Nat} {h x : Gr} (m : x ∈ stepC n a b h) : (h a b ≠ none ∧ x = h) ∨ (h a b = none ∧ ∃ s : Nat, s < n ∧ fits n h a b s = true ∧ x = put3 h a b (s : Int)) := by
  unfold stepC at m
  split at m
  · rename_i e
    simp only [List.mem_map, List.mem_filter, List.mem_range] at m
    obtain ⟨s, ⟨hs, hf⟩, rfl⟩ := m
    exact .inr ⟨e, s, hs, hf, rfl⟩
  · rename_i e
    exact .inl ⟨e, List.mem_singleton.mp m⟩
theorem step_else {n a b i j : Nat} {h x : Gr} (m : x ∈ stepC n a b h) (ne : ¬ (i = a ∧ j = b)) : x i j = h i j := by
  rcases step_mem m with ⟨_, rfl⟩ | ⟨_, s, _, _, rfl⟩
  · rfl
  · exact put3_ne _ _ ne
theorem FI.step {n : Nat} {f : Gr} {p : List (Nat × Nat)} {bs : List Gr} (F : FI n f p bs) {a b : Nat} (ha : a < n) (hb : b < n) (np : (a, b) ∉ p) : FI n f (p ++ [(a, b)]) (fillS n bs (a, b)) := by
  have mem : ∀ x, x ∈ fillS n bs (a, b) ↔ ∃ h ∈ bs, x ∈ stepC n a b h := fun x => List.mem_flatMap
  refine ⟨fun x m => ?_, fun x m ij hij => ?_, fun x m i j hij => ?_, fun x m i j hf => ?_, fun g bg fg eg => ?_, ?_⟩
  · obtain ⟨h, hm, m⟩ := (mem x).mp m
    rcases step_mem m with ⟨_, rfl⟩ | ⟨_, s, hs, hf, rfl⟩
    · exact F.bd _ hm
    · exact (F.bd _ hm).put ha hb hs hf
  · obtain ⟨h, hm, m⟩ := (mem x).mp m
    obtain ⟨i, j⟩ := ij
    by_cases e : i = a ∧ j = b
    · obtain ⟨rfl, rfl⟩ := e
      rcases step_mem m with ⟨h1, rfl⟩ | ⟨_, s, hs, hf, rfl⟩
      · exact h1
      · rw [put3_same]
        exact fun z => nomatch z
    · rw [step_else m e]
      rcases List.mem_append.mp hij with q | q
      · exact F.done h hm _ q
      · rw [List.mem_singleton] at q
        cases q
        exact absurd ⟨rfl, rfl⟩ e
  · obtain ⟨h, hm, m⟩ := (mem x).mp m
    rw [List.mem_append, List.mem_singleton, not_or] at hij
    rw [step_else m (fun e => hij.2 (by rw [e.1, e.2]))]
    exact F.left h hm i j hij.1
  · obtain ⟨h, hm, m⟩ := (mem x).mp m
    by_cases e : i = a ∧ j = b
    · obtain ⟨rfl, rfl⟩ := e
      have e1 := F.left h hm i j np
      rcases step_mem m with ⟨h1, rfl⟩ | ⟨h1, s, hs, _, rfl⟩
      · exact e1
      · exact absurd (e1 ▸ h1) hf
    · rw [step_else m e]
      exact F.keep h hm i j hf
  · obtain ⟨h, hm, hh⟩ := F.all g bg fg eg
    have hab := (hh a b ha hb).2 np
    have fin : ∀ x ∈ stepC n a b h, x a b = g a b → ∃ h ∈ fillS n bs (a, b), ∀ i j, i < n → j < n → ((i, j) ∈ p ++ [(a, b)] → h i j = g i j) ∧ ((i, j) ∉ p ++ [(a, b)] → h i j = f i j) := fun x hx exa => by
      refine ⟨x, (mem x).mpr ⟨h, hm, hx⟩, fun i j hi hj => ⟨fun m => ?_, fun m => ?_⟩⟩
      · by_cases e : i = a ∧ j = b
        · rw [e.1, e.2]
          exact exa
        · rw [step_else hx e]
          rcases List.mem_append.mp m with q | q
          · exact (hh i j hi hj).1 q
          · rw [List.mem_singleton] at q
            cases q
            exact absurd ⟨rfl, rfl⟩ e
      · rw [List.mem_append, List.mem_singleton, not_or] at m
        rw [step_else hx (fun e => m.2 (by rw [e.1, e.2]))]
        exact (hh i j hi hj).2 m.1
    by_cases e : h a b = none
    · cases eg2 : g a b with
      | none => exact absurd eg2 (fg a b ha hb)
      | some s =>
        obtain ⟨s0, s1⟩ := bg.rng a b s ha hb eg2
        obtain ⟨gr, _⟩ := grFree_iff.mp bg.fre a ha
        obtain ⟨_, gc⟩ := grFree_iff.mp bg.fre b hb
        rw [lnFree_iff] at gr gc
        have back : ∀ i j, i < n → j < n → h i j = some s → g i j = some s := fun i j hi hj q => by
          by_cases m : (i, j) ∈ p
          · rw [← (hh i j hi hj).1 m, q]
          · have := (hh i j hi hj).2 m
            rw [eg i j hi hj (by rw [← this, q]; exact fun z => nomatch z), ← this, q]
        refine fin (put3 h a b (s.toNat : Nat)) ?_ ?_
        · unfold stepC
          rw [if_pos e]
          refine List.mem_map.mpr ⟨s.toNat, List.mem_filter.mpr ⟨List.mem_range.mpr (by omega), fits_iff.mpr ⟨fun k hk q => ?_, fun k hk q => ?_⟩⟩, rfl⟩
          · rw [Int.toNat_of_nonneg s0] at q
            have q2 := back a k ha hk q
            have := gr b k hb hk (by rw [eg2]; exact fun z => nomatch z) (q2.trans eg2.symm)
            subst this
            rw [e] at q
            cases q
          · rw [Int.toNat_of_nonneg s0] at q
            have q2 := back k b hk hb q
            have := gc a k ha hk (by rw [eg2]; exact fun z => nomatch z) (q2.trans eg2.symm)
            subst this
            rw [e] at q
            cases q
        · rw [put3_same, eg2, Int.toNat_of_nonneg s0]
    · refine fin h ?_ ?_
      · unfold stepC
        rw [if_neg e]
        exact List.mem_singleton.mpr rfl
      · rw [hab, eg a b ha hb (by rw [← hab]; exact e)]
  · show (bs.flatMap (stepC n a b)).Pairwise (Diff n)
    rw [List.pairwise_flatMap]
    refine ⟨fun h hm => ?_, ?_⟩
    · unfold stepC
      split
      · rw [List.pairwise_map]
        refine List.Pairwise.imp ?_ (List.Pairwise.filter _ List.nodup_range)
        intro s t ne
        refine ⟨a, b, ha, hb, ?_⟩
        rw [put3_same, put3_same]
        intro q
        injection q with q
        omega
      · exact List.pairwise_singleton _ _
    · refine List.Pairwise.imp_of_mem ?_ F.apart
      rintro h h' hm hm' ⟨i, j, hi, hj, ne⟩ x hx y hy
      have e : ¬ (i = a ∧ j = b) := by
        rintro ⟨rfl, rfl⟩
        exact ne ((F.left h hm i j np).trans (F.left h' hm' i j np).symm)
      exact ⟨i, j, hi, hj, by rw [step_else hx e, step_else hy e]; exact ne⟩
theorem cells_mem {n i j : Nat} : (i, j) ∈ cellsL n ↔ i < n ∧ j < n := by
  unfold cellsL
  simp only [List.mem_flatMap, List.mem_range, List.mem_map]
  constructor
  · rintro ⟨a, ha, b, hb, e⟩
    cases e
    exact ⟨ha, hb⟩
  · rintro ⟨ha, hb⟩
    exact ⟨i, ha, j, hb, rfl⟩
theorem cells_nodup (n : Nat) : (cellsL n).Nodup := by
  unfold cellsL
  show List.Pairwise _ _
  rw [List.pairwise_flatMap]
  refine ⟨fun i _ => ?_, ?_⟩
  · rw [List.pairwise_map]
    exact List.Pairwise.imp (fun ne e => ne (by injection e)) List.nodup_range
  · refine List.Pairwise.imp ?_ List.nodup_range
    intro a b ne x hx y hy e
    obtain ⟨_, _, rfl⟩ := List.mem_map.mp hx
    obtain ⟨_, _, rfl⟩ := List.mem_map.mp hy
    injection e with e1 e2
    exact ne e1
theorem FI.go {n : Nat} {f : Gr} : ∀ (xs p : List (Nat × Nat)) (bs : List Gr), FI n f p bs → (∀ ij ∈ xs, ij.1 < n ∧ ij.2 < n) → (p ++ xs).Nodup → FI n f (p ++ xs) (xs.foldl (fillS n) bs)
  | [], p, bs, F, _, _ => by rw [List.append_nil]; exact F
  | (a, b) :: xs, p, bs, F, hx, nd => by
    obtain ⟨h1, h2⟩ := hx (a, b) List.mem_cons_self
    have np : (a, b) ∉ p := fun m => by
      rw [List.nodup_append] at nd
      exact nd.2.2 (a, b) m (a, b) List.mem_cons_self rfl
    have := FI.go xs (p ++ [(a, b)]) _ (F.step h1 h2 np) (fun ij m => hx ij (List.mem_cons_of_mem _ m)) (by rw [List.append_assoc]; exact nd)
    rw [List.append_assoc] at this
    exact this
theorem fill_fi {n : Nat} {f : Gr} (b : Bd n f) : FI n f (cellsL n) (fillL n f) := by
  have := FI.go (cellsL n) [] [f] (FI.start b) (fun ij m => cells_mem.mp m) (by rw [List.nil_append]; exact cells_nodup n)
  rwa [List.nil_append] at this
/-- the fillings -/
structure Fills (n : Nat) (f : Gr) (bs : List Gr) : Prop where
  bd : ∀ h ∈ bs, Bd n h
  full : ∀ h ∈ bs, Full n h
  ext : ∀ h ∈ bs, Ext2 n f h
  all : ∀ g, Bd n g → Full n g → Ext2 n f g → ∃ h ∈ bs, Same2 n h g
  apart : bs.Pairwise (Diff n)
theorem fills {n : Nat} {f : Gr} (b : Bd n f) : Fills n f (fillL n f) := by
  have F := fill_fi b
  refine ⟨F.bd, fun h hm i j hi hj => F.done h hm (i, j) (cells_mem.mpr ⟨hi, hj⟩), fun h hm i j _ _ e => F.keep h hm i j e, fun g bg fg eg => ?_, F.apart⟩
  obtain ⟨h, hm, hh⟩ := F.all g bg fg eg
  exact ⟨h, hm, fun i j hi hj => (hh i j hi hj).1 (cells_mem.mpr ⟨hi, hj⟩)⟩
/-- two lists of all fillings hold the same, each once -/
theorem Fills.perm {n : Nat} {f : Gr} {bs cs : List Gr} (F : Fills n f bs) (G : Fills n f cs) : (bs.map (gD n)).Perm (cs.map (gD n)) := by
  have nd : ∀ {bs : List Gr}, bs.Pairwise (Diff n) → (bs.map (gD n)).Nodup := fun p => by
    show List.Pairwise _ _
    rw [List.pairwise_map]
    exact List.Pairwise.imp (fun d => diff_ne d) p
  have sub : ∀ {bs cs : List Gr}, Fills n f bs → Fills n f cs → ∀ d, d ∈ bs.map (gD n) → d ∈ cs.map (gD n) := fun F G d hd => by
    obtain ⟨h, hm, rfl⟩ := List.mem_map.mp hd
    obtain ⟨k, hk, e⟩ := G.all h (F.bd h hm) (F.full h hm) (F.ext h hm)
    exact List.mem_map.mpr ⟨k, hk, gD_congr e⟩
  exact (List.perm_ext_iff_of_nodup (nd F.apart) (nd G.apart)).mpr fun d => ⟨sub F G d, sub G F d⟩
end Dn
/-! DnS2: the squares row by row. -/
namespace Dn
open PySem L2
def rowD (l : List Nat) : D := .tuple (l.map fun (s : Nat) => .int (s : Int))
def sqD (rows : List (List Nat)) : D := .tuple (rows.map rowD)
def goes (rs : List (List Nat)) (c : Nat) (row : List Nat) (s : Nat) : Bool := !(rs.any fun ab => ab[c]?.getD 0 == s) && !(row.any fun t => t == s)
def belowAt (n : Nat) (rs : List (List Nat)) (c : Nat) (row : List Nat) : List (List Nat) := ((List.range n).filter fun s => goes rs c row s).map fun s => row ++ [s]
def belowK (n : Nat) (rs : List (List Nat)) : Nat → List (List Nat)
  | 0 => [[]]
  | k + 1 => (belowK n rs k).flatMap (belowAt n rs k)
def belowL (n : Nat) (rs : List (List Nat)) : List (List Nat) := belowK n rs n
def squaresK (n : Nat) : Nat → List (List (List Nat))
  | 0 => [[]]
  | k + 1 => (squaresK n k).flatMap fun rows => (belowL n rows).map fun row => rows ++ [row]
def squaresL (n : Nat) : List (List (List Nat)) := squaresK n n
def toGr (rows : List (List Nat)) : Gr := fun r c => match rows[r]? with
  | some row => match row[c]? with
    | some s => some ((s : Nat) : Int)
    | none => none
  | none => none
def shapeB (n : Nat) (rows : List (List Nat)) : Bool := rows.length == n && rows.all fun row => row.length == n && row.all fun s => decide (s < n)
theorem shape_row {n r : Nat} {rows : List (List Nat)} (h : shapeB n rows = true) (hr : r < n) : ∃ row, rows[r]? = some row ∧ row.length = n ∧ ∀ s ∈ row, s < n := by
  unfold shapeB at h
  simp only [Bool.and_eq_true, beq_iff_eq, List.all_eq_true, decide_eq_true_eq] at h
  have hl : r < rows.length := by omega
  exact ⟨rows[r], List.getElem?_eq_getElem hl, (h.2 _ (List.getElem_mem hl)).1, (h.2 _ (List.getElem_mem hl)).2⟩
theorem sqD_g {n : Nat} {rows : List (List Nat)} (h : shapeB n rows = true) : sqD rows = gD n (toGr rows) := by
  unfold sqD gD
  congr 1
  have hl : rows.length = n := by
    unfold shapeB at h
    simp only [Bool.and_eq_true, beq_iff_eq] at h
    exact h.1
  refine ext_range (by rw [List.length_map]; exact hl) fun r x hr e => ?_
  obtain ⟨row, e1, l1, _⟩ := shape_row h hr
  rw [List.getElem?_map, e1] at e
  injection e with e
  subst e
  unfold rowD
  congr 1
  symm
  unfold lnD
  refine ext_range (by rw [List.length_map]; exact l1) fun c y hc ey => ?_
  rw [List.getElem?_map] at ey
  have e2 : row[c]? = some row[c] := List.getElem?_eq_getElem (by omega)
  rw [e2] at ey
  injection ey with ey
  subst ey
  have : toGr rows r c = some ((row[c] : Nat) : Int) := by
    unfold toGr
    rw [e1]
    dsimp only
    rw [e2]
  rw [this]
  rfl
def diffB (n : Nat) (a b : List (List Nat)) : Bool := (List.range n).any fun i => (List.range n).any fun j => !decide (toGr a i j = toGr b i j)
theorem diffB_of {n : Nat} {a b : List (List Nat)} (h : diffB n a b = true) : Diff n (toGr a) (toGr b) := by
  unfold diffB at h
  simp only [List.any_eq_true, List.mem_range, Bool.not_eq_true', decide_eq_false_iff_not] at h
  obtain ⟨i, hi, j, hj, e⟩ := h
  exact ⟨i, j, hi, hj, e⟩
/-- all squares, each once -/
structure AllSq (n : Nat) (L : List (List (List Nat))) : Prop where
  shape : ∀ rows ∈ L, shapeB n rows = true
  free : ∀ rows ∈ L, grFree n (toGr rows) = true
  apart : L.Pairwise fun a b => diffB n a b = true
  all : ∀ g, Bd n g → Full n g → ∃ rows ∈ L, Same2 n (toGr rows) g
theorem toGr_some {n r c : Nat} {rows : List (List Nat)} (h : shapeB n rows = true) (hr : r < n) (hc : c < n) : ∃ s : Nat, toGr rows r c = some (s : Int) ∧ s < n := by
  obtain ⟨row, e1, l1, hs⟩ := shape_row h hr
  have e2 : row[c]? = some row[c] := List.getElem?_eq_getElem (by omega)
  refine ⟨row[c], ?_, hs _ (List.getElem_mem _)⟩
  unfold toGr
  rw [e1]
  dsimp only
  rw [e2]
theorem AllSq.bd {n : Nat} {L : List (List (List Nat))} (S : AllSq n L) (h1 : 1 ≤ n) (h3 : n ≤ 3) : ∀ rows ∈ L, Bd n (toGr rows) ∧ Full n (toGr rows) := fun rows m => by
  have sh := S.shape rows m
  refine ⟨⟨h1, h3, fun r c s hr hc e => ?_, S.free rows m⟩, fun r c hr hc e => ?_⟩
  · obtain ⟨t, et, ht⟩ := toGr_some sh hr hc
    rw [et] at e
    injection e with e
    omega
  · obtain ⟨t, et, ht⟩ := toGr_some sh hr hc
    rw [et] at e
    cases e
theorem entry {n : Nat} {g : Gr} (b : Bd n g) (f : Full n g) {i j : Nat} (hi : i < n) (hj : j < n) : ∃ s : Nat, s < n ∧ g i j = some (s : Int) := by
  cases e : g i j with
  | none => exact absurd e (f i j hi hj)
  | some s =>
    obtain ⟨s0, s1⟩ := b.rng i j s hi hj e
    exact ⟨s.toNat, by omega, by rw [Int.toNat_of_nonneg s0]⟩
theorem ne_row {n : Nat} {g : Gr} (b : Bd n g) {i j k s t : Nat} (hi : i < n) (hj : j < n) (hk : k < n) (ne : j ≠ k) (e1 : g i j = some (s : Int)) (e2 : g i k = some (t : Int)) : t ≠ s := fun e => by
  obtain ⟨h, _⟩ := grFree_iff.mp b.fre i hi
  rw [lnFree_iff] at h
  subst e
  exact ne (h k j hk hj (by rw [e2]; exact fun z => nomatch z) (e1.trans e2.symm))
theorem ne_col {n : Nat} {g : Gr} (b : Bd n g) {i j k s t : Nat} (hi : i < n) (hj : j < n) (hk : k < n) (ne : j ≠ k) (e1 : g j i = some (s : Int)) (e2 : g k i = some (t : Int)) : t ≠ s := fun e => by
  obtain ⟨_, h⟩ := grFree_iff.mp b.fre i hi
  rw [lnFree_iff] at h
  subst e
  exact ne (h k j hk hj (by rw [e2]; exact fun z => nomatch z) (e1.trans e2.symm))
theorem all1 : AllSq 1 (squaresL 1) := by
  refine ⟨by decide +kernel, by decide +kernel, by decide +kernel, fun g b f => ⟨[[0]], by decide +kernel, fun i j hi hj => ?_⟩⟩
  obtain ⟨s, hs, e⟩ := entry b f hi hj
  obtain rfl : i = 0 := by omega
  obtain rfl : j = 0 := by omega
  obtain rfl : s = 0 := by omega
  rw [e]
  rfl
theorem pick {n : Nat} {p q : Nat → Bool} (h : ((List.range n).all fun x => p x || q x) = true) {x : Nat} (hx : x < n) (hp : p x = false) : q x = true := by
  have := List.all_eq_true.mp h x (List.mem_range.mpr hx)
  rw [hp] at this
  exact this
def has (L : List (List (List Nat))) (r : List (List Nat)) : Bool := L.any fun x => x == r
theorem has_mem {L : List (List (List Nat))} {r : List (List Nat)} (h : has L r = true) : r ∈ L := by
  unfold has at h
  obtain ⟨x, hx, e⟩ := List.any_eq_true.mp h
  rw [beq_iff_eq] at e
  exact e ▸ hx
theorem l2B : ((List.range 2).all fun a => false || (List.range 2).all fun b => b == a || (List.range 2).all fun c => c == a || (List.range 2).all fun d => (d == c || d == b) || has (squaresL 2) [[a, b], [c, d]]) = true := by decide +kernel
theorem l2 {a b c d : Nat} (ha : a < 2) (hb : b < 2) (h1 : b ≠ a) (hc : c < 2) (h2 : c ≠ a) (hd : d < 2) (h3 : d ≠ c) (h4 : d ≠ b) : [[a, b], [c, d]] ∈ squaresL 2 :=
  has_mem (pick (pick (pick (pick l2B ha rfl) hb (by simp [h1])) hc (by simp [h2])) hd (by simp [h3, h4]))
theorem all2 : AllSq 2 (squaresL 2) := by
  refine ⟨by decide +kernel, by decide +kernel, by decide +kernel, fun g b f => ?_⟩
  have z : (0 : Nat) < 2 := by decide
  have o : (1 : Nat) < 2 := by decide
  obtain ⟨a, ha, ea⟩ := entry b f z z
  obtain ⟨x, hx, ex⟩ := entry b f z o
  obtain ⟨c, hc, ec⟩ := entry b f o z
  obtain ⟨d, hd, ed⟩ := entry b f o o
  refine ⟨[[a, x], [c, d]], l2 ha hx (ne_row b z z o (by decide) ea ex) hc (ne_col b z z o (by decide) ea ec) hd (ne_row b o z o (by decide) ec ed) (ne_col b o z o (by decide) ex ed), fun i j hi hj => ?_⟩
  match i, j, hi, hj with
  | 0, 0, _, _ => exact ea.symm
  | 0, 1, _, _ => exact ex.symm
  | 1, 0, _, _ => exact ec.symm
  | 1, 1, _, _ => exact ed.symm
theorem l3B : ((List.range 3).all fun a => false || (List.range 3).all fun b => b == a || (List.range 3).all fun c => (c == a || c == b) || (List.range 3).all fun d => d == a || (List.range 3).all fun e => (e == d || e == b) || (List.range 3).all fun f => (f == d || f == e || f == c) ||
    (List.range 3).all fun g => (g == a || g == d) || (List.range 3).all fun h => (h == g || h == b || h == e) || (List.range 3).all fun i => (i == g || i == h || i == c || i == f) || has (squaresL 3) [[a, b, c], [d, e, f], [g, h, i]]) = true := by decide +kernel
theorem l3 {a b c d e f g h i : Nat} (ha : a < 3) (hb : b < 3) (k1 : b ≠ a) (hc : c < 3) (k2 : c ≠ a) (k3 : c ≠ b) (hd : d < 3) (k4 : d ≠ a) (he : e < 3) (k5 : e ≠ d) (k6 : e ≠ b) (hf : f < 3) (k7 : f ≠ d) (k8 : f ≠ e) (k9 : f ≠ c) (hg : g < 3) (m1 : g ≠ a) (m2 : g ≠ d) (hh : h < 3) (m3 : h ≠ g) (m4 : h ≠ b) (m5 : h ≠ e) (hi : i < 3) (m6 : i ≠ g) (m7 : i ≠ h) (m8 : i ≠ c) (m9 : i ≠ f) :
    [[a, b, c], [d, e, f], [g, h, i]] ∈ squaresL 3 :=
  has_mem (pick (pick (pick (pick (pick (pick (pick (pick (pick l3B ha rfl) hb (by simp [k1])) hc (by simp [k2, k3])) hd (by simp [k4])) he (by simp [k5, k6])) hf (by simp [k7, k8, k9])) hg (by simp [m1, m2])) hh (by simp [m3, m4, m5])) hi (by simp [m6, m7, m8, m9]))
theorem all3 : AllSq 3 (squaresL 3) := by
  refine ⟨by decide +kernel, by decide +kernel, by decide +kernel, fun g b f => ?_⟩
  have z : (0 : Nat) < 3 := by decide
  have o : (1 : Nat) < 3 := by decide
  have t : (2 : Nat) < 3 := by decide
  obtain ⟨a1, h1, e1⟩ := entry b f z z
  obtain ⟨a2, h2, e2⟩ := entry b f z o
  obtain ⟨a3, h3, e3⟩ := entry b f z t
  obtain ⟨a4, h4, e4⟩ := entry b f o z
  obtain ⟨a5, h5, e5⟩ := entry b f o o
  obtain ⟨a6, h6, e6⟩ := entry b f o t
  obtain ⟨a7, h7, e7⟩ := entry b f t z
  obtain ⟨a8, h8, e8⟩ := entry b f t o
  obtain ⟨a9, h9, e9⟩ := entry b f t t
  refine ⟨[[a1, a2, a3], [a4, a5, a6], [a7, a8, a9]], l3 h1 h2 (ne_row b z z o (by decide) e1 e2) h3 (ne_row b z z t (by decide) e1 e3) (ne_row b z o t (by decide) e2 e3)
    h4 (ne_col b z z o (by decide) e1 e4) h5 (ne_row b o z o (by decide) e4 e5) (ne_col b o z o (by decide) e2 e5) h6 (ne_row b o z t (by decide) e4 e6) (ne_row b o o t (by decide) e5 e6) (ne_col b t z o (by decide) e3 e6)
    h7 (ne_col b z z t (by decide) e1 e7) (ne_col b z o t (by decide) e4 e7) h8 (ne_row b t z o (by decide) e7 e8) (ne_col b o z t (by decide) e2 e8) (ne_col b o o t (by decide) e5 e8)
    h9 (ne_row b t z t (by decide) e7 e9) (ne_row b t o t (by decide) e8 e9) (ne_col b t z t (by decide) e3 e9) (ne_col b t o t (by decide) e6 e9), fun i j hi hj => ?_⟩
  match i, j, hi, hj with
  | 0, 0, _, _ => exact e1.symm
  | 0, 1, _, _ => exact e2.symm
  | 0, 2, _, _ => exact e3.symm
  | 1, 0, _, _ => exact e4.symm
  | 1, 1, _, _ => exact e5.symm
  | 1, 2, _, _ => exact e6.symm
  | 2, 0, _, _ => exact e7.symm
  | 2, 1, _, _ => exact e8.symm
  | 2, 2, _, _ => exact e9.symm
theorem allSq {n : Nat} (h1 : 1 ≤ n) (h3 : n ≤ 3) : AllSq n (squaresL n) := by
  obtain rfl | rfl | rfl : n = 1 ∨ n = 2 ∨ n = 3 := by omega
  · exact all1
  · exact all2
  · exact all3
/-- what fits a board -/
def consB (n : Nat) (f : Gr) (rows : List (List Nat)) : Bool := (List.range n).all fun r => (List.range n).all fun c => decide (f r c = none) || decide (toGr rows r c = f r c)
theorem consB_iff {n : Nat} {f : Gr} {rows : List (List Nat)} : consB n f rows = true ↔ Ext2 n f (toGr rows) := by
  unfold consB Ext2
  simp only [List.all_eq_true, List.mem_range, Bool.or_eq_true, decide_eq_true_eq]
  constructor
  · intro h i j hi hj ne
    rcases h i hi j hj with q | q
    · exact absurd q ne
    · exact q
  · intro h i hi j hj
    by_cases e : f i j = none
    · exact .inl e
    · exact .inr (h i j hi hj e)
theorem law_fills {n : Nat} {f : Gr} (b : Bd n f) : Fills n f (((squaresL n).filter (consB n f)).map toGr) := by
  have S := allSq b.lo b.hi
  have mem : ∀ h, h ∈ ((squaresL n).filter (consB n f)).map toGr → ∃ rows ∈ squaresL n, consB n f rows = true ∧ toGr rows = h := fun h m => by
    obtain ⟨rows, hm, e⟩ := List.mem_map.mp m
    obtain ⟨h1, h2⟩ := List.mem_filter.mp hm
    exact ⟨rows, h1, h2, e⟩
  refine ⟨fun h m => ?_, fun h m => ?_, fun h m => ?_, fun g bg fg eg => ?_, ?_⟩
  · obtain ⟨rows, h1, _, rfl⟩ := mem h m
    exact (S.bd b.lo b.hi rows h1).1
  · obtain ⟨rows, h1, _, rfl⟩ := mem h m
    exact (S.bd b.lo b.hi rows h1).2
  · obtain ⟨rows, _, h2, rfl⟩ := mem h m
    exact consB_iff.mp h2
  · obtain ⟨rows, hm, e⟩ := S.all g bg fg
    refine ⟨toGr rows, List.mem_map.mpr ⟨rows, List.mem_filter.mpr ⟨hm, consB_iff.mpr fun i j hi hj ne => ?_⟩, rfl⟩, e⟩
    rw [e i j hi hj]
    exact eg i j hi hj ne
  · rw [List.pairwise_map]
    exact List.Pairwise.imp (fun d => diffB_of d) (List.Pairwise.filter _ S.apart)
theorem below_len (n : Nat) (rs : List (List Nat)) (c : Nat) : ∀ row ∈ belowK n rs c, row.length = c := by
  induction c with
  | zero => intro row m; simp [belowK] at m; rw [m]; rfl
  | succ c ih =>
    intro row m
    unfold belowK at m
    obtain ⟨r0, h0, m⟩ := List.mem_flatMap.mp m
    unfold belowAt at m
    obtain ⟨s, _, rfl⟩ := List.mem_map.mp m
    rw [List.length_append, ih r0 h0]
    rfl
theorem fm_le {α β : Type} (g : α → List β) (m : Nat) (hg : ∀ k, (g k).length ≤ m) : ∀ xs : List α, (xs.flatMap g).length ≤ m * xs.length
  | [] => by simp
  | x :: r => by
    have ih := fm_le g m hg r
    have h := hg x
    rw [List.flatMap_cons, List.length_append, List.length_cons]
    have : m * (r.length + 1) = m * r.length + m := Nat.mul_succ _ _
    omega
theorem belowAt_len (n : Nat) (rs : List (List Nat)) (c : Nat) (row : List Nat) : (belowAt n rs c row).length ≤ n := by
  unfold belowAt
  rw [List.length_map]
  exact Nat.le_trans (List.length_filter_le _ _) (by simp)
theorem below_num {n : Nat} (h3 : n ≤ 3) (rs : List (List Nat)) (c : Nat) : (belowK n rs c).length ≤ 3 ^ c := by
  induction c with
  | zero => simp [belowK]
  | succ c ih =>
    unfold belowK
    have := fm_le (belowAt n rs c) 3 (fun row => Nat.le_trans (belowAt_len n rs c row) h3) (belowK n rs c)
    rw [Nat.pow_succ]
    omega
theorem squares_num {n : Nat} (h3 : n ≤ 3) (k : Nat) : (squaresK n k).length ≤ 27 ^ k := by
  induction k with
  | zero => simp [squaresK]
  | succ k ih =>
    unfold squaresK
    have h27 : 3 ^ n ≤ 27 := Nat.pow_le_pow_right (n := 3) (by decide) h3
    have := fm_le (fun rows => (belowL n rows).map fun row => rows ++ [row]) 27 (fun rows => by
      rw [List.length_map]
      exact Nat.le_trans (below_num h3 rows n) h27) (squaresK n k)
    rw [Nat.pow_succ]
    omega
theorem squares_rows (n k : Nat) : ∀ rows ∈ squaresK n k, rows.length = k ∧ ∀ ab ∈ rows, ab.length = n := by
  induction k with
  | zero => intro rows m; simp [squaresK] at m; subst m; exact ⟨rfl, fun _ z => nomatch z⟩
  | succ k ih =>
    intro rows m
    unfold squaresK at m
    obtain ⟨r0, h0, m⟩ := List.mem_flatMap.mp m
    obtain ⟨row, hr, rfl⟩ := List.mem_map.mp m
    refine ⟨by rw [List.length_append, (ih r0 h0).1]; rfl, fun ab hab => ?_⟩
    rcases List.mem_append.mp hab with q | q
    · exact (ih r0 h0).2 ab q
    · rw [List.mem_singleton] at q
      subst q
      exact below_len n r0 n ab hr
theorem rowD_app (row : List Nat) (s : Nat) : rowD (row ++ [s]) = .tuple (row.map (fun (s : Nat) => PyData.int (s : Int)) ++ [.int (s : Int)]) := by
  unfold rowD
  rw [List.map_append]
  rfl
theorem sqD_app (rows : List (List Nat)) (row : List Nat) : sqD (rows ++ [row]) = .tuple (rows.map rowD ++ [rowD row]) := by
  unfold sqD
  rw [List.map_append]
  rfl
theorem goes_any (rs : List (List Nat)) (c : Nat) (row : List Nat) (s : Nat) : goes rs c row s = !((rs.map (fun ab => PyData.int ((ab[c]?.getD 0 : Nat) : Int)) ++ row.map (fun (t : Nat) => PyData.int (t : Int))).any fun z => PyData.eqv z (.int s)) := by
  unfold goes
  rw [List.any_append, List.any_map, List.any_map, Bool.not_or]
  have e : ∀ t : Nat, (t == s) = ((t : Int) == (s : Int)) := fun t => by
    rw [Bool.eq_iff_iff, beq_iff_eq, beq_iff_eq]
    omega
  have e1 : (rs.any fun ab => ab[c]?.getD 0 == s) = rs.any ((fun z => PyData.eqv z (.int s)) ∘ fun ab => PyData.int ((ab[c]?.getD 0 : Nat) : Int)) := congrArg rs.any (funext fun ab => e _)
  have e2 : (row.any fun t => t == s) = row.any ((fun z => PyData.eqv z (.int s)) ∘ fun (t : Nat) => PyData.int (t : Int)) := congrArg row.any (funext fun t => e _)
  rw [e1, e2]
end Dn
/-! printed by gen.py for k81: readings and derivations -/
namespace K81
open PySem PySem.Spec PyProof.Rows L2 Dn
def topS (i : Nat) : Stmt := PySem.Challenge.pw_squarehouse_k81_whole_puts_that_are_safe.main.body.getD i (.Pass ⟨0, 0, 0, 0⟩)
/-! is_integer -/
abbrev s_is_integer : Stmt := topS 1
/-! is_within -/
abbrev s_is_within : Stmt := topS 2
/-! is_sized -/
abbrev s_is_sized : Stmt := topS 3
/-! is_line_free -/
abbrev s_is_line_free : Stmt := topS 9
/-! is_board -/
abbrev s_is_board : Stmt := topS 10
/-! check_board -/
abbrev s_check_board : Stmt := topS 11
/-! puts_of -/
abbrev s_puts_of : Stmt := topS 12
/-! behind -/
abbrev s_behind : Stmt := topS 13
/-! filled_from -/
abbrev s_filled_from : Stmt := topS 14
/-! fillings -/
abbrev s_fillings : Stmt := topS 15
/-! dead_cells -/
abbrev s_dead_cells : Stmt := topS 16
/-! forced_puts -/
abbrev s_forced_puts : Stmt := topS 17
/-! safe_puts -/
abbrev s_safe_puts : Stmt := topS 18
/-! _law_draw -/
abbrev s_law_draw : Stmt := topS 21
/-! _law_some -/
abbrev s_law_some : Stmt := topS 22
/-! _law_rows_below -/
abbrev s_law_rows_below : Stmt := topS 23
/-! _law_squares -/
abbrev s_law_squares : Stmt := topS 24
/-! _law_puts -/
abbrev s_law_puts : Stmt := topS 25
/-! _law_after -/
abbrev s_law_after : Stmt := topS 26
/-! _law_open -/
abbrev s_law_open : Stmt := topS 27
/-! _law_board -/
abbrev s_law_board : Stmt := topS 28
/-! _law_is -/
abbrev s_law_is : Stmt := topS 29
/-! _law_fill -/
abbrev s_law_fill : Stmt := topS 30
/-! law -/
abbrev s_law : Stmt := topS 31
abbrev s_law_hand : Stmt := topS 20
structure Tx (K : PySem.W.Frag) (mg : Str → Option Value) where
  a_is_integer : Addr
  d_is_integer : FuncData
  f_is_integer : Fun K "is_integer" "is_integer" s_is_integer a_is_integer d_is_integer
  n_is_integer : Binds K d_is_integer ["thing"] []
  m_is_integer : mg "is_integer" = some (.ref a_is_integer)
  a_is_within : Addr
  d_is_within : FuncData
  f_is_within : Fun K "is_within" "is_within" s_is_within a_is_within d_is_within
  n_is_within : Binds K d_is_within ["thing", "low", "high"] []
  m_is_within : mg "is_within" = some (.ref a_is_within)
  a_is_sized : Addr
  d_is_sized : FuncData
  f_is_sized : Fun K "is_sized" "is_sized" s_is_sized a_is_sized d_is_sized
  n_is_sized : Binds K d_is_sized ["thing", "low", "high"] []
  m_is_sized : mg "is_sized" = some (.ref a_is_sized)
  a_is_line_free : Addr
  d_is_line_free : FuncData
  f_is_line_free : Fun K "is_line_free" "is_line_free" s_is_line_free a_is_line_free d_is_line_free
  n_is_line_free : Binds K d_is_line_free ["cells"] []
  m_is_line_free : mg "is_line_free" = some (.ref a_is_line_free)
  a_is_board : Addr
  d_is_board : FuncData
  f_is_board : Fun K "is_board" "is_board" s_is_board a_is_board d_is_board
  n_is_board : Binds K d_is_board ["thing"] []
  m_is_board : mg "is_board" = some (.ref a_is_board)
  a_check_board : Addr
  d_check_board : FuncData
  f_check_board : Fun K "check_board" "check_board" s_check_board a_check_board d_check_board
  n_check_board : Binds K d_check_board ["board"] []
  m_check_board : mg "check_board" = some (.ref a_check_board)
  a_puts_of : Addr
  d_puts_of : FuncData
  f_puts_of : Fun K "puts_of" "puts_of" s_puts_of a_puts_of d_puts_of
  n_puts_of : Binds K d_puts_of ["board"] []
  m_puts_of : mg "puts_of" = some (.ref a_puts_of)
  a_behind : Addr
  d_behind : FuncData
  f_behind : Fun K "behind" "behind" s_behind a_behind d_behind
  n_behind : Binds K d_behind ["board", "triple"] []
  m_behind : mg "behind" = some (.ref a_behind)
  a_filled_from : Addr
  d_filled_from : FuncData
  f_filled_from : Fun K "filled_from" "filled_from" s_filled_from a_filled_from d_filled_from
  n_filled_from : Binds K d_filled_from ["board"] []
  m_filled_from : mg "filled_from" = some (.ref a_filled_from)
  a_fillings : Addr
  d_fillings : FuncData
  f_fillings : Fun K "fillings" "fillings" s_fillings a_fillings d_fillings
  n_fillings : Binds K d_fillings ["board"] []
  m_fillings : mg "fillings" = some (.ref a_fillings)
  a_dead_cells : Addr
  d_dead_cells : FuncData
  f_dead_cells : Fun K "dead_cells" "dead_cells" s_dead_cells a_dead_cells d_dead_cells
  n_dead_cells : Binds K d_dead_cells ["board"] []
  m_dead_cells : mg "dead_cells" = some (.ref a_dead_cells)
  a_forced_puts : Addr
  d_forced_puts : FuncData
  f_forced_puts : Fun K "forced_puts" "forced_puts" s_forced_puts a_forced_puts d_forced_puts
  n_forced_puts : Binds K d_forced_puts ["board"] []
  m_forced_puts : mg "forced_puts" = some (.ref a_forced_puts)
  a_safe_puts : Addr
  d_safe_puts : FuncData
  f_safe_puts : Fun K "safe_puts" "safe_puts" s_safe_puts a_safe_puts d_safe_puts
  n_safe_puts : Binds K d_safe_puts ["board"] []
  m_safe_puts : mg "safe_puts" = some (.ref a_safe_puts)
  a_law_hand : Addr
  d_law_hand : FuncData
  f_law_hand : Fun K "_law_hand" "_law_hand" s_law_hand a_law_hand d_law_hand
  n_law_hand : Binds K d_law_hand ["script"] []
  m_law_hand : mg "_law_hand" = some (.ref a_law_hand)
  a_law_draw : Addr
  d_law_draw : FuncData
  f_law_draw : Fun K "_law_draw" "_law_draw" s_law_draw a_law_draw d_law_draw
  n_law_draw : Binds K d_law_draw ["hand", "many"] []
  m_law_draw : mg "_law_draw" = some (.ref a_law_draw)
  a_law_some : Addr
  d_law_some : FuncData
  f_law_some : Fun K "_law_some" "_law_some" s_law_some a_law_some d_law_some
  n_law_some : Binds K d_law_some ["hand", "things"] []
  m_law_some : mg "_law_some" = some (.ref a_law_some)
  a_law_rows_below : Addr
  d_law_rows_below : FuncData
  f_law_rows_below : Fun K "_law_rows_below" "_law_rows_below" s_law_rows_below a_law_rows_below d_law_rows_below
  n_law_rows_below : Binds K d_law_rows_below ["rows", "many"] []
  m_law_rows_below : mg "_law_rows_below" = some (.ref a_law_rows_below)
  a_law_squares : Addr
  d_law_squares : FuncData
  f_law_squares : Fun K "_law_squares" "_law_squares" s_law_squares a_law_squares d_law_squares
  n_law_squares : Binds K d_law_squares ["many"] []
  m_law_squares : mg "_law_squares" = some (.ref a_law_squares)
  a_law_puts : Addr
  d_law_puts : FuncData
  f_law_puts : Fun K "_law_puts" "_law_puts" s_law_puts a_law_puts d_law_puts
  n_law_puts : Binds K d_law_puts ["board"] []
  m_law_puts : mg "_law_puts" = some (.ref a_law_puts)
  a_law_after : Addr
  d_law_after : FuncData
  f_law_after : Fun K "_law_after" "_law_after" s_law_after a_law_after d_law_after
  n_law_after : Binds K d_law_after ["board", "told"] []
  m_law_after : mg "_law_after" = some (.ref a_law_after)
  a_law_open : Addr
  d_law_open : FuncData
  f_law_open : Fun K "_law_open" "_law_open" s_law_open a_law_open d_law_open
  n_law_open : Binds K d_law_open ["board"] []
  m_law_open : mg "_law_open" = some (.ref a_law_open)
  a_law_board : Addr
  d_law_board : FuncData
  f_law_board : Fun K "_law_board" "_law_board" s_law_board a_law_board d_law_board
  n_law_board : Binds K d_law_board ["hand", "most"] []
  m_law_board : mg "_law_board" = some (.ref a_law_board)
  a_law_is : Addr
  d_law_is : FuncData
  f_law_is : Fun K "_law_is" "_law_is" s_law_is a_law_is d_law_is
  n_law_is : Binds K d_law_is ["told", "due"] []
  m_law_is : mg "_law_is" = some (.ref a_law_is)
  a_law_fill : Addr
  d_law_fill : FuncData
  f_law_fill : Fun K "_law_fill" "_law_fill" s_law_fill a_law_fill d_law_fill
  n_law_fill : Binds K d_law_fill ["board", "every"] []
  m_law_fill : mg "_law_fill" = some (.ref a_law_fill)
  a_law : Addr
  d_law : FuncData
  f_law : Fun K "law" "law" s_law a_law d_law
  n_law : Binds K d_law ["script"] []
  m_law : mg "law" = some (.ref a_law)
  b_abs : mg "abs" = none
  b_all : mg "all" = none
  b_any : mg "any" = none
  b_bool : mg "bool" = none
  b_dict : mg "dict" = none
  b_enumerate : mg "enumerate" = none
  b_int : mg "int" = none
  b_isinstance : mg "isinstance" = none
  b_len : mg "len" = none
  b_list : mg "list" = none
  b_range : mg "range" = none
  b_sorted : mg "sorted" = none
  b_str : mg "str" = none
  b_sum : mg "sum" = none
  b_tuple : mg "tuple" = none
  b_zip : mg "zip" = none
  t_MOST_N : Tok
  k_MOST_N : mg "MOST_N" = some (.int 3 t_MOST_N)
  c_NoBoard : Addr
  g_NoBoard : mg "NoBoard" = some (.ref c_NoBoard)
  x_NoBoard : PySem.W.excIn K c_NoBoard [.type "ValueError", .type "Exception", .type "BaseException", .type "object"] "ValueError.__new__" = true
  q_NoBoard : PySem.W.keepIn K (.ref c_NoBoard) = true
  s_NoBoard : PySem.W.subIn K (.ref c_NoBoard) (.type "BaseException") = some true
  t_NoBoard : PySem.W.typeIn K (.ref c_NoBoard) = some (.type "type")
section
variable {P : Program} {w : World} {K : PySem.W.Frag} {mg : Str → Option Value} {base : Heap}
theorem sc_is_integer : FnScope ["thing"] ["thing"] (defScope s_is_integer) := ⟨rfl, rfl, rfl, by decide +kernel, rfl, by decide +kernel, by decide +kernel⟩
def b_is_integer : WS := (wRet (wAndV (wIsi (wV 0) ["int"]) (wNotV (wIsi (wV 0) ["bool"]))))
def w_is_integer : WF := fnW 1 b_is_integer
theorem ok_is_integer (T : Tx K mg) : FnOk P w K mg base CX0 1 T.a_is_integer T.d_is_integer ["thing"] (spW K 1 w_is_integer) :=
  fn_ok (wb := b_is_integer) T.f_is_integer sc_is_integer fun cdv A outer s H E hr => by
    have hu0 := room65 hr
    exact (ss_one (s_ret (e_and (e_isi (hm := fun _ => T.b_isinstance) (hv := boot_isinstance) (hm2 := fun _ => T.b_int) (hv2 := boot_int) (h := (b_of (e_var (i := 0))))) (e_one (e_not (e_isi (hm := fun _ => T.b_isinstance) (hv := boot_isinstance) (hm2 := fun _ => T.b_bool) (hv2 := boot_bool) (h := (b_of (e_var (i := 0))))))))))
theorem sc_is_within : FnScope ["thing", "low", "high"] ["thing", "low", "high"] (defScope s_is_within) := ⟨rfl, rfl, rfl, by decide +kernel, rfl, by decide +kernel, by decide +kernel⟩
def b_is_within : WS := (wRet (wAndV (wCl w_is_integer (wACons (wV 0) wANil)) (wChain dLe dLe (wV 1) (wV 0) (wV 2))))
def w_is_within : WF := fnW 3 b_is_within
theorem ok_is_within (T : Tx K mg) : FnOk P w K mg base CX0 2 T.a_is_within T.d_is_within ["thing", "low", "high"] (spW K 3 w_is_within) :=
  fn_ok (wb := b_is_within) T.f_is_within sc_is_within fun cdv A outer s H E hr => by
    have hu0 := room65 hr
    exact (ss_one (s_ret (e_and (e_call (hF := fun _ => (ok_is_integer T)) (hr := fun _ => hr.mono (by decide)) (hm := fun _ => T.m_is_integer) (hk := fun _ => T.f_is_integer.kp) (hb := fun _ => T.n_is_integer) (hx := fun _ => pass0) (ha := (a_cons (e_var (i := 0)) a_nil)) (hn := rfl)) (e_one (e_chain o_le o_le (b_of (e_var (i := 1))) (b_of (e_var (i := 0))) (b_of (e_var (i := 2))))))))
theorem sc_is_sized : FnScope ["thing", "low", "high"] ["thing", "low", "high"] (defScope s_is_sized) := ⟨rfl, rfl, rfl, by decide +kernel, rfl, by decide +kernel, by decide +kernel⟩
def b_is_sized : WS := (wRet (wAndV (wIsi (wV 0) ["tuple"]) (wChain dLe dLe (wV 1) (wCall cLen (wCons (wV 0) wNil)) (wV 2))))
def w_is_sized : WF := fnW 3 b_is_sized
theorem ok_is_sized (T : Tx K mg) : FnOk P w K mg base CX0 1 T.a_is_sized T.d_is_sized ["thing", "low", "high"] (spW K 3 w_is_sized) :=
  fn_ok (wb := b_is_sized) T.f_is_sized sc_is_sized fun cdv A outer s H E hr => by
    have hu0 := room65 hr
    exact (ss_one (s_ret (e_and (e_isi (hm := fun _ => T.b_isinstance) (hv := boot_isinstance) (hm2 := fun _ => T.b_tuple) (hv2 := boot_tuple) (h := (b_of (e_var (i := 0))))) (e_one (e_chain o_le o_le (b_of (e_var (i := 1))) (b_of (e_callB (ho := c_len) (hm := fun _ => T.b_len) (hv := PySem.boot_len) (ha := (l_cons (b_of (e_var (i := 0))) l_nil)))) (b_of (e_var (i := 2))))))))
theorem sc_is_line_free : FnScope ["cells", "signs", "cell", "sign"] ["cells"] (defScope s_is_line_free) := ⟨rfl, rfl, rfl, by decide +kernel, rfl, by decide +kernel, by decide +kernel⟩
def b_is_line_free : WS := (wSeq (wSet 1 (wLc (wSq (wV 0)) (gN 2) (wTest (wNotN (wV 2))) (wV 2) [2]))
  (wRet (wCall cAll (wCons (wLc (wSq (wV 1)) (gN 3) wYes (wOp dEq (wCount (wV 1) (wV 3)) (wC (.int 1))) [3]) wNil))))
def w_is_line_free : WF := fnW 4 b_is_line_free
theorem ok_is_line_free (T : Tx K mg) : FnOk P w K mg base CX0 1 T.a_is_line_free T.d_is_line_free ["cells"] (spW K 1 w_is_line_free) :=
  fn_ok (wb := b_is_line_free) T.f_is_line_free sc_is_line_free fun cdv A outer s H E hr => by
    have hu0 := room65 hr
    exact (ss_cons (s_set (i := 1) (hN := fun _ => sc_is_line_free.nd) (h := (e_lc (hc := (fun _ => rfl)) (hN := fun _ => sc_is_line_free.nd) (hi := (i_sq (e_var (i := 0)))) (own := [("cell", 2)]) (hg := (g_name (i := 2) (hN := fun _ => sc_is_line_free.nd))) (ht := (ts_one (t_notN (b_of (e_var (i := 2)))))) (he := (e_var (i := 2))))))
  (ss_one (s_ret (e_callB (ho := (c_all (fun _ => rfl))) (hm := fun _ => T.b_all) (hv := boot_all) (ha := (l_cons (b_of (e_lc (hc := (fun _ => rfl)) (hN := fun _ => sc_is_line_free.nd) (hi := (i_sq (e_var (i := 1)))) (own := [("sign", 3)]) (hg := (g_name (i := 3) (hN := fun _ => sc_is_line_free.nd))) (ht := ts_nil) (he := (e_cmp (o_eq (fun _ => hu0)) (b_of (e_count (b_of (e_var (i := 1))) (e_var (i := 3)))) (b_of e_int) (nomark _))))) l_nil))))))
theorem sc_is_board : FnScope ["thing", "n", "columns", "row", "cell", "j", "column"] ["thing"] (defScope s_is_board) := ⟨rfl, rfl, rfl, by decide +kernel, rfl, by decide +kernel, by decide +kernel⟩
def b_is_board : WS := (wSeq (wIfS (wOr (wNot (wTest (wCl w_is_sized (wACons (wV 0) (wACons (wC (.int 1)) (wACons (wC (.int 3)) wANil)))))) (wNot (wTest (wCall cAll (wCons (wLc (wSq (wV 0)) (gN 3) wYes (wCl w_is_sized (wACons (wV 3) (wACons (wCall cLen (wCons (wV 0) wNil)) (wACons (wCall cLen (wCons (wV 0) wNil)) wANil)))) [3]) wNil))))) (wRet (wC (.bool false))) wNext)
  (wSeq (wSet 1 (wCall cLen (wCons (wV 0) wNil)))
  (wSeq (wIfS (wNot (wTest (wCall cAll (wCons (wLc (wSq (wV 0)) (gN 3) wYes (wCall cAll (wCons (wLc (wSq (wV 3)) (gN 4) wYes (wOrV (wIsN (wV 4)) (wCl w_is_within (wACons (wV 4) (wACons (wC (.int 0)) (wACons (wOp dSub (wV 1) (wC (.int 1))) wANil))))) [4]) wNil)) [3]) wNil)))) (wRet (wC (.bool false))) wNext)
  (wSeq (wSet 2 (wLc (wRng1 (wCons (wV 1) wNil)) (gN 5) wYes (wLc (wSq (wV 0)) (gN 3) wYes (wOp dIx (wV 3) (wV 5)) [3]) [5]))
  (wRet (wAndV (wCall cAll (wCons (wLc (wSq (wV 0)) (gN 3) wYes (wCl w_is_line_free (wACons (wV 3) wANil)) [3]) wNil)) (wCall cAll (wCons (wLc (wSq (wV 2)) (gN 6) wYes (wCl w_is_line_free (wACons (wV 6) wANil)) [6]) wNil))))))))
def w_is_board : WF := fnW 7 b_is_board
theorem ok_is_board (T : Tx K mg) : FnOk P w K mg base CX0 3 T.a_is_board T.d_is_board ["thing"] (spW K 1 w_is_board) :=
  fn_ok (wb := b_is_board) T.f_is_board sc_is_board fun cdv A outer s H E hr => by
    have hu0 := room65 hr
    exact (ss_cons (s_if (t_of (tw_or (t_not (t_val (e_call (hF := fun _ => (ok_is_sized T)) (hr := fun _ => hr.mono (by decide)) (hm := fun _ => T.m_is_sized) (hk := fun _ => T.f_is_sized.kp) (hb := fun _ => T.n_is_sized) (hx := fun _ => pass0) (ha := (a_cons (e_var (i := 0)) (a_cons e_int (a_cons (e_globI (hm := fun _ => T.k_MOST_N)) a_nil)))) (hn := rfl)))) (tw_or1 (t_not (t_val (e_callB (ho := (c_all (fun _ => rfl))) (hm := fun _ => T.b_all) (hv := boot_all) (ha := (l_cons (b_of (e_lc (hc := (fun _ => rfl)) (hN := fun _ => sc_is_board.nd) (hi := (i_sq (e_var (i := 0)))) (own := [("row", 3)]) (hg := (g_name (i := 3) (hN := fun _ => sc_is_board.nd))) (ht := ts_nil) (he := (e_call (hF := fun _ => (ok_is_sized T)) (hr := fun _ => hr.mono (by decide)) (hm := fun _ => T.m_is_sized) (hk := fun _ => T.f_is_sized.kp) (hb := fun _ => T.n_is_sized) (hx := fun _ => pass0) (ha := (a_cons (e_var (i := 3)) (a_cons (e_callB (ho := c_len) (hm := fun _ => T.b_len) (hv := PySem.boot_len) (ha := (l_cons (b_of (e_var (i := 0))) l_nil))) (a_cons (e_callB (ho := c_len) (hm := fun _ => T.b_len) (hv := PySem.boot_len) (ha := (l_cons (b_of (e_var (i := 0))) l_nil))) a_nil)))) (hn := rfl))))) l_nil)))))))) (ss_one (s_ret e_bl)) ss_nil)
  (ss_cons (s_set (i := 1) (hN := fun _ => sc_is_board.nd) (h := (e_callB (ho := c_len) (hm := fun _ => T.b_len) (hv := PySem.boot_len) (ha := (l_cons (b_of (e_var (i := 0))) l_nil)))))
  (ss_cons (s_if (t_not (t_val (e_callB (ho := (c_all (fun _ => rfl))) (hm := fun _ => T.b_all) (hv := boot_all) (ha := (l_cons (b_of (e_lc (hc := (fun _ => rfl)) (hN := fun _ => sc_is_board.nd) (hi := (i_sq (e_var (i := 0)))) (own := [("row", 3)]) (hg := (g_name (i := 3) (hN := fun _ => sc_is_board.nd))) (ht := ts_nil) (he := (e_callB (ho := (c_all (fun _ => rfl))) (hm := fun _ => T.b_all) (hv := boot_all) (ha := (l_cons (b_of (e_lc (hc := (fun _ => rfl)) (hN := fun _ => sc_is_board.nd) (hi := (i_sq (e_var (i := 3)))) (own := [("cell", 4)]) (hg := (g_name (i := 4) (hN := fun _ => sc_is_board.nd))) (ht := ts_nil) (he := (e_or (e_isN (b_of (e_var (i := 4)))) (e_one (e_call (hF := fun _ => (ok_is_within T)) (hr := fun _ => hr.mono (by decide)) (hm := fun _ => T.m_is_within) (hk := fun _ => T.f_is_within.kp) (hb := fun _ => T.n_is_within) (hx := fun _ => pass0) (ha := (a_cons (e_var (i := 4)) (a_cons e_int (a_cons (e_op o_sub (b_of (e_var (i := 1))) (b_of e_int)) a_nil)))) (hn := rfl))))))) l_nil)))))) l_nil))))) (ss_one (s_ret e_bl)) ss_nil)
  (ss_cons (s_setLc (i := 2) (hc := (fun _ => rfl)) (hN := fun _ => sc_is_board.nd) (hi := (i_rng1 (hm := fun _ => T.b_range) (ha := (l_cons (b_of (e_var (i := 1))) l_nil)))) (own := [("j", 5)]) (hg := (g_name (i := 5) (hN := fun _ => sc_is_board.nd))) (ht := ts_nil) (he := (e_lc (hc := (fun _ => rfl)) (hN := fun _ => sc_is_board.nd) (hi := (i_sq (e_var (i := 0)))) (own := [("row", 3)]) (hg := (g_name (i := 3) (hN := fun _ => sc_is_board.nd))) (ht := ts_nil) (he := (e_ix (b_of (e_var (i := 3))) (b_of (e_var (i := 5))))))))
  (ss_one (s_ret (e_and (e_callB (ho := (c_all (fun _ => rfl))) (hm := fun _ => T.b_all) (hv := boot_all) (ha := (l_cons (b_of (e_lc (hc := (fun _ => rfl)) (hN := fun _ => sc_is_board.nd) (hi := (i_sq (e_var (i := 0)))) (own := [("row", 3)]) (hg := (g_name (i := 3) (hN := fun _ => sc_is_board.nd))) (ht := ts_nil) (he := (e_call (hF := fun _ => (ok_is_line_free T)) (hr := fun _ => hr.mono (by decide)) (hm := fun _ => T.m_is_line_free) (hk := fun _ => T.f_is_line_free.kp) (hb := fun _ => T.n_is_line_free) (hx := fun _ => pass0) (ha := (a_cons (e_var (i := 3)) a_nil)) (hn := rfl))))) l_nil))) (e_one (e_callB (ho := (c_all (fun _ => rfl))) (hm := fun _ => T.b_all) (hv := boot_all) (ha := (l_cons (b_of (e_lc (hc := (fun _ => rfl)) (hN := fun _ => sc_is_board.nd) (hi := (i_sq (e_var (i := 2)))) (own := [("column", 6)]) (hg := (g_name (i := 6) (hN := fun _ => sc_is_board.nd))) (ht := ts_nil) (he := (e_call (hF := fun _ => (ok_is_line_free T)) (hr := fun _ => hr.mono (by decide)) (hm := fun _ => T.m_is_line_free) (hk := fun _ => T.f_is_line_free.kp) (hb := fun _ => T.n_is_line_free) (hx := fun _ => pass0) (ha := (a_cons (e_var (i := 6)) a_nil)) (hn := rfl))))) l_nil)))))))))))
theorem sc_check_board : FnScope ["board"] ["board"] (defScope s_check_board) := ⟨rfl, rfl, rfl, by decide +kernel, rfl, by decide +kernel, by decide +kernel⟩
def b_check_board (T : Tx K mg) : WS := (wIfS (wNot (wTest (wCl w_is_board (wACons (wV 0) wANil)))) (wRaise T.c_NoBoard) wNext)
def w_check_board (T : Tx K mg) : WF := fnWX 1 (b_check_board T)
theorem ok_check_board (T : Tx K mg) : FnOk P w K mg base (L2.CX P w) 4 T.a_check_board T.d_check_board ["board"] (spW K 1 (w_check_board T)) :=
  fn_okX (wb := b_check_board T) T.f_check_board sc_check_board fun cdv A outer s H E hr => by
    have hu0 := room65 hr
    have tk : Takes (cxOf (L2.CX P w) P w K mg base ["board"] "check_board" (defScope s_check_board) T.a_check_board cdv A outer s H E) (fun cls d _ H' => E cls d H') := takes_of rfl rfl rfl rfl
    exact (ss_one (s_if (t_not (t_val (e_call (hF := fun _ => (ok_is_board T)) (hr := fun _ => hr.mono (by decide)) (hm := fun _ => T.m_is_board) (hk := fun _ => T.f_is_board.kp) (hb := fun _ => T.n_is_board) (hx := fun _ => pass0) (ha := (a_cons (e_var (i := 0)) a_nil)) (hn := rfl)))) (ss_one (s_raise0 (hc := (fun _ => rfl)) (tk := (fun _ => tk)) (F := PySem.F.excBase_ValueError) (q := fun _ => T.x_NoBoard) (gC := fun _ => T.g_NoBoard) (kC := fun _ => T.q_NoBoard) (r := fun _ => raises_own T.s_NoBoard T.t_NoBoard))) ss_nil))
theorem sc_puts_of : FnScope ["board", "found", "i", "row", "j", "cell", "column", "line", "sign"] ["board"] (defScope s_puts_of) := ⟨rfl, rfl, rfl, by decide +kernel, rfl, by decide +kernel, by decide +kernel⟩
def b_puts_of : WS := (wSeq (wSetN 1 (wLstN wANil))
  (wSeq (wFor (wEnum (wV 0)) (gT (gCons (gN 2) (gCons (gN 3) gNil))) (wFor (wEnum (wV 3)) (gT (gCons (gN 4) (gCons (gN 5) gNil))) (wIfS (wTest (wIsN (wV 5))) (wSeq (wSet 6 (wLc (wSq (wV 0)) (gN 7) wYes (wOp dIx (wV 7) (wV 4)) [7]))
  (wExt 1 (wLc (wRng1 (wCons (wCall cLen (wCons (wV 0) wNil)) wNil)) (gN 8) (wAnd (wTest (wOp dNotIn (wV 8) (wV 3))) (wTest (wOp dNotIn (wV 8) (wV 6)))) (wTup (wACons (wV 2) (wACons (wV 4) (wACons (wV 8) wANil)))) [8]))) wNext) [4, 5, 6]) [2, 3, 4, 5, 6])
  (wRetOw 1)))
def w_puts_of : WF := fnW 9 b_puts_of
theorem ok_puts_of (T : Tx K mg) : FnOk P w K mg base CX0 1 T.a_puts_of T.d_puts_of ["board"] (spW K 1 w_puts_of) :=
  fn_ok (wb := b_puts_of) T.f_puts_of sc_puts_of fun cdv A outer s H E hr => by
    have hu0 := room65 hr
    exact (ss_cons (s_setN (i := 1) (hN := fun _ => sc_puts_of.nd) (h := (n_lst a_nil)))
  (ss_cons (s_for [2, 3, 4, 5, 6] (hp := fun _ => PassesOwn.never) (hc := (fun _ => rfl)) (hi := (i_enum (hm := fun _ => T.b_enumerate) (h := (e_var (i := 0))))) (hg := (g_tup 2 (hc := (fun _ => rfl)) (h := (gs_cons (g_name (i := 2) (hN := fun _ => sc_puts_of.nd)) (gs_cons (g_name (i := 3) (hN := fun _ => sc_puts_of.nd)) gs_nil))) (hn := fun _ => rfl) (hl := (gCons_len (gCons_len gNil_len))))) (hb := (ss_one (s_for [4, 5, 6] (hp := fun _ => PassesOwn.never) (hc := (fun _ => rfl)) (hi := (i_enum (hm := fun _ => T.b_enumerate) (h := (e_var (i := 3))))) (hg := (g_tup 2 (hc := (fun _ => rfl)) (h := (gs_cons (g_name (i := 4) (hN := fun _ => sc_puts_of.nd)) (gs_cons (g_name (i := 5) (hN := fun _ => sc_puts_of.nd)) gs_nil))) (hn := fun _ => rfl) (hl := (gCons_len (gCons_len gNil_len))))) (hb := (ss_one (s_if (t_isN (b_of (e_var (i := 5)))) (ss_cons (s_set (i := 6) (hN := fun _ => sc_puts_of.nd) (h := (e_lc (hc := (fun _ => rfl)) (hN := fun _ => sc_puts_of.nd) (hi := (i_sq (e_var (i := 0)))) (own := [("line", 7)]) (hg := (g_name (i := 7) (hN := fun _ => sc_puts_of.nd))) (ht := ts_nil) (he := (e_ix (b_of (e_var (i := 7))) (b_of (e_var (i := 4))))))))
  (ss_one (s_ext (i := 1) (h := (b_of (e_lc (hc := (fun _ => rfl)) (hN := fun _ => sc_puts_of.nd) (hi := (i_rng1 (hm := fun _ => T.b_range) (ha := (l_cons (b_of (e_callB (ho := c_len) (hm := fun _ => T.b_len) (hv := PySem.boot_len) (ha := (l_cons (b_of (e_var (i := 0))) l_nil)))) l_nil)))) (own := [("sign", 8)]) (hg := (g_name (i := 8) (hN := fun _ => sc_puts_of.nd))) (ht := (ts_one (t_of (tw_and (t_cmp (o_notIn (fun _ => hu0)) (b_of (e_var (i := 8))) (b_of (e_var (i := 3))) rfl) (tw_and1 (t_cmp (o_notIn (fun _ => hu0)) (b_of (e_var (i := 8))) (b_of (e_var (i := 6))) rfl)))))) (he := (e_tup (a_cons (e_var (i := 2)) (a_cons (e_var (i := 4)) (a_cons (e_var (i := 8)) a_nil))))))))))) ss_nil)))))))
  (ss_one (s_retOw (j := 1)))))
theorem sc_behind : FnScope ["board", "triple", "i", "j", "sign"] ["board", "triple"] (defScope s_behind) := ⟨rfl, rfl, rfl, by decide +kernel, rfl, by decide +kernel, by decide +kernel⟩
def b_behind : WS := (wSeq (wAsgG (wV 1) (gT (gCons (gN 2) (gCons (gN 3) (gCons (gN 4) gNil)))))
  (wRet (wOp dAdd (wOp dAdd (wSl (wV 0) wNoP (wSomeP (wV 2))) (wTup (wACons (wOp dAdd (wOp dAdd (wSl (wOp dIx (wV 0) (wV 2)) wNoP (wSomeP (wV 3))) (wTup (wACons (wV 4) wANil))) (wSl (wOp dIx (wV 0) (wV 2)) (wSomeP (wOp dAdd (wV 3) (wC (.int 1)))) wNoP)) wANil))) (wSl (wV 0) (wSomeP (wOp dAdd (wV 2) (wC (.int 1)))) wNoP))))
def w_behind : WF := fnW 5 b_behind
theorem ok_behind (T : Tx K mg) : FnOk P w K mg base CX0 1 T.a_behind T.d_behind ["board", "triple"] (spW K 2 w_behind) :=
  fn_ok (wb := b_behind) T.f_behind sc_behind fun cdv A outer s H E hr => by
    have hu0 := room65 hr
    exact (ss_cons (s_asg (e_var (i := 1)) (g_tup 3 (hc := (fun _ => rfl)) (h := (gs_cons (g_name (i := 2) (hN := fun _ => sc_behind.nd)) (gs_cons (g_name (i := 3) (hN := fun _ => sc_behind.nd)) (gs_cons (g_name (i := 4) (hN := fun _ => sc_behind.nd)) gs_nil)))) (hn := fun _ => rfl) (hl := (gCons_len (gCons_len (gCons_len gNil_len))))))
  (ss_one (s_ret (e_op o_add (b_of (e_op o_add (b_of (e_sl (b_of (e_var (i := 0))) p_none (p_some (e_var (i := 2))))) (b_of (e_tup (a_cons (e_op o_add (b_of (e_op o_add (b_of (e_sl (b_of (e_ix (b_of (e_var (i := 0))) (b_of (e_var (i := 2))))) p_none (p_some (e_var (i := 3))))) (b_of (e_tup (a_cons (e_var (i := 4)) a_nil))))) (b_of (e_sl (b_of (e_ix (b_of (e_var (i := 0))) (b_of (e_var (i := 2))))) (p_some (e_op o_add (b_of (e_var (i := 3))) (b_of e_int))) p_none))) a_nil))))) (b_of (e_sl (b_of (e_var (i := 0))) (p_some (e_op o_add (b_of (e_var (i := 2))) (b_of e_int))) p_none))))))
theorem sc_filled_from : FnScope ["board", "boards", "i", "j", "longer", "here", "triple"] ["board"] (defScope s_filled_from) := ⟨rfl, rfl, rfl, by decide +kernel, rfl, by decide +kernel, by decide +kernel⟩
def b_filled_from : WS := (wSeq (wSet 1 (wLst (wACons (wV 0) wANil)))
  (wSeq (wFor (wRng1 (wCons (wCall cLen (wCons (wV 0) wNil)) wNil)) (gN 2) (wFor (wRng1 (wCons (wCall cLen (wCons (wV 0) wNil)) wNil)) (gN 3) (wSeq (wSetN 4 (wLstN wANil))
  (wSeq (wFor (wSq (wV 1)) (gN 5) (wIfS (wTest (wNotN (wOp dIx (wOp dIx (wV 5) (wV 2)) (wV 3)))) (wApp 4 (wV 5)) (wExt 4 (wLc (wSq (wCl w_puts_of (wACons (wV 5) wANil))) (gN 6) (wTest (wOp dEq (wSl (wV 6) wNoP (wSomeP (wC (.int 2)))) (wTup (wACons (wV 2) (wACons (wV 3) wANil))))) (wCl w_behind (wACons (wV 5) (wACons (wV 6) wANil))) [6]))) [5])
  (wFrz 4 (wSet 1 (wV 4))))) [3, 4, 5]) [2, 3, 4, 5])
  (wRet (wCall cSorted (wCons (wV 1) wNil)))))
def w_filled_from : WF := fnW 7 b_filled_from
theorem ok_filled_from (T : Tx K mg) : FnOk P w K mg base CX0 2 T.a_filled_from T.d_filled_from ["board"] (spW K 1 w_filled_from) :=
  fn_ok (wb := b_filled_from) T.f_filled_from sc_filled_from fun cdv A outer s H E hr => by
    have hu0 := room65 hr
    exact (ss_cons (s_set (i := 1) (hN := fun _ => sc_filled_from.nd) (h := (e_lst (a_cons (e_var (i := 0)) a_nil))))
  (ss_cons (s_for [2, 3, 4, 5] (hp := fun _ => PassesOwn.never) (hc := (fun _ => rfl)) (hi := (i_rng1 (hm := fun _ => T.b_range) (ha := (l_cons (b_of (e_callB (ho := c_len) (hm := fun _ => T.b_len) (hv := PySem.boot_len) (ha := (l_cons (b_of (e_var (i := 0))) l_nil)))) l_nil)))) (hg := (g_name (i := 2) (hN := fun _ => sc_filled_from.nd))) (hb := (ss_one (s_for [3, 4, 5] (hp := fun _ => PassesOwn.never) (hc := (fun _ => rfl)) (hi := (i_rng1 (hm := fun _ => T.b_range) (ha := (l_cons (b_of (e_callB (ho := c_len) (hm := fun _ => T.b_len) (hv := PySem.boot_len) (ha := (l_cons (b_of (e_var (i := 0))) l_nil)))) l_nil)))) (hg := (g_name (i := 3) (hN := fun _ => sc_filled_from.nd))) (hb := (ss_cons (s_setN (i := 4) (hN := fun _ => sc_filled_from.nd) (h := (n_lst a_nil)))
  (ss_cons (s_for [5] (hp := fun _ => PassesOwn.never) (hc := (fun _ => rfl)) (hi := (i_sq (e_var (i := 1)))) (hg := (g_name (i := 5) (hN := fun _ => sc_filled_from.nd))) (hb := (ss_one (s_if (t_notN (b_of (e_ix (b_of (e_ix (b_of (e_var (i := 5))) (b_of (e_var (i := 2))))) (b_of (e_var (i := 3)))))) (ss_one (s_app (i := 4) (h := (e_var (i := 5))))) (ss_one (s_ext (i := 4) (h := (b_of (e_lc (hc := (fun _ => rfl)) (hN := fun _ => sc_filled_from.nd) (hi := (i_sq (e_call (hF := fun _ => (ok_puts_of T)) (hr := fun _ => hr.mono (by decide)) (hm := fun _ => T.m_puts_of) (hk := fun _ => T.f_puts_of.kp) (hb := fun _ => T.n_puts_of) (hx := fun _ => pass0) (ha := (a_cons (e_var (i := 5)) a_nil)) (hn := rfl)))) (own := [("triple", 6)]) (hg := (g_name (i := 6) (hN := fun _ => sc_filled_from.nd))) (ht := (ts_one (t_cmp (o_eq (fun _ => hu0)) (b_of (e_sl (b_of (e_var (i := 6))) p_none (p_some e_int))) (b_of (e_tup (a_cons (e_var (i := 2)) (a_cons (e_var (i := 3)) a_nil)))) (nomark _)))) (he := (e_call (hF := fun _ => (ok_behind T)) (hr := fun _ => hr.mono (by decide)) (hm := fun _ => T.m_behind) (hk := fun _ => T.f_behind.kp) (hb := fun _ => T.n_behind) (hx := fun _ => pass0) (ha := (a_cons (e_var (i := 5)) (a_cons (e_var (i := 6)) a_nil))) (hn := rfl))))))))))))
  (ss_one (s_frz 4 (s_set (i := 1) (hN := fun _ => sc_filled_from.nd) (h := (e_var (i := 4)))))))))))))
  (ss_one (s_ret (e_callB (ho := (c_sorted (fun _ => hu0))) (hm := fun _ => T.b_sorted) (hv := boot_sorted) (ha := (l_cons (b_of (e_var (i := 1))) l_nil)))))))
theorem sc_fillings : FnScope ["board"] ["board"] (defScope s_fillings) := ⟨rfl, rfl, rfl, by decide +kernel, rfl, by decide +kernel, by decide +kernel⟩
def b_fillings (T : Tx K mg) : WS := (wSeq (wDropX (wClX (w_check_board T) (wACons (wV 0) wANil)))
  (wRet (wCall cLen (wCons (wCl w_filled_from (wACons (wV 0) wANil)) wNil))))
def w_fillings (T : Tx K mg) : WF := fnWX 1 (b_fillings T)
theorem ok_fillings (T : Tx K mg) : FnOk P w K mg base (L2.CX P w) 5 T.a_fillings T.d_fillings ["board"] (spW K 1 (w_fillings T)) :=
  fn_okX (wb := b_fillings T) T.f_fillings sc_fillings fun cdv A outer s H E hr => by
    have hu0 := room65 hr
    have tk : Takes (cxOf (L2.CX P w) P w K mg base ["board"] "fillings" (defScope s_fillings) T.a_fillings cdv A outer s H E) (fun cls d _ H' => E cls d H') := takes_of rfl rfl rfl rfl
    exact (ss_cons (s_exprX (x_call (hF := fun _ => (ok_check_board T)) (hr := fun _ => hr.mono (by decide)) (hm := fun _ => T.m_check_board) (hk := fun _ => T.f_check_board.kp) (hb := fun _ => T.n_check_board) (tk := (fun _ => tk)) (ha := (a_cons (e_var (i := 0)) a_nil)) (hn := rfl)))
  (ss_one (s_ret (e_callB (ho := c_len) (hm := fun _ => T.b_len) (hv := PySem.boot_len) (ha := (l_cons (b_of (e_call (hF := fun _ => (ok_filled_from T)) (hr := fun _ => hr.mono (by decide)) (hm := fun _ => T.m_filled_from) (hk := fun _ => T.f_filled_from.kp) (hb := fun _ => T.n_filled_from) (hx := fun _ => pass0) (ha := (a_cons (e_var (i := 0)) a_nil)) (hn := rfl))) l_nil))))))
theorem sc_dead_cells : FnScope ["board", "live", "found", "i", "row", "triple", "j", "cell"] ["board"] (defScope s_dead_cells) := ⟨rfl, rfl, rfl, by decide +kernel, rfl, by decide +kernel, by decide +kernel⟩
def b_dead_cells (T : Tx K mg) : WS := (wSeq (wDropX (wClX (w_check_board T) (wACons (wV 0) wANil)))
  (wSeq (wSet 1 (wLc (wSq (wCl w_puts_of (wACons (wV 0) wANil))) (gN 5) wYes (wSl (wV 5) wNoP (wSomeP (wC (.int 2)))) [5]))
  (wSeq (wSetN 2 (wLstN wANil))
  (wSeq (wFor (wEnum (wV 0)) (gT (gCons (gN 3) (gCons (gN 4) gNil))) (wExt 2 (wLc (wEnum (wV 4)) (gT (gCons (gN 6) (gCons (gN 7) gNil))) (wAnd (wTest (wIsN (wV 7))) (wTest (wOp dNotIn (wTup (wACons (wV 3) (wACons (wV 6) wANil))) (wV 1)))) (wTup (wACons (wV 3) (wACons (wV 6) wANil))) [6, 7])) [3, 4])
  (wRet (wCall cTuple (wCons (wVB 2) wNil)))))))
def w_dead_cells (T : Tx K mg) : WF := fnWX 8 (b_dead_cells T)
theorem ok_dead_cells (T : Tx K mg) : FnOk P w K mg base (L2.CX P w) 5 T.a_dead_cells T.d_dead_cells ["board"] (spW K 1 (w_dead_cells T)) :=
  fn_okX (wb := b_dead_cells T) T.f_dead_cells sc_dead_cells fun cdv A outer s H E hr => by
    have hu0 := room65 hr
    have tk : Takes (cxOf (L2.CX P w) P w K mg base ["board", "live", "found", "i", "row", "triple", "j", "cell"] "dead_cells" (defScope s_dead_cells) T.a_dead_cells cdv A outer s H E) (fun cls d _ H' => E cls d H') := takes_of rfl rfl rfl rfl
    exact (ss_cons (s_exprX (x_call (hF := fun _ => (ok_check_board T)) (hr := fun _ => hr.mono (by decide)) (hm := fun _ => T.m_check_board) (hk := fun _ => T.f_check_board.kp) (hb := fun _ => T.n_check_board) (tk := (fun _ => tk)) (ha := (a_cons (e_var (i := 0)) a_nil)) (hn := rfl)))
  (ss_cons (s_set (i := 1) (hN := fun _ => sc_dead_cells.nd) (h := (e_lc (hc := (fun _ => rfl)) (hN := fun _ => sc_dead_cells.nd) (hi := (i_sq (e_call (hF := fun _ => (ok_puts_of T)) (hr := fun _ => hr.mono (by decide)) (hm := fun _ => T.m_puts_of) (hk := fun _ => T.f_puts_of.kp) (hb := fun _ => T.n_puts_of) (hx := fun _ => pass0) (ha := (a_cons (e_var (i := 0)) a_nil)) (hn := rfl)))) (own := [("triple", 5)]) (hg := (g_name (i := 5) (hN := fun _ => sc_dead_cells.nd))) (ht := ts_nil) (he := (e_sl (b_of (e_var (i := 5))) p_none (p_some e_int))))))
  (ss_cons (s_setN (i := 2) (hN := fun _ => sc_dead_cells.nd) (h := (n_lst a_nil)))
  (ss_cons (s_for [3, 4] (hp := fun _ => passes_of rfl) (hc := (fun _ => rfl)) (hi := (i_enum (hm := fun _ => T.b_enumerate) (h := (e_var (i := 0))))) (hg := (g_tup 2 (hc := (fun _ => rfl)) (h := (gs_cons (g_name (i := 3) (hN := fun _ => sc_dead_cells.nd)) (gs_cons (g_name (i := 4) (hN := fun _ => sc_dead_cells.nd)) gs_nil))) (hn := fun _ => rfl) (hl := (gCons_len (gCons_len gNil_len))))) (hb := (ss_one (s_ext (i := 2) (h := (b_of (e_lc (hc := (fun _ => rfl)) (hN := fun _ => sc_dead_cells.nd) (hi := (i_enum (hm := fun _ => T.b_enumerate) (h := (e_var (i := 4))))) (own := [("j", 6), ("cell", 7)]) (hg := (g_tup 2 (hc := (fun _ => rfl)) (h := (gs_cons (g_name (i := 6) (hN := fun _ => sc_dead_cells.nd)) (gs_cons (g_name (i := 7) (hN := fun _ => sc_dead_cells.nd)) gs_nil))) (hn := fun _ => rfl) (hl := (gCons_len (gCons_len gNil_len))))) (ht := (ts_one (t_of (tw_and (t_isN (b_of (e_var (i := 7)))) (tw_and1 (t_cmp (o_notIn (fun _ => hu0)) (b_of (e_tup (a_cons (e_var (i := 3)) (a_cons (e_var (i := 6)) a_nil)))) (b_of (e_var (i := 1))) rfl)))))) (he := (e_tup (a_cons (e_var (i := 3)) (a_cons (e_var (i := 6)) a_nil)))))))))))
  (ss_one (s_ret (e_callTy (ho := c_tuple) (hm := fun _ => T.b_tuple) (hv := boot_tuple) (ha := (l_cons (b_var (i := 2)) l_nil)))))))))
theorem sc_forced_puts : FnScope ["board", "squares", "i", "j", "sign", "square"] ["board"] (defScope s_forced_puts) := ⟨rfl, rfl, rfl, by decide +kernel, rfl, by decide +kernel, by decide +kernel⟩
def b_forced_puts (T : Tx K mg) : WS := (wSeq (wDropX (wClX (w_check_board T) (wACons (wV 0) wANil)))
  (wSeq (wSet 1 (wCl w_filled_from (wACons (wV 0) wANil)))
  (wSeq (wIfS (wTest (wOp dEq (wCall cLen (wCons (wV 1) wNil)) (wC (.int 0)))) (wRet (wTup wANil)) wNext)
  (wRet (wCall cTuple (wCons (wLc (wSq (wCl w_puts_of (wACons (wV 0) wANil))) (gT (gCons (gN 2) (gCons (gN 3) (gCons (gN 4) gNil)))) (wTest (wCall cAll (wCons (wLc (wSq (wV 1)) (gN 5) wYes (wOp dEq (wOp dIx (wOp dIx (wV 5) (wV 2)) (wV 3)) (wV 4)) [5]) wNil))) (wTup (wACons (wV 2) (wACons (wV 3) (wACons (wV 4) wANil)))) [2, 3, 4]) wNil))))))
def w_forced_puts (T : Tx K mg) : WF := fnWX 6 (b_forced_puts T)
theorem ok_forced_puts (T : Tx K mg) : FnOk P w K mg base (L2.CX P w) 5 T.a_forced_puts T.d_forced_puts ["board"] (spW K 1 (w_forced_puts T)) :=
  fn_okX (wb := b_forced_puts T) T.f_forced_puts sc_forced_puts fun cdv A outer s H E hr => by
    have hu0 := room65 hr
    have tk : Takes (cxOf (L2.CX P w) P w K mg base ["board", "squares", "i", "j", "sign", "square"] "forced_puts" (defScope s_forced_puts) T.a_forced_puts cdv A outer s H E) (fun cls d _ H' => E cls d H') := takes_of rfl rfl rfl rfl
    exact (ss_cons (s_exprX (x_call (hF := fun _ => (ok_check_board T)) (hr := fun _ => hr.mono (by decide)) (hm := fun _ => T.m_check_board) (hk := fun _ => T.f_check_board.kp) (hb := fun _ => T.n_check_board) (tk := (fun _ => tk)) (ha := (a_cons (e_var (i := 0)) a_nil)) (hn := rfl)))
  (ss_cons (s_set (i := 1) (hN := fun _ => sc_forced_puts.nd) (h := (e_call (hF := fun _ => (ok_filled_from T)) (hr := fun _ => hr.mono (by decide)) (hm := fun _ => T.m_filled_from) (hk := fun _ => T.f_filled_from.kp) (hb := fun _ => T.n_filled_from) (hx := fun _ => pass0) (ha := (a_cons (e_var (i := 0)) a_nil)) (hn := rfl))))
  (ss_cons (s_if (t_cmp (o_eq (fun _ => hu0)) (b_of (e_callB (ho := c_len) (hm := fun _ => T.b_len) (hv := PySem.boot_len) (ha := (l_cons (b_of (e_var (i := 1))) l_nil)))) (b_of e_int) (nomark _)) (ss_one (s_ret (e_tup a_nil))) ss_nil)
  (ss_one (s_ret (e_callTy (ho := c_tuple) (hm := fun _ => T.b_tuple) (hv := boot_tuple) (ha := (l_cons (b_of (e_lc (hc := (fun _ => rfl)) (hN := fun _ => sc_forced_puts.nd) (hi := (i_sq (e_call (hF := fun _ => (ok_puts_of T)) (hr := fun _ => hr.mono (by decide)) (hm := fun _ => T.m_puts_of) (hk := fun _ => T.f_puts_of.kp) (hb := fun _ => T.n_puts_of) (hx := fun _ => pass0) (ha := (a_cons (e_var (i := 0)) a_nil)) (hn := rfl)))) (own := [("i", 2), ("j", 3), ("sign", 4)]) (hg := (g_tup 3 (hc := (fun _ => rfl)) (h := (gs_cons (g_name (i := 2) (hN := fun _ => sc_forced_puts.nd)) (gs_cons (g_name (i := 3) (hN := fun _ => sc_forced_puts.nd)) (gs_cons (g_name (i := 4) (hN := fun _ => sc_forced_puts.nd)) gs_nil)))) (hn := fun _ => rfl) (hl := (gCons_len (gCons_len (gCons_len gNil_len)))))) (ht := (ts_one (t_val (e_callB (ho := (c_all (fun _ => rfl))) (hm := fun _ => T.b_all) (hv := boot_all) (ha := (l_cons (b_of (e_lc (hc := (fun _ => rfl)) (hN := fun _ => sc_forced_puts.nd) (hi := (i_sq (e_var (i := 1)))) (own := [("square", 5)]) (hg := (g_name (i := 5) (hN := fun _ => sc_forced_puts.nd))) (ht := ts_nil) (he := (e_cmp (o_eq (fun _ => hu0)) (b_of (e_ix (b_of (e_ix (b_of (e_var (i := 5))) (b_of (e_var (i := 2))))) (b_of (e_var (i := 3))))) (b_of (e_var (i := 4))) (nomark _))))) l_nil)))))) (he := (e_tup (a_cons (e_var (i := 2)) (a_cons (e_var (i := 3)) (a_cons (e_var (i := 4)) a_nil))))))) l_nil))))))))
theorem sc_safe_puts : FnScope ["board", "squares", "i", "j", "sign", "square"] ["board"] (defScope s_safe_puts) := ⟨rfl, rfl, rfl, by decide +kernel, rfl, by decide +kernel, by decide +kernel⟩
def b_safe_puts (T : Tx K mg) : WS := (wSeq (wDropX (wClX (w_check_board T) (wACons (wV 0) wANil)))
  (wSeq (wSet 1 (wCl w_filled_from (wACons (wV 0) wANil)))
  (wRet (wCall cTuple (wCons (wLc (wSq (wCl w_puts_of (wACons (wV 0) wANil))) (gT (gCons (gN 2) (gCons (gN 3) (gCons (gN 4) gNil)))) (wTest (wCall cAny (wCons (wLc (wSq (wV 1)) (gN 5) wYes (wOp dEq (wOp dIx (wOp dIx (wV 5) (wV 2)) (wV 3)) (wV 4)) [5]) wNil))) (wTup (wACons (wV 2) (wACons (wV 3) (wACons (wV 4) wANil)))) [2, 3, 4]) wNil)))))
def w_safe_puts (T : Tx K mg) : WF := fnWX 6 (b_safe_puts T)
theorem ok_safe_puts (T : Tx K mg) : FnOk P w K mg base (L2.CX P w) 5 T.a_safe_puts T.d_safe_puts ["board"] (spW K 1 (w_safe_puts T)) :=
  fn_okX (wb := b_safe_puts T) T.f_safe_puts sc_safe_puts fun cdv A outer s H E hr => by
    have hu0 := room65 hr
    have tk : Takes (cxOf (L2.CX P w) P w K mg base ["board", "squares", "i", "j", "sign", "square"] "safe_puts" (defScope s_safe_puts) T.a_safe_puts cdv A outer s H E) (fun cls d _ H' => E cls d H') := takes_of rfl rfl rfl rfl
    exact (ss_cons (s_exprX (x_call (hF := fun _ => (ok_check_board T)) (hr := fun _ => hr.mono (by decide)) (hm := fun _ => T.m_check_board) (hk := fun _ => T.f_check_board.kp) (hb := fun _ => T.n_check_board) (tk := (fun _ => tk)) (ha := (a_cons (e_var (i := 0)) a_nil)) (hn := rfl)))
  (ss_cons (s_set (i := 1) (hN := fun _ => sc_safe_puts.nd) (h := (e_call (hF := fun _ => (ok_filled_from T)) (hr := fun _ => hr.mono (by decide)) (hm := fun _ => T.m_filled_from) (hk := fun _ => T.f_filled_from.kp) (hb := fun _ => T.n_filled_from) (hx := fun _ => pass0) (ha := (a_cons (e_var (i := 0)) a_nil)) (hn := rfl))))
  (ss_one (s_ret (e_callTy (ho := c_tuple) (hm := fun _ => T.b_tuple) (hv := boot_tuple) (ha := (l_cons (b_of (e_lc (hc := (fun _ => rfl)) (hN := fun _ => sc_safe_puts.nd) (hi := (i_sq (e_call (hF := fun _ => (ok_puts_of T)) (hr := fun _ => hr.mono (by decide)) (hm := fun _ => T.m_puts_of) (hk := fun _ => T.f_puts_of.kp) (hb := fun _ => T.n_puts_of) (hx := fun _ => pass0) (ha := (a_cons (e_var (i := 0)) a_nil)) (hn := rfl)))) (own := [("i", 2), ("j", 3), ("sign", 4)]) (hg := (g_tup 3 (hc := (fun _ => rfl)) (h := (gs_cons (g_name (i := 2) (hN := fun _ => sc_safe_puts.nd)) (gs_cons (g_name (i := 3) (hN := fun _ => sc_safe_puts.nd)) (gs_cons (g_name (i := 4) (hN := fun _ => sc_safe_puts.nd)) gs_nil)))) (hn := fun _ => rfl) (hl := (gCons_len (gCons_len (gCons_len gNil_len)))))) (ht := (ts_one (t_val (e_callB (ho := (c_any (fun _ => rfl))) (hm := fun _ => T.b_any) (hv := boot_any) (ha := (l_cons (b_of (e_lc (hc := (fun _ => rfl)) (hN := fun _ => sc_safe_puts.nd) (hi := (i_sq (e_var (i := 1)))) (own := [("square", 5)]) (hg := (g_name (i := 5) (hN := fun _ => sc_safe_puts.nd))) (ht := ts_nil) (he := (e_cmp (o_eq (fun _ => hu0)) (b_of (e_ix (b_of (e_ix (b_of (e_var (i := 5))) (b_of (e_var (i := 2))))) (b_of (e_var (i := 3))))) (b_of (e_var (i := 4))) (nomark _))))) l_nil)))))) (he := (e_tup (a_cons (e_var (i := 2)) (a_cons (e_var (i := 3)) (a_cons (e_var (i := 4)) a_nil))))))) l_nil)))))))
theorem sc_law_hand : FnScope ["script", "cells", "cell"] ["script"] (defScope s_law_hand) := ⟨rfl, rfl, rfl, by decide +kernel, rfl, by decide +kernel, by decide +kernel⟩
theorem ok_law_hand (T : Tx K mg) : FnOk P w K mg base CX0 1 T.a_law_hand T.d_law_hand ["script"] (spHand K) := by
  refine T.f_law_hand.ok sc_law_hand (fun vs H Q E h => ?_) (fun cdv A outer s H vs Q E hr h => ?_)
  · obtain ⟨a, ns, rfl, _⟩ := h
    rfl
  · obtain ⟨a, ns, rfl, hS, hlen, k⟩ := h
    refine ⟨_, pss_cons (ps_setLc (i := 1) (own := [("cell", 2)]) (g := gName 2) (tt := tYes) rfl sc_law_hand.nd rfl rfl (sw_true rfl rfl rfl (by decide +kernel)) (pi_list (pe_slice sl_list (pv 0) po_none (po_some pe_int))) (blkOk_by (by kernel_rfl))
        (fun _ _ _ _ _ => pg_name (i := 2) sc_law_hand.nd rfl (Or.inl rfl) (Or.inr rfl)) (fun _ _ _ _ _ => pts_nil) (fun _ _ _ _ _ => pe_callB call_abs (by rfl) T.b_abs boot_abs (pa_cons (pe_callTy call_int1 (by rfl) T.b_int boot_int (pa_cons (pv 2) pa_nil)) pa_nil)))
      (pss_one (ps_ret (pe_lst (pa_cons (pv 1) (pa_cons pe_int (pa_cons pe_int (pa_cons (pe_op op_add pe_int (pe_op op_mul pe_int (pe_callB call_len_seq (by rfl) T.b_len PySem.boot_len (pa_cons (pv 1) pa_nil)))) (pa_cons pe_int pa_nil)))))))), ?_⟩
    refine ⟨_, rfl, ⟨63, rfl, a, _, rfl, hS, fun p hp => ⟨p, rfl, ⟨_, SqL.of upd_same⟩, fun C hC0 => ?_⟩⟩⟩
    have hcut : cutV (ns.map V.int) none (some 63) = (ns.take 63).map V.int := by
      unfold cutV
      have z : HT.sIx ns.length ns.length (some 63) = min 63 ns.length := HT.sIx_nat _ _ 63
      rw [List.length_map, HT.sIx_none, z, List.drop_zero, Nat.sub_zero, List.map_take]
      rw [show min 63 ns.length = ns.length by omega, List.take_of_length_le (by rw [List.length_map]; exact Nat.le_refl _), List.take_of_length_le (by rw [List.length_map]; omega)]
    have npc : p ≠ C := fun z => by
      rw [← z, upd_same] at hC0
      cases hC0
    refine lc_list (K := K) (a := p) (xs := cutV (ns.map V.int) none (some 63)) (fun i Hc => ∃ out : List Int, Hc C = some (.lst (out.map V.int)) ∧ Hc p = some (.lst (cutV (ns.map V.int) none (some 63))) ∧ out.length = i ∧ (∀ j ∈ out, 0 ≤ j) ∧ Same H Hc) ?_ ?_ ?_ ?_
    · refine ⟨[], upd_same, by rw [upd_ne npc, upd_same], rfl, (fun _ z => nomatch z), fun b o z => ?_⟩
      have h1 : b ≠ p := ne_of_none z hp
      have h2 : b ≠ C := by
        refine ne_of_none (H := upd H p (.lst (cutV (ns.map V.int) none (some 63)))) (o := o) ?_ hC0
        rw [upd_ne h1]
        exact z
      rw [upd_ne h2, upd_ne h1]
      exact z
    · rintro i Hc _ ⟨out, _, q, _⟩
      exact SqL.of q
    · rintro i x Hc hi ⟨out, h1, h2, h3, h4, h5⟩
      rw [hcut] at hi
      obtain ⟨u, rfl⟩ : ∃ u, x = V.int u := by
        rw [List.getElem?_map] at hi
        cases e : (ns.take 63)[i]? with
        | none => rw [e] at hi; cases hi
        | some u => rw [e] at hi; exact ⟨u, (Option.some.inj hi).symm⟩
      have hlt : i < 63 := by
        have q := (List.getElem?_eq_some_iff.mp hi).1
        rw [List.length_map, List.length_take] at q
        omega
      refine ⟨rfl, yes_do ?_⟩
      refine ⟨_, rfl, .inl ⟨u, rfl, _, rfl, out.map V.int, h1, ?_, out ++ [if u < 0 then -u else u], ?_, ?_, ?_, ?_, ?_⟩⟩
      · rw [List.length_map, h3, sizeLine_eq]
        omega
      · rw [upd_same, List.map_append]
        rfl
      · rw [upd_ne npc]
        exact h2
      · rw [List.length_append, h3]
        rfl
      · intro j hj
        rcases List.mem_append.mp hj with q | q
        · exact h4 j q
        · cases (List.mem_singleton.mp q)
          split <;> omega
      · intro b o z
        have h2 : b ≠ C := by
          rintro rfl
          have q := h5 _ _ z
          rw [upd_ne (ne_of_none z hp), z] at hC0
          cases hC0
        rw [upd_ne h2]
        exact h5 b o z
    · rintro Hc ⟨out, hC, h2, h3, h4, h5⟩
      refine ⟨_, rfl, _, rfl, C, _, rfl, .inl (SqL.of hC), _, _, rfl, rfl, .inl ⟨by decide, by decide⟩, _, _, rfl, rfl, by show 5 ≤ sizeLine; decide, fun h hh => ?_⟩
      have hle : out.length ≤ 63 := by
        rw [h3, hcut, List.length_map, List.length_take]
        omega
      refine k _ h C ((97 : Int) + ((5 : Int) * ((out.length : Nat) : Int))) out (h5.trans fun b o z => by rw [upd_ne (ne_of_none z hh)]; exact z) (h5.free hh) ?_ (fun z => ?_) (by rw [upd_same, List.length_map]) ?_ ⟨hle, h4, by omega, by omega, by omega, by omega⟩
      · cases q : H C with
        | none => rfl
        | some o =>
          rw [upd_ne (ne_of_none q hp), q] at hC0
          cases hC0
      · rw [z, hC] at hh
        cases hh
      · rw [upd_ne (fun z => by rw [← z, hC] at hh; cases hh)]
        exact hC
theorem sc_law_draw : FnScope ["hand", "many", "cell", "figure", "number"] ["hand", "many"] (defScope s_law_draw) := ⟨rfl, rfl, rfl, by decide +kernel, rfl, by decide +kernel, by decide +kernel⟩
def b_law_draw : WS := (wSeq (wIfS (wAnd (wTest (wOp dEq (wOp dIx (wVB 0) (wC (.int 2))) (wC (.int 0)))) (wTest (wOp dLt (wOp dIx (wVB 0) (wC (.int 1))) (wCall cLen (wCons (wOp dIx (wVB 0) (wC (.int 0))) wNil))))) (wSeq (wSet 2 (wOp dIx (wOp dIx (wVB 0) (wC (.int 0))) (wOp dIx (wVB 0) (wC (.int 1)))))
  (wSeq (wSetIx 0 (wC (.int 1)) (wOp dAdd (wOp dIx (wVB 0) (wC (.int 1))) (wC (.int 1))))
  (wSeq (wSetIx 0 (wC (.int 3)) (wOp dMod (wCall cInt (wCons (wOp dAdd (wOp dAdd (wOp dMul (wOp dIx (wVB 0) (wC (.int 3))) (wC (.int 48271))) (wV 2)) (wC (.int 31))) wNil)) (wC (.int 2147483647))))
  (wIfS (wTest (wOp dGe (wV 2) (wOp dPow (wC (.int 10)) (wC (.int 18))))) (wSetIx 0 (wC (.int 2)) (wV 2)) wNext)))) wNext)
  (wSeq (wIfS (wTest (wOp dGt (wOp dIx (wVB 0) (wC (.int 2))) (wC (.int 0)))) (wSeq (wSet 3 (wOp dMod (wCall cInt (wCons (wOp dIx (wVB 0) (wC (.int 2))) wNil)) (wV 1)))
  (wSeq (wSetIx 0 (wC (.int 2)) (wOp dDiv (wOp dIx (wVB 0) (wC (.int 2))) (wV 1)))
  (wRet (wV 3)))) wNext)
  (wSeq (wSetIx 0 (wC (.int 4)) (wOp dAdd (wOp dIx (wVB 0) (wC (.int 4))) (wC (.int 1))))
  (wSeq (wSet 4 (wOp dMod (wCall cInt (wCons (wOp dMul (wCall cInt (wCons (wOp dAdd (wOp dIx (wVB 0) (wC (.int 3))) (wOp dMul (wC (.int 6151)) (wOp dIx (wVB 0) (wC (.int 4))))) wNil)) (wC (.int 40692))) wNil)) (wC (.int 2147483399))))
  (wSeq (wSet 4 (wOp dMod (wCall cInt (wCons (wOp dMul (wV 4) (wOp dAdd (wOp dDiv (wV 4) (wC (.int 1223))) (wC (.int 52027)))) wNil)) (wC (.int 2147483629))))
  (wSeq (wSet 4 (wOp dMod (wCall cInt (wCons (wOp dMul (wV 4) (wOp dAdd (wOp dDiv (wV 4) (wC (.int 2671))) (wC (.int 69621)))) wNil)) (wC (.int 2147483647))))
  (wRet (wOp dMod (wCall cInt (wCons (wOp dDiv (wV 4) (wC (.int 32))) wNil)) (wV 1)))))))))
theorem draw_hw (h : Addr) (cs : List Int) (p l x n m : Int) (ok : HandOk cs p l x n) (hm : 0 < m) (hm2 : m < 1073741824) : b_law_draw (some (.ow (some h) (handD cs p l x n)) :: some (.sh (.int m)) :: List.replicate (5 - 2) none)
      ⟨fun _ => False, fun d env => ∃ (k : Int) (cs' : List Int) (p' l' x' n' : Int), d = .int k ∧ (0 ≤ k ∧ k < m) ∧ env[0]? = some (some (.ow (some h) (handD cs' p' l' x' n'))) ∧ HandOk cs' p' l' x' n', fun _ => False, fun _ => False, fun _ _ => False⟩ := by
  unfold b_law_draw
  rw [wSeq]
  generalize hP : (Post.mk (fun _ => False) (fun d env => ∃ (k : Int) (cs' : List Int) (p' l' x' n' : Int), d = .int k ∧ (0 ≤ k ∧ k < m) ∧ env[0]? = some (some (.ow (some h) (handD cs' p' l' x' n'))) ∧ HandOk cs' p' l' x' n') (fun _ => False) (fun _ => False) (fun _ _ => False)) = P
  have hrt : ∀ (k : Int) (cs' : List Int) (p' l' x' n' : Int) (r : Dn.Env), (0 ≤ k ∧ k < m) → HandOk cs' p' l' x' n' → P.rt (.int k) (some (.ow (some h) (handD cs' p' l' x' n')) :: r) := fun k cs' p' l' x' n' r h1 h2 => by
    subst hP
    exact ⟨k, cs', p', l', x', n', rfl, h1, rfl, h2⟩
  clear hP
  generalize hT : (wSeq (wIfS (wTest (wOp dGt (wOp dIx (wVB 0) (wC (.int 2))) (wC (.int 0)))) _ _) _ : WS) = Tl
  have tail : ∀ (p l x n : Int) (c : Option En), HandOk cs p l x n → Tl (some (.ow (some h) (handD cs p l x n)) :: some (.sh (.int m)) :: c :: [none, none]) P := by
    intro p l x n c ok
    obtain ⟨k1, k2, k3, k4, k5, k6⟩ := ok
    subst hT
    have hm0 : m ≠ 0 := by omega
    have hn : m.natAbs < 1073741824 := by omega
    simp only [wSeq, wIfS, wTest, wOp, wVB, wC, handD, List.getElem?_cons_zero]
    simp [hm0, hn, ix52, ix54]
    split
    · refine hrt _ cs p _ x n _ (fmodB _ hm) ⟨k1, k2, k3, Int.fdiv_nonneg k4 (by omega), k5, k6⟩
    · refine ⟨cmul_l _ _ (by omega) (by omega), cmul_r _ _ (by omega) (by omega), cmul_fm _ _ _ (by omega) (by omega), cmul_fm _ _ _ (by omega) (by omega), ?_⟩
      exact hrt _ cs p l x (n + 1) _ (fmodB _ hm) ⟨k1, k2, k3, k4, k5, by omega⟩
  obtain ⟨k1, k2, k3, k4, k5, k6⟩ := ok
  clear hT
  have base := tail p l x n none ⟨k1, k2, k3, k4, k5, k6⟩
  simp only [wSeq, wIfS, wTest, wAnd, wOp, wVB, wC, handD, List.getElem?_cons_zero]
  simp [ix51, ix52, ix53]
  split
  · split
    · rename_i h1 h2
      have hp : p.toNat < cs.length := by omega
      have e : atI (List.map PyData.int cs) p = some (.int cs[p.toNat]) := by
        rw [atI_of _ _ k3]
        simp [hp]
      rw [e]
      have hc := k2 cs[p.toNat] (List.getElem_mem _)
      simp
      refine ⟨cmul_r _ _ (by omega) (by omega), ?_⟩
      split
      · exact tail _ _ _ _ _ ⟨k1, k2, by omega, by omega, (fmodB _ (by omega)).1, k6⟩
      · exact tail _ _ _ _ _ ⟨k1, k2, by omega, by omega, (fmodB _ (by omega)).1, k6⟩
    · exact base
  · exact base
theorem den_law_draw (T : Tx K mg) (cdv : Value) (A : Around) (outer : List PySem.Env) (s : Shared) (H : Hp) (E : XK) (hr : Room 0 (A.deeper (envOfC "_law_draw" (defScope s_law_draw) s.heap.objs.size T.a_law_draw cdv))) : Dens (famOf P w K mg base ["hand", "many", "cell", "figure", "number"] "_law_draw" s_law_draw T.a_law_draw cdv A outer s H E) Wno (defBody s_law_draw) b_law_draw := by
    have hu0 := room65 hr
    exact (ss_cons (s_if (t_of (tw_and (t_cmp (o_eq (fun _ => hu0)) (b_of (e_ix (b_var (i := 0)) (b_of e_int))) (b_of e_int) (nomark _)) (tw_and1 (t_cmp o_lt (b_of (e_ix (b_var (i := 0)) (b_of e_int))) (b_of (e_callB (ho := c_len) (hm := fun _ => T.b_len) (hv := PySem.boot_len) (ha := (l_cons (b_of (e_ix (b_var (i := 0)) (b_of e_int))) l_nil)))) (nomark _))))) (ss_cons (s_set (i := 2) (hN := fun _ => sc_law_draw.nd) (h := (e_ix (b_of (e_ix (b_var (i := 0)) (b_of e_int))) (b_of (e_ix (b_var (i := 0)) (b_of e_int))))))
  (ss_cons (s_setIx (i := 0) (hk := e_int) (h := (e_op o_add (b_of (e_ix (b_var (i := 0)) (b_of e_int))) (b_of e_int))))
  (ss_cons (s_setIx (i := 0) (hk := e_int) (h := (e_op o_mod (b_of (e_callTy (ho := c_int) (hm := fun _ => T.b_int) (hv := boot_int) (ha := (l_cons (b_of (e_op o_add (b_of (e_op o_add (b_of (e_op o_mul (b_of (e_ix (b_var (i := 0)) (b_of e_int))) (b_of e_int))) (b_of (e_var (i := 2))))) (b_of e_int))) l_nil)))) (b_of e_int))))
  (ss_one (s_if (t_cmp o_ge (b_of (e_var (i := 2))) (b_of (e_op o_pow (b_of e_int) (b_of e_int))) (nomark _)) (ss_one (s_setIx (i := 0) (hk := e_int) (h := (e_var (i := 2))))) ss_nil))))) ss_nil)
  (ss_cons (s_if (t_cmp o_gt (b_of (e_ix (b_var (i := 0)) (b_of e_int))) (b_of e_int) (nomark _)) (ss_cons (s_set (i := 3) (hN := fun _ => sc_law_draw.nd) (h := (e_op o_mod (b_of (e_callTy (ho := c_int) (hm := fun _ => T.b_int) (hv := boot_int) (ha := (l_cons (b_of (e_ix (b_var (i := 0)) (b_of e_int))) l_nil)))) (b_of (e_var (i := 1))))))
  (ss_cons (s_setIx (i := 0) (hk := e_int) (h := (e_op o_div (b_of (e_ix (b_var (i := 0)) (b_of e_int))) (b_of (e_var (i := 1))))))
  (ss_one (s_ret (e_var (i := 3)))))) ss_nil)
  (ss_cons (s_setIx (i := 0) (hk := e_int) (h := (e_op o_add (b_of (e_ix (b_var (i := 0)) (b_of e_int))) (b_of e_int))))
  (ss_cons (s_set (i := 4) (hN := fun _ => sc_law_draw.nd) (h := (e_op o_mod (b_of (e_callTy (ho := c_int) (hm := fun _ => T.b_int) (hv := boot_int) (ha := (l_cons (b_of (e_op o_mul (b_of (e_callTy (ho := c_int) (hm := fun _ => T.b_int) (hv := boot_int) (ha := (l_cons (b_of (e_op o_add (b_of (e_ix (b_var (i := 0)) (b_of e_int))) (b_of (e_op o_mul (b_of e_int) (b_of (e_ix (b_var (i := 0)) (b_of e_int))))))) l_nil)))) (b_of e_int))) l_nil)))) (b_of e_int))))
  (ss_cons (s_set (i := 4) (hN := fun _ => sc_law_draw.nd) (h := (e_op o_mod (b_of (e_callTy (ho := c_int) (hm := fun _ => T.b_int) (hv := boot_int) (ha := (l_cons (b_of (e_op o_mul (b_of (e_var (i := 4))) (b_of (e_op o_add (b_of (e_op o_div (b_of (e_var (i := 4))) (b_of e_int))) (b_of e_int))))) l_nil)))) (b_of e_int))))
  (ss_cons (s_set (i := 4) (hN := fun _ => sc_law_draw.nd) (h := (e_op o_mod (b_of (e_callTy (ho := c_int) (hm := fun _ => T.b_int) (hv := boot_int) (ha := (l_cons (b_of (e_op o_mul (b_of (e_var (i := 4))) (b_of (e_op o_add (b_of (e_op o_div (b_of (e_var (i := 4))) (b_of e_int))) (b_of e_int))))) l_nil)))) (b_of e_int))))
  (ss_one (s_ret (e_op o_mod (b_of (e_callTy (ho := c_int) (hm := fun _ => T.b_int) (hv := boot_int) (ha := (l_cons (b_of (e_op o_div (b_of (e_var (i := 4))) (b_of e_int))) l_nil)))) (b_of (e_var (i := 1))))))))))))
theorem ok_law_draw (T : Tx K mg) : FnOk P w K mg base CX0 1 T.a_law_draw T.d_law_draw ["hand", "many"] (spW K 2 wDraw) :=
  draw_ok (wb := b_law_draw) T.f_law_draw sc_law_draw rfl (by decide) (fun cdv A outer s H E hr => den_law_draw T cdv A outer s H E hr) draw_hw
theorem sc_law_some : FnScope ["hand", "things"] ["hand", "things"] (defScope s_law_some) := ⟨rfl, rfl, rfl, by decide +kernel, rfl, by decide +kernel, by decide +kernel⟩
def b_law_some : WS := (wRet (wOp dIx (wV 1) (wCl wDraw (wAOb 0 (wACons (wCall cLen (wCons (wV 1) wNil)) wANil)))))
def w_law_some : WF := fnW 2 b_law_some
theorem ok_law_some (T : Tx K mg) : FnOk P w K mg base CX0 2 T.a_law_some T.d_law_some ["hand", "things"] (spW K 2 w_law_some) :=
  fn_ok (wb := b_law_some) T.f_law_some sc_law_some fun cdv A outer s H E hr => by
    have hu0 := room65 hr
    exact (ss_one (s_ret (e_ix (b_of (e_var (i := 1))) (b_of (e_call (hF := fun _ => (ok_law_draw T)) (hr := fun _ => hr.mono (by decide)) (hm := fun _ => T.m_law_draw) (hk := fun _ => T.f_law_draw.kp) (hb := fun _ => T.n_law_draw) (hx := fun _ => pass0) (ha := (a_ob (i := 0) (hr := (a_cons (e_callB (ho := c_len) (hm := fun _ => T.b_len) (hv := PySem.boot_len) (ha := (l_cons (b_of (e_var (i := 1))) l_nil))) a_nil)))) (hn := rfl))))))
theorem sc_law_rows_below : FnScope ["rows", "many", "found", "c", "longer", "row", "taken", "above", "sign"] ["rows", "many"] (defScope s_law_rows_below) := ⟨rfl, rfl, rfl, by decide +kernel, rfl, by decide +kernel, by decide +kernel⟩
def b_law_rows_below : WS := (wSeq (wSet 2 (wLst (wACons (wTup wANil) wANil)))
  (wSeq (wFor (wRng1 (wCons (wV 1) wNil)) (gN 3) (wSeq (wSet 4 (wLst wANil))
  (wSeq (wFor (wSq (wV 2)) (gN 5) (wSeq (wSet 6 (wOp dAdd (wLc (wSq (wV 0)) (gN 7) wYes (wOp dIx (wV 7) (wV 3)) [7]) (wCall cList (wCons (wV 5) wNil))))
  (wSet 4 (wOp dAdd (wV 4) (wLc (wRng1 (wCons (wV 1) wNil)) (gN 8) (wTest (wOp dNotIn (wV 8) (wV 6))) (wOp dAdd (wV 5) (wTup (wACons (wV 8) wANil))) [8])))) [5, 6])
  (wSet 2 (wV 4)))) [3, 4, 5, 6])
  (wRet (wV 2))))
def w_law_rows_below : WF := fnW 9 b_law_rows_below
theorem ok_law_rows_below (T : Tx K mg) : FnOk P w K mg base CX0 1 T.a_law_rows_below T.d_law_rows_below ["rows", "many"] (spW K 2 w_law_rows_below) :=
  fn_ok (wb := b_law_rows_below) T.f_law_rows_below sc_law_rows_below fun cdv A outer s H E hr => by
    have hu0 := room65 hr
    exact (ss_cons (s_set (i := 2) (hN := fun _ => sc_law_rows_below.nd) (h := (e_lst (a_cons (e_tup a_nil) a_nil))))
  (ss_cons (s_for [3, 4, 5, 6] (hp := fun _ => PassesOwn.never) (hc := (fun _ => rfl)) (hi := (i_rng1 (hm := fun _ => T.b_range) (ha := (l_cons (b_of (e_var (i := 1))) l_nil)))) (hg := (g_name (i := 3) (hN := fun _ => sc_law_rows_below.nd))) (hb := (ss_cons (s_set (i := 4) (hN := fun _ => sc_law_rows_below.nd) (h := (e_lst a_nil)))
  (ss_cons (s_for [5, 6] (hp := fun _ => PassesOwn.never) (hc := (fun _ => rfl)) (hi := (i_sq (e_var (i := 2)))) (hg := (g_name (i := 5) (hN := fun _ => sc_law_rows_below.nd))) (hb := (ss_cons (s_set (i := 6) (hN := fun _ => sc_law_rows_below.nd) (h := (e_op o_add (b_of (e_lc (hc := (fun _ => rfl)) (hN := fun _ => sc_law_rows_below.nd) (hi := (i_sq (e_var (i := 0)))) (own := [("above", 7)]) (hg := (g_name (i := 7) (hN := fun _ => sc_law_rows_below.nd))) (ht := ts_nil) (he := (e_ix (b_of (e_var (i := 7))) (b_of (e_var (i := 3))))))) (b_of (e_callTy (ho := c_list) (hm := fun _ => T.b_list) (hv := boot_list) (ha := (l_cons (b_of (e_var (i := 5))) l_nil)))))))
  (ss_one (s_set (i := 4) (hN := fun _ => sc_law_rows_below.nd) (h := (e_op o_add (b_of (e_var (i := 4))) (b_of (e_lc (hc := (fun _ => rfl)) (hN := fun _ => sc_law_rows_below.nd) (hi := (i_rng1 (hm := fun _ => T.b_range) (ha := (l_cons (b_of (e_var (i := 1))) l_nil)))) (own := [("sign", 8)]) (hg := (g_name (i := 8) (hN := fun _ => sc_law_rows_below.nd))) (ht := (ts_one (t_cmp (o_notIn (fun _ => hu0)) (b_of (e_var (i := 8))) (b_of (e_var (i := 6))) rfl))) (he := (e_op o_add (b_of (e_var (i := 5))) (b_of (e_tup (a_cons (e_var (i := 8)) a_nil))))))))))))))
  (ss_one (s_set (i := 2) (hN := fun _ => sc_law_rows_below.nd) (h := (e_var (i := 4)))))))))
  (ss_one (s_ret (e_var (i := 2))))))
theorem sc_law_squares : FnScope ["many", "found", "r", "longer", "rows", "row"] ["many"] (defScope s_law_squares) := ⟨rfl, rfl, rfl, by decide +kernel, rfl, by decide +kernel, by decide +kernel⟩
def b_law_squares : WS := (wSeq (wSet 1 (wLst (wACons (wTup wANil) wANil)))
  (wSeq (wFor (wRng1 (wCons (wV 0) wNil)) (gN 2) (wSeq (wSet 3 (wLst wANil))
  (wSeq (wFor (wSq (wV 1)) (gN 4) (wSet 3 (wOp dAdd (wV 3) (wLc (wSq (wCl w_law_rows_below (wACons (wV 4) (wACons (wV 0) wANil)))) (gN 5) wYes (wOp dAdd (wV 4) (wTup (wACons (wV 5) wANil))) [5]))) [4])
  (wSet 1 (wV 3)))) [2, 3, 4])
  (wRet (wV 1))))
def w_law_squares : WF := fnW 6 b_law_squares
theorem ok_law_squares (T : Tx K mg) : FnOk P w K mg base CX0 2 T.a_law_squares T.d_law_squares ["many"] (spW K 1 w_law_squares) :=
  fn_ok (wb := b_law_squares) T.f_law_squares sc_law_squares fun cdv A outer s H E hr => by
    have hu0 := room65 hr
    exact (ss_cons (s_set (i := 1) (hN := fun _ => sc_law_squares.nd) (h := (e_lst (a_cons (e_tup a_nil) a_nil))))
  (ss_cons (s_for [2, 3, 4] (hp := fun _ => PassesOwn.never) (hc := (fun _ => rfl)) (hi := (i_rng1 (hm := fun _ => T.b_range) (ha := (l_cons (b_of (e_var (i := 0))) l_nil)))) (hg := (g_name (i := 2) (hN := fun _ => sc_law_squares.nd))) (hb := (ss_cons (s_set (i := 3) (hN := fun _ => sc_law_squares.nd) (h := (e_lst a_nil)))
  (ss_cons (s_for [4] (hp := fun _ => PassesOwn.never) (hc := (fun _ => rfl)) (hi := (i_sq (e_var (i := 1)))) (hg := (g_name (i := 4) (hN := fun _ => sc_law_squares.nd))) (hb := (ss_one (s_set (i := 3) (hN := fun _ => sc_law_squares.nd) (h := (e_op o_add (b_of (e_var (i := 3))) (b_of (e_lc (hc := (fun _ => rfl)) (hN := fun _ => sc_law_squares.nd) (hi := (i_sq (e_call (hF := fun _ => (ok_law_rows_below T)) (hr := fun _ => hr.mono (by decide)) (hm := fun _ => T.m_law_rows_below) (hk := fun _ => T.f_law_rows_below.kp) (hb := fun _ => T.n_law_rows_below) (hx := fun _ => pass0) (ha := (a_cons (e_var (i := 4)) (a_cons (e_var (i := 0)) a_nil))) (hn := rfl)))) (own := [("row", 5)]) (hg := (g_name (i := 5) (hN := fun _ => sc_law_squares.nd))) (ht := ts_nil) (he := (e_op o_add (b_of (e_var (i := 4))) (b_of (e_tup (a_cons (e_var (i := 5)) a_nil)))))))))))))
  (ss_one (s_set (i := 1) (hN := fun _ => sc_law_squares.nd) (h := (e_var (i := 3)))))))))
  (ss_one (s_ret (e_var (i := 1))))))
theorem sc_law_puts : FnScope ["board", "many", "found", "r", "c", "taken", "row", "sign"] ["board"] (defScope s_law_puts) := ⟨rfl, rfl, rfl, by decide +kernel, rfl, by decide +kernel, by decide +kernel⟩
def b_law_puts : WS := (wSeq (wPar 1 2 (wCall cLen (wCons (wV 0) wNil)) (wLst wANil))
  (wSeq (wFor (wRng1 (wCons (wV 1) wNil)) (gN 3) (wFor (wRng1 (wCons (wV 1) wNil)) (gN 4) (wIfS (wTest (wIsN (wOp dIx (wOp dIx (wV 0) (wV 3)) (wV 4)))) (wSeq (wSet 5 (wOp dAdd (wCall cList (wCons (wOp dIx (wV 0) (wV 3)) wNil)) (wLc (wSq (wV 0)) (gN 6) wYes (wOp dIx (wV 6) (wV 4)) [6])))
  (wSet 2 (wOp dAdd (wV 2) (wLc (wRng1 (wCons (wV 1) wNil)) (gN 7) (wTest (wOp dNotIn (wV 7) (wV 5))) (wTup (wACons (wV 3) (wACons (wV 4) (wACons (wV 7) wANil)))) [7])))) wNext) [4, 5]) [3, 4, 5])
  (wRet (wV 2))))
def w_law_puts : WF := fnW 8 b_law_puts
theorem ok_law_puts (T : Tx K mg) : FnOk P w K mg base CX0 1 T.a_law_puts T.d_law_puts ["board"] (spW K 1 w_law_puts) :=
  fn_ok (wb := b_law_puts) T.f_law_puts sc_law_puts fun cdv A outer s H E hr => by
    have hu0 := room65 hr
    exact (ss_cons (s_par (i := 1) (j := 2) (hc := (fun _ => rfl)) (hN := fun _ => sc_law_puts.nd) (hij := by decide) (ha := (e_callB (ho := c_len) (hm := fun _ => T.b_len) (hv := PySem.boot_len) (ha := (l_cons (b_of (e_var (i := 0))) l_nil)))) (hb := (e_lst a_nil)))
  (ss_cons (s_for [3, 4, 5] (hp := fun _ => PassesOwn.never) (hc := (fun _ => rfl)) (hi := (i_rng1 (hm := fun _ => T.b_range) (ha := (l_cons (b_of (e_var (i := 1))) l_nil)))) (hg := (g_name (i := 3) (hN := fun _ => sc_law_puts.nd))) (hb := (ss_one (s_for [4, 5] (hp := fun _ => PassesOwn.never) (hc := (fun _ => rfl)) (hi := (i_rng1 (hm := fun _ => T.b_range) (ha := (l_cons (b_of (e_var (i := 1))) l_nil)))) (hg := (g_name (i := 4) (hN := fun _ => sc_law_puts.nd))) (hb := (ss_one (s_if (t_isN (b_of (e_ix (b_of (e_ix (b_of (e_var (i := 0))) (b_of (e_var (i := 3))))) (b_of (e_var (i := 4)))))) (ss_cons (s_set (i := 5) (hN := fun _ => sc_law_puts.nd) (h := (e_op o_add (b_of (e_callTy (ho := c_list) (hm := fun _ => T.b_list) (hv := boot_list) (ha := (l_cons (b_of (e_ix (b_of (e_var (i := 0))) (b_of (e_var (i := 3))))) l_nil)))) (b_of (e_lc (hc := (fun _ => rfl)) (hN := fun _ => sc_law_puts.nd) (hi := (i_sq (e_var (i := 0)))) (own := [("row", 6)]) (hg := (g_name (i := 6) (hN := fun _ => sc_law_puts.nd))) (ht := ts_nil) (he := (e_ix (b_of (e_var (i := 6))) (b_of (e_var (i := 4))))))))))
  (ss_one (s_set (i := 2) (hN := fun _ => sc_law_puts.nd) (h := (e_op o_add (b_of (e_var (i := 2))) (b_of (e_lc (hc := (fun _ => rfl)) (hN := fun _ => sc_law_puts.nd) (hi := (i_rng1 (hm := fun _ => T.b_range) (ha := (l_cons (b_of (e_var (i := 1))) l_nil)))) (own := [("sign", 7)]) (hg := (g_name (i := 7) (hN := fun _ => sc_law_puts.nd))) (ht := (ts_one (t_cmp (o_notIn (fun _ => hu0)) (b_of (e_var (i := 7))) (b_of (e_var (i := 5))) rfl))) (he := (e_tup (a_cons (e_var (i := 3)) (a_cons (e_var (i := 4)) (a_cons (e_var (i := 7)) a_nil)))))))))))) ss_nil)))))))
  (ss_one (s_ret (e_var (i := 2))))))
theorem sc_law_after : FnScope ["board", "told", "r", "c", "sign", "row"] ["board", "told"] (defScope s_law_after) := ⟨rfl, rfl, rfl, by decide +kernel, rfl, by decide +kernel, by decide +kernel⟩
def b_law_after : WS := (wSeq (wAsgG (wV 1) (gT (gCons (gN 2) (gCons (gN 3) (gCons (gN 4) gNil)))))
  (wSeq (wSet 5 (wOp dAdd (wOp dAdd (wSl (wOp dIx (wV 0) (wV 2)) wNoP (wSomeP (wV 3))) (wTup (wACons (wV 4) wANil))) (wSl (wOp dIx (wV 0) (wV 2)) (wSomeP (wOp dAdd (wV 3) (wC (.int 1)))) wNoP)))
  (wRet (wOp dAdd (wOp dAdd (wSl (wV 0) wNoP (wSomeP (wV 2))) (wTup (wACons (wV 5) wANil))) (wSl (wV 0) (wSomeP (wOp dAdd (wV 2) (wC (.int 1)))) wNoP)))))
def w_law_after : WF := fnW 6 b_law_after
theorem ok_law_after (T : Tx K mg) : FnOk P w K mg base CX0 1 T.a_law_after T.d_law_after ["board", "told"] (spW K 2 w_law_after) :=
  fn_ok (wb := b_law_after) T.f_law_after sc_law_after fun cdv A outer s H E hr => by
    have hu0 := room65 hr
    exact (ss_cons (s_asg (e_var (i := 1)) (g_tup 3 (hc := (fun _ => rfl)) (h := (gs_cons (g_name (i := 2) (hN := fun _ => sc_law_after.nd)) (gs_cons (g_name (i := 3) (hN := fun _ => sc_law_after.nd)) (gs_cons (g_name (i := 4) (hN := fun _ => sc_law_after.nd)) gs_nil)))) (hn := fun _ => rfl) (hl := (gCons_len (gCons_len (gCons_len gNil_len))))))
  (ss_cons (s_set (i := 5) (hN := fun _ => sc_law_after.nd) (h := (e_op o_add (b_of (e_op o_add (b_of (e_sl (b_of (e_ix (b_of (e_var (i := 0))) (b_of (e_var (i := 2))))) p_none (p_some (e_var (i := 3))))) (b_of (e_tup (a_cons (e_var (i := 4)) a_nil))))) (b_of (e_sl (b_of (e_ix (b_of (e_var (i := 0))) (b_of (e_var (i := 2))))) (p_some (e_op o_add (b_of (e_var (i := 3))) (b_of e_int))) p_none)))))
  (ss_one (s_ret (e_op o_add (b_of (e_op o_add (b_of (e_sl (b_of (e_var (i := 0))) p_none (p_some (e_var (i := 2))))) (b_of (e_tup (a_cons (e_var (i := 5)) a_nil))))) (b_of (e_sl (b_of (e_var (i := 0))) (p_some (e_op o_add (b_of (e_var (i := 2))) (b_of e_int))) p_none)))))))
theorem sc_law_open : FnScope ["board", "row", "sign"] ["board"] (defScope s_law_open) := ⟨rfl, rfl, rfl, by decide +kernel, rfl, by decide +kernel, by decide +kernel⟩
def b_law_open : WS := (wRet (wCall cSum (wCons (wLc (wSq (wV 0)) (gN 1) wYes (wCall cLen (wCons (wLc (wSq (wV 1)) (gN 2) (wTest (wIsN (wV 2))) (wC (.int 1)) [2]) wNil)) [1]) wNil)))
def w_law_open : WF := fnW 3 b_law_open
theorem ok_law_open (T : Tx K mg) : FnOk P w K mg base CX0 1 T.a_law_open T.d_law_open ["board"] (spW K 1 w_law_open) :=
  fn_ok (wb := b_law_open) T.f_law_open sc_law_open fun cdv A outer s H E hr => by
    have hu0 := room65 hr
    exact (ss_one (s_ret (e_callB (ho := (c_sum (fun _ => rfl))) (hm := fun _ => T.b_sum) (hv := boot_sum) (ha := (l_cons (b_of (e_lc (hc := (fun _ => rfl)) (hN := fun _ => sc_law_open.nd) (hi := (i_sq (e_var (i := 0)))) (own := [("row", 1)]) (hg := (g_name (i := 1) (hN := fun _ => sc_law_open.nd))) (ht := ts_nil) (he := (e_callB (ho := c_len) (hm := fun _ => T.b_len) (hv := PySem.boot_len) (ha := (l_cons (b_of (e_lc (hc := (fun _ => rfl)) (hN := fun _ => sc_law_open.nd) (hi := (i_sq (e_var (i := 1)))) (own := [("sign", 2)]) (hg := (g_name (i := 2) (hN := fun _ => sc_law_open.nd))) (ht := (ts_one (t_isN (b_of (e_var (i := 2)))))) (he := e_int))) l_nil)))))) l_nil)))))
theorem sc_law_board : FnScope ["hand", "most", "many", "board", "puts", "turn"] ["hand", "most"] (defScope s_law_board) := ⟨rfl, rfl, rfl, by decide +kernel, rfl, by decide +kernel, by decide +kernel⟩
def b_law_board : WS := (wSeq (wSet 2 (wOp dAdd (wC (.int 1)) (wCl wDraw (wAOb 0 (wACons (wC (.int 3)) wANil)))))
  (wSeq (wSet 3 (wOp dMul (wTup (wACons (wOp dMul (wTup (wACons (wC .none) wANil)) (wV 2)) wANil)) (wV 2)))
  (wSeq (wWhile (wTest (wOp dGt (wCl w_law_open (wACons (wV 3) wANil)) (wV 1))) (wSeq (wSet 4 (wCl w_law_puts (wACons (wV 3) wANil)))
  (wSeq (wIfS (wTest (wOp dEq (wCall cLen (wCons (wV 4) wNil)) (wC (.int 0)))) (wRet (wTup (wACons (wTup (wACons (wC .none) (wACons (wC (.int 0)) wANil))) (wACons (wTup (wACons (wC (.int 0)) (wACons (wC .none) wANil))) wANil)))) wNext)
  (wSet 3 (wCl w_law_after (wACons (wV 3) (wACons (wCl w_law_some (wAOb 0 (wACons (wV 4) wANil))) wANil)))))) [4])
  (wSeq (wFor (wRng1 (wCons (wCl wDraw (wAOb 0 (wACons (wC (.int 3)) wANil))) wNil)) (gN 5) (wSeq (wSet 4 (wCl w_law_puts (wACons (wV 3) wANil)))
  (wSet 3 (wIf (wTest (wOp dGt (wCall cLen (wCons (wV 4) wNil)) (wC (.int 0)))) (wCl w_law_after (wACons (wV 3) (wACons (wCl w_law_some (wAOb 0 (wACons (wV 4) wANil))) wANil))) (wV 3)))) [4, 5])
  (wRet (wV 3))))))
def w_law_board : WF := fnW 6 b_law_board
theorem ok_law_board (T : Tx K mg) : FnOk P w K mg base CX0 3 T.a_law_board T.d_law_board ["hand", "most"] (spW K 2 w_law_board) :=
  fn_ok (wb := b_law_board) T.f_law_board sc_law_board fun cdv A outer s H E hr => by
    have hu0 := room65 hr
    exact (ss_cons (s_set (i := 2) (hN := fun _ => sc_law_board.nd) (h := (e_op o_add (b_of e_int) (b_of (e_call (hF := fun _ => (ok_law_draw T)) (hr := fun _ => hr.mono (by decide)) (hm := fun _ => T.m_law_draw) (hk := fun _ => T.f_law_draw.kp) (hb := fun _ => T.n_law_draw) (hx := fun _ => pass0) (ha := (a_ob (i := 0) (hr := (a_cons e_int a_nil)))) (hn := rfl))))))
  (ss_cons (s_set (i := 3) (hN := fun _ => sc_law_board.nd) (h := (e_op o_mul (b_of (e_tup (a_cons (e_op o_mul (b_of (e_tup (a_cons e_non a_nil))) (b_of (e_var (i := 2)))) a_nil))) (b_of (e_var (i := 2))))))
  (ss_cons (s_while [4] (hp := fun _ => PassesOwn.never) (hc := (t_cmp o_gt (b_of (e_call (hF := fun _ => (ok_law_open T)) (hr := fun _ => hr.mono (by decide)) (hm := fun _ => T.m_law_open) (hk := fun _ => T.f_law_open.kp) (hb := fun _ => T.n_law_open) (hx := fun _ => pass0) (ha := (a_cons (e_var (i := 3)) a_nil)) (hn := rfl))) (b_of (e_var (i := 1))) (nomark _))) (hb := (ss_cons (s_set (i := 4) (hN := fun _ => sc_law_board.nd) (h := (e_call (hF := fun _ => (ok_law_puts T)) (hr := fun _ => hr.mono (by decide)) (hm := fun _ => T.m_law_puts) (hk := fun _ => T.f_law_puts.kp) (hb := fun _ => T.n_law_puts) (hx := fun _ => pass0) (ha := (a_cons (e_var (i := 3)) a_nil)) (hn := rfl))))
  (ss_cons (s_if (t_cmp (o_eq (fun _ => hu0)) (b_of (e_callB (ho := c_len) (hm := fun _ => T.b_len) (hv := PySem.boot_len) (ha := (l_cons (b_of (e_var (i := 4))) l_nil)))) (b_of e_int) (nomark _)) (ss_one (s_ret (e_tup (a_cons (e_tup (a_cons e_non (a_cons e_int a_nil))) (a_cons (e_tup (a_cons e_int (a_cons e_non a_nil))) a_nil))))) ss_nil)
  (ss_one (s_set (i := 3) (hN := fun _ => sc_law_board.nd) (h := (e_call (hF := fun _ => (ok_law_after T)) (hr := fun _ => hr.mono (by decide)) (hm := fun _ => T.m_law_after) (hk := fun _ => T.f_law_after.kp) (hb := fun _ => T.n_law_after) (hx := fun _ => pass0) (ha := (a_cons (e_var (i := 3)) (a_cons (e_call (hF := fun _ => (ok_law_some T)) (hr := fun _ => hr.mono (by decide)) (hm := fun _ => T.m_law_some) (hk := fun _ => T.f_law_some.kp) (hb := fun _ => T.n_law_some) (hx := fun _ => pass0) (ha := (a_ob (i := 0) (hr := (a_cons (e_var (i := 4)) a_nil)))) (hn := rfl)) a_nil))) (hn := rfl)))))))))
  (ss_cons (s_for [4, 5] (hp := fun _ => PassesOwn.never) (hc := (fun _ => rfl)) (hi := (i_rng1 (hm := fun _ => T.b_range) (ha := (l_cons (b_of (e_call (hF := fun _ => (ok_law_draw T)) (hr := fun _ => hr.mono (by decide)) (hm := fun _ => T.m_law_draw) (hk := fun _ => T.f_law_draw.kp) (hb := fun _ => T.n_law_draw) (hx := fun _ => pass0) (ha := (a_ob (i := 0) (hr := (a_cons e_int a_nil)))) (hn := rfl))) l_nil)))) (hg := (g_name (i := 5) (hN := fun _ => sc_law_board.nd))) (hb := (ss_cons (s_set (i := 4) (hN := fun _ => sc_law_board.nd) (h := (e_call (hF := fun _ => (ok_law_puts T)) (hr := fun _ => hr.mono (by decide)) (hm := fun _ => T.m_law_puts) (hk := fun _ => T.f_law_puts.kp) (hb := fun _ => T.n_law_puts) (hx := fun _ => pass0) (ha := (a_cons (e_var (i := 3)) a_nil)) (hn := rfl))))
  (ss_one (s_set (i := 3) (hN := fun _ => sc_law_board.nd) (h := (e_if (t_cmp o_gt (b_of (e_callB (ho := c_len) (hm := fun _ => T.b_len) (hv := PySem.boot_len) (ha := (l_cons (b_of (e_var (i := 4))) l_nil)))) (b_of e_int) (nomark _)) (e_call (hF := fun _ => (ok_law_after T)) (hr := fun _ => hr.mono (by decide)) (hm := fun _ => T.m_law_after) (hk := fun _ => T.f_law_after.kp) (hb := fun _ => T.n_law_after) (hx := fun _ => pass0) (ha := (a_cons (e_var (i := 3)) (a_cons (e_call (hF := fun _ => (ok_law_some T)) (hr := fun _ => hr.mono (by decide)) (hm := fun _ => T.m_law_some) (hk := fun _ => T.f_law_some.kp) (hb := fun _ => T.n_law_some) (hx := fun _ => pass0) (ha := (a_ob (i := 0) (hr := (a_cons (e_var (i := 4)) a_nil)))) (hn := rfl)) a_nil))) (hn := rfl)) (e_var (i := 3)))))))))
  (ss_one (s_ret (e_var (i := 3))))))))
theorem sc_law_is : FnScope ["told", "due", "one", "two", "key"] ["told", "due"] (defScope s_law_is) := ⟨rfl, rfl, rfl, by decide +kernel, rfl, by decide +kernel, by decide +kernel⟩
def b_law_is (self : WF) : WS := (wSeq (wIfS (wTest (wIsi (wV 1) ["tuple", "list"])) (wSeq (wIfS (wOr (wTest (wOp dNe (wIsi (wV 0) ["tuple"]) (wIsi (wV 1) ["tuple"]))) (wNot (wTest (wIsi (wV 0) ["tuple", "list"])))) (wRet (wC (.bool false))) wNext)
  (wRet (wAndV (wOp dEq (wCall cLen (wCons (wV 0) wNil)) (wCall cLen (wCons (wV 1) wNil))) (wCall cAll (wCons (wLc (wZip (wV 0) (wV 1)) (gT (gCons (gN 2) (gCons (gN 3) gNil))) wYes (wCl self (wACons (wV 2) (wACons (wV 3) wANil))) [2, 3]) wNil))))) wNext)
  (wSeq (wIfS (wTest (wIsi (wV 1) ["dict"])) wNever wNext)
  (wSeq (wIfS (wOr (wTest (wIsi (wV 1) ["str"])) (wTest (wIsN (wV 1)))) (wRet (wAndV (wOp dEq (wIsi (wV 0) ["str"]) (wIsi (wV 1) ["str"])) (wOp dEq (wV 0) (wV 1)))) wNext)
  (wRet (wAndV (wIsi (wV 0) ["int"]) (wAndV (wOp dEq (wIsi (wV 0) ["bool"]) (wIsi (wV 1) ["bool"])) (wOp dEq (wV 0) (wV 1))))))))
def w_law_is : Nat → WF
  | 0 => fun _ _ _ => False
  | n + 1 => fnW 5 (b_law_is (w_law_is n))
theorem ok_law_is {P : Program} {w : World} {K : PySem.W.Frag} {mg : Str → Option Value} {base : Heap} (T : Tx K mg) : ∀ n : Nat, FnOk P w K mg base CX0 (0 + n) T.a_law_is T.d_law_is ["told", "due"] (spW K 2 (w_law_is n))
  | 0 => fn_false rfl
  | n + 1 => by
    have ih := ok_law_is (P := P) (w := w) (base := base) T n
    refine fn_ok (wb := b_law_is (w_law_is n)) T.f_law_is sc_law_is fun cdv A outer s H E hr => ?_
    have hu0 := room65 hr
    exact (ss_cons (s_if (t_val (e_isi2 (hm := fun _ => T.b_isinstance) (hv := boot_isinstance) (hm2 := fun _ => T.b_tuple) (hv2 := boot_tuple) (hm3 := fun _ => T.b_list) (hv3 := boot_list) (h := (b_of (e_var (i := 1)))))) (ss_cons (s_if (t_of (tw_or (t_cmp (o_ne (fun _ => hu0)) (b_of (e_isi (hm := fun _ => T.b_isinstance) (hv := boot_isinstance) (hm2 := fun _ => T.b_tuple) (hv2 := boot_tuple) (h := (b_of (e_var (i := 0)))))) (b_of (e_isi (hm := fun _ => T.b_isinstance) (hv := boot_isinstance) (hm2 := fun _ => T.b_tuple) (hv2 := boot_tuple) (h := (b_of (e_var (i := 1)))))) (nomark _)) (tw_or1 (t_not (t_val (e_isi2 (hm := fun _ => T.b_isinstance) (hv := boot_isinstance) (hm2 := fun _ => T.b_tuple) (hv2 := boot_tuple) (hm3 := fun _ => T.b_list) (hv3 := boot_list) (h := (b_of (e_var (i := 0)))))))))) (ss_one (s_ret e_bl)) ss_nil)
  (ss_one (s_ret (e_and (e_cmp (o_eq (fun _ => hu0)) (b_of (e_callB (ho := c_len) (hm := fun _ => T.b_len) (hv := PySem.boot_len) (ha := (l_cons (b_of (e_var (i := 0))) l_nil)))) (b_of (e_callB (ho := c_len) (hm := fun _ => T.b_len) (hv := PySem.boot_len) (ha := (l_cons (b_of (e_var (i := 1))) l_nil)))) (nomark _)) (e_one (e_callB (ho := (c_all (fun _ => rfl))) (hm := fun _ => T.b_all) (hv := boot_all) (ha := (l_cons (b_of (e_lc (hc := (fun _ => rfl)) (hN := fun _ => sc_law_is.nd) (hi := (i_zip (hm := fun _ => T.b_zip) (ha := (e_var (i := 0))) (hb := (e_var (i := 1))))) (own := [("one", 2), ("two", 3)]) (hg := (g_tup 2 (hc := (fun _ => rfl)) (h := (gs_cons (g_name (i := 2) (hN := fun _ => sc_law_is.nd)) (gs_cons (g_name (i := 3) (hN := fun _ => sc_law_is.nd)) gs_nil))) (hn := fun _ => rfl) (hl := (gCons_len (gCons_len gNil_len))))) (ht := ts_nil) (he := (e_call (hF := fun _ => ih) (hr := fun _ => hr) (hm := fun _ => T.m_law_is) (hk := fun _ => T.f_law_is.kp) (hb := fun _ => T.n_law_is) (hx := fun _ => pass0) (ha := (a_cons (e_var (i := 2)) (a_cons (e_var (i := 3)) a_nil))) (hn := rfl))))) l_nil)))))))) ss_nil)
  (ss_cons (s_if (t_val (e_isi (hm := fun _ => T.b_isinstance) (hv := boot_isinstance) (hm2 := fun _ => T.b_dict) (hv2 := boot_dict) (h := (b_of (e_var (i := 1)))))) ss_never ss_nil)
  (ss_cons (s_if (t_of (tw_or (t_val (e_isi (hm := fun _ => T.b_isinstance) (hv := boot_isinstance) (hm2 := fun _ => T.b_str) (hv2 := boot_str) (h := (b_of (e_var (i := 1)))))) (tw_or1 (t_isN (b_of (e_var (i := 1))))))) (ss_one (s_ret (e_and (e_cmp (o_eq (fun _ => hu0)) (b_of (e_isi (hm := fun _ => T.b_isinstance) (hv := boot_isinstance) (hm2 := fun _ => T.b_str) (hv2 := boot_str) (h := (b_of (e_var (i := 0)))))) (b_of (e_isi (hm := fun _ => T.b_isinstance) (hv := boot_isinstance) (hm2 := fun _ => T.b_str) (hv2 := boot_str) (h := (b_of (e_var (i := 1)))))) (nomark _)) (e_one (e_cmp (o_eq (fun _ => hu0)) (b_of (e_var (i := 0))) (b_of (e_var (i := 1))) (nomark _)))))) ss_nil)
  (ss_one (s_ret (e_and (e_isi (hm := fun _ => T.b_isinstance) (hv := boot_isinstance) (hm2 := fun _ => T.b_int) (hv2 := boot_int) (h := (b_of (e_var (i := 0))))) (e_and (e_cmp (o_eq (fun _ => hu0)) (b_of (e_isi (hm := fun _ => T.b_isinstance) (hv := boot_isinstance) (hm2 := fun _ => T.b_bool) (hv2 := boot_bool) (h := (b_of (e_var (i := 0)))))) (b_of (e_isi (hm := fun _ => T.b_isinstance) (hv := boot_isinstance) (hm2 := fun _ => T.b_bool) (hv2 := boot_bool) (h := (b_of (e_var (i := 1)))))) (nomark _)) (e_one (e_cmp (o_eq (fun _ => hu0)) (b_of (e_var (i := 0))) (b_of (e_var (i := 1))) (nomark _))))))))))
theorem sc_law_fill : FnScope ["board", "every", "found", "square", "good", "r", "row", "c", "sign"] ["board", "every"] (defScope s_law_fill) := ⟨rfl, rfl, rfl, by decide +kernel, rfl, by decide +kernel, by decide +kernel⟩
def b_law_fill : WS := (wSeq (wSetN 2 (wLstN wANil))
  (wSeq (wFor (wSq (wV 1)) (gN 3) (wSeq (wSet 4 (wC (.bool true)))
  (wSeq (wFor (wEnum (wV 0)) (gT (gCons (gN 5) (gCons (gN 6) gNil))) (wSet 4 (wAndV (wV 4) (wCall cAll (wCons (wLc (wEnum (wV 6)) (gT (gCons (gN 7) (gCons (gN 8) gNil))) wYes (wOrV (wIsN (wV 8)) (wOp dEq (wOp dIx (wOp dIx (wV 3) (wV 5)) (wV 7)) (wV 8))) [7, 8]) wNil)))) [5, 6])
  (wIfS (wTest (wV 4)) (wApp 2 (wV 3)) wNext))) [3, 4, 5, 6])
  (wRetOw 2)))
def w_law_fill : WF := fnW 9 b_law_fill
theorem ok_law_fill (T : Tx K mg) : FnOk P w K mg base CX0 1 T.a_law_fill T.d_law_fill ["board", "every"] (spW K 2 w_law_fill) :=
  fn_ok (wb := b_law_fill) T.f_law_fill sc_law_fill fun cdv A outer s H E hr => by
    have hu0 := room65 hr
    exact (ss_cons (s_setN (i := 2) (hN := fun _ => sc_law_fill.nd) (h := (n_lst a_nil)))
  (ss_cons (s_for [3, 4, 5, 6] (hp := fun _ => PassesOwn.never) (hc := (fun _ => rfl)) (hi := (i_sq (e_var (i := 1)))) (hg := (g_name (i := 3) (hN := fun _ => sc_law_fill.nd))) (hb := (ss_cons (s_set (i := 4) (hN := fun _ => sc_law_fill.nd) (h := e_bl))
  (ss_cons (s_for [5, 6] (hp := fun _ => PassesOwn.never) (hc := (fun _ => rfl)) (hi := (i_enum (hm := fun _ => T.b_enumerate) (h := (e_var (i := 0))))) (hg := (g_tup 2 (hc := (fun _ => rfl)) (h := (gs_cons (g_name (i := 5) (hN := fun _ => sc_law_fill.nd)) (gs_cons (g_name (i := 6) (hN := fun _ => sc_law_fill.nd)) gs_nil))) (hn := fun _ => rfl) (hl := (gCons_len (gCons_len gNil_len))))) (hb := (ss_one (s_set (i := 4) (hN := fun _ => sc_law_fill.nd) (h := (e_and (e_var (i := 4)) (e_one (e_callB (ho := (c_all (fun _ => rfl))) (hm := fun _ => T.b_all) (hv := boot_all) (ha := (l_cons (b_of (e_lc (hc := (fun _ => rfl)) (hN := fun _ => sc_law_fill.nd) (hi := (i_enum (hm := fun _ => T.b_enumerate) (h := (e_var (i := 6))))) (own := [("c", 7), ("sign", 8)]) (hg := (g_tup 2 (hc := (fun _ => rfl)) (h := (gs_cons (g_name (i := 7) (hN := fun _ => sc_law_fill.nd)) (gs_cons (g_name (i := 8) (hN := fun _ => sc_law_fill.nd)) gs_nil))) (hn := fun _ => rfl) (hl := (gCons_len (gCons_len gNil_len))))) (ht := ts_nil) (he := (e_or (e_isN (b_of (e_var (i := 8)))) (e_one (e_cmp (o_eq (fun _ => hu0)) (b_of (e_ix (b_of (e_ix (b_of (e_var (i := 3))) (b_of (e_var (i := 5))))) (b_of (e_var (i := 7))))) (b_of (e_var (i := 8))) (nomark _))))))) l_nil))))))))))
  (ss_one (s_if (t_val (e_var (i := 4))) (ss_one (s_app (i := 2) (h := (e_var (i := 3))))) ss_nil))))))
  (ss_one (s_retOw (j := 2)))))
theorem sc_law : FnScope ["script", "hand", "turn", "board", "many", "puts", "every", "some", "dead", "r", "c", "forced", "sign", "safe", "told", "square"] ["script"] (defScope s_law) := ⟨rfl, rfl, rfl, by decide +kernel, rfl, by decide +kernel, by decide +kernel⟩
def c1_law : WS := (wFrz 11 (wFor (wSq (wV 11)) (gT (gCons (gN 9) (gCons (gN 10) (gCons (gN 12) gNil)))) (wIfS (wTest (wCall cAny (wCons (wLc (wSq (wV 13)) (gN 14) wYes (wAndV (wOp dEq (wSl (wV 14) wNoP (wSomeP (wC (.int 2)))) (wTup (wACons (wV 9) (wACons (wV 10) wANil)))) (wOp dNe (wOp dIx (wV 14) (wC (.int 2))) (wV 12))) [14]) wNil))) (wRet (wC (.bool false))) wNext) [9, 10, 12]))
def c2_law (T : Tx K mg) : WS := (wSeq (wIfS (wNot (wTest (wCl (w_law_is 3) (wACons (wCl (w_safe_puts T) (wACons (wV 3) wANil)) (wACons (wCall cTuple (wCons (wV 13) wNil)) wANil))))) (wRet (wC (.bool false))) wNext)
  c1_law)
def c3_law (T : Tx K mg) : WS := (wSeq (wSet 13 (wLc (wSq (wV 5)) (gN 14) (wTest (wCall cAny (wCons (wLc (wSq (wV 7)) (gN 15) wYes (wOp dEq (wOp dIx (wOp dIx (wV 15) (wOp dIx (wV 14) (wC (.int 0)))) (wOp dIx (wV 14) (wC (.int 1)))) (wOp dIx (wV 14) (wC (.int 2)))) [15]) wNil))) (wV 14) [14]))
  (c2_law T))
def c4_law (T : Tx K mg) : WS := (wSeq (wIfS (wNot (wTest (wCl (w_law_is 3) (wACons (wCl (w_forced_puts T) (wACons (wV 3) wANil)) (wACons (wCall cTuple (wCons (wVB 11) wNil)) wANil))))) (wRet (wC (.bool false))) wNext)
  (c3_law T))
def c5_law (T : Tx K mg) : WS := (wSeq (wFor (wSq (wV 5)) (gT (gCons (gN 9) (gCons (gN 10) (gCons (gN 12) gNil)))) (wIfS (wAnd (wTest (wOp dGt (wCall cLen (wCons (wV 7) wNil)) (wC (.int 0)))) (wTest (wCall cAll (wCons (wLc (wSq (wV 7)) (gN 15) wYes (wOp dEq (wOp dIx (wOp dIx (wV 15) (wV 9)) (wV 10)) (wV 12)) [15]) wNil)))) (wApp 11 (wTup (wACons (wV 9) (wACons (wV 10) (wACons (wV 12) wANil))))) wNext) [9, 10, 12])
  (c4_law T))
def c6_law (T : Tx K mg) : WS := (wSeq (wSetN 11 (wLstN wANil))
  (c5_law T))
def c7_law (T : Tx K mg) : WS := (wSeq (wIfS (wOr (wNot (wTest (wCl (w_law_is 3) (wACons (wCl (w_dead_cells T) (wACons (wV 3) wANil)) (wACons (wCall cTuple (wCons (wVB 8) wNil)) wANil))))) (wAnd (wTest (wOp dGt (wCall cLen (wCons (wVB 8) wNil)) (wC (.int 0)))) (wTest (wOp dGt (wCall cLen (wCons (wV 7) wNil)) (wC (.int 0)))))) (wRet (wC (.bool false))) wNext)
  (c6_law T))
def c8_law (T : Tx K mg) : WS := (wSeq (wFor (wRng1 (wCons (wV 4) wNil)) (gN 9) (wFor (wRng1 (wCons (wV 4) wNil)) (gN 10) (wIfS (wAnd (wTest (wIsN (wOp dIx (wOp dIx (wV 3) (wV 9)) (wV 10)))) (wTest (wOp dNotIn (wTup (wACons (wV 9) (wACons (wV 10) wANil))) (wLc (wSq (wV 5)) (gN 14) wYes (wSl (wV 14) wNoP (wSomeP (wC (.int 2)))) [14])))) (wApp 8 (wTup (wACons (wV 9) (wACons (wV 10) wANil)))) wNext) [10]) [9, 10])
  (c7_law T))
def c9_law (T : Tx K mg) : WS := (wSeq (wSetN 8 (wLstN wANil))
  (c8_law T))
def c10_law (T : Tx K mg) : WS := (wSeq (wIfS (wNot (wTest (wCl (w_law_is 3) (wACons (wCl (w_fillings T) (wACons (wV 3) wANil)) (wACons (wCall cLen (wCons (wV 7) wNil)) wANil))))) (wRet (wC (.bool false))) wNext)
  (c9_law T))
def c11_law (T : Tx K mg) : WS := (wSeq (wSet 7 (wCl w_law_fill (wACons (wV 3) (wACons (wV 6) wANil))))
  (c10_law T))
def c12_law (T : Tx K mg) : WS := (wSeq (wSet 6 (wCl w_law_squares (wACons (wV 4) wANil)))
  (c11_law T))
def c13_law (T : Tx K mg) : WS := (wSeq (wPar 4 5 (wCall cLen (wCons (wV 3) wNil)) (wCl w_law_puts (wACons (wV 3) wANil)))
  (c12_law T))
def c14_law : WS := (wRet (wC (.bool true)))
def b_law (T : Tx K mg) : WS := (wSeq (wFor (wRng1 (wCons (wC (.int 6)) wNil)) (gN 2) (wSeq (wSet 3 (wCl w_law_board (wAOb 1 (wACons (wC (.int 9)) wANil))))
  (c13_law T)) [2, 3, 4, 5, 6, 7, 8, 9, 10, 11, 12, 13])
  c14_law)
theorem den_law (T : Tx K mg) (cdv : Value) (A : Around) (outer : List PySem.Env) (s : Shared) (H : Hp) (E : XK) (hr : Room 5 (A.deeper (envOfC "law" (defScope s_law) s.heap.objs.size T.a_law cdv))) : Dens (famOf P w K mg base ["script", "hand", "turn", "board", "many", "puts", "every", "some", "dead", "r", "c", "forced", "sign", "safe", "told", "square"] "law" s_law T.a_law cdv A outer s H E) Wno ((defBody s_law).drop 1) (b_law T) := by
    have hu0 := room65 hr
    exact (ss_cons (s_for [2, 3, 4, 5, 6, 7, 8, 9, 10, 11, 12, 13] (hp := fun _ => PassesOwn.never) (hc := (fun _ => rfl)) (hi := (i_rng1 (hm := fun _ => T.b_range) (ha := (l_cons (b_of e_int) l_nil)))) (hg := (g_name (i := 2) (hN := fun _ => sc_law.nd))) (hb := (ss_cons (s_set (i := 3) (hN := fun _ => sc_law.nd) (h := (e_call (hF := fun _ => (ok_law_board T)) (hr := fun _ => hr.mono (by decide)) (hm := fun _ => T.m_law_board) (hk := fun _ => T.f_law_board.kp) (hb := fun _ => T.n_law_board) (hx := fun _ => pass0) (ha := (a_ob (i := 1) (hr := (a_cons e_int a_nil)))) (hn := rfl))))
  (ss_cons (s_par (i := 4) (j := 5) (hc := (fun _ => rfl)) (hN := fun _ => sc_law.nd) (hij := by decide) (ha := (e_callB (ho := c_len) (hm := fun _ => T.b_len) (hv := PySem.boot_len) (ha := (l_cons (b_of (e_var (i := 3))) l_nil)))) (hb := (e_call (hF := fun _ => (ok_law_puts T)) (hr := fun _ => hr.mono (by decide)) (hm := fun _ => T.m_law_puts) (hk := fun _ => T.f_law_puts.kp) (hb := fun _ => T.n_law_puts) (hx := fun _ => pass0) (ha := (a_cons (e_var (i := 3)) a_nil)) (hn := rfl))))
  (ss_cons (s_set (i := 6) (hN := fun _ => sc_law.nd) (h := (e_call (hF := fun _ => (ok_law_squares T)) (hr := fun _ => hr.mono (by decide)) (hm := fun _ => T.m_law_squares) (hk := fun _ => T.f_law_squares.kp) (hb := fun _ => T.n_law_squares) (hx := fun _ => pass0) (ha := (a_cons (e_var (i := 4)) a_nil)) (hn := rfl))))
  (ss_cons (s_set (i := 7) (hN := fun _ => sc_law.nd) (h := (e_call (hF := fun _ => (ok_law_fill T)) (hr := fun _ => hr.mono (by decide)) (hm := fun _ => T.m_law_fill) (hk := fun _ => T.f_law_fill.kp) (hb := fun _ => T.n_law_fill) (hx := fun _ => pass0) (ha := (a_cons (e_var (i := 3)) (a_cons (e_var (i := 6)) a_nil))) (hn := rfl))))
  (ss_cons (s_if (t_not (t_val (e_call (hF := fun _ => (ok_law_is T 3)) (hr := fun _ => hr.mono (by decide)) (hm := fun _ => T.m_law_is) (hk := fun _ => T.f_law_is.kp) (hb := fun _ => T.n_law_is) (hx := fun _ => pass0) (ha := (a_cons (e_call (hF := fun _ => (ok_fillings T)) (hr := fun _ => hr.mono (by decide)) (hm := fun _ => T.m_fillings) (hk := fun _ => T.f_fillings.kp) (hb := fun _ => T.n_fillings) (hx := fun _ => passL) (ha := (a_cons (e_var (i := 3)) a_nil)) (hn := rfl)) (a_cons (e_callB (ho := c_len) (hm := fun _ => T.b_len) (hv := PySem.boot_len) (ha := (l_cons (b_of (e_var (i := 7))) l_nil))) a_nil))) (hn := rfl)))) (ss_one (s_ret e_bl)) ss_nil)
  (ss_cons (s_setN (i := 8) (hN := fun _ => sc_law.nd) (h := (n_lst a_nil)))
  (ss_cons (s_for [9, 10] (hp := fun _ => PassesOwn.never) (hc := (fun _ => rfl)) (hi := (i_rng1 (hm := fun _ => T.b_range) (ha := (l_cons (b_of (e_var (i := 4))) l_nil)))) (hg := (g_name (i := 9) (hN := fun _ => sc_law.nd))) (hb := (ss_one (s_for [10] (hp := fun _ => PassesOwn.never) (hc := (fun _ => rfl)) (hi := (i_rng1 (hm := fun _ => T.b_range) (ha := (l_cons (b_of (e_var (i := 4))) l_nil)))) (hg := (g_name (i := 10) (hN := fun _ => sc_law.nd))) (hb := (ss_one (s_if (t_of (tw_and (t_isN (b_of (e_ix (b_of (e_ix (b_of (e_var (i := 3))) (b_of (e_var (i := 9))))) (b_of (e_var (i := 10)))))) (tw_and1 (t_cmp (o_notIn (fun _ => hu0)) (b_of (e_tup (a_cons (e_var (i := 9)) (a_cons (e_var (i := 10)) a_nil)))) (b_of (e_lc (hc := (fun _ => rfl)) (hN := fun _ => sc_law.nd) (hi := (i_sq (e_var (i := 5)))) (own := [("told", 14)]) (hg := (g_name (i := 14) (hN := fun _ => sc_law.nd))) (ht := ts_nil) (he := (e_sl (b_of (e_var (i := 14))) p_none (p_some e_int))))) rfl)))) (ss_one (s_app (i := 8) (h := (e_tup (a_cons (e_var (i := 9)) (a_cons (e_var (i := 10)) a_nil)))))) ss_nil)))))))
  (ss_cons (s_if (t_of (tw_or (t_not (t_val (e_call (hF := fun _ => (ok_law_is T 3)) (hr := fun _ => hr.mono (by decide)) (hm := fun _ => T.m_law_is) (hk := fun _ => T.f_law_is.kp) (hb := fun _ => T.n_law_is) (hx := fun _ => pass0) (ha := (a_cons (e_call (hF := fun _ => (ok_dead_cells T)) (hr := fun _ => hr.mono (by decide)) (hm := fun _ => T.m_dead_cells) (hk := fun _ => T.f_dead_cells.kp) (hb := fun _ => T.n_dead_cells) (hx := fun _ => passL) (ha := (a_cons (e_var (i := 3)) a_nil)) (hn := rfl)) (a_cons (e_callTy (ho := c_tuple) (hm := fun _ => T.b_tuple) (hv := boot_tuple) (ha := (l_cons (b_var (i := 8)) l_nil))) a_nil))) (hn := rfl)))) (tw_or1 (t_of (tw_and (t_cmp o_gt (b_of (e_callB (ho := c_len) (hm := fun _ => T.b_len) (hv := PySem.boot_len) (ha := (l_cons (b_var (i := 8)) l_nil)))) (b_of e_int) (nomark _)) (tw_and1 (t_cmp o_gt (b_of (e_callB (ho := c_len) (hm := fun _ => T.b_len) (hv := PySem.boot_len) (ha := (l_cons (b_of (e_var (i := 7))) l_nil)))) (b_of e_int) (nomark _)))))))) (ss_one (s_ret e_bl)) ss_nil)
  (ss_cons (s_setN (i := 11) (hN := fun _ => sc_law.nd) (h := (n_lst a_nil)))
  (ss_cons (s_for [9, 10, 12] (hp := fun _ => PassesOwn.never) (hc := (fun _ => rfl)) (hi := (i_sq (e_var (i := 5)))) (hg := (g_tup 3 (hc := (fun _ => rfl)) (h := (gs_cons (g_name (i := 9) (hN := fun _ => sc_law.nd)) (gs_cons (g_name (i := 10) (hN := fun _ => sc_law.nd)) (gs_cons (g_name (i := 12) (hN := fun _ => sc_law.nd)) gs_nil)))) (hn := fun _ => rfl) (hl := (gCons_len (gCons_len (gCons_len gNil_len)))))) (hb := (ss_one (s_if (t_of (tw_and (t_cmp o_gt (b_of (e_callB (ho := c_len) (hm := fun _ => T.b_len) (hv := PySem.boot_len) (ha := (l_cons (b_of (e_var (i := 7))) l_nil)))) (b_of e_int) (nomark _)) (tw_and1 (t_val (e_callB (ho := (c_all (fun _ => rfl))) (hm := fun _ => T.b_all) (hv := boot_all) (ha := (l_cons (b_of (e_lc (hc := (fun _ => rfl)) (hN := fun _ => sc_law.nd) (hi := (i_sq (e_var (i := 7)))) (own := [("square", 15)]) (hg := (g_name (i := 15) (hN := fun _ => sc_law.nd))) (ht := ts_nil) (he := (e_cmp (o_eq (fun _ => hu0)) (b_of (e_ix (b_of (e_ix (b_of (e_var (i := 15))) (b_of (e_var (i := 9))))) (b_of (e_var (i := 10))))) (b_of (e_var (i := 12))) (nomark _))))) l_nil))))))) (ss_one (s_app (i := 11) (h := (e_tup (a_cons (e_var (i := 9)) (a_cons (e_var (i := 10)) (a_cons (e_var (i := 12)) a_nil))))))) ss_nil))))
  (ss_cons (s_if (t_not (t_val (e_call (hF := fun _ => (ok_law_is T 3)) (hr := fun _ => hr.mono (by decide)) (hm := fun _ => T.m_law_is) (hk := fun _ => T.f_law_is.kp) (hb := fun _ => T.n_law_is) (hx := fun _ => pass0) (ha := (a_cons (e_call (hF := fun _ => (ok_forced_puts T)) (hr := fun _ => hr.mono (by decide)) (hm := fun _ => T.m_forced_puts) (hk := fun _ => T.f_forced_puts.kp) (hb := fun _ => T.n_forced_puts) (hx := fun _ => passL) (ha := (a_cons (e_var (i := 3)) a_nil)) (hn := rfl)) (a_cons (e_callTy (ho := c_tuple) (hm := fun _ => T.b_tuple) (hv := boot_tuple) (ha := (l_cons (b_var (i := 11)) l_nil))) a_nil))) (hn := rfl)))) (ss_one (s_ret e_bl)) ss_nil)
  (ss_cons (s_setLc (i := 13) (hc := (fun _ => rfl)) (hN := fun _ => sc_law.nd) (hi := (i_sq (e_var (i := 5)))) (own := [("told", 14)]) (hg := (g_name (i := 14) (hN := fun _ => sc_law.nd))) (ht := (ts_one (t_val (e_callB (ho := (c_any (fun _ => rfl))) (hm := fun _ => T.b_any) (hv := boot_any) (ha := (l_cons (b_of (e_lc (hc := (fun _ => rfl)) (hN := fun _ => sc_law.nd) (hi := (i_sq (e_var (i := 7)))) (own := [("square", 15)]) (hg := (g_name (i := 15) (hN := fun _ => sc_law.nd))) (ht := ts_nil) (he := (e_cmp (o_eq (fun _ => hu0)) (b_of (e_ix (b_of (e_ix (b_of (e_var (i := 15))) (b_of (e_ix (b_of (e_var (i := 14))) (b_of e_int))))) (b_of (e_ix (b_of (e_var (i := 14))) (b_of e_int))))) (b_of (e_ix (b_of (e_var (i := 14))) (b_of e_int))) (nomark _))))) l_nil)))))) (he := (e_var (i := 14))))
  (ss_cons (s_if (t_not (t_val (e_call (hF := fun _ => (ok_law_is T 3)) (hr := fun _ => hr.mono (by decide)) (hm := fun _ => T.m_law_is) (hk := fun _ => T.f_law_is.kp) (hb := fun _ => T.n_law_is) (hx := fun _ => pass0) (ha := (a_cons (e_call (hF := fun _ => (ok_safe_puts T)) (hr := fun _ => hr.mono (by decide)) (hm := fun _ => T.m_safe_puts) (hk := fun _ => T.f_safe_puts.kp) (hb := fun _ => T.n_safe_puts) (hx := fun _ => passL) (ha := (a_cons (e_var (i := 3)) a_nil)) (hn := rfl)) (a_cons (e_callTy (ho := c_tuple) (hm := fun _ => T.b_tuple) (hv := boot_tuple) (ha := (l_cons (b_of (e_var (i := 13))) l_nil))) a_nil))) (hn := rfl)))) (ss_one (s_ret e_bl)) ss_nil)
  (ss_one (s_frz 11 (s_for [9, 10, 12] (hp := fun _ => PassesOwn.never) (hc := (fun _ => rfl)) (hi := (i_sq (e_var (i := 11)))) (hg := (g_tup 3 (hc := (fun _ => rfl)) (h := (gs_cons (g_name (i := 9) (hN := fun _ => sc_law.nd)) (gs_cons (g_name (i := 10) (hN := fun _ => sc_law.nd)) (gs_cons (g_name (i := 12) (hN := fun _ => sc_law.nd)) gs_nil)))) (hn := fun _ => rfl) (hl := (gCons_len (gCons_len (gCons_len gNil_len)))))) (hb := (ss_one (s_if (t_val (e_callB (ho := (c_any (fun _ => rfl))) (hm := fun _ => T.b_any) (hv := boot_any) (ha := (l_cons (b_of (e_lc (hc := (fun _ => rfl)) (hN := fun _ => sc_law.nd) (hi := (i_sq (e_var (i := 13)))) (own := [("told", 14)]) (hg := (g_name (i := 14) (hN := fun _ => sc_law.nd))) (ht := ts_nil) (he := (e_and (e_cmp (o_eq (fun _ => hu0)) (b_of (e_sl (b_of (e_var (i := 14))) p_none (p_some e_int))) (b_of (e_tup (a_cons (e_var (i := 9)) (a_cons (e_var (i := 10)) a_nil)))) (nomark _)) (e_one (e_cmp (o_ne (fun _ => hu0)) (b_of (e_ix (b_of (e_var (i := 14))) (b_of e_int))) (b_of (e_var (i := 12))) (nomark _))))))) l_nil)))) (ss_one (s_ret e_bl)) ss_nil)))))))))))))))))))))
  (ss_one (s_ret e_bl)))
theorem ok_law (T : Tx K mg) (hw : ∀ h : Addr, (b_law T) (none :: some (.ob h) :: List.replicate 14 none) ⟨fun _ => False, fun d _ => d = .bool true, fun _ => False, fun _ => False, fun _ _ => False⟩) : FnOk P w K mg base CX0 6 T.a_law T.d_law ["script"] (spLaw K) :=
  law_ok (wb := (b_law T)) T.f_law sc_law (by decide) rfl rfl rfl (ok_law_hand T) (by decide) rfl T.m_law_hand T.f_law_hand.kp T.n_law_hand (by decide) rfl (.inl rfl) (fun cdv A outer s H E hr => den_law T cdv A outer s H E hr) hw
end
/-- the plain law -/
def Plain : Prop := ∀ {K : PySem.W.Frag} {mg : Str → Option Value} (T : Tx K mg) (h : Addr), (b_law T) (none :: some (.ob h) :: List.replicate 14 none) ⟨fun _ => False, fun d _ => d = .bool true, fun _ => False, fun _ => False, fun _ _ => False⟩
theorem all_mk (pl : Plain) {l : PySem.W.OpenLaw} {w : World} {K : PySem.W.Frag} {h : Heap} {mg : Str → Option Value} {fa : Addr} (X : K.In h) (G : h.Ns mainGlobals mg) (hfa : mg "law" = some (.ref fa))
    {f0 : Addr} {od0 an0 : Option Addr} {sl0 : Array (Option Value)} {oc0 kV0 dc0 pm0 cd0 ct0 : Value} {f1 : Addr} {od1 an1 : Option Addr} {sl1 : Array (Option Value)} {oc1 kV1 dc1 pm1 cd1 ct1 : Value} {f2 : Addr} {od2 an2 : Option Addr} {sl2 : Array (Option Value)} {oc2 kV2 dc2 pm2 cd2 ct2 : Value} {f3 : Addr} {od3 an3 : Option Addr} {sl3 : Array (Option Value)} {oc3 kV3 dc3 pm3 cd3 ct3 : Value} {f4 : Addr} {od4 an4 : Option Addr} {sl4 : Array (Option Value)} {oc4 kV4 dc4 pm4 cd4 ct4 : Value} {f5 : Addr} {od5 an5 : Option Addr} {sl5 : Array (Option Value)} {oc5 kV5 dc5 pm5 cd5 ct5 : Value} {f6 : Addr} {od6 an6 : Option Addr} {sl6 : Array (Option Value)} {oc6 kV6 dc6 pm6 cd6 ct6 : Value} {f7 : Addr} {od7 an7 : Option Addr} {sl7 : Array (Option Value)} {oc7 kV7 dc7 pm7 cd7 ct7 : Value} {f8 : Addr} {od8 an8 : Option Addr} {sl8 : Array (Option Value)} {oc8 kV8 dc8 pm8 cd8 ct8 : Value} {f9 : Addr} {od9 an9 : Option Addr} {sl9 : Array (Option Value)} {oc9 kV9 dc9 pm9 cd9 ct9 : Value} {f10 : Addr} {od10 an10 : Option Addr} {sl10 : Array (Option Value)} {oc10 kV10 dc10 pm10 cd10 ct10 : Value} {f11 : Addr} {od11 an11 : Option Addr} {sl11 : Array (Option Value)} {oc11 kV11 dc11 pm11 cd11 ct11 : Value} {f12 : Addr} {od12 an12 : Option Addr} {sl12 : Array (Option Value)} {oc12 kV12 dc12 pm12 cd12 ct12 : Value} {f13 : Addr} {od13 an13 : Option Addr} {sl13 : Array (Option Value)} {oc13 kV13 dc13 pm13 cd13 ct13 : Value} {f14 : Addr} {od14 an14 : Option Addr} {sl14 : Array (Option Value)} {oc14 kV14 dc14 pm14 cd14 ct14 : Value} {f15 : Addr} {od15 an15 : Option Addr} {sl15 : Array (Option Value)} {oc15 kV15 dc15 pm15 cd15 ct15 : Value} {f16 : Addr} {od16 an16 : Option Addr} {sl16 : Array (Option Value)} {oc16 kV16 dc16 pm16 cd16 ct16 : Value} {f17 : Addr} {od17 an17 : Option Addr} {sl17 : Array (Option Value)} {oc17 kV17 dc17 pm17 cd17 ct17 : Value} {f18 : Addr} {od18 an18 : Option Addr} {sl18 : Array (Option Value)} {oc18 kV18 dc18 pm18 cd18 ct18 : Value} {f19 : Addr} {od19 an19 : Option Addr} {sl19 : Array (Option Value)} {oc19 kV19 dc19 pm19 cd19 ct19 : Value} {f20 : Addr} {od20 an20 : Option Addr} {sl20 : Array (Option Value)} {oc20 kV20 dc20 pm20 cd20 ct20 : Value} {f21 : Addr} {od21 an21 : Option Addr} {sl21 : Array (Option Value)} {oc21 kV21 dc21 pm21 cd21 ct21 : Value} {f22 : Addr} {od22 an22 : Option Addr} {sl22 : Array (Option Value)} {oc22 kV22 dc22 pm22 cd22 ct22 : Value} {f23 : Addr} {od23 an23 : Option Addr} {sl23 : Array (Option Value)} {oc23 kV23 dc23 pm23 cd23 ct23 : Value} {f24 : Addr} {od24 an24 : Option Addr} {sl24 : Array (Option Value)} {oc24 kV24 dc24 pm24 cd24 ct24 : Value} {tk_MOST_N : Tok} {CNoBoard : Addr}
    (a0 : PySem.W.nsIn K mainGlobals "is_integer" = some (some (.ref f0))) (l0 : K.lookup f0 = some ⟨oc0, od0, .func (PySem.W.fnOf "is_integer" "is_integer" (defArgs s_is_integer) (defBody s_is_integer) (defScope s_is_integer) .none kV0 dc0 pm0 an0 cd0 ct0), sl0⟩) (c0 : PySem.W.codeIn K cd0 "is_integer" = true) (k0 : PySem.W.keepIn K (.ref f0) = true)
    (a1 : PySem.W.nsIn K mainGlobals "is_within" = some (some (.ref f1))) (l1 : K.lookup f1 = some ⟨oc1, od1, .func (PySem.W.fnOf "is_within" "is_within" (defArgs s_is_within) (defBody s_is_within) (defScope s_is_within) .none kV1 dc1 pm1 an1 cd1 ct1), sl1⟩) (c1 : PySem.W.codeIn K cd1 "is_within" = true) (k1 : PySem.W.keepIn K (.ref f1) = true)
    (a2 : PySem.W.nsIn K mainGlobals "is_sized" = some (some (.ref f2))) (l2 : K.lookup f2 = some ⟨oc2, od2, .func (PySem.W.fnOf "is_sized" "is_sized" (defArgs s_is_sized) (defBody s_is_sized) (defScope s_is_sized) .none kV2 dc2 pm2 an2 cd2 ct2), sl2⟩) (c2 : PySem.W.codeIn K cd2 "is_sized" = true) (k2 : PySem.W.keepIn K (.ref f2) = true)
    (a3 : PySem.W.nsIn K mainGlobals "is_line_free" = some (some (.ref f3))) (l3 : K.lookup f3 = some ⟨oc3, od3, .func (PySem.W.fnOf "is_line_free" "is_line_free" (defArgs s_is_line_free) (defBody s_is_line_free) (defScope s_is_line_free) .none kV3 dc3 pm3 an3 cd3 ct3), sl3⟩) (c3 : PySem.W.codeIn K cd3 "is_line_free" = true) (k3 : PySem.W.keepIn K (.ref f3) = true)
    (a4 : PySem.W.nsIn K mainGlobals "is_board" = some (some (.ref f4))) (l4 : K.lookup f4 = some ⟨oc4, od4, .func (PySem.W.fnOf "is_board" "is_board" (defArgs s_is_board) (defBody s_is_board) (defScope s_is_board) .none kV4 dc4 pm4 an4 cd4 ct4), sl4⟩) (c4 : PySem.W.codeIn K cd4 "is_board" = true) (k4 : PySem.W.keepIn K (.ref f4) = true)
    (a5 : PySem.W.nsIn K mainGlobals "check_board" = some (some (.ref f5))) (l5 : K.lookup f5 = some ⟨oc5, od5, .func (PySem.W.fnOf "check_board" "check_board" (defArgs s_check_board) (defBody s_check_board) (defScope s_check_board) .none kV5 dc5 pm5 an5 cd5 ct5), sl5⟩) (c5 : PySem.W.codeIn K cd5 "check_board" = true) (k5 : PySem.W.keepIn K (.ref f5) = true)
    (a6 : PySem.W.nsIn K mainGlobals "puts_of" = some (some (.ref f6))) (l6 : K.lookup f6 = some ⟨oc6, od6, .func (PySem.W.fnOf "puts_of" "puts_of" (defArgs s_puts_of) (defBody s_puts_of) (defScope s_puts_of) .none kV6 dc6 pm6 an6 cd6 ct6), sl6⟩) (c6 : PySem.W.codeIn K cd6 "puts_of" = true) (k6 : PySem.W.keepIn K (.ref f6) = true)
    (a7 : PySem.W.nsIn K mainGlobals "behind" = some (some (.ref f7))) (l7 : K.lookup f7 = some ⟨oc7, od7, .func (PySem.W.fnOf "behind" "behind" (defArgs s_behind) (defBody s_behind) (defScope s_behind) .none kV7 dc7 pm7 an7 cd7 ct7), sl7⟩) (c7 : PySem.W.codeIn K cd7 "behind" = true) (k7 : PySem.W.keepIn K (.ref f7) = true)
    (a8 : PySem.W.nsIn K mainGlobals "filled_from" = some (some (.ref f8))) (l8 : K.lookup f8 = some ⟨oc8, od8, .func (PySem.W.fnOf "filled_from" "filled_from" (defArgs s_filled_from) (defBody s_filled_from) (defScope s_filled_from) .none kV8 dc8 pm8 an8 cd8 ct8), sl8⟩) (c8 : PySem.W.codeIn K cd8 "filled_from" = true) (k8 : PySem.W.keepIn K (.ref f8) = true)
    (a9 : PySem.W.nsIn K mainGlobals "fillings" = some (some (.ref f9))) (l9 : K.lookup f9 = some ⟨oc9, od9, .func (PySem.W.fnOf "fillings" "fillings" (defArgs s_fillings) (defBody s_fillings) (defScope s_fillings) .none kV9 dc9 pm9 an9 cd9 ct9), sl9⟩) (c9 : PySem.W.codeIn K cd9 "fillings" = true) (k9 : PySem.W.keepIn K (.ref f9) = true)
    (a10 : PySem.W.nsIn K mainGlobals "dead_cells" = some (some (.ref f10))) (l10 : K.lookup f10 = some ⟨oc10, od10, .func (PySem.W.fnOf "dead_cells" "dead_cells" (defArgs s_dead_cells) (defBody s_dead_cells) (defScope s_dead_cells) .none kV10 dc10 pm10 an10 cd10 ct10), sl10⟩) (c10 : PySem.W.codeIn K cd10 "dead_cells" = true) (k10 : PySem.W.keepIn K (.ref f10) = true)
    (a11 : PySem.W.nsIn K mainGlobals "forced_puts" = some (some (.ref f11))) (l11 : K.lookup f11 = some ⟨oc11, od11, .func (PySem.W.fnOf "forced_puts" "forced_puts" (defArgs s_forced_puts) (defBody s_forced_puts) (defScope s_forced_puts) .none kV11 dc11 pm11 an11 cd11 ct11), sl11⟩) (c11 : PySem.W.codeIn K cd11 "forced_puts" = true) (k11 : PySem.W.keepIn K (.ref f11) = true)
    (a12 : PySem.W.nsIn K mainGlobals "safe_puts" = some (some (.ref f12))) (l12 : K.lookup f12 = some ⟨oc12, od12, .func (PySem.W.fnOf "safe_puts" "safe_puts" (defArgs s_safe_puts) (defBody s_safe_puts) (defScope s_safe_puts) .none kV12 dc12 pm12 an12 cd12 ct12), sl12⟩) (c12 : PySem.W.codeIn K cd12 "safe_puts" = true) (k12 : PySem.W.keepIn K (.ref f12) = true)
    (a13 : PySem.W.nsIn K mainGlobals "_law_hand" = some (some (.ref f13))) (l13 : K.lookup f13 = some ⟨oc13, od13, .func (PySem.W.fnOf "_law_hand" "_law_hand" (defArgs s_law_hand) (defBody s_law_hand) (defScope s_law_hand) .none kV13 dc13 pm13 an13 cd13 ct13), sl13⟩) (c13 : PySem.W.codeIn K cd13 "_law_hand" = true) (k13 : PySem.W.keepIn K (.ref f13) = true)
    (a14 : PySem.W.nsIn K mainGlobals "_law_draw" = some (some (.ref f14))) (l14 : K.lookup f14 = some ⟨oc14, od14, .func (PySem.W.fnOf "_law_draw" "_law_draw" (defArgs s_law_draw) (defBody s_law_draw) (defScope s_law_draw) .none kV14 dc14 pm14 an14 cd14 ct14), sl14⟩) (c14 : PySem.W.codeIn K cd14 "_law_draw" = true) (k14 : PySem.W.keepIn K (.ref f14) = true)
    (a15 : PySem.W.nsIn K mainGlobals "_law_some" = some (some (.ref f15))) (l15 : K.lookup f15 = some ⟨oc15, od15, .func (PySem.W.fnOf "_law_some" "_law_some" (defArgs s_law_some) (defBody s_law_some) (defScope s_law_some) .none kV15 dc15 pm15 an15 cd15 ct15), sl15⟩) (c15 : PySem.W.codeIn K cd15 "_law_some" = true) (k15 : PySem.W.keepIn K (.ref f15) = true)
    (a16 : PySem.W.nsIn K mainGlobals "_law_rows_below" = some (some (.ref f16))) (l16 : K.lookup f16 = some ⟨oc16, od16, .func (PySem.W.fnOf "_law_rows_below" "_law_rows_below" (defArgs s_law_rows_below) (defBody s_law_rows_below) (defScope s_law_rows_below) .none kV16 dc16 pm16 an16 cd16 ct16), sl16⟩) (c16 : PySem.W.codeIn K cd16 "_law_rows_below" = true) (k16 : PySem.W.keepIn K (.ref f16) = true)
    (a17 : PySem.W.nsIn K mainGlobals "_law_squares" = some (some (.ref f17))) (l17 : K.lookup f17 = some ⟨oc17, od17, .func (PySem.W.fnOf "_law_squares" "_law_squares" (defArgs s_law_squares) (defBody s_law_squares) (defScope s_law_squares) .none kV17 dc17 pm17 an17 cd17 ct17), sl17⟩) (c17 : PySem.W.codeIn K cd17 "_law_squares" = true) (k17 : PySem.W.keepIn K (.ref f17) = true)
    (a18 : PySem.W.nsIn K mainGlobals "_law_puts" = some (some (.ref f18))) (l18 : K.lookup f18 = some ⟨oc18, od18, .func (PySem.W.fnOf "_law_puts" "_law_puts" (defArgs s_law_puts) (defBody s_law_puts) (defScope s_law_puts) .none kV18 dc18 pm18 an18 cd18 ct18), sl18⟩) (c18 : PySem.W.codeIn K cd18 "_law_puts" = true) (k18 : PySem.W.keepIn K (.ref f18) = true)
    (a19 : PySem.W.nsIn K mainGlobals "_law_after" = some (some (.ref f19))) (l19 : K.lookup f19 = some ⟨oc19, od19, .func (PySem.W.fnOf "_law_after" "_law_after" (defArgs s_law_after) (defBody s_law_after) (defScope s_law_after) .none kV19 dc19 pm19 an19 cd19 ct19), sl19⟩) (c19 : PySem.W.codeIn K cd19 "_law_after" = true) (k19 : PySem.W.keepIn K (.ref f19) = true)
    (a20 : PySem.W.nsIn K mainGlobals "_law_open" = some (some (.ref f20))) (l20 : K.lookup f20 = some ⟨oc20, od20, .func (PySem.W.fnOf "_law_open" "_law_open" (defArgs s_law_open) (defBody s_law_open) (defScope s_law_open) .none kV20 dc20 pm20 an20 cd20 ct20), sl20⟩) (c20 : PySem.W.codeIn K cd20 "_law_open" = true) (k20 : PySem.W.keepIn K (.ref f20) = true)
    (a21 : PySem.W.nsIn K mainGlobals "_law_board" = some (some (.ref f21))) (l21 : K.lookup f21 = some ⟨oc21, od21, .func (PySem.W.fnOf "_law_board" "_law_board" (defArgs s_law_board) (defBody s_law_board) (defScope s_law_board) .none kV21 dc21 pm21 an21 cd21 ct21), sl21⟩) (c21 : PySem.W.codeIn K cd21 "_law_board" = true) (k21 : PySem.W.keepIn K (.ref f21) = true)
    (a22 : PySem.W.nsIn K mainGlobals "_law_is" = some (some (.ref f22))) (l22 : K.lookup f22 = some ⟨oc22, od22, .func (PySem.W.fnOf "_law_is" "_law_is" (defArgs s_law_is) (defBody s_law_is) (defScope s_law_is) .none kV22 dc22 pm22 an22 cd22 ct22), sl22⟩) (c22 : PySem.W.codeIn K cd22 "_law_is" = true) (k22 : PySem.W.keepIn K (.ref f22) = true)
    (a23 : PySem.W.nsIn K mainGlobals "_law_fill" = some (some (.ref f23))) (l23 : K.lookup f23 = some ⟨oc23, od23, .func (PySem.W.fnOf "_law_fill" "_law_fill" (defArgs s_law_fill) (defBody s_law_fill) (defScope s_law_fill) .none kV23 dc23 pm23 an23 cd23 ct23), sl23⟩) (c23 : PySem.W.codeIn K cd23 "_law_fill" = true) (k23 : PySem.W.keepIn K (.ref f23) = true)
    (a24 : PySem.W.nsIn K mainGlobals "law" = some (some (.ref f24))) (l24 : K.lookup f24 = some ⟨oc24, od24, .func (PySem.W.fnOf "law" "law" (defArgs s_law) (defBody s_law) (defScope s_law) .none kV24 dc24 pm24 an24 cd24 ct24), sl24⟩) (c24 : PySem.W.codeIn K cd24 "law" = true) (k24 : PySem.W.keepIn K (.ref f24) = true)
    (z_abs : PySem.W.nsIn K mainGlobals "abs" = some none)
    (z_all : PySem.W.nsIn K mainGlobals "all" = some none)
    (z_any : PySem.W.nsIn K mainGlobals "any" = some none)
    (z_bool : PySem.W.nsIn K mainGlobals "bool" = some none)
    (z_dict : PySem.W.nsIn K mainGlobals "dict" = some none)
    (z_enumerate : PySem.W.nsIn K mainGlobals "enumerate" = some none)
    (z_int : PySem.W.nsIn K mainGlobals "int" = some none)
    (z_isinstance : PySem.W.nsIn K mainGlobals "isinstance" = some none)
    (z_len : PySem.W.nsIn K mainGlobals "len" = some none)
    (z_list : PySem.W.nsIn K mainGlobals "list" = some none)
    (z_range : PySem.W.nsIn K mainGlobals "range" = some none)
    (z_sorted : PySem.W.nsIn K mainGlobals "sorted" = some none)
    (z_str : PySem.W.nsIn K mainGlobals "str" = some none)
    (z_sum : PySem.W.nsIn K mainGlobals "sum" = some none)
    (z_tuple : PySem.W.nsIn K mainGlobals "tuple" = some none)
    (z_zip : PySem.W.nsIn K mainGlobals "zip" = some none)
    (g_MOST_N : PySem.W.nsIn K mainGlobals "MOST_N" = some (some (.int 3 tk_MOST_N)))
    (g_NoBoard : PySem.W.nsIn K mainGlobals "NoBoard" = some (some (.ref CNoBoard)))
    (x_NoBoard : PySem.W.excIn K CNoBoard [.type "ValueError", .type "Exception", .type "BaseException", .type "object"] "ValueError.__new__" = true)
    (q_NoBoard : PySem.W.keepIn K (.ref CNoBoard) = true)
    (s_NoBoard : PySem.W.subIn K (.ref CNoBoard) (.type "BaseException") = some true)
    (t_NoBoard : PySem.W.typeIn K (.ref CNoBoard) = some (.type "type")) :
    ∃ fd : FuncData, (∀ (s : Shared) (v : Value), BindsTo s fd ⟨[v], []⟩ [("script", v)]) ∧ ∀ base : Heap, K.In base → base.Ns mainGlobals mg → FnOk l.prog w K mg base CX0 6 fa fd ["script"] (spLaw K) := by
  have e := hfa.symm.trans (PySem.W.mg_of X G a24)
  cases e
  exact ⟨PySem.W.fnOf "law" "law" (defArgs s_law) (defBody s_law) (defScope s_law) .none kV24 dc24 pm24 an24 cd24 ct24, fun s v => .of_eq rfl, fun base _ _ =>
    ok_law (T := {
      a_is_integer := f0,
      d_is_integer := PySem.W.fnOf "is_integer" "is_integer" (defArgs s_is_integer) (defBody s_is_integer) (defScope s_is_integer) .none kV0 dc0 pm0 an0 cd0 ct0,
      f_is_integer := fun_mk (st := s_is_integer) l0 c0 k0,
      n_is_integer := (fun_mk (x := "is_integer") (qual := "is_integer") (st := s_is_integer) l0 c0 k0).binds (ps := ["thing"]) fun _ _ _ _ _ _ us hl => match us, hl with | [_], _ => rfl,
      m_is_integer := PySem.W.mg_of X G a0,
      a_is_within := f1,
      d_is_within := PySem.W.fnOf "is_within" "is_within" (defArgs s_is_within) (defBody s_is_within) (defScope s_is_within) .none kV1 dc1 pm1 an1 cd1 ct1,
      f_is_within := fun_mk (st := s_is_within) l1 c1 k1,
      n_is_within := (fun_mk (x := "is_within") (qual := "is_within") (st := s_is_within) l1 c1 k1).binds (ps := ["thing", "low", "high"]) fun _ _ _ _ _ _ us hl => match us, hl with | [_, _, _], _ => rfl,
      m_is_within := PySem.W.mg_of X G a1,
      a_is_sized := f2,
      d_is_sized := PySem.W.fnOf "is_sized" "is_sized" (defArgs s_is_sized) (defBody s_is_sized) (defScope s_is_sized) .none kV2 dc2 pm2 an2 cd2 ct2,
      f_is_sized := fun_mk (st := s_is_sized) l2 c2 k2,
      n_is_sized := (fun_mk (x := "is_sized") (qual := "is_sized") (st := s_is_sized) l2 c2 k2).binds (ps := ["thing", "low", "high"]) fun _ _ _ _ _ _ us hl => match us, hl with | [_, _, _], _ => rfl,
      m_is_sized := PySem.W.mg_of X G a2,
      a_is_line_free := f3,
      d_is_line_free := PySem.W.fnOf "is_line_free" "is_line_free" (defArgs s_is_line_free) (defBody s_is_line_free) (defScope s_is_line_free) .none kV3 dc3 pm3 an3 cd3 ct3,
      f_is_line_free := fun_mk (st := s_is_line_free) l3 c3 k3,
      n_is_line_free := (fun_mk (x := "is_line_free") (qual := "is_line_free") (st := s_is_line_free) l3 c3 k3).binds (ps := ["cells"]) fun _ _ _ _ _ _ us hl => match us, hl with | [_], _ => rfl,
      m_is_line_free := PySem.W.mg_of X G a3,
      a_is_board := f4,
      d_is_board := PySem.W.fnOf "is_board" "is_board" (defArgs s_is_board) (defBody s_is_board) (defScope s_is_board) .none kV4 dc4 pm4 an4 cd4 ct4,
      f_is_board := fun_mk (st := s_is_board) l4 c4 k4,
      n_is_board := (fun_mk (x := "is_board") (qual := "is_board") (st := s_is_board) l4 c4 k4).binds (ps := ["thing"]) fun _ _ _ _ _ _ us hl => match us, hl with | [_], _ => rfl,
      m_is_board := PySem.W.mg_of X G a4,
      a_check_board := f5,
      d_check_board := PySem.W.fnOf "check_board" "check_board" (defArgs s_check_board) (defBody s_check_board) (defScope s_check_board) .none kV5 dc5 pm5 an5 cd5 ct5,
      f_check_board := fun_mk (st := s_check_board) l5 c5 k5,
      n_check_board := (fun_mk (x := "check_board") (qual := "check_board") (st := s_check_board) l5 c5 k5).binds (ps := ["board"]) fun _ _ _ _ _ _ us hl => match us, hl with | [_], _ => rfl,
      m_check_board := PySem.W.mg_of X G a5,
      a_puts_of := f6,
      d_puts_of := PySem.W.fnOf "puts_of" "puts_of" (defArgs s_puts_of) (defBody s_puts_of) (defScope s_puts_of) .none kV6 dc6 pm6 an6 cd6 ct6,
      f_puts_of := fun_mk (st := s_puts_of) l6 c6 k6,
      n_puts_of := (fun_mk (x := "puts_of") (qual := "puts_of") (st := s_puts_of) l6 c6 k6).binds (ps := ["board"]) fun _ _ _ _ _ _ us hl => match us, hl with | [_], _ => rfl,
      m_puts_of := PySem.W.mg_of X G a6,
      a_behind := f7,
      d_behind := PySem.W.fnOf "behind" "behind" (defArgs s_behind) (defBody s_behind) (defScope s_behind) .none kV7 dc7 pm7 an7 cd7 ct7,
      f_behind := fun_mk (st := s_behind) l7 c7 k7,
      n_behind := (fun_mk (x := "behind") (qual := "behind") (st := s_behind) l7 c7 k7).binds (ps := ["board", "triple"]) fun _ _ _ _ _ _ us hl => match us, hl with | [_, _], _ => rfl,
      m_behind := PySem.W.mg_of X G a7,
      a_filled_from := f8,
      d_filled_from := PySem.W.fnOf "filled_from" "filled_from" (defArgs s_filled_from) (defBody s_filled_from) (defScope s_filled_from) .none kV8 dc8 pm8 an8 cd8 ct8,
      f_filled_from := fun_mk (st := s_filled_from) l8 c8 k8,
      n_filled_from := (fun_mk (x := "filled_from") (qual := "filled_from") (st := s_filled_from) l8 c8 k8).binds (ps := ["board"]) fun _ _ _ _ _ _ us hl => match us, hl with | [_], _ => rfl,
      m_filled_from := PySem.W.mg_of X G a8,
      a_fillings := f9,
      d_fillings := PySem.W.fnOf "fillings" "fillings" (defArgs s_fillings) (defBody s_fillings) (defScope s_fillings) .none kV9 dc9 pm9 an9 cd9 ct9,
      f_fillings := fun_mk (st := s_fillings) l9 c9 k9,
      n_fillings := (fun_mk (x := "fillings") (qual := "fillings") (st := s_fillings) l9 c9 k9).binds (ps := ["board"]) fun _ _ _ _ _ _ us hl => match us, hl with | [_], _ => rfl,
      m_fillings := PySem.W.mg_of X G a9,
      a_dead_cells := f10,
      d_dead_cells := PySem.W.fnOf "dead_cells" "dead_cells" (defArgs s_dead_cells) (defBody s_dead_cells) (defScope s_dead_cells) .none kV10 dc10 pm10 an10 cd10 ct10,
      f_dead_cells := fun_mk (st := s_dead_cells) l10 c10 k10,
      n_dead_cells := (fun_mk (x := "dead_cells") (qual := "dead_cells") (st := s_dead_cells) l10 c10 k10).binds (ps := ["board"]) fun _ _ _ _ _ _ us hl => match us, hl with | [_], _ => rfl,
      m_dead_cells := PySem.W.mg_of X G a10,
      a_forced_puts := f11,
      d_forced_puts := PySem.W.fnOf "forced_puts" "forced_puts" (defArgs s_forced_puts) (defBody s_forced_puts) (defScope s_forced_puts) .none kV11 dc11 pm11 an11 cd11 ct11,
      f_forced_puts := fun_mk (st := s_forced_puts) l11 c11 k11,
      n_forced_puts := (fun_mk (x := "forced_puts") (qual := "forced_puts") (st := s_forced_puts) l11 c11 k11).binds (ps := ["board"]) fun _ _ _ _ _ _ us hl => match us, hl with | [_], _ => rfl,
      m_forced_puts := PySem.W.mg_of X G a11,
      a_safe_puts := f12,
      d_safe_puts := PySem.W.fnOf "safe_puts" "safe_puts" (defArgs s_safe_puts) (defBody s_safe_puts) (defScope s_safe_puts) .none kV12 dc12 pm12 an12 cd12 ct12,
      f_safe_puts := fun_mk (st := s_safe_puts) l12 c12 k12,
      n_safe_puts := (fun_mk (x := "safe_puts") (qual := "safe_puts") (st := s_safe_puts) l12 c12 k12).binds (ps := ["board"]) fun _ _ _ _ _ _ us hl => match us, hl with | [_], _ => rfl,
      m_safe_puts := PySem.W.mg_of X G a12,
      a_law_hand := f13,
      d_law_hand := PySem.W.fnOf "_law_hand" "_law_hand" (defArgs s_law_hand) (defBody s_law_hand) (defScope s_law_hand) .none kV13 dc13 pm13 an13 cd13 ct13,
      f_law_hand := fun_mk (st := s_law_hand) l13 c13 k13,
      n_law_hand := (fun_mk (x := "_law_hand") (qual := "_law_hand") (st := s_law_hand) l13 c13 k13).binds (ps := ["script"]) fun _ _ _ _ _ _ us hl => match us, hl with | [_], _ => rfl,
      m_law_hand := PySem.W.mg_of X G a13,
      a_law_draw := f14,
      d_law_draw := PySem.W.fnOf "_law_draw" "_law_draw" (defArgs s_law_draw) (defBody s_law_draw) (defScope s_law_draw) .none kV14 dc14 pm14 an14 cd14 ct14,
      f_law_draw := fun_mk (st := s_law_draw) l14 c14 k14,
      n_law_draw := (fun_mk (x := "_law_draw") (qual := "_law_draw") (st := s_law_draw) l14 c14 k14).binds (ps := ["hand", "many"]) fun _ _ _ _ _ _ us hl => match us, hl with | [_, _], _ => rfl,
      m_law_draw := PySem.W.mg_of X G a14,
      a_law_some := f15,
      d_law_some := PySem.W.fnOf "_law_some" "_law_some" (defArgs s_law_some) (defBody s_law_some) (defScope s_law_some) .none kV15 dc15 pm15 an15 cd15 ct15,
      f_law_some := fun_mk (st := s_law_some) l15 c15 k15,
      n_law_some := (fun_mk (x := "_law_some") (qual := "_law_some") (st := s_law_some) l15 c15 k15).binds (ps := ["hand", "things"]) fun _ _ _ _ _ _ us hl => match us, hl with | [_, _], _ => rfl,
      m_law_some := PySem.W.mg_of X G a15,
      a_law_rows_below := f16,
      d_law_rows_below := PySem.W.fnOf "_law_rows_below" "_law_rows_below" (defArgs s_law_rows_below) (defBody s_law_rows_below) (defScope s_law_rows_below) .none kV16 dc16 pm16 an16 cd16 ct16,
      f_law_rows_below := fun_mk (st := s_law_rows_below) l16 c16 k16,
      n_law_rows_below := (fun_mk (x := "_law_rows_below") (qual := "_law_rows_below") (st := s_law_rows_below) l16 c16 k16).binds (ps := ["rows", "many"]) fun _ _ _ _ _ _ us hl => match us, hl with | [_, _], _ => rfl,
      m_law_rows_below := PySem.W.mg_of X G a16,
      a_law_squares := f17,
      d_law_squares := PySem.W.fnOf "_law_squares" "_law_squares" (defArgs s_law_squares) (defBody s_law_squares) (defScope s_law_squares) .none kV17 dc17 pm17 an17 cd17 ct17,
      f_law_squares := fun_mk (st := s_law_squares) l17 c17 k17,
      n_law_squares := (fun_mk (x := "_law_squares") (qual := "_law_squares") (st := s_law_squares) l17 c17 k17).binds (ps := ["many"]) fun _ _ _ _ _ _ us hl => match us, hl with | [_], _ => rfl,
      m_law_squares := PySem.W.mg_of X G a17,
      a_law_puts := f18,
      d_law_puts := PySem.W.fnOf "_law_puts" "_law_puts" (defArgs s_law_puts) (defBody s_law_puts) (defScope s_law_puts) .none kV18 dc18 pm18 an18 cd18 ct18,
      f_law_puts := fun_mk (st := s_law_puts) l18 c18 k18,
      n_law_puts := (fun_mk (x := "_law_puts") (qual := "_law_puts") (st := s_law_puts) l18 c18 k18).binds (ps := ["board"]) fun _ _ _ _ _ _ us hl => match us, hl with | [_], _ => rfl,
      m_law_puts := PySem.W.mg_of X G a18,
      a_law_after := f19,
      d_law_after := PySem.W.fnOf "_law_after" "_law_after" (defArgs s_law_after) (defBody s_law_after) (defScope s_law_after) .none kV19 dc19 pm19 an19 cd19 ct19,
      f_law_after := fun_mk (st := s_law_after) l19 c19 k19,
      n_law_after := (fun_mk (x := "_law_after") (qual := "_law_after") (st := s_law_after) l19 c19 k19).binds (ps := ["board", "told"]) fun _ _ _ _ _ _ us hl => match us, hl with | [_, _], _ => rfl,
      m_law_after := PySem.W.mg_of X G a19,
      a_law_open := f20,
      d_law_open := PySem.W.fnOf "_law_open" "_law_open" (defArgs s_law_open) (defBody s_law_open) (defScope s_law_open) .none kV20 dc20 pm20 an20 cd20 ct20,
      f_law_open := fun_mk (st := s_law_open) l20 c20 k20,
      n_law_open := (fun_mk (x := "_law_open") (qual := "_law_open") (st := s_law_open) l20 c20 k20).binds (ps := ["board"]) fun _ _ _ _ _ _ us hl => match us, hl with | [_], _ => rfl,
      m_law_open := PySem.W.mg_of X G a20,
      a_law_board := f21,
      d_law_board := PySem.W.fnOf "_law_board" "_law_board" (defArgs s_law_board) (defBody s_law_board) (defScope s_law_board) .none kV21 dc21 pm21 an21 cd21 ct21,
      f_law_board := fun_mk (st := s_law_board) l21 c21 k21,
      n_law_board := (fun_mk (x := "_law_board") (qual := "_law_board") (st := s_law_board) l21 c21 k21).binds (ps := ["hand", "most"]) fun _ _ _ _ _ _ us hl => match us, hl with | [_, _], _ => rfl,
      m_law_board := PySem.W.mg_of X G a21,
      a_law_is := f22,
      d_law_is := PySem.W.fnOf "_law_is" "_law_is" (defArgs s_law_is) (defBody s_law_is) (defScope s_law_is) .none kV22 dc22 pm22 an22 cd22 ct22,
      f_law_is := fun_mk (st := s_law_is) l22 c22 k22,
      n_law_is := (fun_mk (x := "_law_is") (qual := "_law_is") (st := s_law_is) l22 c22 k22).binds (ps := ["told", "due"]) fun _ _ _ _ _ _ us hl => match us, hl with | [_, _], _ => rfl,
      m_law_is := PySem.W.mg_of X G a22,
      a_law_fill := f23,
      d_law_fill := PySem.W.fnOf "_law_fill" "_law_fill" (defArgs s_law_fill) (defBody s_law_fill) (defScope s_law_fill) .none kV23 dc23 pm23 an23 cd23 ct23,
      f_law_fill := fun_mk (st := s_law_fill) l23 c23 k23,
      n_law_fill := (fun_mk (x := "_law_fill") (qual := "_law_fill") (st := s_law_fill) l23 c23 k23).binds (ps := ["board", "every"]) fun _ _ _ _ _ _ us hl => match us, hl with | [_, _], _ => rfl,
      m_law_fill := PySem.W.mg_of X G a23,
      a_law := fa,
      d_law := PySem.W.fnOf "law" "law" (defArgs s_law) (defBody s_law) (defScope s_law) .none kV24 dc24 pm24 an24 cd24 ct24,
      f_law := fun_mk (st := s_law) l24 c24 k24,
      n_law := (fun_mk (x := "law") (qual := "law") (st := s_law) l24 c24 k24).binds (ps := ["script"]) fun _ _ _ _ _ _ us hl => match us, hl with | [_], _ => rfl,
      m_law := PySem.W.mg_of X G a24,
      b_abs := PySem.W.mg_none_of X G z_abs,
      b_all := PySem.W.mg_none_of X G z_all,
      b_any := PySem.W.mg_none_of X G z_any,
      b_bool := PySem.W.mg_none_of X G z_bool,
      b_dict := PySem.W.mg_none_of X G z_dict,
      b_enumerate := PySem.W.mg_none_of X G z_enumerate,
      b_int := PySem.W.mg_none_of X G z_int,
      b_isinstance := PySem.W.mg_none_of X G z_isinstance,
      b_len := PySem.W.mg_none_of X G z_len,
      b_list := PySem.W.mg_none_of X G z_list,
      b_range := PySem.W.mg_none_of X G z_range,
      b_sorted := PySem.W.mg_none_of X G z_sorted,
      b_str := PySem.W.mg_none_of X G z_str,
      b_sum := PySem.W.mg_none_of X G z_sum,
      b_tuple := PySem.W.mg_none_of X G z_tuple,
      b_zip := PySem.W.mg_none_of X G z_zip,
      t_MOST_N := tk_MOST_N,
      k_MOST_N := PySem.W.mg_of X G g_MOST_N,
      c_NoBoard := CNoBoard,
      g_NoBoard := PySem.W.mg_of X G g_NoBoard,
      x_NoBoard := x_NoBoard,
      q_NoBoard := q_NoBoard,
      s_NoBoard := s_NoBoard,
      t_NoBoard := t_NoBoard }) (pl _)⟩
theorem walk {l : PySem.W.OpenLaw} {q : Program} {loose : List Str} {XP : (Str → Option Value) → Heap → Prop} {YP : World → Heap → Prop} {d : DefRec} {K : Params → PySem.W.Frag} (hn : l.most = some 63) (hdf : d.params.defaults = [])
    (hY : ∀ (w : World) (h : Heap), YP w h → (K w.params).In h)
    (F : ∀ (w : World) (mg : Str → Option Value) (fa : Addr) (h : Heap), (K w.params).In h → h.Ns mainGlobals mg → mg d.name = some (.ref fa) →
      ∃ fd : FuncData, (∀ (s : Shared) (u : Value), BindsTo s fd ⟨[u], []⟩ [("script", u)]) ∧ ∀ base : Heap, (K w.params).In base → base.Ns mainGlobals mg → FnOk l.prog w (K w.params) mg base CX0 6 fa fd ["script"] (spLaw (K w.params))) :
    PySem.W.WalkO q loose XP YP l.row.toRowW d [] (fun f vs => PySem.call f vs) :=
  L2.walk_of (n := 63) (k := 6) (x := "script") (CX := fun _ => CX0) (sp := fun w => spLaw (K w.params)) hn (by decide) hdf ⟨rfl, by decide, by decide⟩ hY F (fun _ _ a ns hl _ hS => ⟨a, ns, rfl, hS, hl, fun _ => rfl⟩) fun _ _ _ _ _ z => z
section
end
end K81
namespace K81
open PySem PySem.Spec PyProof.Rows L2 Dn
section
variable {A : D → Prop} {B : Xn → Prop}
theorem sp_after {n : Nat} {f : Gr} {r c : Nat} {s : Int} (hn : n ≤ 1000) (hr : r < n) (hc : c < n) (q : A (gD n (put3 f r c s))) : cal w_law_after [.sh (gD n f), .sh (trD r c s)] A B := by
  refine cal_of ?_
  have z : sizeLine = 16777216 := sizeLine_eq
  rw [← g_put f s hr hc] at q
  unfold w_law_after b_law_after trD gD
  simp
  rw [atI_map _ _ _ hr]
  simp [cut_take, cut_drop1]
  simp only [List.append_assoc, List.singleton_append] at q
  exact ⟨by omega, by omega, by omega, by omega, by omega, by omega, q⟩
theorem sp_behind {n : Nat} {f : Gr} {r c : Nat} {s : Int} (hn : n ≤ 1000) (hr : r < n) (hc : c < n) (q : A (gD n (put3 f r c s))) : cal w_behind [.sh (gD n f), .sh (trD r c s)] A B := by
  refine cal_of ?_
  have z : sizeLine = 16777216 := sizeLine_eq
  rw [← g_put f s hr hc] at q
  unfold w_behind b_behind trD gD
  simp
  rw [atI_map _ _ _ hr]
  simp [cut_take, cut_drop1]
  simp only [List.append_assoc, List.singleton_append] at q
  first | exact ⟨by omega, by omega, by omega, by omega, by omega, by omega, q⟩ | trace_state
theorem sp_puts_law {n : Nat} {f : Gr} (hn : n ≤ 100) (q : A (.list (puts n f))) : cal w_law_puts [.sh (gD n f)] A B := by
  refine cal_of ?_
  have z : sizeLine = 16777216 := sizeLine_eq
  unfold w_law_puts b_law_puts
  rw [gD]
  simp
  refine ⟨by omega, forW_range (fun k => [some (.sh (PyData.tuple (List.map (fun r => PyData.tuple (lnD n (f r))) (List.range n)))), some (.sh (.int n)), some (.sh (.list ((List.range k).flatMap fun r => (List.range n).flatMap fun c => putsAt n f r c))), none, none, none, none, none]) n (fun r hr N hN => ?_) ?_⟩
  · simp
    refine ⟨by omega, ?_⟩
    have l1 := fm_len (fun r => (List.range n).flatMap fun c => putsAt n f r c) (n * n) (fun r => by have := fm_len (fun c => putsAt n f r c) n (fun c => putsAt_len n f r c) n; simpa using this) r
    have l2 : n * n * r ≤ 100 * 100 * 100 := Nat.mul_le_mul (Nat.mul_le_mul hn hn) (by omega)
    refine forW_rangeE (fun k => [some (.sh (PyData.tuple (List.map (fun r => PyData.tuple (lnD n (f r))) (List.range n)))), some (.sh (.int n)), some (.sh (.list (((List.range r).flatMap fun r => (List.range n).flatMap fun c => putsAt n f r c) ++ (List.range k).flatMap fun c => putsAt n f r c))), some (.sh (.int r)), none, none, none, none]) n (by simp) (fun c hc M hM => ?_) ?_
    · have l3 := fm_len (fun c => putsAt n f r c) n (fun c => putsAt_len n f r c) c
      have l4 : n * c ≤ 100 * 100 := Nat.mul_le_mul hn (by omega)
      simp
      rw [atI_map _ _ _ hr]
      simp
      rw [at_ln _ _ _ hc]
      simp
      rw [fm_succ] at hM
      have e0 : putsAt n f r c = if f r c = none then ((List.range n).filter fun (s : Nat) => fits n f r c s).map fun (s : Nat) => trD r c (s : Int) else [] := rfl
      have e1 := putsAt_len n f r c
      split
      · rename_i e
        rw [if_pos e] at e0
        refine lcW_map (fun k => cD (f k c)) _ _ _ (fun k hk Y y => ?_) ?_
        · simp
          rw [at_ln _ _ _ hc]
          exact y
        · simp
          refine ⟨by omega, by omega, lcW_filter (fun s => fits n f r c s) (fun (s : Nat) => trD r c (s : Int)) _ _ _ (fun s hs Y N' hY hN' => ?_) ?_⟩
          · simp [trD, ln_all] at hY ⊢
            refine ⟨shaped_of (k := 2) (Shp.list fun x hx => ?_) (by decide), ?_⟩
            · rcases List.mem_append.mp hx with h | h
              · exact shp_ln _ _ x h
              · exact shp_ln n (fun k => f k c) x h
            · have ef := @fits_iff n f r c s
              split
              · rename_i h
                exact ⟨by omega, hY (ef.mpr h)⟩
              · rename_i h
                refine hN' ?_
                cases e9 : fits n f r c s with
                | false => rfl
                | true => exact absurd (ef.mp e9) h
          · rw [← e0]
            exact ⟨by simp only [List.length_append]; omega, by rw [List.append_assoc]; exact hM⟩
      · rename_i e
        rw [if_neg e] at e0
        rw [e0, List.append_nil] at hM
        exact hM
    · simp
      rw [fm_succ] at hN
      exact hN
  · simp
    exact q
theorem sp_puts_of {n : Nat} {f : Gr} (hn : n ≤ 100) (q : A (.list (puts n f))) : cal w_puts_of [.sh (gD n f)] A B := by
  refine cal_of ?_
  have z : sizeLine = 16777216 := sizeLine_eq
  unfold w_puts_of b_puts_of
  rw [gD]
  simp [enum_range]
  refine forW_rangeE (fun k => [some (.sh (PyData.tuple (List.map (fun r => PyData.tuple (lnD n (f r))) (List.range n)))), some (.ow none ((List.range k).flatMap fun r => (List.range n).flatMap fun c => putsAt n f r c)), none, none, none, none, none, none, none]) n (by simp) (fun r hr N hN => ?_) ?_
  · simp
    have l1 := fm_len (fun r => (List.range n).flatMap fun c => putsAt n f r c) (n * n) (fun r => by have := fm_len (fun c => putsAt n f r c) n (fun c => putsAt_len n f r c) n; simpa using this) r
    have l2 : n * n * r ≤ 100 * 100 * 100 := Nat.mul_le_mul (Nat.mul_le_mul hn hn) (by omega)
    rw [enum_ln]
    refine forW_rangeE (fun k => [some (.sh (PyData.tuple (List.map (fun r => PyData.tuple (lnD n (f r))) (List.range n)))), some (.ow none (((List.range r).flatMap fun r => (List.range n).flatMap fun c => putsAt n f r c) ++ (List.range k).flatMap fun c => putsAt n f r c)), some (.sh (.int r)), some (.sh (.tuple (lnD n (f r)))), none, none, none, none, none]) n (by simp) (fun c hc M hM => ?_) ?_
    · have l3 := fm_len (fun c => putsAt n f r c) n (fun c => putsAt_len n f r c) c
      have l4 : n * c ≤ 100 * 100 := Nat.mul_le_mul hn (by omega)
      simp [-List.length_flatMap]
      rw [fm_succ] at hM
      have e0 : putsAt n f r c = if f r c = none then ((List.range n).filter fun (s : Nat) => fits n f r c s).map fun (s : Nat) => trD r c (s : Int) else [] := rfl
      have e1 := putsAt_len n f r c
      split
      · rename_i e
        rw [if_pos e] at e0
        refine lcW_map (fun k => cD (f k c)) _ _ _ (fun k hk Y y => ?_) ?_
        · simp
          rw [at_ln _ _ _ hc]
          exact y
        · refine ⟨by omega, lcW_filter (fun s => fits n f r c s) (fun (s : Nat) => trD r c (s : Int)) _ _ _ (fun s hs Y N' hY hN' => ?_) ?_⟩
          · simp [trD, ln_all] at hY ⊢
            have ef := @fits_iff n f r c s
            split
            · rename_i h1
              refine ⟨shaped_of (k := 2) (Shp.list fun x hx => shp_ln n (fun k => f k c) x hx) (by decide), ?_⟩
              split
              · rename_i h2
                exact ⟨by omega, hY (ef.mpr ⟨h1, h2⟩)⟩
              · rename_i h2
                refine hN' ?_
                cases e9 : fits n f r c s with
                | false => rfl
                | true => exact absurd (ef.mp e9).2 h2
            · rename_i h1
              refine hN' ?_
              cases e9 : fits n f r c s with
              | false => rfl
              | true => exact absurd (ef.mp e9).1 h1
          · rw [← e0]
            exact ⟨by omega, hM⟩
      · rename_i e
        rw [if_neg e] at e0
        rw [e0, List.append_nil] at hM
        exact hM
    · simp
      rw [fm_succ] at hN
      exact hN
  · simp
    exact q
theorem sp_integer {d : D} (q : A (.bool (isI d))) : cal w_is_integer [.sh d] A B := by
  refine cal_of ?_
  unfold w_is_integer b_is_integer
  cases d <;> simp [isI] at q ⊢ <;> exact q
theorem natbeq (x y : Nat) : (((x : Nat) : Int) == (y : Int)) = decide (x = y) := by
  by_cases h : x = y
  · simp [h]
  · simp [h]
    omega
theorem natbeq1 (x : Nat) : (((x : Nat) : Int) == 1) = decide (x = 1) := natbeq x 1
theorem sp_within {d : D} {lo hi : Int} (q : A (.bool (wiB d lo hi))) : cal w_is_within [.sh d, .sh (.int lo), .sh (.int hi)] A B := by
  refine cal_of ?_
  unfold w_is_within b_is_within
  simp
  refine sp_integer ?_
  cases d <;> simp [isI, wiB] at q ⊢ <;> first | exact q | skip
  by_cases h : lo ≤ (by assumption : Int) <;> simp [h] at q ⊢ <;> exact q
theorem sp_sized {d : D} {lo hi : Int} (q : A (.bool (szB d lo hi))) : cal w_is_sized [.sh d, .sh (.int lo), .sh (.int hi)] A B := by
  refine cal_of ?_
  unfold w_is_sized b_is_sized
  cases d <;> simp [szB] at q ⊢ <;> first | exact q | skip
  rename_i xs
  by_cases h : lo ≤ (xs.length : Int) <;> simp [h] at q ⊢ <;> exact q
theorem sp_line_free {d : D} {n : Nat} {l : Nat → Option Int} (hd : d = .tuple (lnD n l) ∨ d = .list (lnD n l)) (q : A (.bool (lnFree n l))) : cal w_is_line_free [.sh d] A B := by
  refine cal_of ?_
  unfold w_is_line_free b_is_line_free
  have fl : ∀ x, x ∈ lnD n l → flatD x = true := ln_all.mpr fun k _ => cD_flat _
  rcases hd with rfl | rfl
  all_goals
    simp
    refine lcW_filterL (fun d => !oIsN d) id _ _ (fun x hx Y N hY hN => ?_) ?_
    · simp
      cases h : oIsN x with
      | true => simpa [h] using hN (by rw [h]; rfl)
      | false => simpa [h] using hY (by rw [h]; rfl)
    · rw [List.map_id]
      simp
      refine lcW_mapL (fun x => .bool (decide (((lnD n l).filter fun d => !oIsN d).countP (fun z => PyData.eqv z x) = 1))) _ _ (fun x hx Y hY => ?_) ?_
      · simp
        refine ⟨⟨fl x (List.mem_filter.mp hx).1, fun y hy => .inr (fl y hy)⟩, ?_⟩
        rw [natbeq1]
        exact hY
      · have e := lineB n l
        simp at e
        simp
        rw [e]
        exact q
theorem szB_tuple {x : D} {n : Nat} (h : szB x n n = true) : ∃ cs, x = .tuple cs ∧ cs.length = n := by
  cases x with
  | tuple cs =>
    simp [szB] at h
    exact ⟨cs, rfl, by omega⟩
  | _ => cases h
theorem cell_or {n : Nat} {c : D} : (oIsN c || wiB c 0 ((n : Int) - 1)) = cellOk n c := by
  cases c <;> simp [wiB, cellOk, oIsN]
  rename_i i
  by_cases h : 0 ≤ i
  · by_cases h2 : i < n
    · simp [h, h2]; omega
    · simp [h, h2]; omega
  · simp [h]
theorem szB_ln (n : Nat) (l : Nat → Option Int) : szB (.tuple (lnD n l)) n n = true := by simp [szB]
theorem cellOk_cD {n : Nat} {a : Option Int} (h : ∀ s, a = some s → 0 ≤ s ∧ s < n) : cellOk n (cD a) = true := by
  cases a with
  | none => rfl
  | some i => simpa [cD, cellOk] using h i rfl
theorem not_mem_trues {α : Type} {f : α → Bool} {xs : List α} (h : ∀ x ∈ xs, f x = true) : false ∉ xs.map f := by
  intro m
  obtain ⟨x, hx, e⟩ := List.mem_map.mp m
  rw [h x hx] at e
  cases e
theorem sp_is_board_good {n : Nat} {f : Gr} (h1 : 1 ≤ n) (h3 : n ≤ 3) (hr : InR n f) (q : A (.bool (grFree n f))) : cal w_is_board [.sh (gD n f)] A B := by
  refine cal_of ?_
  unfold w_is_board b_is_board
  rw [gD]
  simp
  refine sp_sized ?_
  have hs : szB (.tuple (List.map (fun r => PyData.tuple (lnD n (f r))) (List.range n))) 1 3 = true := by
    simp [szB]
    omega
  rw [hs]
  simp
  refine lcW_map (fun _ => .bool true) _ _ _ (fun r hr Y y => by simp; refine sp_sized ?_; rw [szB_ln]; exact y) ?_
  simp
  refine lcW_map (fun _ => .bool true) _ _ _ (fun r hrr Y y => ?_) ?_
  · simp
    have hrr := List.mem_range.mp hrr
    refine lcW_mapL (fun c => .bool true) _ _ (fun c hc Y' y' => ?_) ?_
    · simp
      unfold lnD at hc
      obtain ⟨k, hk, rfl⟩ := List.mem_map.mp hc
      have ok : cellOk n (cD (f r k)) = true := cellOk_cD fun s e => hr r k s hrr (List.mem_range.mp hk) e
      have e := @cell_or n (cD (f r k))
      cases hn : oIsN (cD (f r k)) with
      | true => simp at hn; simpa [hn] using y'
      | false =>
        rw [hn, ok] at e
        simp at e hn
        simp [hn]
        refine sp_within ?_
        rw [e]
        exact y'
    · simp
      rw [show ((lnD n (f r)).all fun x => true) = true from List.all_eq_true.mpr fun _ _ => rfl]
      exact y
  · simp
    refine ⟨by omega, lcW_map (fun c => .list (lnD n fun r => f r c)) _ _ _ (fun c hc Y y => ?_) ?_⟩
    · simp
      have hc := List.mem_range.mp hc
      refine lcW_map (fun r => cD (f r c)) _ _ _ (fun r hr Y' y' => ?_) ?_
      · simp
        rw [at_ln _ _ _ hc]
        exact y'
      · exact y
    · simp
      refine lcW_map (fun r => .bool (lnFree n (f r))) _ _ _ (fun r hr Y y => by simp; exact sp_line_free (.inl rfl) y) ?_
      simp
      cases e1 : (List.range n).all fun r => lnFree n (f r) with
      | false =>
        unfold grFree at q
        rw [e1] at q
        exact q
      | true =>
        unfold grFree at q
        rw [e1] at q
        show lcW _ _ _ _ _ _ _
        refine lcW_map (fun c => .bool (lnFree n fun r => f r c)) _ _ _ (fun r hr Y y => by simp; exact sp_line_free (.inr rfl) y) ?_
        simp
        simpa using q
theorem sp_is_bool {k : Nat} {a b : Bool} (q : A (.bool (a == b))) : cal (w_law_is (k + 1)) [.sh (.bool a), .sh (.bool b)] A B := by
  refine cal_of ?_
  unfold w_law_is b_law_is
  simpa using q
theorem sp_is_self : ∀ {k : Nat} {d : D}, OkS k d → ∀ {A : D → Prop} {B : Xn → Prop}, A (.bool true) → cal (w_law_is k) [.sh d, .sh d] A B
  | 0, d, h, _, _, _ => h.elim
  | k + 1, d, h, A, B, q => by
    refine cal_of ?_
    unfold w_law_is b_law_is
    cases d with
    | tuple xs =>
      simp
      rw [zipD_self]
      refine lcW_map (fun _ => .bool true) _ _ _ (fun x hx Y y => ?_) ?_
      · simp
        exact sp_is_self (h x hx) y
      · simp
        rw [show (xs.all fun x => true) = true from List.all_eq_true.mpr fun _ _ => rfl]
        exact q
    | list xs =>
      simp
      rw [zipD_self]
      refine lcW_map (fun _ => .bool true) _ _ _ (fun x hx Y y => ?_) ?_
      · simp
        exact sp_is_self (h x hx) y
      · simp
        rw [show (xs.all fun x => true) = true from List.all_eq_true.mpr fun _ _ => rfl]
        exact q
    | dict es => exact h.elim
    | str z =>
      have h' : SeqAt.shaped (.str z) = true ∧ PyData.eqv (.str z) (.str z) = true := h
      simp [h'.1, h'.2]
      exact q
    | _ => simpa using q
theorem sp_some {a : Addr} {xs : List D} (h : 0 < xs.length) (h2 : xs.length < 1073741824) (q : ∀ x ∈ xs, A x) : cal w_law_some [.ob a, .sh (.list xs)] A B := by
  refine cal_of ?_
  unfold w_law_some b_law_some
  simp
  refine draw_cal (by omega) (by omega) fun k k0 k1 => ?_
  simp
  rw [atI_of _ _ k0, List.getElem?_eq_getElem (by omega)]
  exact q _ (List.getElem_mem _)
theorem sp_open {n : Nat} {f : Gr} (q : A (.int (opn n f : Nat))) : cal w_law_open [.sh (gD n f)] A B := by
  refine cal_of ?_
  have z : sizeLine = 16777216 := sizeLine_eq
  unfold w_law_open b_law_open
  rw [gD]
  simp
  refine lcW_map (fun r => .int (opr n (f r) : Nat)) _ _ _ (fun r hr Y y => ?_) ?_
  · simp
    refine lcW_filter (fun c => decide (f r c = none)) (fun _ => .int 1) _ _ _ (fun c hc Y' N' hY hN => ?_) ?_
    · simp
      split
      · rename_i h
        exact hY (decide_eq_true h)
      · rename_i h
        exact hN (decide_eq_false h)
    · simp
      unfold opr at y
      exact y
  · simp
    unfold opn at q
    rw [sum_cast]
    exact q
theorem sp_board {a : Addr} {most : Int} (q : ∀ n f, Bd n f → ((opn n f : Int) ≤ most ∨ opn n f ≤ 2) → A (gD n f)) : cal w_law_board [.ob a, .sh (.int most)] A B := by
  refine cal_of ?_
  have z : sizeLine = 16777216 := sizeLine_eq
  unfold w_law_board b_law_board
  simp
  refine draw_cal (by decide) (by decide) fun k k0 k1 => ?_
  simp
  obtain ⟨n, hn, h1, h3⟩ : ∃ n : Nat, 1 + k = n ∧ 1 ≤ n ∧ n ≤ 3 := ⟨(1 + k).toNat, by omega, by omega, by omega⟩
  rw [hn]
  simp
  have e0 : PyData.tuple (List.replicate n (PyData.tuple (List.replicate n PyData.none))) = gD n fun _ _ => none := by
    unfold gD lnD
    rw [List.map_const', List.map_const', List.length_range]
    rfl
  rw [e0]
  refine ⟨by omega, ⟨by omega, by omega⟩, by omega, ⟨by omega, by omega⟩, ?_⟩
  have tail : ∀ f, Bd n f → ((opn n f : Int) ≤ most ∨ opn n f ≤ 2) → ∀ m : Nat, m ≤ 3 → forW (gN 5) (wSeq (wSet 4 (wCl w_law_puts (wACons (wV 3) wANil))) (wSet 3 (wIf (wTest (wOp dGt (wCall cLen (wCons (wV 4) wNil)) (wC (PyData.int 0)))) (wCl w_law_after (wACons (wV 3) (wACons (wCl w_law_some (wAOb 0 (wACons (wV 4) wANil))) wANil))) (wV 3)))) [4, 5]
      { nx := fun env' => match env'[3]? with | some (some (En.sh d)) => A d | x => False, rt := fun d x => A d, bk := fun x => False, ct := fun x => False, xe := fun x x_1 => False } (List.map (fun k => PyData.int (k : Nat)) (List.range m)) [some (En.ob a), some (En.sh (PyData.int most)), some (En.sh (PyData.int n)), some (.sh (gD n f)), none, none] := by
    intro f bf hf m hm
    refine forW_inv (fun env => ∃ f, Bd n f ∧ ((opn n f : Int) ≤ most ∨ opn n f ≤ 2) ∧ env = [some (En.ob a), some (En.sh (PyData.int most)), some (En.sh (PyData.int n)), some (.sh (gD n f)), none, none]) _ _ ?_ ⟨f, bf, hf, rfl⟩ ?_
    · rintro env ⟨f, bf, hf, rfl⟩ t ht N hN
      simp
      refine sp_puts_law (by omega) ?_
      simp
      have hl := puts_len n f
      have hl2 : n * n * n ≤ 3 * 3 * 3 := Nat.mul_le_mul (Nat.mul_le_mul h3 h3) h3
      split
      · rename_i h
        refine sp_some (by omega) (by omega) fun x hx => ?_
        obtain ⟨r, c, s, hr, hc, hs, e, ft, rfl⟩ := mem_puts.mp hx
        refine sp_after (by omega) hr hc ?_
        have := opn_put (s := (s : Int)) hr hc e
        exact hN _ ⟨_, bf.put hr hc hs ft, by omega, rfl⟩
      · exact hN _ ⟨f, bf, hf, rfl⟩
    · rintro env ⟨f, bf, hf, rfl⟩
      simp
      exact q n f bf hf
  have hwh : ∀ P : Post, (∀ f, Bd n f → ((opn n f : Int) ≤ most ∨ opn n f ≤ 2) → P.nx [some (En.ob a), some (En.sh (PyData.int most)), some (En.sh (PyData.int n)), some (.sh (gD n f)), none, none]) → (∀ env, P.rt (gD 2 bd2) env) →
      ∀ (fuel : Nat) (f : Gr), Bd n f → opn n f < fuel → whileW (wTest (wOp dGt (wCl w_law_open (wACons (wV 3) wANil)) (wV 1))) (wSeq (wSet 4 (wCl w_law_puts (wACons (wV 3) wANil))) (wSeq (wIfS (wTest (wOp dEq (wCall cLen (wCons (wV 4) wNil)) (wC (PyData.int 0)))) (wRet (wTup (wACons (wTup (wACons (wC PyData.none) (wACons (wC (PyData.int 0)) wANil))) (wACons (wTup (wACons (wC (PyData.int 0)) (wACons (wC PyData.none) wANil))) wANil)))) wNext) (wSet 3 (wCl w_law_after (wACons (wV 3) (wACons (wCl w_law_some (wAOb 0 (wACons (wV 4) wANil))) wANil)))))) [4]
      P fuel [some (En.ob a), some (En.sh (PyData.int most)), some (En.sh (PyData.int n)), some (.sh (gD n f)), none, none] := by
    intro P hnx hrt fuel
    induction fuel with
    | zero => intro f _ h; omega
    | succ fuel ih =>
      intro f bf hf
      unfold whileW
      simp
      refine sp_open ?_
      simp
      split
      · refine sp_puts_law (by omega) ?_
        simp
        have hl := puts_len n f
        have hl2 : n * n * n ≤ 3 * 3 * 3 := Nat.mul_le_mul (Nat.mul_le_mul h3 h3) h3
        split
        · exact ⟨by omega, by have := hrt; rw [bd2_D] at this; exact this _⟩
        · rename_i hne
          refine sp_some (List.length_pos_iff.mpr hne) (by omega) fun x hx => ?_
          obtain ⟨r, c, s, hr, hc, hs, e, ft, rfl⟩ := mem_puts.mp hx
          refine sp_after (by omega) hr hc ?_
          have := opn_put (s := (s : Int)) hr hc e
          exact ih _ (bf.put hr hc hs ft) (by omega)
      · exact hnx f bf (by omega)
  have hop := opn_le n fun _ _ => none
  have hop2 : n * n ≤ 3 * 3 := Nat.mul_le_mul h3 h3
  refine ⟨10, hwh _ (fun f bf hf => ?_) (fun env => ?_) 10 _ (bd_open h1 h3) (by omega)⟩
  · simp
    refine draw_cal (by decide) (by decide) fun m m0 m1 => ?_
    simp
    exact ⟨by omega, tail f bf hf m.toNat (by omega)⟩
  · exact q 2 bd2 bd2_ok (.inr (by rw [bd2_open]; exact Nat.le_refl _))
/-! the law's squares -/
theorem sp_below {n : Nat} {rs : List (List Nat)} (h1 : 1 ≤ n) (h3 : n ≤ 3) (hrl : rs.length ≤ 3) (hr : ∀ ab ∈ rs, ab.length = n) (q : A (.list ((belowL n rs).map rowD))) : cal w_law_rows_below [.sh (sqD rs), .sh (.int n)] A B := by
  refine cal_of ?_
  have z9 : sizeLine = 16777216 := sizeLine_eq
  unfold w_law_rows_below b_law_rows_below
  rw [show sqD rs = .tuple (rs.map rowD) from rfl]
  simp
  refine ⟨by omega, by omega, forW_rangeE (fun c => [some (.sh (.tuple (rs.map rowD))), some (.sh (.int n)), some (.sh (.list ((belowK n rs c).map rowD))), none, none, none, none, none, none]) n rfl (fun c hc N hN => ?_) ?_⟩
  · simp
    have num := below_num h3 rs c
    have n27 : 3 ^ c ≤ 27 := Nat.le_trans (Nat.pow_le_pow_right (by decide : 0 < 3) (show c ≤ 3 by omega)) (by decide)
    refine forW_pre (h := rowD) (fun pre => [some (.sh (.tuple (rs.map rowD))), some (.sh (.int n)), some (.sh (.list ((belowK n rs c).map rowD))), some (.sh (.int c)), some (.sh (.list ((pre.flatMap (belowAt n rs c)).map rowD))), none, none, none, none]) (belowK n rs c) [] (fun p row r e M hM => ?_) ?_
    · have hrow : row ∈ belowK n rs c := by
        have e' : belowK n rs c = p ++ row :: r := by simpa using e
        rw [e']
        simp
      have hlr := below_len n rs c row hrow
      have hp : p.length ≤ 27 := by
        have e' : belowK n rs c = p ++ row :: r := by simpa using e
        have : (belowK n rs c).length = p.length + (row :: r).length := by rw [e', List.length_append]
        omega
      have hfl := fm_le (belowAt n rs c) 3 (fun row => Nat.le_trans (belowAt_len n rs c row) h3) p
      have hfr := belowAt_len n rs c row
      have hrd : rowD row = .tuple (row.map fun (s : Nat) => PyData.int (s : Int)) := rfl
      have hrs : rs.length ≤ 3 := hrl
      simp
      refine lcW_map (fun ab => .int ((ab[c]?.getD 0 : Nat) : Int)) rowD rs _ (fun ab hab Y y => ?_) ?_
      · have hl : c < ab.length := by rw [hr ab hab]; exact hc
        unfold rowD
        simp
        rw [atI_nat', List.getElem?_map, List.getElem?_eq_getElem hl]
        simp [hl] at y
        exact y
      · rw [hrd]
        refine ⟨by rw [List.length_map, List.length_map]; omega, by omega, lcW_filter (fun s => goes rs c row s) (fun s => rowD (row ++ [s])) _ _ _ (fun s hs Y N' hY hN' => ?_) ?_⟩
        · have eg := goes_any rs c row s
          rw [rowD_app] at hY
          simp [-List.any_append, -List.any_map, -List.any_eq_true, -List.any_eq_false]
          refine ⟨shaped_of (k := 2) (Shp.list fun x hx => ?_) (by decide), ?_⟩
          · rcases List.mem_append.mp hx with q | q
            · obtain ⟨ab, _, rfl⟩ := List.mem_map.mp q
              exact shp_int' _
            · obtain ⟨t, _, rfl⟩ := List.mem_map.mp q
              exact shp_int' _
          · split
            · rename_i h
              rw [h] at eg
              exact hN' eg
            · rename_i h
              have h := Bool.eq_false_iff.mpr h
              rw [h] at eg
              exact ⟨by omega, by omega, hY eg⟩
        · have hM2 : List.flatMap (belowAt n rs c) (p ++ [row]) = List.flatMap (belowAt n rs c) p ++ belowAt n rs c row := by simp
          rw [hM2, List.map_append] at hM
          have hb : (belowAt n rs c row).map rowD = ((List.range n).filter fun s => goes rs c row s).map fun s => rowD (row ++ [s]) := by
            unfold belowAt
            rw [List.map_map]
            rfl
          rw [← hb]
          exact ⟨by rw [List.length_map, List.length_map]; omega, hM⟩
    · simp
      rw [show belowK n rs (c + 1) = (belowK n rs c).flatMap (belowAt n rs c) from rfl] at hN
      exact hN
  · simp
    exact q
theorem sp_squares {n : Nat} (h1 : 1 ≤ n) (h3 : n ≤ 3) (q : A (.list ((squaresL n).map sqD))) : cal w_law_squares [.sh (.int n)] A B := by
  refine cal_of ?_
  have z9 : sizeLine = 16777216 := sizeLine_eq
  unfold w_law_squares b_law_squares
  simp
  refine ⟨by omega, by omega, forW_rangeE (fun k => [some (.sh (.int n)), some (.sh (.list ((squaresK n k).map sqD))), none, none, none, none]) n rfl (fun k hk N hN => ?_) ?_⟩
  · simp
    have num := squares_num h3 k
    have n27 : 27 ^ k ≤ 19683 := Nat.le_trans (Nat.pow_le_pow_right (by decide : 0 < 27) (show k ≤ 3 by omega)) (by decide)
    have n3 : 3 ^ n ≤ 27 := Nat.le_trans (Nat.pow_le_pow_right (by decide : 0 < 3) h3) (by decide)
    refine forW_pre (h := sqD) (fun pre => [some (.sh (.int n)), some (.sh (.list ((squaresK n k).map sqD))), some (.sh (.int k)), some (.sh (.list ((pre.flatMap fun rows => (belowL n rows).map fun row => rows ++ [row]).map sqD))), none, none]) (squaresK n k) [] (fun p rows r e M hM => ?_) ?_
    · have e' : squaresK n k = p ++ rows :: r := by simpa using e
      have hrow : rows ∈ squaresK n k := by
        rw [e']
        simp
      obtain ⟨hl, hab⟩ := squares_rows n k rows hrow
      have hp : p.length ≤ 19683 := by
        have : (squaresK n k).length = p.length + (rows :: r).length := by rw [e', List.length_append]
        omega
      have hb := below_num h3 rows n
      have hfl := fm_le (fun rows => (belowL n rows).map fun row => rows ++ [row]) 27 (fun rows => by
        rw [List.length_map]
        exact Nat.le_trans (below_num h3 rows n) n3) p
      have hsd : sqD rows = .tuple (rows.map rowD) := rfl
      simp
      refine sp_below h1 h3 (by omega) hab ?_
      refine lcW_map (fun row => sqD (rows ++ [row])) rowD (belowL n rows) _ (fun row hr Y y => ?_) ?_
      · rw [sqD_app] at y
        rw [hsd]
        simp
        refine ⟨by omega, by omega, y⟩
      · have hM2 : List.flatMap (fun rows => (belowL n rows).map fun row => rows ++ [row]) (p ++ [rows]) = List.flatMap (fun rows => (belowL n rows).map fun row => rows ++ [row]) p ++ (belowL n rows).map fun row => rows ++ [row] := by simp
        rw [hM2, List.map_append, List.map_map] at hM
        have hbl : (belowL n rows).length ≤ 27 := Nat.le_trans hb n3
        exact ⟨by rw [List.length_map, List.length_map]; omega, hM⟩
    · simp
      rw [show squaresK n (k + 1) = (squaresK n k).flatMap fun rows => (belowL n rows).map fun row => rows ++ [row] from rfl] at hN
      exact hN
  · simp
    exact q
section
variable {K : PySem.W.Frag} {mg : Str → Option Value} (T : Tx K mg) {n : Nat} {f : Gr}
theorem sp_check (b : Bd n f) (q : A .none) : cal (w_check_board T) [.sh (gD n f)] A B := by
  refine cal_of ?_
  unfold w_check_board b_check_board
  simp
  refine sp_is_board_good b.lo b.hi b.rng ?_
  rw [b.fre]
  simpa using q
end
end
end K81
namespace K81
open PySem PySem.Spec PyProof.Rows L2 Dn
section
variable {A : D → Prop} {B : Xn → Prop}
theorem all_range_succ (k : Nat) (p : Nat → Bool) : (List.range (k + 1)).all p = ((List.range k).all p && p k) := by
  rw [List.range_succ, List.all_append]
  simp
theorem sp_law_fill {n : Nat} {f : Gr} (b : Bd n f) (q : A (.list (((squaresL n).filter (consB n f)).map sqD))) : cal w_law_fill [.sh (gD n f), .sh (.list ((squaresL n).map sqD))] A B := by
  refine cal_of ?_
  have z9 : sizeLine = 16777216 := sizeLine_eq
  have h1 := b.lo
  have h3 := b.hi
  have S := allSq h1 h3
  have num := squares_num h3 n
  have n27 : 27 ^ n ≤ 19683 := Nat.le_trans (Nat.pow_le_pow_right (by decide : 0 < 27) h3) (by decide)
  unfold w_law_fill b_law_fill
  simp
  refine forW_pre (h := sqD) (fun pre => [some (.sh (gD n f)), some (.sh (.list ((squaresL n).map sqD))), some (.ow none ((pre.filter (consB n f)).map sqD)), none, none, none, none, none, none]) (squaresL n) [] (fun p rows r e M hM => ?_) ?_
  · have e' : squaresL n = p ++ rows :: r := by simpa using e
    have hrow : rows ∈ squaresL n := by
      rw [e']
      simp
    have sh := S.shape rows hrow
    have hg := sqD_g sh
    have hp : p.length ≤ 19683 := by
      have : (squaresK n n).length = p.length + (rows :: r).length := by
        rw [show squaresK n n = squaresL n from rfl, e', List.length_append]
      omega
    have hpf : (p.filter (consB n f)).length ≤ p.length := List.length_filter_le _ _
    rw [hg]
    unfold gD
    simp [enum_range]
    refine forW_rangeE (fun k => [some (.sh (gD n f)), some (.sh (.list ((squaresL n).map sqD))), some (.ow none ((p.filter (consB n f)).map sqD)), some (.sh (gD n (toGr rows))), some (.sh (.bool ((List.range k).all fun r => (List.range n).all fun c => decide (f r c = none) || decide (toGr rows r c = f r c)))), none, none, none, none]) n rfl (fun k hk N hN => ?_) ?_
    · rw [all_range_succ] at hN
      simp [-List.all_eq_true]
      cases hgd : (List.range k).all fun r => (List.range n).all fun c => decide (f r c = none) || decide (toGr rows r c = f r c) with
      | false =>
        rw [hgd] at hN
        simpa using hN
      | true =>
        rw [hgd] at hN
        rw [enum_ln]
        refine lcW_map (fun c => .bool (decide (f k c = none) || decide (toGr rows k c = f k c))) _ _ _ (fun c hc Y y => ?_) ?_
        · have hc := List.mem_range.mp hc
          unfold gD
          simp
          rw [atI_map _ _ _ hk]
          simp
          rw [at_ln _ _ _ hc]
          simp
          by_cases e : f k c = none
          · simpa [e] using y
          · simpa [e] using y
        · simp
          simpa using hN
    · rw [show ((List.range n).all fun r => (List.range n).all fun c => decide (f r c = none) || decide (toGr rows r c = f r c)) = consB n f rows from rfl]
      rw [List.filter_append, List.map_append] at hM
      cases hc : consB n f rows with
      | true =>
        simp [hc, hg] at hM
        simp
        exact ⟨by omega, hM⟩
      | false =>
        simp [hc] at hM
        simp
        exact hM
  · simp
    exact q
/-! the given one -/
theorem flat_one {α : Type} {n i : Nat} (hi : i < n) (g : Nat → List α) (h : ∀ k, k < n → k ≠ i → g k = []) : (List.range n).flatMap g = g i := by
  induction n with
  | zero => omega
  | succ n ih =>
    rw [List.range_succ, List.flatMap_append]
    by_cases e : i = n
    · subst e
      have z : (List.range i).flatMap g = [] := by
        rw [List.flatMap_eq_nil_iff]
        intro k hk
        have hk := List.mem_range.mp hk
        exact h k (by omega) (by omega)
      rw [z]
      simp
    · rw [ih (by omega) fun k hk ne => h k (by omega) ne]
      simp [h n (by omega) (fun q => e q.symm)]
/-- is the put one of cell (i, j)? -/
def cellIs (i j : Nat) (d : D) : Bool := match d with
  | .tuple [.int r, .int c, _] => decide (r = i) && decide (c = j)
  | _ => false
theorem puts_at {n i j : Nat} {f : Gr} (hi : i < n) (hj : j < n) : (puts n f).filter (cellIs i j) = putsAt n f i j := by
  have mem : ∀ r c d, d ∈ putsAt n f r c → ∃ s : Nat, d = trD r c s := fun r c d h => by
    unfold putsAt at h
    split at h
    · obtain ⟨s, _, rfl⟩ := List.mem_map.mp h
      exact ⟨s, rfl⟩
    · cases h
  unfold puts
  rw [List.filter_flatMap, flat_one hi]
  · rw [List.filter_flatMap, flat_one hj]
    · rw [List.filter_eq_self]
      intro d hd
      obtain ⟨s, rfl⟩ := mem i j d hd
      simp [cellIs, trD]
    · intro c hc ne
      rw [List.filter_eq_nil_iff]
      intro d hd
      obtain ⟨s, rfl⟩ := mem i c d hd
      have : ¬ ((c : Int) = j) := by omega
      simp [cellIs, trD, this]
  · intro r hr ne
    rw [List.filter_flatMap, List.flatMap_eq_nil_iff]
    intro c hc
    rw [List.filter_eq_nil_iff]
    intro d hd
    obtain ⟨s, rfl⟩ := mem r c d hd
    have : ¬ ((r : Int) = i) := by omega
    simp [cellIs, trD, this]
theorem alike_cell {a b : Option Int} (ha : a ≠ none) (hb : b ≠ none) : PySem.W.alike (cD a) (cD b) = true := by
  cases a with
  | none => exact absurd rfl ha
  | some i =>
    cases b with
    | none => exact absurd rfl hb
    | some j => simp [cD, PySem.W.alike]
theorem alike_map {g h : Nat → D} : ∀ xs : List Nat, (∀ k ∈ xs, PySem.W.alike (g k) (h k) = true) → PySem.W.alikeAll (xs.map g) (xs.map h) = true
  | [], _ => by simp [PySem.W.alikeAll]
  | x :: r, hh => by
    rw [List.map_cons, List.map_cons]
    simp [PySem.W.alikeAll, hh x List.mem_cons_self, alike_map r fun k m => hh k (List.mem_cons_of_mem _ m)]
theorem alike_g {n : Nat} {g h : Gr} (fg : Full n g) (fh : Full n h) : PySem.W.alike (gD n g) (gD n h) = true := by
  unfold gD
  simp only [PySem.W.alike]
  refine alike_map _ fun r hr => ?_
  simp only [PySem.W.alike]
  refine alike_map _ fun c hc => ?_
  have hr := List.mem_range.mp hr
  have hc := List.mem_range.mp hc
  exact alike_cell (fg r c hr hc) (fh r c hr hc)
theorem sort_ok {n : Nat} {bs : List Gr} (h1 : 1 ≤ n) (fu : ∀ h ∈ bs, Full n h) : SortOk (bs.map (gD n)) := by
  refine ⟨?_, ?_, ?_, ?_⟩
  · refine (shp_all (k := 3) fun x hx => ?_).1
    obtain ⟨g, _, rfl⟩ := List.mem_map.mp hx
    exact shp_g n g
  · intro d hd d' hd'
    obtain ⟨g, hg, rfl⟩ := List.mem_map.mp hd
    obtain ⟨g', hg', rfl⟩ := List.mem_map.mp hd'
    exact alike_g (fu g hg) (fu g' hg')
  · refine .inl fun d hd => ?_
    obtain ⟨g, hg, rfl⟩ := List.mem_map.mp hd
    obtain ⟨m, rfl⟩ : ∃ m, n = m + 1 := ⟨n - 1, by omega⟩
    unfold gD
    rw [List.range_succ_eq_map, List.map_cons]
    exact ⟨_, _, rfl⟩
  · intro d hd
    obtain ⟨g, hg, rfl⟩ := List.mem_map.mp hd
    exact Nat.le_trans (shp_g n g).2 (by decide)
theorem step_len {n : Nat} (h1 : 1 ≤ n) (h3 : n ≤ 3) (i j : Nat) (h : Gr) : (stepC n i j h).length ≤ 3 := by
  unfold stepC
  split
  · rw [List.length_map]
    exact Nat.le_trans (List.length_filter_le _ _) (by simp; omega)
  · simp
theorem fold_len {n : Nat} (h1 : 1 ≤ n) (h3 : n ≤ 3) : ∀ (xs : List (Nat × Nat)) (bs : List Gr), (xs.foldl (fillS n) bs).length ≤ 3 ^ xs.length * bs.length
  | [], bs => by simp
  | (i, j) :: xs, bs => by
    have ih := fold_len h1 h3 xs (fillS n bs (i, j))
    have h := fm_le (stepC n i j) 3 (step_len h1 h3 i j) bs
    have h2 : (fillS n bs (i, j)).length ≤ 3 * bs.length := h
    rw [List.foldl_cons, List.length_cons, Nat.pow_succ]
    refine Nat.le_trans ih ?_
    rw [Nat.mul_assoc]
    exact Nat.mul_le_mul_left _ h2
def upTo (n i j : Nat) : List (Nat × Nat) := ((List.range i).flatMap fun a => (List.range n).map fun b => (a, b)) ++ (List.range j).map fun b => (i, b)
theorem upTo_next (n i j : Nat) : upTo n i (j + 1) = upTo n i j ++ [(i, j)] := by
  unfold upTo
  rw [List.range_succ, List.map_append, List.append_assoc]
  rfl
theorem upTo_row (n i : Nat) : upTo n (i + 1) 0 = upTo n i n := by
  unfold upTo
  rw [fm_succ]
  simp
theorem upTo_len (n i j : Nat) (h3 : n ≤ 3) (hi : i < n) (hj : j ≤ n) : (upTo n i j).length ≤ 9 := by
  unfold upTo
  rw [List.length_append, List.length_map, List.length_range]
  have := len_flatMap (fun a => (List.range n).map fun b => (a, b)) n (fun k => by simp) (List.range i)
  rw [List.length_range] at this
  have h4 : n * i ≤ 3 * 2 := Nat.mul_le_mul h3 (by omega)
  omega
def putOn (n : Nat) (h : Gr) (d : D) : D := match d with
  | .tuple [.int r, .int c, .int s] => gD n (put3 h r.toNat c.toNat s)
  | _ => .none
theorem sp_filled {n : Nat} {f : Gr} (b : Bd n f) (q : ∀ bs : List Gr, bs.Perm (fillL n f) → A (.list (bs.map (gD n)))) : cal w_filled_from [.sh (gD n f)] A B := by
  refine cal_of ?_
  have z9 : sizeLine = 16777216 := sizeLine_eq
  have h1 := b.lo
  have h3 := b.hi
  have hg : gD n f = PyData.tuple (List.map (fun r => PyData.tuple (lnD n (f r))) (List.range n)) := rfl
  have p9 : ∀ k, k ≤ 9 → 3 ^ k ≤ 19683 := fun k hk => Nat.le_trans (Nat.pow_le_pow_right (by decide : 0 < 3) hk) (by decide)
  have num : ∀ i j, i < n → j ≤ n → ((upTo n i j).foldl (fillS n) [f]).length ≤ 19683 := fun i j hi hj => by
    have := fold_len h1 h3 (upTo n i j) [f]
    have := p9 _ (upTo_len n i j h3 hi hj)
    simp at *
    omega
  unfold w_filled_from b_filled_from
  rw [hg]
  simp
  rw [← hg]
  refine ⟨by omega, by omega, forW_rangeE (fun i => [some (.sh (gD n f)), some (.sh (.list (((upTo n i 0).foldl (fillS n) [f]).map (gD n)))), none, none, none, none, none]) n rfl (fun i hi N hN => ?_) ?_⟩
  · rw [upTo_row] at hN
    rw [hg]
    simp
    rw [← hg]
    refine ⟨by omega, forW_rangeE (fun j => [some (.sh (gD n f)), some (.sh (.list (((upTo n i j).foldl (fillS n) [f]).map (gD n)))), some (.sh (.int i)), none, none, none, none]) n rfl (fun j hj M hM => ?_) ?_⟩
    · rw [upTo_next, List.foldl_append] at hM
      have nm := num i j hi (by omega)
      generalize (upTo n i j).foldl (fillS n) [f] = bs at hM nm
      simp
      refine forW_pre (h := gD n) (fun pre => [some (.sh (gD n f)), some (.sh (.list (bs.map (gD n)))), some (.sh (.int i)), some (.sh (.int j)), some (.ow none ((pre.flatMap (stepC n i j)).map (gD n))), none, none]) bs [] (fun p h r e M2 hM2 => ?_) ?_
      · have e' : bs = p ++ h :: r := by simpa using e
        have hp : p.length ≤ 19683 := by
          have : bs.length = p.length + (h :: r).length := by rw [e', List.length_append]
          omega
        have hfl := fm_le (stepC n i j) 3 (step_len h1 h3 i j) p
        have hst := step_len h1 h3 i j h
        have hM3 : (p ++ [h]).flatMap (stepC n i j) = p.flatMap (stepC n i j) ++ stepC n i j h := by simp
        rw [hM3, List.map_append] at hM2
        have hh : gD n h = PyData.tuple (List.map (fun r => PyData.tuple (lnD n (h r))) (List.range n)) := rfl
        rw [hh]
        simp [-List.length_flatMap]
        rw [atI_map _ _ _ hi]
        simp [-List.length_flatMap]
        rw [at_ln _ _ _ hj]
        simp [-List.length_flatMap]
        rw [← hh]
        unfold stepC at hst
        split
        · rename_i e0
          rw [show stepC n i j h = ((List.range n).filter fun (s : Nat) => fits n h i j s).map fun (s : Nat) => put3 h i j (s : Int) by unfold stepC; rw [if_pos e0]] at hM2
          refine sp_puts_of (by omega) ?_
          refine lcW_filterL (cellIs i j) (putOn n h) _ _ (fun d hd Y N' hY hN' => ?_) ?_
          · obtain ⟨r, c, s, hr, hc, hs, _, _, rfl⟩ := mem_puts.mp hd
            have sh1 : SeqAt.shaped (.tuple [.int (r : Int), .int (c : Int)]) = true := shaped_of (k := 2) (Shp.tuple fun x hx => by simp at hx; rcases hx with rfl | rfl <;> exact shp_int' _) (by decide)
            have sh2 : SeqAt.shaped (.tuple [.int (i : Int), .int (j : Int)]) = true := shaped_of (k := 2) (Shp.tuple fun x hx => by simp at hx; rcases hx with rfl | rfl <;> exact shp_int' _) (by decide)
            have c2 : cutD [PyData.int (r : Int), PyData.int (c : Int), PyData.int (s : Int)] none (some 2) = [PyData.int (r : Int), PyData.int (c : Int)] := rfl
            unfold trD
            simp [c2, sh1, sh2]
            refine ⟨by omega, ?_⟩
            by_cases er : r = i
            · by_cases ec : c = j
              · subst er ec
                simp
                refine sp_behind (by omega) hr hc ?_
                have := hY (by simp [cellIs, trD])
                simpa [putOn, trD] using this
              · have ec2 : ¬ ((c : Int) = j) := by omega
                simp [ec2]
                exact hN' (by simp [cellIs, trD, ec2])
            · have er2 : ¬ ((r : Int) = i) := by omega
              simp [er2]
              exact hN' (by simp [cellIs, trD, er2])
          · rw [puts_at hi hj]
            have e2 : (putsAt n h i j).map (putOn n h) = (((List.range n).filter fun (s : Nat) => fits n h i j s).map fun (s : Nat) => put3 h i j (s : Int)).map (gD n) := by
              unfold putsAt
              rw [if_pos e0, List.map_map, List.map_map]
              rfl
            rw [e2]
            rw [if_pos e0] at hst
            refine ⟨?_, hM2⟩
            rw [List.length_map]
            omega
        · rename_i e0
          rw [show stepC n i j h = [h] by unfold stepC; rw [if_neg e0]] at hM2
          exact ⟨by omega, hM2⟩
      · simp
        exact hM
    · simp
      exact hN
  · have e9 : (upTo n n 0).foldl (fillS n) [f] = fillL n f := by
      unfold fillL cellsL upTo
      simp
    rw [e9]
    have F := fills b
    simp
    refine ⟨sort_ok h1 F.full, ?_⟩
    have es : srtD ((fillL n f).map (gD n)) = ((fillL n f).mergeSort fun a b => PySem.W.dataLe false id (gD n a) (gD n b)).map (gD n) :=
      (List.map_mergeSort (r := fun a b => PySem.W.dataLe false id (gD n a) (gD n b)) (s := PySem.W.dataLe false id) (f := gD n) (l := fillL n f) fun _ _ _ _ => rfl).symm
    rw [es]
    exact q _ (List.mergeSort_perm _ _)
end
end K81
namespace K81
open PySem PySem.Spec PyProof.Rows L2 Dn
/-- g has the put's sign at the put's cell -/
def hit (d : D) (g : Gr) : Bool := match d with
  | .tuple [.int i, .int j, .int s] => decide (g i.toNat j.toNat = some s)
  | _ => false
@[simp] theorem hit_tr (r c : Nat) (s : Int) (g : Gr) : hit (trD r c s) g = decide (g r c = some s) := by simp [hit, trD]
def forcedL (n : Nat) (f : Gr) (bs : List Gr) : List D := if bs.length = 0 then [] else (puts n f).filter fun d => bs.all (hit d)
def safeL (n : Nat) (f : Gr) (bs : List Gr) : List D := (puts n f).filter fun d => bs.any (hit d)
def deadAt (n : Nat) (f : Gr) (r c : Nat) : Bool := decide (f r c = none) && !(puts n f).any (cellIs r c)
def deadRow (n : Nat) (f : Gr) (r : Nat) : List D := ((List.range n).filter (deadAt n f r)).map fun c => .tuple [.int (r : Nat), .int (c : Nat)]
def deadL (n : Nat) (f : Gr) : List D := (List.range n).flatMap (deadRow n f)
theorem fills_all {n : Nat} {f : Gr} {bs cs : List Gr} (F : Fills n f bs) (G : Fills n f cs) {r c : Nat} (hr : r < n) (hc : c < n) (s : Int) : (bs.all (hit (trD r c s)) = cs.all (hit (trD r c s))) ∧ (bs.any (hit (trD r c s)) = cs.any (hit (trD r c s))) := by
  have go : ∀ {bs cs : List Gr}, Fills n f bs → Fills n f cs → (bs.all (hit (trD r c s)) = true → cs.all (hit (trD r c s)) = true) ∧ (bs.any (hit (trD r c s)) = true → cs.any (hit (trD r c s)) = true) := fun {bs cs} F G => by
    constructor
    · intro h
      rw [List.all_eq_true] at h ⊢
      intro g hg
      obtain ⟨k, hk, e⟩ := F.all g (G.bd g hg) (G.full g hg) (G.ext g hg)
      have := h k hk
      rw [hit_tr] at this ⊢
      rw [← e r c hr hc]
      exact this
    · intro h
      rw [List.any_eq_true] at h ⊢
      obtain ⟨g, hg, h⟩ := h
      obtain ⟨k, hk, e⟩ := G.all g (F.bd g hg) (F.full g hg) (F.ext g hg)
      refine ⟨k, hk, ?_⟩
      rw [hit_tr] at h ⊢
      rw [e r c hr hc]
      exact h
  exact ⟨Bool.eq_iff_iff.mpr ⟨(go F G).1, (go G F).1⟩, Bool.eq_iff_iff.mpr ⟨(go F G).2, (go G F).2⟩⟩
theorem fills_len {n : Nat} {f : Gr} {bs cs : List Gr} (F : Fills n f bs) (G : Fills n f cs) : bs.length = cs.length := by
  have := (F.perm G).length_eq
  rwa [List.length_map, List.length_map] at this
theorem forced_same {n : Nat} {f : Gr} {bs cs : List Gr} (F : Fills n f bs) (G : Fills n f cs) : forcedL n f bs = forcedL n f cs := by
  unfold forcedL
  rw [fills_len F G]
  split
  · rfl
  · refine List.filter_congr fun d hd => ?_
    obtain ⟨r, c, s, hr, hc, _, _, _, rfl⟩ := mem_puts.mp hd
    exact (fills_all F G hr hc s).1
theorem safe_same {n : Nat} {f : Gr} {bs cs : List Gr} (F : Fills n f bs) (G : Fills n f cs) : safeL n f bs = safeL n f cs := by
  unfold safeL
  refine List.filter_congr fun d hd => ?_
  obtain ⟨r, c, s, hr, hc, _, _, _, rfl⟩ := mem_puts.mp hd
  exact (fills_all F G hr hc s).2
/-- an open cell of a board that can be filled can be put into -/
theorem open_put {n : Nat} {f g : Gr} (bg : Bd n g) (fg : Full n g) (eg : Ext2 n f g) {r c : Nat} (hr : r < n) (hc : c < n) (e : f r c = none) : (puts n f).any (cellIs r c) = true := by
  obtain ⟨s, hs, es⟩ := entry bg fg hr hc
  obtain ⟨gr, _⟩ := grFree_iff.mp bg.fre r hr
  obtain ⟨_, gc⟩ := grFree_iff.mp bg.fre c hc
  rw [lnFree_iff] at gr gc
  refine List.any_eq_true.mpr ⟨trD r c s, mem_puts.mpr ⟨r, c, s, hr, hc, hs, e, fits_iff.mpr ⟨fun k hk q => ?_, fun k hk q => ?_⟩, rfl⟩, by simp [cellIs, trD]⟩
  · have e2 : g r k = some (s : Int) := by rw [eg r k hr hk (by rw [q]; exact fun z => nomatch z), q]
    have := gr c k hc hk (by rw [es]; exact fun z => nomatch z) (e2.trans es.symm)
    subst this
    rw [e] at q
    cases q
  · have e2 : g k c = some (s : Int) := by rw [eg k c hk hc (by rw [q]; exact fun z => nomatch z), q]
    have := gc r k hr hk (by rw [es]; exact fun z => nomatch z) (e2.trans es.symm)
    subst this
    rw [e] at q
    cases q
theorem dead_none {n : Nat} {f : Gr} {cs : List Gr} (G : Fills n f cs) (h : deadL n f ≠ []) : cs = [] := by
  refine List.eq_nil_iff_forall_not_mem.mpr fun g hg => h ?_
  unfold deadL
  rw [List.flatMap_eq_nil_iff]
  intro r hr
  unfold deadRow
  rw [List.map_eq_nil_iff, List.filter_eq_nil_iff]
  intro c hc
  have hr := List.mem_range.mp hr
  have hc := List.mem_range.mp hc
  unfold deadAt
  by_cases e : f r c = none
  · rw [open_put (G.bd g hg) (G.full g hg) (G.ext g hg) hr hc e]
    simp
  · simp [e]
def two (d : D) : D := match d with
  | .tuple [a, b, _] => .tuple [a, b]
  | _ => .none
theorem live_any {n : Nat} {f : Gr} (i j : Nat) : ((puts n f).map two).any (fun z => PyData.eqv z (.tuple [.int (i : Int), .int (j : Int)])) = (puts n f).any (cellIs i j) := by
  rw [List.any_map]
  rw [Bool.eq_iff_iff, List.any_eq_true, List.any_eq_true]
  have e : ∀ d ∈ puts n f, PyData.eqv (two d) (.tuple [.int (i : Int), .int (j : Int)]) = cellIs i j d := fun d hd => by
    obtain ⟨r, c, s, _, _, _, _, _, rfl⟩ := mem_puts.mp hd
    simp [two, trD, cellIs]
    rw [Bool.eq_iff_iff]
    simp
  constructor
  · rintro ⟨d, hd, h⟩
    exact ⟨d, hd, by rw [← e d hd]; exact h⟩
  · rintro ⟨d, hd, h⟩
    exact ⟨d, hd, by show PyData.eqv (two d) _ = true; rw [e d hd]; exact h⟩
theorem shp_two (i j : Int) : Shp 2 (.tuple [.int i, .int j]) := Shp.tuple fun x hx => by simp at hx; rcases hx with rfl | rfl <;> exact shp_int' _
theorem shp_live (n : Nat) (f : Gr) : Shp 3 (.list ((puts n f).map two)) := Shp.list fun x hx => by
  obtain ⟨d, hd, rfl⟩ := List.mem_map.mp hx
  obtain ⟨r, c, s, _, _, _, _, _, rfl⟩ := mem_puts.mp hd
  exact shp_two _ _
section
variable {A : D → Prop} {B : Xn → Prop} {K : PySem.W.Frag} {mg : Str → Option Value} (T : Tx K mg) {n : Nat} {f : Gr}
theorem fills_perm {bs cs : List Gr} (F : Fills n f cs) (p : bs.Perm cs) : Fills n f bs := by
  refine ⟨fun h m => F.bd h (p.mem_iff.mp m), fun h m => F.full h (p.mem_iff.mp m), fun h m => F.ext h (p.mem_iff.mp m), fun g bg fg eg => ?_, ?_⟩
  · obtain ⟨h, hm, e⟩ := F.all g bg fg eg
    exact ⟨h, p.mem_iff.mpr hm, e⟩
  · refine (p.symm.pairwise_iff ?_).mp F.apart
    rintro x y ⟨i, j, hi, hj, ne⟩
    exact ⟨i, j, hi, hj, fun e => ne e.symm⟩
theorem sp_fillings (b : Bd n f) (q : ∀ bs, Fills n f bs → A (.int (bs.length : Nat))) : cal (w_fillings T) [.sh (gD n f)] A B := by
  refine cal_of ?_
  unfold w_fillings b_fillings
  simp
  refine sp_check T b ?_
  refine sp_filled b fun bs p => ?_
  simp
  exact q bs (fills_perm (fills b) p)
theorem sp_dead (b : Bd n f) (q : A (.tuple (deadL n f))) : cal (w_dead_cells T) [.sh (gD n f)] A B := by
  refine cal_of ?_
  have z9 : sizeLine = 16777216 := sizeLine_eq
  have h3 := b.hi
  have hg : gD n f = PyData.tuple (List.map (fun r => PyData.tuple (lnD n (f r))) (List.range n)) := rfl
  unfold w_dead_cells b_dead_cells
  simp
  refine sp_check T b ?_
  refine sp_puts_of (by omega) ?_
  refine lcW_mapL two _ _ (fun d hd Y y => ?_) ?_
  · obtain ⟨r, c, s, _, _, _, _, _, rfl⟩ := mem_puts.mp hd
    have c2 : cutD [PyData.int (r : Int), PyData.int (c : Int), PyData.int (s : Int)] none (some 2) = [PyData.int (r : Int), PyData.int (c : Int)] := rfl
    simp [trD, c2]
    exact y
  · rw [hg]
    simp only [enum_range]
    refine forW_rangeE (fun r => [some (.sh (gD n f)), some (.sh (.list ((puts n f).map two))), some (.ow none ((List.range r).flatMap (deadRow n f))), none, none, none, none, none]) n rfl (fun r hr N hN => ?_) ?_
    · rw [fm_succ] at hN
      have dl : ∀ k, (deadRow n f k).length ≤ n := fun k => by
        unfold deadRow
        rw [List.length_map]
        exact Nat.le_trans (List.length_filter_le _ _) (by simp)
      have l1 := fm_len (deadRow n f) n dl r
      have l2 := dl r
      have l3 : n * r ≤ 3 * 3 := Nat.mul_le_mul h3 (by omega)
      simp [-List.length_flatMap]
      rw [enum_ln]
      refine lcW_filter (deadAt n f r) (fun c => .tuple [.int (r : Nat), .int (c : Nat)]) _ _ _ (fun c hc Y N' hY hN' => ?_) ?_
      · have sh1 : SeqAt.shaped (.tuple [.int (r : Int), .int (c : Int)]) = true := shaped_of (shp_two _ _) (by decide)
        have sh2 := shaped_of (shp_live n f) (by decide)
        have la := @live_any n f r c
        simp [-List.any_eq_true, -List.any_eq_false, -List.any_map]
        rw [la]
        have ed : deadAt n f r c = (decide (f r c = none) && !(puts n f).any (cellIs r c)) := rfl
        by_cases e : f r c = none
        · cases h : (puts n f).any (cellIs r c) with
          | true =>
            rw [h] at ed
            simp [e] at ed
            simp [e, sh1, sh2]
            exact ⟨by omega, hN' ed⟩
          | false =>
            rw [h] at ed
            simp [e] at ed
            simp [e, sh1, sh2]
            exact ⟨by omega, hY ed⟩
        · simp [e] at ed
          simp [e]
          exact hN' ed
      · refine ⟨?_, hN⟩
        show _ + (deadRow n f r).length ≤ sizeLine
        omega
    · exact q
theorem if_all {bs : List Gr} {d : D} {X Y : Prop} (h1 : bs.all (hit d) = true → Y) (h2 : bs.all (hit d) = false → X) : if ∃ a, a ∈ bs ∧ hit d a = false then X else Y := by
  split
  · rename_i h
    obtain ⟨a, ha, e⟩ := h
    refine h2 (List.all_eq_false.mpr ⟨a, ha, by rw [e]; exact Bool.false_ne_true⟩)
  · rename_i h
    refine h1 (List.all_eq_true.mpr fun a ha => ?_)
    cases e : hit d a with
    | true => rfl
    | false => exact absurd ⟨a, ha, e⟩ h
theorem if_any {bs : List Gr} {d : D} {X Y : Prop} (h1 : bs.any (hit d) = true → X) (h2 : bs.any (hit d) = false → Y) : if ∃ a, a ∈ bs ∧ hit d a = true then X else Y := by
  split
  · rename_i h
    exact h1 (List.any_eq_true.mpr h)
  · rename_i h
    refine h2 ?_
    cases e : bs.any (hit d) with
    | false => rfl
    | true => exact absurd (List.any_eq_true.mp e) h
theorem sp_forced (b : Bd n f) (q : ∀ bs, Fills n f bs → A (.tuple (forcedL n f bs))) : cal (w_forced_puts T) [.sh (gD n f)] A B := by
  refine cal_of ?_
  have z9 : sizeLine = 16777216 := sizeLine_eq
  have h3 := b.hi
  unfold w_forced_puts b_forced_puts
  simp
  refine sp_check T b ?_
  refine sp_filled b fun bs p => ?_
  have F := fills_perm (fills b) p
  have q := q bs F
  unfold forcedL at q
  simp
  split
  · rename_i e
    rw [if_pos (by rw [e]; rfl)] at q
    exact q
  · rename_i e
    rw [if_neg (fun z => e (List.length_eq_zero_iff.mp z))] at q
    refine sp_puts_of (by omega) ?_
    refine lcW_filterL (fun d => bs.all (hit d)) id _ _ (fun d hd Y N' hY hN' => ?_) ?_
    · obtain ⟨r, c, s, hr, hc, hs, _, _, rfl⟩ := mem_puts.mp hd
      unfold trD
      simp
      refine lcW_map (fun g => .bool (hit (trD r c s) g)) (gD n) bs _ (fun g hg Y' y' => ?_) ?_
      · unfold gD
        simp
        rw [atI_map _ _ _ hr]
        simp
        rw [at_ln _ _ _ hc]
        simp
        simpa using y'
      · simp [-List.all_eq_true, -hit_tr]
        exact if_all (fun h => ⟨by omega, hY h⟩) hN'
    · rw [List.map_id]
      exact q
theorem sp_safe (b : Bd n f) (q : ∀ bs, Fills n f bs → A (.tuple (safeL n f bs))) : cal (w_safe_puts T) [.sh (gD n f)] A B := by
  refine cal_of ?_
  have z9 : sizeLine = 16777216 := sizeLine_eq
  have h3 := b.hi
  unfold w_safe_puts b_safe_puts
  simp
  refine sp_check T b ?_
  refine sp_filled b fun bs p => ?_
  have F := fills_perm (fills b) p
  have q := q bs F
  unfold safeL at q
  refine sp_puts_of (by omega) ?_
  refine lcW_filterL (fun d => bs.any (hit d)) id _ _ (fun d hd Y N' hY hN' => ?_) ?_
  · obtain ⟨r, c, s, hr, hc, hs, _, _, rfl⟩ := mem_puts.mp hd
    unfold trD
    simp
    refine lcW_map (fun g => .bool (hit (trD r c s) g)) (gD n) bs _ (fun g hg Y' y' => ?_) ?_
    · unfold gD
      simp
      rw [atI_map _ _ _ hr]
      simp
      rw [at_ln _ _ _ hc]
      simp
      simpa using y'
    · simp [-List.any_eq_true, -hit_tr]
      exact if_any (fun h => ⟨by omega, hY h⟩) hN'
  · rw [List.map_id]
    exact q
end
end K81
namespace K81
open PySem PySem.Spec PyProof.Rows L2 Dn
section
variable {K : PySem.W.Frag} {mg : Str → Option Value} (T : Tx K mg) {h : Addr} {n : Nat} {f : Gr} {t : D} {P : Post}
/-- the frame of the law: board, many, puts, every, some, dead, r, c, forced, sign, safe .. -/
abbrev fr (h : Addr) (t b m p e s x8 x9 x10 x11 x12 x13 : Option En) : Dn.Env := [none, some (.ob h), t, b, m, p, e, s, x8, x9, x10, x11, x12, x13, none, none]
theorem oks_sub {n : Nat} {f : Gr} {xs : List D} (h : ∀ d ∈ xs, d ∈ puts n f) : OkS 3 (.tuple xs) := fun x hx => oks_puts n f x (h x hx)
theorem oks_dead (n : Nat) (f : Gr) : OkS 3 (.tuple (deadL n f)) := by
  intro x hx
  obtain ⟨r, _, hx⟩ := List.mem_flatMap.mp hx
  unfold deadRow at hx
  obtain ⟨c, _, rfl⟩ := List.mem_map.mp hx
  intro y hy
  simp at hy
  rcases hy with rfl | rfl <;> trivial
theorem forced_sub {n : Nat} {f : Gr} {bs : List Gr} : ∀ d ∈ forcedL n f bs, d ∈ puts n f ∧ bs.length ≠ 0 ∧ bs.all (hit d) = true := fun d hd => by
  unfold forcedL at hd
  split at hd
  · cases hd
  · rename_i e
    obtain ⟨h1, h2⟩ := List.mem_filter.mp hd
    exact ⟨h1, e, h2⟩
theorem law_c1 {cs : List Gr} {m p e s x8 x9 x10 x12 : Option En} (b : Bd n f) (hP : ∀ y, P.nx (fr h (some (.sh t)) (some (.sh (gD n f))) m p e s x8 none none y none (some (.sh (.list (safeL n f cs)))))) :
    c1_law (fr h (some (.sh t)) (some (.sh (gD n f))) m p e s x8 x9 x10 (some (.ow none (forcedL n f cs))) x12 (some (.sh (.list (safeL n f cs))))) P := by
  have z9 : sizeLine = 16777216 := sizeLine_eq
  unfold c1_law fr
  simp
  refine forW_same _ (fun d hd N hN => ?_) (by simpa using hP _)
  obtain ⟨hp, hne, hal⟩ := forced_sub d hd
  obtain ⟨r, c, s0, hr, hc, hs, _, _, rfl⟩ := mem_puts.mp hp
  unfold trD
  simp
  refine lcW_mapL (fun _ => .bool false) _ _ (fun d2 hd2 Y y => ?_) ?_
  · unfold safeL at hd2
    obtain ⟨hd2, hany⟩ := List.mem_filter.mp hd2
    obtain ⟨r2, c2, s2, hr2, hc2, hs2, _, _, rfl⟩ := mem_puts.mp hd2
    have cc : cutD [PyData.int (r2 : Int), PyData.int (c2 : Int), PyData.int (s2 : Int)] none (some 2) = [PyData.int (r2 : Int), PyData.int (c2 : Int)] := rfl
    have sh1 : SeqAt.shaped (.tuple [.int (r2 : Int), .int (c2 : Int)]) = true := shaped_of (shp_two _ _) (by decide)
    have sh2 : SeqAt.shaped (.tuple [.int (r : Int), .int (c : Int)]) = true := shaped_of (shp_two _ _) (by decide)
    unfold trD
    simp [cc, sh1, sh2]
    refine ⟨by omega, ?_⟩
    by_cases er : r2 = r
    · by_cases ec : c2 = c
      · subst er ec
        simp
        obtain ⟨g, hg, hh⟩ := List.any_eq_true.mp hany
        have ha := List.all_eq_true.mp hal g hg
        rw [hit_tr] at hh ha
        have e1 := of_decide_eq_true hh
        have e2 := of_decide_eq_true ha
        rw [e1] at e2
        injection e2 with e2
        rw [e2]
        simpa using y
      · have ec2 : ¬ ((c2 : Int) = c) := by omega
        rw [show (((r2 : Int) == (r : Int)) && ((c2 : Int) == (c : Int))) = false by simp [ec2]]
        exact y
    · have er2 : ¬ ((r2 : Int) = r) := by omega
      rw [show (((r2 : Int) == (r : Int)) && ((c2 : Int) == (c : Int))) = false by simp [er2]]
      exact y
  · simp
    exact hN
theorem law_c3 {cs : List Gr} {m e x8 x9 x10 x12 : Option En} (b : Bd n f) (G : Fills n f cs) (hP : ∀ y, P.nx (fr h (some (.sh t)) (some (.sh (gD n f))) m (some (.sh (.list (puts n f)))) e (some (.sh (.list (cs.map (gD n))))) x8 none none y none (some (.sh (.list (safeL n f cs)))))) :
    c3_law T (fr h (some (.sh t)) (some (.sh (gD n f))) m (some (.sh (.list (puts n f)))) e (some (.sh (.list (cs.map (gD n))))) x8 x9 x10 (some (.ow none (forcedL n f cs))) x12 none) P := by
  have z9 : sizeLine = 16777216 := sizeLine_eq
  unfold c3_law fr
  simp
  refine lcW_filterL (fun d => cs.any (hit d)) id _ _ (fun d hd Y N' hY hN' => ?_) ?_
  · obtain ⟨r, c, s, hr, hc, hs, _, _, rfl⟩ := mem_puts.mp hd
    unfold trD
    simp
    refine lcW_map (fun g => .bool (hit (trD r c s) g)) (gD n) cs _ (fun g hg Y' y' => ?_) ?_
    · unfold gD
      simp
      rw [atI_map _ _ _ hr]
      simp
      rw [at_ln _ _ _ hc]
      simp
      simpa using y'
    · simp [-List.any_eq_true, -hit_tr]
      exact if_any hY hN'
  · rw [List.map_id]
    unfold c2_law
    simp
    refine sp_safe T b fun bs F => ?_
    rw [safe_same F G]
    refine sp_is_self (oks_sub (f := f) fun d hd => (List.mem_filter.mp hd).1) ?_
    simp
    exact law_c1 b hP
theorem law_c5 {cs : List Gr} {m e x8 x9 x10 x12 : Option En} (b : Bd n f) (G : Fills n f cs) (hP : ∀ y, P.nx (fr h (some (.sh t)) (some (.sh (gD n f))) m (some (.sh (.list (puts n f)))) e (some (.sh (.list (cs.map (gD n))))) x8 none none y none (some (.sh (.list (safeL n f cs)))))) :
    c5_law T (fr h (some (.sh t)) (some (.sh (gD n f))) m (some (.sh (.list (puts n f)))) e (some (.sh (.list (cs.map (gD n))))) x8 none none (some (.ow none [])) none none) P := by
  have z9 : sizeLine = 16777216 := sizeLine_eq
  have h3 := b.hi
  have hl := puts_len n f
  have hl2 : n * n * n ≤ 3 * 3 * 3 := Nat.mul_le_mul (Nat.mul_le_mul h3 h3) h3
  unfold c5_law fr
  simp
  refine forW_preE (fun pre => fr h (some (.sh t)) (some (.sh (gD n f))) m (some (.sh (.list (puts n f)))) e (some (.sh (.list (cs.map (gD n))))) x8 none none (some (.ow none (if cs.length = 0 then [] else pre.filter fun d => cs.all (hit d)))) none none) (puts n f) (by simp [fr]) (fun p d rr e9 N hN => ?_) ?_
  · have hd : d ∈ puts n f := by
      rw [e9]
      simp
    have hpl : p.length ≤ 27 := by
      have : (puts n f).length = p.length + (d :: rr).length := by rw [e9, List.length_append]
      omega
    have hfl : (p.filter fun d => cs.all (hit d)).length ≤ p.length := List.length_filter_le _ _
    obtain ⟨r, c, s, hr, hc, hs, _, _, rfl⟩ := mem_puts.mp hd
    unfold trD fr
    simp
    by_cases e0 : cs = []
    · subst e0
      simp [fr] at hN
      simp
      exact hN
    · have e1 : 0 < cs.length := List.length_pos_iff.mpr e0
      simp only [e1, decide_true, if_true, if_neg e0]
      rw [if_neg (by omega)] at hN
      refine lcW_map (fun g => .bool (hit (trD r c s) g)) (gD n) cs _ (fun g hg Y' y' => ?_) ?_
      · unfold gD
        simp
        rw [atI_map _ _ _ hr]
        simp
        rw [at_ln _ _ _ hc]
        simp
        simpa using y'
      · simp [-List.all_eq_true, -hit_tr]
        refine if_all (fun hh => ?_) (fun hh => ?_)
        · rw [List.filter_append] at hN
          simp only [List.filter_cons, hh, if_true, List.filter_nil] at hN
          exact ⟨by omega, by omega, hN⟩
        · rw [List.filter_append] at hN
          simp only [List.filter_cons, hh, Bool.false_eq_true, if_false, List.filter_nil, List.append_nil] at hN
          exact hN
  · rw [show (if cs.length = 0 then [] else (puts n f).filter fun d => cs.all (hit d)) = forcedL n f cs from rfl]
    show c4_law T (fr h (some (.sh t)) (some (.sh (gD n f))) m (some (.sh (.list (puts n f)))) e (some (.sh (.list (cs.map (gD n))))) x8 none none (some (.ow none (forcedL n f cs))) none none) P
    unfold c4_law fr
    simp
    refine sp_forced T b fun bs F => ?_
    rw [forced_same F G]
    refine sp_is_self (oks_sub (f := f) fun d hd => (forced_sub d hd).1) ?_
    simp
    exact law_c3 T b G hP
theorem law_c9 {cs : List Gr} {e : Option En} (b : Bd n f) (G : Fills n f cs) (hP : ∀ x8 y, P.nx (fr h (some (.sh t)) (some (.sh (gD n f))) (some (.sh (.int n))) (some (.sh (.list (puts n f)))) e (some (.sh (.list (cs.map (gD n))))) x8 none none y none (some (.sh (.list (safeL n f cs)))))) :
    c9_law T (fr h (some (.sh t)) (some (.sh (gD n f))) (some (.sh (.int n))) (some (.sh (.list (puts n f)))) e (some (.sh (.list (cs.map (gD n))))) none none none none none none) P := by
  have z9 : sizeLine = 16777216 := sizeLine_eq
  have h3 := b.hi
  unfold c9_law c8_law fr
  simp
  refine ⟨by omega, forW_rangeE (fun k => fr h (some (.sh t)) (some (.sh (gD n f))) (some (.sh (.int n))) (some (.sh (.list (puts n f)))) e (some (.sh (.list (cs.map (gD n))))) (some (.ow none ((List.range k).flatMap (deadRow n f)))) none none none none none) n (by simp [fr]) (fun r hr N hN => ?_) ?_⟩
  · rw [fm_succ] at hN
    have dl : ∀ k, (deadRow n f k).length ≤ n := fun k => by
      unfold deadRow
      rw [List.length_map]
      exact Nat.le_trans (List.length_filter_le _ _) (by simp)
    have l1 := fm_len (deadRow n f) n dl r
    have l3 : n * r ≤ 3 * 3 := Nat.mul_le_mul h3 (by omega)
    unfold fr
    simp
    refine ⟨by omega, forW_rangeE (fun k => fr h (some (.sh t)) (some (.sh (gD n f))) (some (.sh (.int n))) (some (.sh (.list (puts n f)))) e (some (.sh (.list (cs.map (gD n))))) (some (.ow none ((List.range r).flatMap (deadRow n f) ++ ((List.range k).filter (deadAt n f r)).map fun c => .tuple [.int (r : Nat), .int (c : Nat)]))) (some (.sh (.int r))) none none none none) n (by simp [fr]) (fun c hc M hM => ?_) ?_⟩
    · have l2 : ((List.range c).filter (deadAt n f r)).length ≤ 3 := Nat.le_trans (List.length_filter_le _ _) (by simp; omega)
      rw [List.range_succ, List.filter_append, List.map_append] at hM
      have hg : gD n f = PyData.tuple (List.map (fun r => PyData.tuple (lnD n (f r))) (List.range n)) := rfl
      unfold fr
      rw [hg]
      simp [-List.length_flatMap]
      rw [atI_map _ _ _ hr]
      simp [-List.length_flatMap]
      rw [at_ln _ _ _ hc]
      simp [-List.length_flatMap]
      rw [← hg]
      have ed : deadAt n f r c = (decide (f r c = none) && !(puts n f).any (cellIs r c)) := rfl
      have la := @live_any n f r c
      split
      · rename_i e0
        refine ⟨by omega, lcW_mapL two _ _ (fun d hd Y y => ?_) ?_⟩
        · obtain ⟨r2, c2, s, _, _, _, _, _, rfl⟩ := mem_puts.mp hd
          have cc : cutD [PyData.int (r2 : Int), PyData.int (c2 : Int), PyData.int (s : Int)] none (some 2) = [PyData.int (r2 : Int), PyData.int (c2 : Int)] := rfl
          simp [trD, cc]
          exact y
        · refine ⟨⟨shaped_of (shp_two _ _) (by decide), shaped_of (shp_live n f) (by decide)⟩, ?_⟩
          split
          · rename_i h0
            have hf : (puts n f).any (cellIs r c) = false := by
              rw [← la, List.any_eq_false]
              intro x hx q
              rw [h0 x hx] at q
              cases q
            have dt : deadAt n f r c = true := by rw [ed, hf]; simp [e0]
            simp only [List.filter_cons, dt, if_true, List.filter_nil, List.map_cons, List.map_nil] at hM
            exact ⟨by omega, by omega, hM⟩
          · rename_i h0
            have hf : (puts n f).any (cellIs r c) = true := by
              cases q : (puts n f).any (cellIs r c) with
              | true => rfl
              | false =>
                rw [q, List.any_eq_false] at la
                exact absurd (fun x hx => Bool.eq_false_iff.mpr (la x hx)) h0
            have dt : deadAt n f r c = false := by rw [ed, hf]; simp
            simp only [List.filter_cons, dt, Bool.false_eq_true, if_false, List.filter_nil, List.map_nil, List.append_nil] at hM
            exact hM
      · rename_i e0
        have dt : deadAt n f r c = false := by rw [ed]; simp [e0]
        simp only [List.filter_cons, dt, Bool.false_eq_true, if_false, List.filter_nil, List.map_nil, List.append_nil] at hM
        exact hM
    · simp
      exact hN
  · show c7_law T (fr h (some (.sh t)) (some (.sh (gD n f))) (some (.sh (.int n))) (some (.sh (.list (puts n f)))) e (some (.sh (.list (cs.map (gD n))))) (some (.ow none (deadL n f))) none none none none none) P
    unfold c7_law fr
    simp
    refine sp_dead T b ?_
    refine sp_is_self (oks_dead n f) ?_
    have c6 : c6_law T (fr h (some (.sh t)) (some (.sh (gD n f))) (some (.sh (.int n))) (some (.sh (.list (puts n f)))) e (some (.sh (.list (cs.map (gD n))))) (some (.ow none (deadL n f))) none none none none none) P := by
      unfold c6_law fr
      simp
      exact law_c5 T (x9 := none) (x10 := none) (x12 := none) b G fun y => hP _ y
    simp
    by_cases h0 : deadL n f = []
    · simp [h0]
      rw [h0] at c6
      exact c6
    · have hc := dead_none G h0
      have l0 : 0 < (deadL n f).length := List.length_pos_iff.mpr h0
      simp [l0, hc]
      rw [hc] at c6
      exact c6
end
theorem plain_law : Plain := by
  intro K mg T h
  unfold b_law c14_law
  simp
  refine forW_same _ (fun t ht N hN => ?_) (by simp)
  simp
  refine sp_board fun n f b _ => ?_
  have hg : gD n f = PyData.tuple (List.map (fun r => PyData.tuple (lnD n (f r))) (List.range n)) := rfl
  have h3 := b.hi
  unfold c13_law
  rw [hg]
  simp
  rw [← hg]
  refine sp_puts_law (by omega) ?_
  unfold c12_law
  simp
  refine sp_squares b.lo b.hi ?_
  unfold c11_law
  simp
  refine sp_law_fill b ?_
  unfold c10_law
  simp
  refine sp_fillings T b fun bs F => ?_
  have G := law_fills b
  have S := allSq b.lo h3
  have e1 : bs.length = ((squaresL n).filter (consB n f)).length := by
    have := fills_len F G
    rwa [List.length_map] at this
  have e2 : ((squaresL n).filter (consB n f)).map sqD = (((squaresL n).filter (consB n f)).map toGr).map (gD n) := by
    rw [List.map_map]
    exact List.map_congr_left fun rows hr => sqD_g (S.shape rows (List.mem_filter.mp hr).1)
  rw [e1]
  refine sp_is_self (show OkS 3 (.int _) from trivial) ?_
  refine ⟨rfl, ?_⟩
  rw [e2]
  refine law_c9 T b G fun x8 y => ?_
  simp [fr]
  exact hN
end K81
open PySem PySem.W PyProof.Rows in
set_option maxRecDepth 100000 in
set_option maxHeartbeats 0 in
theorem PySem.Challenge.cw_squarehouse_k81_whole_puts_that_are_safe_holds : PySem.Challenge.rw_squarehouse_k81_whole_puts_that_are_safe.Holds := by
  w_on; o_law; k_head; (case hw => w_witness2)
  k_fill
  refine K81.walk (l := PySem.Challenge.rw_squarehouse_k81_whole_puts_that_are_safe) rfl rfl (fun w h Y => PySem.W.kIn_of Y) ?F
  case F =>
    intro w mg fa h KX G hmg
    refine' K81.all_mk K81.plain_law KX G hmg ?a0 ?l0 ?c0 ?k0 ?a1 ?l1 ?c1 ?k1 ?a2 ?l2 ?c2 ?k2 ?a3 ?l3 ?c3 ?k3 ?a4 ?l4 ?c4 ?k4 ?a5 ?l5 ?c5 ?k5 ?a6 ?l6 ?c6 ?k6 ?a7 ?l7 ?c7 ?k7 ?a8 ?l8 ?c8 ?k8 ?a9 ?l9 ?c9 ?k9 ?a10 ?l10 ?c10 ?k10 ?a11 ?l11 ?c11 ?k11 ?a12 ?l12 ?c12 ?k12 ?a13 ?l13 ?c13 ?k13 ?a14 ?l14 ?c14 ?k14 ?a15 ?l15 ?c15 ?k15 ?a16 ?l16 ?c16 ?k16 ?a17 ?l17 ?c17 ?k17 ?a18 ?l18 ?c18 ?k18 ?a19 ?l19 ?c19 ?k19 ?a20 ?l20 ?c20 ?k20 ?a21 ?l21 ?c21 ?k21 ?a22 ?l22 ?c22 ?k22 ?a23 ?l23 ?c23 ?k23 ?a24 ?l24 ?c24 ?k24 ?z_abs ?z_all ?z_any ?z_bool ?z_dict ?z_enumerate ?z_int ?z_isinstance ?z_len ?z_list ?z_range ?z_sorted ?z_str ?z_sum ?z_tuple ?z_zip ?g_MOST_N ?g_NoBoard ?x_NoBoard ?q_NoBoard ?s_NoBoard ?t_NoBoard
    (case a0 => k_is)
    (case l0 => k_is)
    (case c0 => k_is)
    (case k0 => k_is)
    (case a1 => k_is)
    (case l1 => k_is)
    (case c1 => k_is)
    (case k1 => k_is)
    (case a2 => k_is)
    (case l2 => k_is)
    (case c2 => k_is)
    (case k2 => k_is)
    (case a3 => k_is)
    (case l3 => k_is)
    (case c3 => k_is)
    (case k3 => k_is)
    (case a4 => k_is)
    (case l4 => k_is)
    (case c4 => k_is)
    (case k4 => k_is)
    (case a5 => k_is)
    (case l5 => k_is)
    (case c5 => k_is)
    (case k5 => k_is)
    (case a6 => k_is)
    (case l6 => k_is)
    (case c6 => k_is)
    (case k6 => k_is)
    (case a7 => k_is)
    (case l7 => k_is)
    (case c7 => k_is)
    (case k7 => k_is)
    (case a8 => k_is)
    (case l8 => k_is)
    (case c8 => k_is)
    (case k8 => k_is)
    (case a9 => k_is)
    (case l9 => k_is)
    (case c9 => k_is)
    (case k9 => k_is)
    (case a10 => k_is)
    (case l10 => k_is)
    (case c10 => k_is)
    (case k10 => k_is)
    (case a11 => k_is)
    (case l11 => k_is)
    (case c11 => k_is)
    (case k11 => k_is)
    (case a12 => k_is)
    (case l12 => k_is)
    (case c12 => k_is)
    (case k12 => k_is)
    (case a13 => k_is)
    (case l13 => k_is)
    (case c13 => k_is)
    (case k13 => k_is)
    (case a14 => k_is)
    (case l14 => k_is)
    (case c14 => k_is)
    (case k14 => k_is)
    (case a15 => k_is)
    (case l15 => k_is)
    (case c15 => k_is)
    (case k15 => k_is)
    (case a16 => k_is)
    (case l16 => k_is)
    (case c16 => k_is)
    (case k16 => k_is)
    (case a17 => k_is)
    (case l17 => k_is)
    (case c17 => k_is)
    (case k17 => k_is)
    (case a18 => k_is)
    (case l18 => k_is)
    (case c18 => k_is)
    (case k18 => k_is)
    (case a19 => k_is)
    (case l19 => k_is)
    (case c19 => k_is)
    (case k19 => k_is)
    (case a20 => k_is)
    (case l20 => k_is)
    (case c20 => k_is)
    (case k20 => k_is)
    (case a21 => k_is)
    (case l21 => k_is)
    (case c21 => k_is)
    (case k21 => k_is)
    (case a22 => k_is)
    (case l22 => k_is)
    (case c22 => k_is)
    (case k22 => k_is)
    (case a23 => k_is)
    (case l23 => k_is)
    (case c23 => k_is)
    (case k23 => k_is)
    (case a24 => k_is)
    (case l24 => k_is)
    (case c24 => k_is)
    (case k24 => k_is)
    (case z_abs => k_is)
    (case z_all => k_is)
    (case z_any => k_is)
    (case z_bool => k_is)
    (case z_dict => k_is)
    (case z_enumerate => k_is)
    (case z_int => k_is)
    (case z_isinstance => k_is)
    (case z_len => k_is)
    (case z_list => k_is)
    (case z_range => k_is)
    (case z_sorted => k_is)
    (case z_str => k_is)
    (case z_sum => k_is)
    (case z_tuple => k_is)
    (case z_zip => k_is)
    (case g_MOST_N => k_is)
    (case g_NoBoard => k_is)
    (case x_NoBoard => k_exc)
    (case q_NoBoard => k_is)
    (case s_NoBoard => k_is)
    (case t_NoBoard => k_is)
