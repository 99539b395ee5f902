import PyProof.Rows.All
import Wide.All
import OpenK.AllK
import Wide.FinOn
import HandS.ForMost
import HandS.Walk
import HandS.Zip
import HandS.TupAny
import HandS.TupMul
import HandS.IsInst
import HandS.Deep
import HandS.Exc
import HandS.ExcOwn
import HandS.TryOnly
import HandS.WordsExc
import HandS.Small
import KE.KDictKeyed
import KE.KeyNested
import HandS.Lambda
import HandS.SetFor
import KE.GoesMore
import HandS.ExcIs
import KE.SortData
import HandS.SortRule
import KE.KDictCopyH
import KE.KDictDisplayH
import HandS.TupLen
import HandS.Style
import PySem.Challenge.RW_squarehouse_k79_whole_fillers_and_spoile
set_option Elab.async false
set_option linter.all false
set_option maxRecDepth 100000
set_option maxHeartbeats 4000000
/-! Dn1: plain data for values (Rp), the relation of a frame to a plain environment (StR), what a step leaves (Ext). -/
namespace Dn
open PySem PySem.Spec PyProof.Rows L2
abbrev D := PyData
/-- the library's fragment, and which tables of code objects the law's lambdas are made over -/
structure KT where
  k : PySem.W.Frag
  t : List (Addr × Str)
instance : CoeOut KT PySem.W.Frag := ⟨KT.k⟩
/-- what stands in a dict's object: keys, their values, values -/
def DictAt (a : Addr) (o : Obj) (xs : List (NestedKey × Value × Value)) (h : Heap) : Prop := h.get? a = some o ∧ o.ExactDict ∧ ∃ es ep, o.data = .dict es ep ∧ (∀ w : World, es.toList = xs.map fun x => (⟨NestedKey.hash w x.1, x.2.1, x.2.2⟩ : DictEntry)) ∧ (xs.map (·.1)).Nodup
mutual
/-- the key of a piece of data -/
def keyD : D → Option NestedKey
  | .none => some .none
  | .bool b => some (.num (if b then 1 else 0))
  | .int i => some (.num i)
  | .tuple xs => (keyDs xs).map .tup
  | _ => none
def keyDs : List D → Option (List NestedKey)
  | [] => some []
  | x :: xs => match keyD x, keyDs xs with
    | some k, some ks => some (k :: ks)
    | _, _ => none
end
/-- what a dict is called of which nothing is known -/
def opqE : List (D × D) := [(.dict [], .none)]
mutual
inductive Rp (K : KT) (F : Hp) : V → D → Prop
  | non : Rp K F .non .none
  | bl (b : Bool) : Rp K F (.bl b) (.bool b)
  | int (i : Int) : Rp K F (.int i) (.int i)
  | str (x : Str) : Rp K F (.str x) (.str x)
  | lst {a : Addr} {xs : List V} {ds : List D} : F a = some (.lst xs) → xs.length ≤ sizeLine → Rps K F xs ds → Rp K F (.ref a) (.list ds)
  | tup {a : Addr} {xs : List V} {ds : List D} : SqT K F a xs → xs.length ≤ sizeLine → Rps K F xs ds → Rp K F (.ref a) (.tuple ds)
  /-- a dict of which nothing is asked but that it is one -/
  | dct {a : Addr} {kvs : List (Key × V)} : F a = some (.dK kvs) → Rp K F (.ref a) (.dict opqE)
  /-- a dict of keyed data -/
  | dcd {a : Addr} {o : Obj} {xs : List (NestedKey × Value × Value)} {es : List (D × D)} : F a = some (.ext (DictAt a o xs)) → (a == sysModules) = false → xs.length ≤ sizeLine → Ents K F xs es → Rp K F (.ref a) (.dict es)
inductive Rps (K : KT) (F : Hp) : List V → List D → Prop
  | nil : Rps K F [] []
  | cons {v : V} {vs : List V} {d : D} {ds : List D} : Rp K F v d → Rps K F vs ds → Rps K F (v :: vs) (d :: ds)
inductive Ents (K : KT) (F : Hp) : List (NestedKey × Value × Value) → List (D × D) → Prop
  | nil : Ents K F [] []
  | cons {k : NestedKey} {b u : Value} {kv v : V} {kd vd : D} {xs : List (NestedKey × Value × Value)} {es : List (D × D)} : keyD kd = some k → k.depth ≤ 8 → RelV kv b → Rp K F kv kd → RelV v u → Rp K F v vd → Ents K F xs es → Ents K F ((k, b, u) :: xs) ((kd, vd) :: es)
end
theorem sameT {K : KT} {H H' : Hp} {a : Addr} {xs : List V} (e : Same H H') (h : SqT K H a xs) : SqT K H' a xs := by
  rcases h with (h | ⟨o, h⟩) | h
  · exact .inl (.inl (e _ _ h))
  · exact .inl (.inr ⟨o, e _ _ h⟩)
  · exact .inr h
mutual
theorem Rp.mono {K : KT} {F F' : Hp} (hs : Same F F') : ∀ {v : V} {d : D}, Rp K F v d → Rp K F' v d
  | _, _, .non => .non
  | _, _, .bl b => .bl b
  | _, _, .int i => .int i
  | _, _, .str x => .str x
  | _, _, .lst h l r => .lst (hs _ _ h) l (Rps.mono hs r)
  | _, _, .tup h l r => .tup (sameT hs h) l (Rps.mono hs r)
  | _, _, .dct h => .dct (hs _ _ h)
  | _, _, .dcd h n l r => .dcd (hs _ _ h) n l (Ents.mono hs r)
theorem Rps.mono {K : KT} {F F' : Hp} (hs : Same F F') : ∀ {vs : List V} {ds : List D}, Rps K F vs ds → Rps K F' vs ds
  | _, _, .nil => .nil
  | _, _, .cons h r => .cons (Rp.mono hs h) (Rps.mono hs r)
theorem Ents.mono {K : KT} {F F' : Hp} (hs : Same F F') : ∀ {xs : List (NestedKey × Value × Value)} {es : List (D × D)}, Ents K F xs es → Ents K F' xs es
  | _, _, .nil => .nil
  | _, _, .cons k l ra a r b t => .cons k l ra (Rp.mono hs a) r (Rp.mono hs b) (Ents.mono hs t)
end
section
variable {K : KT} {F : Hp}
theorem Rps.length : ∀ {vs : List V} {ds : List D}, Rps K F vs ds → vs.length = ds.length
  | _, _, .nil => rfl
  | _, _, .cons _ r => congrArg (· + 1) (Rps.length r)
theorem Rps.get : ∀ {vs : List V} {ds : List D} {i : Nat} {v : V}, Rps K F vs ds → vs[i]? = some v → ∃ d, ds[i]? = some d ∧ Rp K F v d
  | _, _, _, _, .nil, e => by simp at e
  | _, _, 0, _, .cons h _, e => by simp at e; subst e; exact ⟨_, rfl, h⟩
  | _, _, i + 1, _, .cons _ r, e => by
    obtain ⟨d, h1, h2⟩ := Rps.get (i := i) r (by simpa using e)
    exact ⟨d, by simpa using h1, h2⟩
theorem Rps.getD : ∀ {vs : List V} {ds : List D} {i : Nat} {d : D}, Rps K F vs ds → ds[i]? = some d → ∃ v, vs[i]? = some v ∧ Rp K F v d
  | _, _, _, _, .nil, e => by simp at e
  | _, _, 0, _, .cons h _, e => by simp at e; subst e; exact ⟨_, rfl, h⟩
  | _, _, i + 1, _, .cons _ r, e => by
    obtain ⟨d, h1, h2⟩ := Rps.getD (i := i) r (by simpa using e)
    exact ⟨d, by simpa using h1, h2⟩
theorem Rps.append : ∀ {vs ws : List V} {ds es : List D}, Rps K F vs ds → Rps K F ws es → Rps K F (vs ++ ws) (ds ++ es)
  | _, _, _, _, .nil, h => h
  | _, _, _, _, .cons a r, h => .cons a (Rps.append r h)
theorem Rps.one {v : V} {d : D} (h : Rp K F v d) : Rps K F [v] [d] := .cons h .nil
theorem Rps.take : ∀ {vs : List V} {ds : List D} (n : Nat), Rps K F vs ds → Rps K F (vs.take n) (ds.take n)
  | _, _, 0, _ => by simpa using Rps.nil
  | _, _, n + 1, .nil => by simpa using Rps.nil
  | _, _, n + 1, .cons a r => by simpa using Rps.cons a (Rps.take n r)
theorem Rps.drop : ∀ {vs : List V} {ds : List D} (n : Nat), Rps K F vs ds → Rps K F (vs.drop n) (ds.drop n)
  | _, _, 0, h => by simpa using h
  | _, _, n + 1, .nil => by simpa using Rps.nil
  | _, _, n + 1, .cons a r => by simpa using Rps.drop n r
theorem Rps.rep {vs : List V} {ds : List D} (h : Rps K F vs ds) : ∀ k : Nat, Rps K F (List.replicate k vs).flatten (List.replicate k ds).flatten
  | 0 => .nil
  | k + 1 => by
    rw [List.replicate_succ, List.replicate_succ, List.flatten_cons, List.flatten_cons]
    exact h.append (Rps.rep h k)
theorem Rps.dropLast : ∀ {vs : List V} {ds : List D}, Rps K F vs ds → Rps K F vs.dropLast ds.dropLast
  | _, _, .nil => .nil
  | _, _, .cons _ .nil => .nil
  | _, _, .cons a (.cons b r) => by
    rw [List.dropLast_cons₂, List.dropLast_cons₂]
    exact .cons a (Rps.dropLast (.cons b r))
theorem Rps.set {v : V} {d : D} (h : Rp K F v d) : ∀ {vs : List V} {ds : List D} (i : Nat), Rps K F vs ds → Rps K F (vs.set i v) (ds.set i d)
  | _, _, _, .nil => .nil
  | _, _, 0, .cons _ r => .cons h r
  | _, _, i + 1, .cons a r => .cons a (Rps.set h i r)
theorem Rps.isEmpty {vs : List V} {ds : List D} (h : Rps K F vs ds) : vs.isEmpty = ds.isEmpty := by
  cases h <;> rfl
end
/-! the kit's own description of data -/
mutual
theorem Rp.dp {K : KT} {F H : Hp} (e : Same F H) : ∀ {v : V} {d : D}, d.canLay0 = true → Rp K F v d → Dp K H v d
  | _, _, _, .non => .non
  | _, _, _, .bl b => .bl b
  | _, _, _, .int i => .int i
  | _, _, _, .str x => .str x
  | _, _, c, .lst h _ r => .lst (SqL.of (e _ _ h)) (Rps.dp e (by simpa [PyData.canLay0] using c) r)
  | _, _, c, .tup h _ r => .tup (sameT e h) (Rps.dp e (by simpa [PyData.canLay0] using c) r)
  | _, _, c, .dct _ => by simp [PyData.canLay0] at c
  | _, _, c, .dcd _ _ _ _ => by simp [PyData.canLay0] at c
theorem Rps.dp {K : KT} {F H : Hp} (e : Same F H) : ∀ {vs : List V} {ds : List D}, PyData.canLayAll0 ds = true → Rps K F vs ds → DpAll K H vs ds
  | _, _, _, .nil => .nil
  | _, _, c, .cons h r => by
    simp only [PyData.canLayAll0, Bool.and_eq_true] at c
    exact .cons (Rp.dp e c.1 h) (Rps.dp e c.2 r)
end

/-! ### the hand: the one object that every draw changes; tables of code objects -/
def HandAt (F H : Hp) (h : Addr) : Prop := F h = none ∧ ∃ (c : Addr) (p l x n : Int) (cs : List Int), H h = some (.lst [.ref c, .int p, .int l, .int x, .int n]) ∧ F c = some (.lst (cs.map V.int)) ∧
  cs.length ≤ 63 ∧ (∀ i ∈ cs, 0 ≤ i) ∧ 0 ≤ p ∧ 0 ≤ l ∧ 0 ≤ x ∧ 0 ≤ n
/-- the tables: each code object in one bears its name -/
def TabF (T : List (Addr × Str)) (F H : Hp) : Prop := ∀ p ∈ T, F p.1 = none ∧ ∃ ps : Array Value, H p.1 = some (.tbl ps) ∧ TriplesOk ps.toList ∧ ∀ (pos : Pos) (cv : Value), codeAmong pos ps.toList = some cv → ∃ c, cv = .ref c ∧ F c = some (LamX.CodeO c p.2)
structure WdOk (K : KT) (W : Option Addr) (F H : Hp) : Prop where
  hd : ∀ h, W = some h → HandAt F H h
  tb : TabF K.t F H
abbrev NoTbl (o : HO) : Prop := ∀ ps, o ≠ .tbl ps
/-- what an expression, a call leaves -/
structure Ext (K : KT) (W : Option Addr) (F H F' H' : Hp) : Prop where
  f : Same F F'
  u : Same F' H'
  w : WdOk K W F' H'
  keep : ∀ a o, H a = some o → W ≠ some a → NoTbl o → H' a = some o
  opn : ∀ a o, H a = some o → F a = none → NoTbl o → F' a = none
  old : ∀ p ∈ K.t, ∃ ps, H p.1 = some (.tbl ps)
  alive : ∀ a, H' a = none → H a = none
theorem nt_lst {xs : List V} : NoTbl (.lst xs) := fun _ z => nomatch z
theorem nt_tup {xs : List V} : NoTbl (.tup xs) := fun _ z => nomatch z
theorem nt_ext {φ : Heap → Prop} : NoTbl (.ext φ) := fun _ z => nomatch z
theorem nt_xd {fs : List (Str × V)} : NoTbl (.xd fs) := fun _ z => nomatch z
section
variable {K : KT} {W : Option Addr} {F H F1 H1 F2 H2 : Hp}
theorem WdOk.old (w : WdOk K W F H) : ∀ p ∈ K.t, ∃ ps, H p.1 = some (.tbl ps) := fun p hp => let ⟨_, ps, h, _⟩ := w.tb p hp; ⟨ps, h⟩
theorem Ext.refl (u : Same F H) (w : WdOk K W F H) : Ext K W F H F H := ⟨Same.refl _, u, w, fun _ _ h _ _ => h, fun _ _ _ h _ => h, w.old, fun _ h => h⟩
theorem Ext.trans (a : Ext K W F H F1 H1) (b : Ext K W F1 H1 F2 H2) : Ext K W F H F2 H2 := by
  refine ⟨a.f.trans b.f, b.u, b.w, fun x o h n t => b.keep x o (a.keep x o h n t) n t, fun x o h n t => ?_, a.old, fun x h => a.alive x (b.alive x h)⟩
  by_cases q : W = some x
  · exact (b.w.hd x q).1
  · exact b.opn x o (a.keep x o h q t) (a.opn x o h n t) t
/-- the tables, where nothing of theirs is touched -/
theorem TabF.step {T : List (Addr × Str)} (t : TabF T F H) (h : ∀ p ∈ T, H1 p.1 = H p.1 ∧ F1 p.1 = none) (e : Same F F1) : TabF T F1 H1 := fun p hp => by
  obtain ⟨_, ps, h2, h3, h4⟩ := t p hp
  obtain ⟨g1, g2⟩ := h p hp
  exact ⟨g2, ps, g1.trans h2, h3, fun pos cv q => let ⟨c, e1, e2⟩ := h4 pos cv q; ⟨c, e1, e _ _ e2⟩⟩
theorem Ext.new {p : Addr} {o : HO} (u : Same F H) (w : WdOk K W F H) (h : H p = none) : Ext K W F H (upd F p o) (upd H p o) := by
  have fp : F p = none := u.free h
  have new : ∀ {G : Hp}, G p = none → Same G (upd G p o) := fun g b q e => by
    rw [upd_ne (ne_of_none e g)]
    exact e
  refine ⟨new fp, fun b q e => ?_, ⟨fun x hx => ?_, w.tb.step (fun q hq => ?_) (new fp)⟩, fun a q e _ _ => new h a q e, fun a q e n _ => ?_, w.old, fun a q => ?_⟩
  · by_cases z : b = p
    · subst z
      rw [upd_same] at e ⊢
      exact e
    · rw [upd_ne z] at e ⊢
      exact u b q e
  · obtain ⟨n, c, p1, l, x1, n1, cs, h1, h2, r⟩ := w.hd x hx
    have nx : x ≠ p := ne_of_none h1 h
    exact ⟨by rw [upd_ne nx]; exact n, c, p1, l, x1, n1, cs, by rw [upd_ne nx]; exact h1, new fp _ _ h2, r⟩
  · obtain ⟨n, ps, h1, _⟩ := w.tb q hq
    have nx : q.1 ≠ p := ne_of_none h1 h
    exact ⟨upd_ne nx, by rw [upd_ne nx]; exact n⟩
  · rw [upd_ne (ne_of_none e h)]
    exact n
  · by_cases z : a = p
    · rw [z, upd_same] at q
      cases q
    · rwa [upd_ne z] at q
end
/-- a list of the frame's own is let go: from now on it stands still -/
theorem Ext.freeze {K : KT} {W : Option Addr} {F0 H0 F H : Hp} {a : Addr} {o : HO} (e : Ext K W F0 H0 F H) (h0 : H0 a = none) (ha : H a = some o) (nw : W ≠ some a) (fa : F a = none) : Ext K W F0 H0 (upd F a o) H := by
  have sm : Same F (upd F a o) := fun b q z => by
    rw [upd_ne (ne_of_none z fa)]
    exact z
  refine ⟨e.f.trans sm, fun b q z => ?_, ⟨fun x hx => ?_, e.w.tb.step (fun q hq => ?_) sm⟩, e.keep, fun b q z n t => ?_, e.old, e.alive⟩
  · by_cases y : b = a
    · subst y
      rw [upd_same] at z
      cases z
      exact ha
    · rw [upd_ne y] at z
      exact e.u b q z
  · obtain ⟨n, c, p1, l, x1, n1, cs, h1, h2, r⟩ := e.w.hd x hx
    have nx : x ≠ a := fun z => nw (by rw [← z]; exact hx)
    exact ⟨by rw [upd_ne nx]; exact n, c, p1, l, x1, n1, cs, h1, sm _ _ h2, r⟩
  · obtain ⟨ps, h1⟩ := e.old q hq
    have nx : q.1 ≠ a := ne_of_none h1 h0
    exact ⟨rfl, by rw [upd_ne nx]; exact (e.w.tb q hq).1⟩
  · rw [upd_ne (ne_of_none z h0)]
    exact e.opn b q z n t
/-- an object of the frame's own is changed -/
theorem Ext.write {K : KT} {W : Option Addr} {F0 H0 F H : Hp} {a : Addr} {o : HO} (e : Ext K W F0 H0 F H) (h0 : H0 a = none) (nw : W ≠ some a) (fa : F a = none) : Ext K W F0 H0 F (upd H a o) := by
  refine ⟨e.f, fun b q z => ?_, ⟨fun x hx => ?_, e.w.tb.step (fun q hq => ?_) (Same.refl _)⟩, fun b q z n t => ?_, e.opn, e.old, fun b q => ?_⟩
  · rw [upd_ne (ne_of_none z fa)]
    exact e.u b q z
  · obtain ⟨n, c, p1, l, x1, n1, cs, h1, h2, r⟩ := e.w.hd x hx
    have nx : x ≠ a := fun z => nw (by rw [← z]; exact hx)
    exact ⟨n, c, p1, l, x1, n1, cs, by rw [upd_ne nx]; exact h1, h2, r⟩
  · obtain ⟨ps, h1⟩ := e.old q hq
    exact ⟨upd_ne (ne_of_none h1 h0), (e.w.tb q hq).1⟩
  · rw [upd_ne (ne_of_none z h0)]
    exact e.keep b q z n t
  · by_cases z : b = a
    · rw [z]
      exact h0
    · rw [upd_ne z] at q
      exact e.alive b q

/-! ### a frame and a plain environment -/
/-- what is raised: its class, what it holds -/
structure Xn where
  cls : Addr
  dat : Option (Str × D)
def XnOk (K : KT) (F H : Hp) (x : Xn) (oe : Option Addr) : Prop := match x.dat with
  | none => oe = none
  | some (f, d) => ∃ a v, oe = some a ∧ H a = some (.xd [(f, v)]) ∧ Rp K F v d
inductive En where
  | sh (d : D)
  | ow (t : Option Addr) (ds : List D)
  | ob (a : Addr)
  /-- a dict of the frame's own -/
  | od (es : List (D × D))
  /-- a list of lists of the frame's own, where they lie -/
  | ot (as : List Addr) (rows : List (List D))
  /-- a lambda, its code object -/
  | th (f c : Addr) (q : Str)
  /-- a caught error -/
  | ex (a : Addr) (x : Xn) (oe : Option Addr)
/-- an object of the frame's own -/
def En.own : En → Bool
  | .ow _ _ => true
  | .od _ => true
  | .ot _ _ => true
  | _ => false
/-- where the lists of an own list of lists lie -/
def En.adr : En → List Addr
  | .ot as _ => as
  | _ => []
abbrev Env := List (Option En)
/-- a list that is the frame's own -/
def OwnL (K : KT) (W : Option Addr) (H0 F H : Hp) (a : Addr) (ds : List D) : Prop := H0 a = none ∧ F a = none ∧ W ≠ some a ∧ ∃ vs : List V, H a = some (.lst vs) ∧ vs.length ≤ sizeLine ∧ Rps K F vs ds
def EnOk (K : KT) (W : Option Addr) (H0 F H : Hp) (v : V) : En → Prop
  | .sh d => Rp K F v d
  | .ow t ds => ∃ (a : Addr) (vs : List V), v = .ref a ∧ (∀ b, t = some b → a = b) ∧ H0 a = none ∧ F a = none ∧ W ≠ some a ∧ H a = some (.lst vs) ∧ vs.length ≤ sizeLine ∧ Rps K F vs ds
  | .ob a => v = .ref a ∧ W = some a
  | .od es => ∃ (a : Addr) (o : Obj) (xs : List (NestedKey × Value × Value)), v = .ref a ∧ H0 a = none ∧ F a = none ∧ W ≠ some a ∧ H a = some (.ext (DictAt a o xs)) ∧ (a == sysModules) = false ∧ xs.length ≤ sizeLine ∧ Ents K F xs es
  | .ot as rows => ∃ a : Addr, v = .ref a ∧ H0 a = none ∧ F a = none ∧ W ≠ some a ∧ H a = some (.lst (as.map V.ref)) ∧ as.length ≤ sizeLine ∧ a ∉ as ∧ as.Nodup ∧ Paired (OwnL K W H0 F H) as rows
  | .th f c q => v = .ref f ∧ F c = some (LamX.CodeO c q)
  | .ex a x oe => v = .ref a ∧ XnOk K F H x oe
structure StR (K : KT) (W : Option Addr) (F0 H0 F H : Hp) (σ : L2.St) (env : Env) : Prop where
  ext : Ext K W F0 H0 F H
  len : σ.length = env.length
  ent : ∀ (i : Nat) (en : En), env[i]? = some (some en) → ∃ v, σ[i]? = some (some v) ∧ EnOk K W H0 F H v en
  apart : ∀ (i j : Nat) (e f : En), i ≠ j → env[i]? = some (some e) → env[j]? = some (some f) → e.own = true → f.own = true → σ[i]? ≠ σ[j]?
  inner : ∀ (i j : Nat) (e f : En), i ≠ j → env[i]? = some (some e) → env[j]? = some (some f) → f.own = true → ∀ b ∈ e.adr, σ[j]? ≠ some (some (.ref b)) ∧ b ∉ f.adr
theorem adr_own {e : En} {b : Addr} (h : b ∈ e.adr) : e.own = true := by
  cases e <;> first | rfl | simp [En.adr] at h
theorem hand_not {K : KT} {W : Option Addr} {F H : Hp} {a : Addr} {o : HO} (w : WdOk K W F H) (h : H a = some o) (n : ∀ xs, o ≠ .lst xs) : W ≠ some a := fun z => by
  obtain ⟨_, c, p1, l, x1, n1, cs, h1, _⟩ := w.hd a z
  rw [h] at h1
  exact n _ (Option.some.inj h1)
section
variable {K : KT} {W : Option Addr} {F0 H0 F H F1 H1 : Hp} {σ : L2.St} {env : Env}
theorem StR.u (s : StR K W F0 H0 F H σ env) : Same F H := s.ext.u
theorem StR.w (s : StR K W F0 H0 F H σ env) : WdOk K W F H := s.ext.w
theorem XnOk.mono {x : Xn} {oe : Option Addr} (e : Same F F1) (k : ∀ a fs, H a = some (.xd fs) → H1 a = some (.xd fs)) (h : XnOk K F H x oe) : XnOk K F1 H1 x oe := by
  unfold XnOk at h ⊢
  split at h
  · exact h
  · obtain ⟨a, v, h1, h2, h3⟩ := h
    exact ⟨a, v, h1, k _ _ h2, Rp.mono e h3⟩
theorem XnOk.step {x : Xn} {oe : Option Addr} (w : WdOk K W F H) (e : Ext K W F H F1 H1) (h : XnOk K F H x oe) : XnOk K F1 H1 x oe := h.mono e.f fun a _ q => e.keep a _ q (hand_not w q fun _ z => nomatch z) nt_xd
theorem OwnL.step {a : Addr} {ds : List D} (e : Ext K W F H F1 H1) (h : OwnL K W H0 F H a ds) : OwnL K W H0 F1 H1 a ds := by
  obtain ⟨h1, h2, h3, vs, h4, h5, h6⟩ := h
  exact ⟨h1, e.opn a _ h4 h2 nt_lst, h3, vs, e.keep a _ h4 h3 nt_lst, h5, Rps.mono e.f h6⟩
theorem ownLs_imp {R S : Addr → List D → Prop} : ∀ {as : List Addr} {rows : List (List D)}, (∀ a ∈ as, ∀ ds, R a ds → S a ds) → Paired R as rows → Paired S as rows
  | _, _, _, .nil => .nil
  | _, _, h, .cons a r => .cons (h _ List.mem_cons_self _ a) (ownLs_imp (fun b m => h b (List.mem_cons_of_mem _ m)) r)
theorem EnOk.step {v : V} {en : En} (w : WdOk K W F H) (e : Ext K W F H F1 H1) (h : EnOk K W H0 F H v en) : EnOk K W H0 F1 H1 v en := by
  cases en with
  | sh d => exact Rp.mono e.f h
  | ob a => exact h
  | ow t ds =>
    obtain ⟨a, vs, h1, ht, h2, h3, h4, h5, h6, h7⟩ := h
    exact ⟨a, vs, h1, ht, h2, e.opn a _ h5 h3 nt_lst, h4, e.keep a _ h5 h4 nt_lst, h6, Rps.mono e.f h7⟩
  | od es =>
    obtain ⟨a, o, xs, h1, h2, h3, h4, h5, h6, h7, h8⟩ := h
    exact ⟨a, o, xs, h1, h2, e.opn a _ h5 h3 nt_ext, h4, e.keep a _ h5 h4 nt_ext, h6, h7, Ents.mono e.f h8⟩
  | ot as rows =>
    obtain ⟨a, h1, h2, h3, h4, h5, h6, h7, h8, h9⟩ := h
    exact ⟨a, h1, h2, e.opn a _ h5 h3 nt_lst, h4, e.keep a _ h5 h4 nt_lst, h6, h7, h8, ownLs_imp (fun _ _ _ => OwnL.step e) h9⟩
  | th f c q => exact ⟨h.1, e.f _ _ h.2⟩
  | ex a x oe => exact ⟨h.1, h.2.step w e⟩
theorem StR.step (s : StR K W F0 H0 F H σ env) (e : Ext K W F H F1 H1) : StR K W F0 H0 F1 H1 σ env :=
  ⟨s.ext.trans e, s.len, fun i en h => let ⟨v, h1, h2⟩ := s.ent i en h; ⟨v, h1, h2.step s.w e⟩, s.apart, s.inner⟩
/-- forgetting -/
theorem StR.weak {env' : Env} (s : StR K W F0 H0 F H σ env) (hl : env'.length = env.length) (h : ∀ (i : Nat) (en : En), env'[i]? = some (some en) → env[i]? = some (some en)) : StR K W F0 H0 F H σ env' :=
  ⟨s.ext, s.len.trans hl.symm, fun i en q => s.ent i en (h i en q), fun i j e f n a b => s.apart i j e f n (h i _ a) (h j _ b), fun i j e f n a b => s.inner i j e f n (h i _ a) (h j _ b)⟩
theorem get_set {α : Type} {l : List (Option α)} {i j : Nat} {x : Option α} {y : α} (h : (l.set i x)[j]? = some (some y)) : (j = i ∧ i < l.length ∧ x = some y) ∨ (j ≠ i ∧ l[j]? = some (some y)) := by
  by_cases q : j = i
  · subst q
    by_cases r : j < l.length
    · rw [List.getElem?_set_self r] at h
      exact .inl ⟨rfl, r, Option.some.inj h⟩
    · rw [List.getElem?_eq_none (by simpa using r)] at h
      cases h
  · rw [List.getElem?_set_ne (Ne.symm q)] at h
    exact .inr ⟨q, h⟩
/-- a name is stored: a value that stands still, or the hand -/
theorem StR.setEn {i : Nat} {v : V} {en : En} (s : StR K W F0 H0 F H σ env) (h : EnOk K W H0 F H v en) (no : en.own = false) : StR K W F0 H0 F H (σ.set i (some v)) (env.set i (some en)) := by
  refine ⟨s.ext, by rw [List.length_set, List.length_set]; exact s.len, fun j e q => ?_, fun j k e f n a b o1 o2 => ?_, fun j k e f n a b o2 c hc => ?_⟩
  · rcases get_set q with ⟨rfl, l, z⟩ | ⟨n, z⟩
    · cases z
      exact ⟨v, List.getElem?_set_self (by rw [s.len]; exact l), h⟩
    · obtain ⟨x, h1, h2⟩ := s.ent j e z
      exact ⟨x, by rw [List.getElem?_set_ne (Ne.symm n)]; exact h1, h2⟩
  · rcases get_set a with ⟨rfl, l, z⟩ | ⟨n1, z⟩
    · cases (Option.some.inj z)
      rw [no] at o1
      cases o1
    · rcases get_set b with ⟨rfl, l, z'⟩ | ⟨n2, z'⟩
      · cases (Option.some.inj z')
        rw [no] at o2
        cases o2
      · rw [List.getElem?_set_ne (Ne.symm n1), List.getElem?_set_ne (Ne.symm n2)]
        exact s.apart j k e f n z z' o1 o2
  · rcases get_set a with ⟨rfl, l, z⟩ | ⟨n1, z⟩
    · cases (Option.some.inj z)
      rw [adr_own hc] at no
      cases no
    · rcases get_set b with ⟨rfl, l, z'⟩ | ⟨n2, z'⟩
      · cases (Option.some.inj z')
        rw [no] at o2
        cases o2
      · rw [List.getElem?_set_ne (Ne.symm n2)]
        exact s.inner j k e f n z z' o2 c hc
theorem StR.setSh {i : Nat} {v : V} {d : D} (s : StR K W F0 H0 F H σ env) (h : Rp K F v d) : StR K W F0 H0 F H (σ.set i (some v)) (env.set i (some (.sh d))) := s.setEn (en := .sh d) h rfl
/-- what no own object of the frame is -/
structure NewIn (σ : L2.St) (env : Env) (i : Nat) (a : Addr) : Prop where
  top : ∀ (j : Nat) (e : En), j ≠ i → env[j]? = some (some e) → e.own = true → σ[j]? ≠ some (some (.ref a))
  sub : ∀ (j : Nat) (e : En), j ≠ i → env[j]? = some (some e) → a ∉ e.adr
/-- an object that is the frame's own is stored (a new one, or one whose name is given up) -/
theorem StR.setOwn {i : Nat} {a : Addr} {en : En} (s : StR K W F0 H0 F H σ env) (h : EnOk K W H0 F H (.ref a) en) (new : NewIn σ env i a) (nin : ∀ b ∈ en.adr, NewIn σ env i b) :
    StR K W F0 H0 F H (σ.set i (some (.ref a))) (env.set i (some en)) := by
  refine ⟨s.ext, by rw [List.length_set, List.length_set]; exact s.len, fun j e q => ?_, fun j k e f n p q o1 o2 => ?_, fun j k e f n p q o2 b hb => ?_⟩
  · rcases get_set q with ⟨rfl, l, z⟩ | ⟨n, z⟩
    · cases z
      exact ⟨_, List.getElem?_set_self (by rw [s.len]; exact l), h⟩
    · obtain ⟨x, h1, h2⟩ := s.ent j e z
      exact ⟨x, by rw [List.getElem?_set_ne (Ne.symm n)]; exact h1, h2⟩
  · rcases get_set p with ⟨rfl, l, z⟩ | ⟨n1, z⟩
    · rcases get_set q with ⟨rfl, _, _⟩ | ⟨n2, z'⟩
      · exact absurd rfl n
      · rw [List.getElem?_set_self (by rw [s.len]; exact l), List.getElem?_set_ne (Ne.symm n2)]
        exact fun e => new.top k f n2 z' o2 e.symm
    · rcases get_set q with ⟨rfl, l, z'⟩ | ⟨n2, z'⟩
      · rw [List.getElem?_set_self (by rw [s.len]; exact l), List.getElem?_set_ne (Ne.symm n1)]
        exact new.top j e n1 z o1
      · rw [List.getElem?_set_ne (Ne.symm n1), List.getElem?_set_ne (Ne.symm n2)]
        exact s.apart j k e f n z z' o1 o2
  · rcases get_set p with ⟨rfl, l, z⟩ | ⟨n1, z⟩
    · cases (Option.some.inj z)
      rcases get_set q with ⟨rfl, _, _⟩ | ⟨n2, z'⟩
      · exact absurd rfl n
      · rw [List.getElem?_set_ne (Ne.symm n2)]
        exact ⟨(nin b hb).top k f n2 z' o2, (nin b hb).sub k f n2 z'⟩
    · rcases get_set q with ⟨rfl, l, z'⟩ | ⟨n2, z'⟩
      · cases (Option.some.inj z')
        rw [List.getElem?_set_self (by rw [s.len]; exact l)]
        refine ⟨fun y => ?_, fun y => (nin b y).sub j e n1 z hb⟩
        cases y
        exact new.sub j e n1 z hb
      · rw [List.getElem?_set_ne (Ne.symm n2)]
        exact s.inner j k e f n z z' o2 b hb
theorem StR.setOw {i : Nat} {a : Addr} {t : Option Addr} {ds : List D} (s : StR K W F0 H0 F H σ env) (h : EnOk K W H0 F H (.ref a) (.ow t ds)) (new : NewIn σ env i a) :
    StR K W F0 H0 F H (σ.set i (some (.ref a))) (env.set i (some (.ow t ds))) := s.setOwn h new fun _ z => nomatch z
/-- an address that holds something else, or nothing -/
theorem EnOk.other {a : Addr} {o : HO} {v : V} {en : En} (nx : ∀ fs, H a ≠ some (.xd fs)) (top : en.own = true → v ≠ .ref a) (sub : a ∉ en.adr) (h : EnOk K W H0 F H v en) : EnOk K W H0 F (upd H a o) v en := by
  have kx : ∀ c fs, H c = some (.xd fs) → upd H a o c = some (.xd fs) := fun c fs q => by
    rw [upd_ne fun e => nx fs (by rw [← e]; exact q)]
    exact q
  cases en with
  | sh d => exact h
  | ob b => exact h
  | ow t3 us =>
    obtain ⟨b, xs, rfl, qt, q2, q3, q4, q5, q6, q7⟩ := h
    have nb : b ≠ a := fun e => top rfl (by rw [e])
    exact ⟨b, xs, rfl, qt, q2, q3, q4, by rw [upd_ne nb]; exact q5, q6, q7⟩
  | od es =>
    obtain ⟨b, ob, xs, rfl, q2, q3, q4, q5, q6, q7, q8⟩ := h
    have nb : b ≠ a := fun e => top rfl (by rw [e])
    exact ⟨b, ob, xs, rfl, q2, q3, q4, by rw [upd_ne nb]; exact q5, q6, q7, q8⟩
  | ot as rows =>
    obtain ⟨b, rfl, q2, q3, q4, q5, q6, q7, q8, q9⟩ := h
    have nb : b ≠ a := fun e => top rfl (by rw [e])
    refine ⟨b, rfl, q2, q3, q4, by rw [upd_ne nb]; exact q5, q6, q7, q8, ownLs_imp (fun c hc ds ⟨g1, g2, g3, vs, g4, g5⟩ => ⟨g1, g2, g3, vs, ?_, g5⟩) q9⟩
    rw [upd_ne fun e => sub (by rw [← e]; exact hc)]
    exact g4
  | th f c q => exact h
  | ex b x oe => exact ⟨h.1, h.2.mono (Same.refl _) kx⟩
/-- the own object at slot i has changed -/
theorem StR.mutEn {i : Nat} {a : Addr} {o : HO} {en en' : En} (s : StR K W F0 H0 F H σ env) (hi : env[i]? = some (some en)) (ho : en.own = true) (hs : σ[i]? = some (some (.ref a))) (h0 : H0 a = none) (hf : F a = none) (hw : W ≠ some a) (nx : ∀ fs, H a ≠ some (.xd fs))
    (h : EnOk K W H0 F (upd H a o) (.ref a) en') (had : ∀ b ∈ en'.adr, b ∈ en.adr) : StR K W F0 H0 F (upd H a o) σ (env.set i (some en')) := by
  have get : ∀ {j : Nat} {e : En}, (env.set i (some en'))[j]? = some (some e) → ∃ e2, env[j]? = some (some e2) ∧ (e.own = true → e2.own = true) ∧ ∀ b ∈ e.adr, b ∈ e2.adr := fun {j e} z => by
    rcases get_set z with ⟨rfl, l, z⟩ | ⟨n, z⟩
    · cases z
      exact ⟨en, hi, fun _ => ho, had⟩
    · exact ⟨e, z, id, fun _ => id⟩
  refine ⟨s.ext.write h0 hw hf, by rw [List.length_set]; exact s.len, fun j e q => ?_, fun j k e f n p q o1 o2 => ?_, fun j k e f n p q o2 b hb => ?_⟩
  · rcases get_set q with ⟨rfl, l, z⟩ | ⟨n, z⟩
    · cases z
      exact ⟨_, hs, h⟩
    · obtain ⟨x, h1, h2⟩ := s.ent j e z
      exact ⟨x, h1, h2.other nx (fun oe q => s.apart j i _ _ n z hi oe ho (by rw [h1, hs, q])) fun m => (s.inner j i e en n z hi ho a m).1 hs⟩
  · obtain ⟨e1, g1, k1, _⟩ := get p
    obtain ⟨e2, g2, k2, _⟩ := get q
    exact s.apart j k e1 e2 n g1 g2 (k1 o1) (k2 o2)
  · obtain ⟨e1, g1, k1, l1⟩ := get p
    obtain ⟨e2, g2, k2, l2⟩ := get q
    obtain ⟨m1, m2⟩ := s.inner j k e1 e2 n g1 g2 (k2 o2) b (l1 b hb)
    exact ⟨m1, fun z => m2 (l2 b z)⟩
/-- the own list at slot i has changed -/
theorem StR.mutOw {i : Nat} {a : Addr} {t : Option Addr} {ws vs : List V} {ds es : List D} (s : StR K W F0 H0 F H σ env) (ht : ∀ b, t = some b → a = b) (hi : env[i]? = some (some (.ow t ds))) (hs : σ[i]? = some (some (.ref a))) (h0 : H0 a = none) (hf : F a = none) (hw : W ≠ some a)
    (hh : H a = some (.lst vs)) (hl : ws.length ≤ sizeLine) (r : Rps K F ws es) : StR K W F0 H0 F (upd H a (.lst ws)) σ (env.set i (some (.ow t es))) :=
  s.mutEn hi rfl hs h0 hf hw (fun fs z => by rw [hh] at z; cases z) ⟨a, ws, rfl, ht, h0, hf, hw, upd_same, hl, r⟩ fun _ z => nomatch z
/-- .. what stands there for one that is let go -/
theorem EnOk.gone {a : Addr} {o : HO} {v : V} {en : En} (fa : F a = none) (top : en.own = true → v ≠ .ref a) (sub : a ∉ en.adr) (h : EnOk K W H0 F H v en) : EnOk K W H0 (upd F a o) H v en := by
  have sm : Same F (upd F a o) := fun b q z => by
    rw [upd_ne (ne_of_none z fa)]
    exact z
  cases en with
  | sh d => exact Rp.mono sm h
  | ob b => exact h
  | ow t3 us =>
    obtain ⟨b, xs, rfl, qt, q2, q3, q4, q5, q6, q7⟩ := h
    have nb : b ≠ a := fun e => top rfl (by rw [e])
    exact ⟨b, xs, rfl, qt, q2, by rw [upd_ne nb]; exact q3, q4, q5, q6, Rps.mono sm q7⟩
  | od es =>
    obtain ⟨b, ob, xs, rfl, q2, q3, q4, q5, q6, q7, q8⟩ := h
    have nb : b ≠ a := fun e => top rfl (by rw [e])
    exact ⟨b, ob, xs, rfl, q2, by rw [upd_ne nb]; exact q3, q4, q5, q6, q7, Ents.mono sm q8⟩
  | ot as rows =>
    obtain ⟨b, rfl, q2, q3, q4, q5, q6, q7, q8, q9⟩ := h
    have nb : b ≠ a := fun e => top rfl (by rw [e])
    refine ⟨b, rfl, q2, by rw [upd_ne nb]; exact q3, q4, q5, q6, q7, q8, ownLs_imp (fun c hc ds ⟨g1, g2, g3, vs, g4, g5, g6⟩ => ⟨g1, ?_, g3, vs, g4, g5, Rps.mono sm g6⟩) q9⟩
    rw [upd_ne fun e => sub (by rw [← e]; exact hc)]
    exact g2
  | th f c q => exact ⟨h.1, sm _ _ h.2⟩
  | ex b x oe => exact ⟨h.1, h.2.mono sm fun _ _ => id⟩
/-- the own object at slot i is let go -/
theorem StR.letGoEn {i : Nat} {a : Addr} {o : HO} {en : En} (s : StR K W F0 H0 F H σ env) (hi : env[i]? = some (some en)) (ho : en.own = true) (hs : σ[i]? = some (some (.ref a))) (h0 : H0 a = none) (hf : F a = none) (hw : W ≠ some a)
    (hh : H a = some o) : StR K W F0 H0 (upd F a o) H σ (env.set i none) := by
  refine ⟨s.ext.freeze h0 hh hw hf, by rw [List.length_set]; exact s.len, fun j e q => ?_, fun j k e f n p q o1 o2 => ?_, fun j k e f n p q o2 b hb => ?_⟩
  · rcases get_set q with ⟨rfl, l, z⟩ | ⟨n, z⟩
    · cases z
    · obtain ⟨x, h1, h2⟩ := s.ent j e z
      exact ⟨x, h1, h2.gone hf (fun oe q => s.apart j i _ _ n z hi oe ho (by rw [h1, hs, q])) fun m => (s.inner j i e en n z hi ho a m).1 hs⟩
  · rcases get_set p with ⟨_, _, z⟩ | ⟨n1, z1⟩
    · cases z
    · rcases get_set q with ⟨_, _, z⟩ | ⟨n2, z2⟩
      · cases z
      · exact s.apart j k _ _ n z1 z2 o1 o2
  · rcases get_set p with ⟨_, _, z⟩ | ⟨n1, z1⟩
    · cases z
    · rcases get_set q with ⟨_, _, z⟩ | ⟨n2, z2⟩
      · cases z
      · exact s.inner j k _ _ n z1 z2 o2 b hb
theorem StR.letGo {i : Nat} {a : Addr} {t : Option Addr} {vs : List V} {ds : List D} (s : StR K W F0 H0 F H σ env) (hi : env[i]? = some (some (.ow t ds))) (hs : σ[i]? = some (some (.ref a))) (h0 : H0 a = none) (hf : F a = none) (hw : W ≠ some a)
    (hh : H a = some (.lst vs)) : StR K W F0 H0 (upd F a (.lst vs)) H σ (env.set i none) := s.letGoEn hi rfl hs h0 hf hw hh
/-- forgetting slots in both -/
@[simp] def wipeE (env : Env) : List Nat → Env
  | [] => env
  | v :: vs => (wipeE env vs).set v none
theorem wipeE_length (env : Env) : ∀ vs : List Nat, (wipeE env vs).length = env.length
  | [] => rfl
  | v :: vs => by unfold wipeE; rw [List.length_set, wipeE_length env vs]
theorem wipeE_some {env : Env} {i : Nat} {x : En} : ∀ {vs : List Nat}, (wipeE env vs)[i]? = some (some x) → env[i]? = some (some x) ∧ i ∉ vs
  | [], h => ⟨h, by simp⟩
  | v :: vs, h => by
    unfold wipeE at h
    rcases get_set h with ⟨_, _, z⟩ | ⟨n, z⟩
    · cases z
    · obtain ⟨h1, h2⟩ := wipeE_some z
      exact ⟨h1, by simp only [List.mem_cons, not_or]; exact ⟨n, h2⟩⟩
theorem StR.forget (s : StR K W F0 H0 F H σ env) (vs : List Nat) : StR K W F0 H0 F H σ (wipeE env vs) := s.weak (wipeE_length env vs) fun _ _ h => (wipeE_some h).1
theorem wipe_get {σ : L2.St} {i : Nat} : ∀ {vs : List Nat}, i ∉ vs → (wipe σ vs)[i]? = σ[i]?
  | [], _ => rfl
  | v :: vs, h => by
    simp only [List.mem_cons, not_or] at h
    unfold wipe
    rw [List.getElem?_set_ne (fun e => h.1 e.symm)]
    exact wipe_get h.2
theorem StR.wipe (s : StR K W F0 H0 F H σ env) (vs : List Nat) : StR K W F0 H0 F H (L2.wipe σ vs) (wipeE env vs) := by
  refine ⟨s.ext, by rw [L2.wipe_length, wipeE_length]; exact s.len, fun i en h => ?_, fun i j e f n a b o1 o2 => ?_, fun i j e f n a b o2 c hc => ?_⟩
  · obtain ⟨h1, h2⟩ := wipeE_some h
    obtain ⟨v, q1, q2⟩ := s.ent i en h1
    exact ⟨v, by rw [wipe_get h2]; exact q1, q2⟩
  · obtain ⟨a1, a2⟩ := wipeE_some a
    obtain ⟨b1, b2⟩ := wipeE_some b
    rw [wipe_get a2, wipe_get b2]
    exact s.apart i j e f n a1 b1 o1 o2
  · obtain ⟨a1, a2⟩ := wipeE_some a
    obtain ⟨b1, b2⟩ := wipeE_some b
    rw [wipe_get b2]
    exact s.inner i j e f n a1 b1 o2 c hc
end
end Dn
/-! Dn2: what an expression is worth over plain data. -/
namespace Dn
open PySem PySem.Spec PyProof.Rows L2
abbrev WE := Env → (D → Prop) → Prop
abbrev WT := Env → (Bool → Prop) → Prop
/-- a value that is only looked at: it stands still, or it is a list of the frame's own -/
def RpB (K : KT) (W : Option Addr) (F H : Hp) (v : V) (d : D) : Prop :=
  Rp K F v d ∨ (∃ (a : Addr) (vs : List V) (ds : List D), v = .ref a ∧ d = .list ds ∧ W ≠ some a ∧ H a = some (.lst vs) ∧ vs.length ≤ sizeLine ∧ Rps K F vs ds) ∨
    ∃ (a : Addr) (o : Obj) (xs : List (NestedKey × Value × Value)) (es : List (D × D)), v = .ref a ∧ d = .dict es ∧ W ≠ some a ∧ H a = some (.ext (DictAt a o xs)) ∧ (a == sysModules) = false ∧ xs.length ≤ sizeLine ∧ Ents K F xs es
section
variable {K : KT} {W : Option Addr} {F H F1 H1 : Hp} {v : V} {d : D}
theorem RpB.step (e : Ext K W F H F1 H1) (h : RpB K W F H v d) : RpB K W F1 H1 v d := by
  rcases h with h | ⟨a, vs, ds, h1, h2, h3, h4, h5, h6⟩ | ⟨a, o, xs, es, h1, h2, h3, h4, h5, h6, h7⟩
  · exact .inl (Rp.mono e.f h)
  · exact .inr (.inl ⟨a, vs, ds, h1, h2, h3, e.keep a _ h4 h3 (fun _ z => nomatch z), h5, Rps.mono e.f h6⟩)
  · exact .inr (.inr ⟨a, o, xs, es, h1, h2, h3, e.keep a _ h4 h3 (fun _ z => nomatch z), h5, h6, Ents.mono e.f h7⟩)
theorem RpB.list {ds : List D} (u : Same F H) (h : RpB K W F H v (.list ds)) : ∃ (a : Addr) (vs : List V), v = .ref a ∧ H a = some (.lst vs) ∧ vs.length ≤ sizeLine ∧ Rps K F vs ds := by
  rcases h with h | ⟨a, vs, es, h1, h2, h3, h4, h5, h6⟩ | ⟨a, o, xs, fs, g1, g2, g3⟩
  · cases h with
    | lst a b c => exact ⟨_, _, rfl, u _ _ a, b, c⟩
  · cases h2
    exact ⟨a, vs, h1, h4, h5, h6⟩
  · cases g2
theorem RpB.tuple {ds : List D} (h : RpB K W F H v (.tuple ds)) : ∃ (a : Addr) (vs : List V), v = .ref a ∧ SqT K F a vs ∧ vs.length ≤ sizeLine ∧ Rps K F vs ds := by
  rcases h with h | ⟨a, vs, es, h1, h2, h3, h4, h5, h6⟩ | ⟨a, o, xs, fs, g1, g2, g3⟩
  · cases h with
    | tup a b c => exact ⟨_, _, rfl, a, b, c⟩
  · cases h2
  · cases g2
theorem RpB.int {i : Int} (h : RpB K W F H v (.int i)) : v = .int i := by
  rcases h with h | ⟨a, vs, es, h1, h2, _⟩ | ⟨a, o, xs, fs, g1, g2, _⟩
  · cases h; rfl
  · cases h2
  · cases g2
theorem RpB.bool {b : Bool} (h : RpB K W F H v (.bool b)) : v = .bl b := by
  rcases h with h | ⟨a, vs, es, h1, h2, _⟩ | ⟨a, o, xs, fs, g1, g2, _⟩
  · cases h; rfl
  · cases h2
  · cases g2
theorem RpB.str {x : Str} (h : RpB K W F H v (.str x)) : v = .str x := by
  rcases h with h | ⟨a, vs, es, h1, h2, _⟩ | ⟨a, o, xs, fs, g1, g2, _⟩
  · cases h; rfl
  · cases h2
  · cases g2
theorem RpB.none (h : RpB K W F H v .none) : v = .non := by
  rcases h with h | ⟨a, vs, es, h1, h2, _⟩ | ⟨a, o, xs, fs, g1, g2, _⟩
  · cases h; rfl
  · cases h2
  · cases g2
theorem RpB.dp (u : Same F H) (c : d.canLay0 = true) (h : RpB K W F H v d) : Dp K H v d := by
  rcases h with h | ⟨a, vs, es, h1, h2, h3, h4, h5, h6⟩ | ⟨a, o, xs, fs, g1, g2, g3⟩
  · exact Rp.dp u c h
  · subst h1 h2
    exact .lst (SqL.of h4) (Rps.dp u (by simpa [PyData.canLay0] using c) h6)
  · subst g2
    simp [PyData.canLay0] at c
end

/-- contexts in which one piece of code is read the same way -/
structure Fam where
  ι : Type
  X : ι → Cx
  K : KT
  hK : ∀ i, (X i).K = K
def Fam.one (X : Cx) (T : List (Addr × Str)) : Fam := ⟨Unit, fun _ => X, ⟨X.K, T⟩, fun _ => rfl⟩
/-- a comprehension's block -/
def Fam.blk (G : Fam) (scope : Scope) : Fam := ⟨G.ι × Shared × Hp × Addr × List (Str × Addr) × List Addr,
  fun p => (G.X p.1).blk p.2.1 p.2.2.1 scope (compEnvC scope p.2.2.2.2.1 p.2.2.2.1 (G.X p.1).env) p.2.2.2.2.2, G.K, fun p => G.hK p.1⟩

/-- the reading t does what w says -/
def SndE (K : KT) (t : TE) (w : WE) : Prop := ∀ (W : Option Addr) (F0 H0 F H : Hp) (σ : L2.St) (env : Env) (Q : D → Prop) (R : VK), StR K W F0 H0 F H σ env → w env Q →
  (∀ v d F' H', Ext K W F H F' H' → Rp K F' v d → Q d → R v H') → t σ H R
def SndB (K : KT) (t : TE) (w : WE) : Prop := ∀ (W : Option Addr) (F0 H0 F H : Hp) (σ : L2.St) (env : Env) (Q : D → Prop) (R : VK), StR K W F0 H0 F H σ env → w env Q →
  (∀ v d F' H', Ext K W F H F' H' → RpB K W F' H' v d → Q d → R v H') → t σ H R
def SndT (K : KT) (t : TT) (w : WT) : Prop := ∀ (W : Option Addr) (F0 H0 F H : Hp) (σ : L2.St) (env : Env) (Q : Bool → Prop) (R : Bool → Hp → Prop), StR K W F0 H0 F H σ env → w env Q →
  (∀ b F' H', Ext K W F H F' H' → Q b → R b H') → t σ H R
def DenE (G : Fam) (e : Expr) (w : WE) : Prop := ∃ t, (∀ i, PE (G.X i) e t) ∧ SndE G.K t w
def DenB (G : Fam) (e : Expr) (w : WE) : Prop := ∃ t, (∀ i, PE (G.X i) e t) ∧ SndB G.K t w
def DenT (G : Fam) (e : Expr) (w : WT) : Prop := ∃ t, (∀ i, PT (G.X i) e t) ∧ SndT G.K t w
/-- a test whatever its whole is -/
def DenW (G : Fam) (e : Expr) (w : WT) : Prop := ∃ t, (∀ i, PW (G.X i) e t) ∧ SndT G.K t w

/-! ### names, constants -/
def wV (i : Nat) : WE := fun env Q => match env[i]? with
  | some (some (.sh d)) => Q d
  | _ => False
@[simp ↓] theorem wV_ap (i : Nat) env Q : wV i env Q = (match env[i]? with
  | some (some (.sh d)) => Q d
  | _ => False) := Eq.trans rfl rfl
def wVB (i : Nat) : WE := fun env Q => match env[i]? with
  | some (some (.sh d)) => Q d
  | some (some (.ow _ ds)) => Q (.list ds)
  | some (some (.od es)) => Q (.dict es)
  | _ => False
@[simp ↓] theorem wVB_ap (i : Nat) env Q : wVB i env Q = (match env[i]? with
  | some (some (.sh d)) => Q d
  | some (some (.ow _ ds)) => Q (.list ds)
  | some (some (.od es)) => Q (.dict es)
  | _ => False) := Eq.trans rfl rfl
def wC (d : D) : WE := fun _ Q => Q d
@[simp ↓] theorem wC_ap (d : D) u0_ Q : wC d u0_ Q = (Q d) := Eq.trans rfl rfl
section
variable {G : Fam} {e a b : Expr} {w wa wb : WE} {pos : Pos}
theorem e_var {i : Nat} {x : Str} (hN : ∀ j, (G.X j).N[i]? = some x := by intro _; rfl) (hv : ∀ j, Vis (G.X j).env.scope x := by intro _; first | exact Or.inl rfl | exact Or.inr (Or.inl rfl) | exact Or.inr (Or.inr rfl)) (hd : (x == ("__debug__" : Str)) = false := by decide) (hcd : (x == ("__classdict__" : Str)) = false := by decide) : DenE G (.Name x pos) (wV i) := by
  refine ⟨_, fun j => pe_var (hN j) (hv j) hd hcd, fun W F0 H0 F H σ env Q R s h k => ?_⟩
  unfold wV at h
  split at h
  · rename_i d q
    obtain ⟨v, h1, h2⟩ := s.ent i _ q
    exact ⟨v, h1, k v d F H (Ext.refl s.u s.w) h2 h⟩
  · exact h.elim
theorem b_var {i : Nat} {x : Str} (hN : ∀ j, (G.X j).N[i]? = some x := by intro _; rfl) (hv : ∀ j, Vis (G.X j).env.scope x := by intro _; first | exact Or.inl rfl | exact Or.inr (Or.inl rfl) | exact Or.inr (Or.inr rfl)) (hd : (x == ("__debug__" : Str)) = false := by decide) (hcd : (x == ("__classdict__" : Str)) = false := by decide) : DenB G (.Name x pos) (wVB i) := by
  refine ⟨_, fun j => pe_var (hN j) (hv j) hd hcd, fun W F0 H0 F H σ env Q R s h k => ?_⟩
  unfold wVB at h
  split at h
  · rename_i d q
    obtain ⟨v, h1, h2⟩ := s.ent i _ q
    exact ⟨v, h1, k v d F H (Ext.refl s.u s.w) (.inl h2) h⟩
  · rename_i t ds q
    obtain ⟨v, h1, a, vs, h2, ht, h3, h4, h5, h6, h7, h8⟩ := s.ent i _ q
    exact ⟨v, h1, k v (.list ds) F H (Ext.refl s.u s.w) (.inr (.inl ⟨a, vs, ds, h2, rfl, h5, h6, h7, h8⟩)) h⟩
  · rename_i es q
    obtain ⟨v, h1, a, o, xs, h2, h3, h4, h5, h6, h7, h8, h9⟩ := s.ent i _ q
    exact ⟨v, h1, k v (.dict es) F H (Ext.refl s.u s.w) (.inr (.inr ⟨a, o, xs, es, h2, rfl, h5, h6, h7, h8, h9⟩)) h⟩
  · exact h.elim
theorem b_of (h : DenE G e w) : DenB G e w := by
  obtain ⟨t, h1, h2⟩ := h
  exact ⟨t, h1, fun W F0 H0 F H σ env Q R s h k => h2 W F0 H0 F H σ env Q R s h fun v d F' H' e r q => k v d F' H' e (.inl r) q⟩
theorem e_const {v : V} {d : D} (h : ∀ i, PE (G.X i) e (tC v)) (r : ∀ F, Rp G.K F v d) : DenE G e (wC d) :=
  ⟨_, h, fun W F0 H0 F H σ env Q R s h k => k v d F H (Ext.refl s.u s.w) (r F) h⟩
theorem e_int {i : Int} {j : Nat} : DenE G (.Constant (.int i) j pos) (wC (.int i)) := e_const (fun _ => pe_int) fun _ => .int i
theorem e_bl {b : Bool} {j : Nat} : DenE G (.Constant (.bool b) j pos) (wC (.bool b)) := e_const (fun _ => pe_bl) fun _ => .bl b
theorem e_non {j : Nat} : DenE G (.Constant .none j pos) (wC .none) := e_const (fun _ => pe_non) fun _ => .non
theorem e_str {x : Str} {j : Nat} : DenE G (.Constant (.str x) j pos) (wC (.str x)) := e_const (fun _ => pe_str) fun _ => .str x
/-- a constant of the module: an int, a text -/
theorem e_globI {x : Str} {i : Int} {t : Tok} (hg : ∀ j, Gl (G.X j) x := by intro _; rfl) (hm : ∀ j, (G.X j).mg x = some (.int i t)) (hd : (x == ("__debug__" : Str)) = false := by decide) : DenE G (.Name x pos) (wC (.int i)) :=
  e_const (fun j => pe_glob (v := .int i) (hg j) (hm j) ⟨t, rfl⟩ hd) fun _ => .int i
theorem e_globS {x z : Str} {t : Tok} (hg : ∀ j, Gl (G.X j) x := by intro _; rfl) (hm : ∀ j, (G.X j).mg x = some (.str z t)) (hd : (x == ("__debug__" : Str)) = false := by decide) : DenE G (.Name x pos) (wC (.str z)) :=
  e_const (fun j => pe_glob (v := .str z) (hg j) (hm j) ⟨t, rfl⟩ hd) fun _ => .str z

/-! ### operators -/
abbrev OD := D → D → (D → Prop) → Prop
def OpS (K : KT) (r : R2) (o : OD) : Prop := ∀ (W : Option Addr) (F H : Hp) (x y : V) (d e : D) (Q : D → Prop) (R : VK), Same F H → WdOk K W F H → RpB K W F H x d → RpB K W F H y e → o d e Q →
  (∀ v d' F' H', Ext K W F H F' H' → Rp K F' v d' → Q d' → R v H') → r x y H R
def OpD (G : Fam) (f : Value → Value → Sem Value) (o : OD) : Prop := ∃ r : R2, (∀ i, OpR (G.X i) f r) ∧ OpS G.K r o
def wOp (o : OD) (wa wb : WE) : WE := fun env Q => wa env fun x => wb env fun y => o x y Q
@[simp ↓] theorem wOp_ap (o : OD) (wa wb : WE) env Q : wOp o wa wb env Q = (wa env fun x => wb env fun y => o x y Q) := Eq.trans rfl rfl
theorem snd_op {K : KT} {r : R2} {o : OD} {ta tb : TE} (ho : OpS K r o) (ha : SndB K ta wa) (hb : SndB K tb wb) : SndE K (tOp r ta tb) (wOp o wa wb) := by
  intro W F0 H0 F H σ env Q R s h k
  refine ha W F0 H0 F H σ env _ _ s h fun v d F1 H1 e1 r1 q1 => ?_
  refine hb W F0 H0 F1 H1 σ env _ _ (s.step e1) q1 fun u c F2 H2 e2 r2 q2 => ?_
  exact ho W F2 H2 v u d c Q R e2.u e2.w (r1.step e2) r2 q2 fun x d' F3 H3 e3 r3 q3 => k x d' F3 H3 ((e1.trans e2).trans e3) r3 q3
theorem e_op {op : Operator} {o : OD} (ho : OpD G (binaryOp op) o) (ha : DenB G a wa) (hb : DenB G b wb) : DenE G (.BinOp a op b pos) (wOp o wa wb) := by
  obtain ⟨r, h1, h2⟩ := ho
  obtain ⟨ta, a1, a2⟩ := ha
  obtain ⟨tb, b1, b2⟩ := hb
  exact ⟨_, fun i => pe_op (h1 i) (a1 i) (b1 i), snd_op h2 a2 b2⟩
theorem e_cmp {op : CmpOp} {o : OD} (ho : OpD G (compareOp op) o) (ha : DenB G a wa) (hb : DenB G b wb) (hm : behindInMarks op b = false) : DenE G (.Compare a [op] [b] pos) (wOp o wa wb) := by
  obtain ⟨r, h1, h2⟩ := ho
  obtain ⟨ta, a1, a2⟩ := ha
  obtain ⟨tb, b1, b2⟩ := hb
  exact ⟨_, fun i => pe_cmpR (h1 i) (a1 i) (b1 i) hm, snd_op h2 a2 b2⟩
/-- the value, a bool, as a test -/
def wTest (w : WE) : WT := fun env Q => w env fun d => match d with
  | .bool b => Q b
  | _ => False
@[simp ↓] theorem wTest_ap (w : WE) env Q : wTest w env Q = (w env fun d => match d with
  | .bool b => Q b
  | _ => False) := Eq.trans rfl rfl
theorem snd_test {K : KT} {t : TE} (h : SndE K t w) : SndT K (tTest t) (wTest w) := by
  intro W F0 H0 F H σ env Q R s hw k
  refine h W F0 H0 F H σ env _ _ s hw fun v d F' H' e r q => ?_
  cases r with
  | bl b => exact ⟨b, rfl, k b F' H' e q⟩
  | _ => exact (show False from q).elim
theorem t_cmp {op : CmpOp} {o : OD} (ho : OpD G (compareOp op) o) (ha : DenB G a wa) (hb : DenB G b wb) (hm : behindInMarks op b = false) : DenT G (.Compare a [op] [b] pos) (wTest (wOp o wa wb)) := by
  obtain ⟨r, h1, h2⟩ := ho
  obtain ⟨ta, a1, a2⟩ := ha
  obtain ⟨tb, b1, b2⟩ := hb
  exact ⟨_, fun i => pt_cmpR (h1 i) (a1 i) (b1 i) hm, snd_test (snd_op h2 a2 b2)⟩
/-- an expression whose value is a bool, as a test -/
theorem t_val (h : DenE G e w) (he : ∀ i whole, isTrue e (G.X i).env whole = (do let v ← whole; standAt e.pos; holding [v] (truthy v)) := by intro _ _; rfl) : DenT G e (wTest w) := by
  obtain ⟨t, h1, h2⟩ := h
  exact ⟨tB t, fun i => pt_val (h1 i) (he i), snd_test h2⟩
/-- a < b < c -/
def wChain (o o' : OD) (wa wb wc : WE) : WE := fun env Q => wa env fun x => wb env fun y => o x y fun z => match z with
  | .bool true => wc env fun u => o' y u Q
  | .bool false => Q (.bool false)
  | _ => False
@[simp ↓] theorem wChain_ap (o o' : OD) (wa wb wc : WE) env Q : wChain o o' wa wb wc env Q = (wa env fun x => wb env fun y => o x y fun z => match z with
  | .bool true => wc env fun u => o' y u Q
  | .bool false => Q (.bool false)
  | _ => False) := Eq.trans rfl rfl
theorem snd_chain {K : KT} {r r' : R2} {o o' : OD} {c : Expr} {wc : WE} {ta tb tc : TE} (ho : OpS K r o) (ho' : OpS K r' o') (ha : SndB K ta wa) (hb : SndB K tb wb) (hc : SndB K tc wc) : SndE K (tChain r r' ta tb tc) (wChain o o' wa wb wc) := by
  intro W F0 H0 F H σ env Q R s h k
  refine ha W F0 H0 F H σ env _ _ s h fun v d F1 H1 e1 r1 q1 => ?_
  refine hb W F0 H0 F1 H1 σ env _ _ (s.step e1) q1 fun u c F2 H2 e2 r2 q2 => ?_
  refine ho W F2 H2 v u d c _ _ e2.u e2.w (r1.step e2) r2 q2 fun x d' F3 H3 e3 r3 q3 => ?_
  cases r3 with
  | bl b =>
    refine ⟨b, rfl, ?_⟩
    cases b with
    | true =>
      rw [if_pos rfl]
      refine hc W F0 H0 F3 H3 σ env _ _ (((s.step e1).step e2).step e3) q3 fun u' c' F4 H4 e4 r4 q4 => ?_
      exact ho' W F4 H4 u u' c c' Q R e4.u e4.w ((r2.step e3).step e4) r4 q4 fun z d5 F5 H5 e5 r5 q5 => k z d5 F5 H5 ((((e1.trans e2).trans e3).trans e4).trans e5) r5 q5
    | false =>
      rw [if_neg Bool.false_ne_true]
      exact k _ _ F3 H3 ((e1.trans e2).trans e3) (.bl false) q3
  | _ => exact (show False from q3).elim
theorem e_chain {op op' : CmpOp} {o o' : OD} {c : Expr} {wc : WE} (ho : OpD G (compareOp op) o) (ho' : OpD G (compareOp op') o') (ha : DenB G a wa) (hb : DenB G b wb) (hc : DenB G c wc)
    (hm : lastMarks [op, op'] [b, c] = false := by with_unfolding_all rfl) : DenE G (.Compare a [op, op'] [b, c] pos) (wChain o o' wa wb wc) := by
  obtain ⟨r, h1, h2⟩ := ho
  obtain ⟨r', h1', h2'⟩ := ho'
  obtain ⟨ta, a1, a2⟩ := ha
  obtain ⟨tb, b1, b2⟩ := hb
  obtain ⟨tc, c1, c2⟩ := hc
  exact ⟨_, fun i => pe_chain (h1 i) (h1' i) (a1 i) (b1 i) (c1 i) hm, snd_chain (c := c) h2 h2' a2 b2 c2⟩
theorem t_chain {op op' : CmpOp} {o o' : OD} {c : Expr} {wc : WE} (ho : OpD G (compareOp op) o) (ho' : OpD G (compareOp op') o') (ha : DenB G a wa) (hb : DenB G b wb) (hc : DenB G c wc)
    (hm : lastMarks [op, op'] [b, c] = false := by with_unfolding_all rfl) : DenT G (.Compare a [op, op'] [b, c] pos) (wTest (wChain o o' wa wb wc)) := by
  obtain ⟨r, h1, h2⟩ := ho
  obtain ⟨r', h1', h2'⟩ := ho'
  obtain ⟨ta, a1, a2⟩ := ha
  obtain ⟨tb, b1, b2⟩ := hb
  obtain ⟨tc, c1, c2⟩ := hc
  exact ⟨_, fun i => pt_chain (h1 i) (h1' i) (a1 i) (b1 i) (c1 i) hm, snd_test (snd_chain (c := c) h2 h2' a2 b2 c2)⟩
/-- is None -/
def oIsN : D → Bool
  | .none => true
  | _ => false
@[simp] theorem oIsN_n : oIsN .none = true := rfl
@[simp] theorem oIsN_b (b : Bool) : oIsN (.bool b) = false := rfl
@[simp] theorem oIsN_i (i : Int) : oIsN (.int i) = false := rfl
@[simp] theorem oIsN_s (x : Str) : oIsN (.str x) = false := rfl
@[simp] theorem oIsN_t (xs : List D) : oIsN (.tuple xs) = false := rfl
@[simp] theorem oIsN_l (xs : List D) : oIsN (.list xs) = false := rfl
@[simp] theorem oIsN_d (xs : List (D × D)) : oIsN (.dict xs) = false := rfl
def wIsN (w : WE) : WE := fun env Q => w env fun d => Q (.bool (oIsN d))
@[simp ↓] theorem wIsN_ap (w : WE) env Q : wIsN w env Q = (w env fun d => Q (.bool (oIsN d))) := Eq.trans rfl rfl
def wNotN (w : WE) : WE := fun env Q => w env fun d => Q (.bool (!oIsN d))
@[simp ↓] theorem wNotN_ap (w : WE) env Q : wNotN w env Q = (w env fun d => Q (.bool (!oIsN d))) := Eq.trans rfl rfl
theorem Rp.isN {K : KT} {F : Hp} {v : V} {d : D} (h : Rp K F v d) : decide (v = .non) = oIsN d := by
  cases h <;> rfl
theorem RpB.isN {K : KT} {W : Option Addr} {F H : Hp} {v : V} {d : D} (h : RpB K W F H v d) : decide (v = .non) = oIsN d := by
  rcases h with h | ⟨a, vs, es, h1, h2, _⟩ | ⟨a, o, xs, fs, h1, h2, _⟩
  · exact h.isN
  · subst h1 h2
    rfl
  · subst h1 h2
    rfl
theorem e_isN {j : Nat} {p2 : Pos} (ha : DenB G a wa) : DenE G (.Compare a [.Is] [.Constant .none j p2] pos) (wIsN wa) := by
  obtain ⟨t, h1, h2⟩ := ha
  refine ⟨_, fun i => pe_cmp (pc_isN (h1 i)) rfl, fun W F0 H0 F H σ env Q R s h k => ?_⟩
  refine h2 W F0 H0 F H σ env _ _ s h fun v d F' H' e r q => ?_
  exact k _ _ F' H' e (.bl _) (by rw [r.isN]; exact q)
theorem e_notN {j : Nat} {p2 : Pos} (ha : DenB G a wa) : DenE G (.Compare a [.IsNot] [.Constant .none j p2] pos) (wNotN wa) := by
  obtain ⟨t, h1, h2⟩ := ha
  refine ⟨_, fun i => pe_cmp (pc_notN (h1 i)) rfl, fun W F0 H0 F H σ env Q R s h k => ?_⟩
  refine h2 W F0 H0 F H σ env _ _ s h fun v d F' H' e r q => ?_
  exact k _ _ F' H' e (.bl _) (by rw [r.isN]; exact q)

theorem t_isN {j : Nat} {p2 : Pos} (ha : DenB G a wa) : DenT G (.Compare a [.Is] [.Constant .none j p2] pos) (wTest (wIsN wa)) := by
  obtain ⟨t, h1, h2⟩ := ha
  refine ⟨_, fun i => pt_cmp (pc_isN (h1 i)) rfl, fun W F0 H0 F H σ env Q R s h k => ?_⟩
  refine h2 W F0 H0 F H σ env _ _ s h fun v d F' H' e r q => ?_
  exact ⟨_, rfl, k _ F' H' e (by rw [r.isN]; exact q)⟩
theorem t_notN {j : Nat} {p2 : Pos} (ha : DenB G a wa) : DenT G (.Compare a [.IsNot] [.Constant .none j p2] pos) (wTest (wNotN wa)) := by
  obtain ⟨t, h1, h2⟩ := ha
  refine ⟨_, fun i => pt_cmp (pc_notN (h1 i)) rfl, fun W F0 H0 F H σ env Q R s h k => ?_⟩
  refine h2 W F0 H0 F H σ env _ _ s h fun v d F' H' e r q => ?_
  exact ⟨_, rfl, k _ F' H' e (by rw [r.isN]; exact q)⟩
/-! ### and, or, not, if -/
def wAnd (a b : WT) : WT := fun env Q => a env fun c => if c = true then b env Q else Q false
@[simp ↓] theorem wAnd_ap (a b : WT) env Q : wAnd a b env Q = (a env fun c => if c = true then b env Q else Q false) := Eq.trans rfl rfl
def wOr (a b : WT) : WT := fun env Q => a env fun c => if c = true then Q true else b env Q
@[simp ↓] theorem wOr_ap (a b : WT) env Q : wOr a b env Q = (a env fun c => if c = true then Q true else b env Q) := Eq.trans rfl rfl
def wNot (a : WT) : WT := fun env Q => a env fun c => Q (!c)
@[simp ↓] theorem wNot_ap (a : WT) env Q : wNot a env Q = (a env fun c => Q (!c)) := Eq.trans rfl rfl
variable {ua ub : WT} {rest : List Expr}
theorem t_of (h : DenW G e ua) : DenT G e ua := by
  obtain ⟨t, h1, h2⟩ := h
  exact ⟨t, fun i => (h1 i).pt, h2⟩
theorem tw_and1 (ha : DenT G a ua) : DenW G (.BoolOp .And [a] pos) ua := by
  obtain ⟨t, h1, h2⟩ := ha
  exact ⟨t, fun i => pw_and1 (h1 i), h2⟩
theorem tw_or1 (ha : DenT G a ua) : DenW G (.BoolOp .Or [a] pos) ua := by
  obtain ⟨t, h1, h2⟩ := ha
  exact ⟨t, fun i => pw_or1 (h1 i), h2⟩
theorem tw_and (ha : DenT G a ua) (hb : DenW G (.BoolOp .And (b :: rest) pos) ub) : DenW G (.BoolOp .And (a :: b :: rest) pos) (wAnd ua ub) := by
  obtain ⟨t, h1, h2⟩ := ha
  obtain ⟨u, k1, k2⟩ := hb
  refine ⟨_, fun i => pw_and (h1 i) (k1 i), fun W F0 H0 F H σ env Q R s h k => ?_⟩
  refine h2 W F0 H0 F H σ env _ _ s h fun c F' H' e q => ?_
  cases c with
  | true =>
    show u σ H' R
    exact k2 W F0 H0 F' H' σ env _ _ (s.step e) q fun d F2 H2 e2 q2 => k d F2 H2 (e.trans e2) q2
  | false => exact k false F' H' e q
theorem tw_or (ha : DenT G a ua) (hb : DenW G (.BoolOp .Or (b :: rest) pos) ub) : DenW G (.BoolOp .Or (a :: b :: rest) pos) (wOr ua ub) := by
  obtain ⟨t, h1, h2⟩ := ha
  obtain ⟨u, k1, k2⟩ := hb
  refine ⟨_, fun i => pw_or (h1 i) (k1 i), fun W F0 H0 F H σ env Q R s h k => ?_⟩
  refine h2 W F0 H0 F H σ env _ _ s h fun c F' H' e q => ?_
  cases c with
  | false =>
    show u σ H' R
    exact k2 W F0 H0 F' H' σ env _ _ (s.step e) q fun d F2 H2 e2 q2 => k d F2 H2 (e.trans e2) q2
  | true => exact k true F' H' e q
theorem t_not (ha : DenT G a ua) : DenT G (.UnaryOp .Not a pos) (wNot ua) := by
  obtain ⟨t, h1, h2⟩ := ha
  refine ⟨_, fun i => pt_not (h1 i), fun W F0 H0 F H σ env Q R s h k => ?_⟩
  exact h2 W F0 H0 F H σ env _ _ s h fun c F' H' e q => k _ F' H' e q
/-- as values (bools) -/
def wAndV (a b : WE) : WE := fun env Q => a env fun d => match d with
  | .bool true => b env Q
  | .bool false => Q (.bool false)
  | _ => False
@[simp ↓] theorem wAndV_ap (a b : WE) env Q : wAndV a b env Q = (a env fun d => match d with
  | .bool true => b env Q
  | .bool false => Q (.bool false)
  | _ => False) := Eq.trans rfl rfl
def wOrV (a b : WE) : WE := fun env Q => a env fun d => match d with
  | .bool true => Q (.bool true)
  | .bool false => b env Q
  | _ => False
@[simp ↓] theorem wOrV_ap (a b : WE) env Q : wOrV a b env Q = (a env fun d => match d with
  | .bool true => Q (.bool true)
  | .bool false => b env Q
  | _ => False) := Eq.trans rfl rfl
def wNotV (a : WE) : WE := fun env Q => a env fun d => match d with
  | .bool b => Q (.bool (!b))
  | _ => False
@[simp ↓] theorem wNotV_ap (a : WE) env Q : wNotV a env Q = (a env fun d => match d with
  | .bool b => Q (.bool (!b))
  | _ => False) := Eq.trans rfl rfl
theorem e_one {op} (h : DenE G a wa) : DenE G (.BoolOp op [a] pos) wa := by
  obtain ⟨t, h1, h2⟩ := h
  exact ⟨t, fun i => pe_one (h1 i), h2⟩
theorem e_and (ha : DenE G a wa) (hb : DenE G (.BoolOp .And (b :: rest) pos) wb) : DenE G (.BoolOp .And (a :: b :: rest) pos) (wAndV wa wb) := by
  obtain ⟨t, h1, h2⟩ := ha
  obtain ⟨u, k1, k2⟩ := hb
  refine ⟨_, fun i => pe_and (h1 i) (k1 i), fun W F0 H0 F H σ env Q R s h k => ?_⟩
  refine h2 W F0 H0 F H σ env _ _ s h fun v d F' H' e r q => ?_
  cases r with
  | bl c =>
    refine ⟨c, rfl, ?_⟩
    cases c with
    | true =>
      rw [if_pos rfl]
      exact k2 W F0 H0 F' H' σ env _ _ (s.step e) q fun v d F2 H2 e2 r2 q2 => k v d F2 H2 (e.trans e2) r2 q2
    | false =>
      rw [if_neg Bool.false_ne_true]
      exact k _ _ F' H' e (.bl false) q
  | _ => exact (show False from q).elim
theorem e_or (ha : DenE G a wa) (hb : DenE G (.BoolOp .Or (b :: rest) pos) wb) : DenE G (.BoolOp .Or (a :: b :: rest) pos) (wOrV wa wb) := by
  obtain ⟨t, h1, h2⟩ := ha
  obtain ⟨u, k1, k2⟩ := hb
  refine ⟨_, fun i => pe_or (h1 i) (k1 i), fun W F0 H0 F H σ env Q R s h k => ?_⟩
  refine h2 W F0 H0 F H σ env _ _ s h fun v d F' H' e r q => ?_
  cases r with
  | bl c =>
    refine ⟨c, rfl, ?_⟩
    cases c with
    | false =>
      rw [if_neg Bool.false_ne_true]
      exact k2 W F0 H0 F' H' σ env _ _ (s.step e) q fun v d F2 H2 e2 r2 q2 => k v d F2 H2 (e.trans e2) r2 q2
    | true =>
      rw [if_pos rfl]
      exact k _ _ F' H' e (.bl true) q
  | _ => exact (show False from q).elim
theorem e_not (ha : DenE G a wa) : DenE G (.UnaryOp .Not a pos) (wNotV wa) := by
  obtain ⟨t, h1, h2⟩ := ha
  refine ⟨_, fun i => pe_not (h1 i), fun W F0 H0 F H σ env Q R s h k => ?_⟩
  refine h2 W F0 H0 F H σ env _ _ s h fun v d F' H' e r q => ?_
  cases r with
  | bl c => exact ⟨c, rfl, k _ _ F' H' e (.bl _) q⟩
  | _ => exact (show False from q).elim
def wIf (c : WT) (a b : WE) : WE := fun env Q => c env fun x => if x = true then a env Q else b env Q
@[simp ↓] theorem wIf_ap (c : WT) (a b : WE) env Q : wIf c a b env Q = (c env fun x => if x = true then a env Q else b env Q) := Eq.trans rfl rfl
theorem e_if {c : Expr} {uc : WT} (hc : DenT G c uc) (ha : DenE G a wa) (hb : DenE G b wb) : DenE G (.IfExp c a b pos) (wIf uc wa wb) := by
  obtain ⟨tc, c1, c2⟩ := hc
  obtain ⟨t, h1, h2⟩ := ha
  obtain ⟨u, k1, k2⟩ := hb
  refine ⟨_, fun i => pe_ifExp (c1 i) (h1 i) (k1 i), fun W F0 H0 F H σ env Q R s h k => ?_⟩
  refine c2 W F0 H0 F H σ env _ _ s h fun x F' H' e q => ?_
  cases x with
  | true =>
    show t σ H' R
    exact h2 W F0 H0 F' H' σ env _ _ (s.step e) q fun v d F2 H2 e2 r2 q2 => k v d F2 H2 (e.trans e2) r2 q2
  | false =>
    show u σ H' R
    exact k2 W F0 H0 F' H' σ env _ _ (s.step e) q fun v d F2 H2 e2 r2 q2 => k v d F2 H2 (e.trans e2) r2 q2
end

/-! ### argument lists -/
section
variable {G : Fam} {e : Expr} {es : List Expr}
abbrev WL := Env → (List D → Prop) → Prop
abbrev RpBs (K : KT) (W : Option Addr) (F H : Hp) : List V → List D → Prop := Paired (RpB K W F H)
theorem RpBs.step {K : KT} {W : Option Addr} {F H F1 H1 : Hp} (e : Ext K W F H F1 H1) : ∀ {vs : List V} {ds : List D}, RpBs K W F H vs ds → RpBs K W F1 H1 vs ds
  | _, _, .nil => .nil
  | _, _, .cons h r => .cons (h.step e) (RpBs.step e r)
/-- the arguments of a built-in -/
def DenL (G : Fam) (es : List Expr) (w : WL) : Prop := ∃ t : TA, (∀ i, PA (G.X i) es t) ∧ ∀ (W : Option Addr) (F0 H0 F H : Hp) (σ : L2.St) (env : Env) (Q : List D → Prop) (R : List V → Hp → Prop), StR G.K W F0 H0 F H σ env → w env Q →
  (∀ vs ds F' H', Ext G.K W F H F' H' → RpBs G.K W F' H' vs ds → Q ds → R vs H') → t σ H R
def wNil : WL := fun _ Q => Q []
@[simp ↓] theorem wNil_ap u0_ Q : wNil u0_ Q = (Q []) := Eq.trans rfl rfl
def wCons (a : WE) (r : WL) : WL := fun env Q => a env fun x => r env fun xs => Q (x :: xs)
@[simp ↓] theorem wCons_ap (a : WE) (r : WL) env Q : wCons a r env Q = (a env fun x => r env fun xs => Q (x :: xs)) := Eq.trans rfl rfl
theorem l_nil : DenL G [] wNil := ⟨tNil, fun _ => pa_nil, fun W F0 H0 F H σ env Q R s h k => k [] [] F H (Ext.refl s.u s.w) .nil h⟩
theorem l_cons {w : WE} {r : WL} (h : DenB G e w) (hr : DenL G es r) (hs : ∀ i, starEach (e :: es) (G.X i).env = (false, eval e (G.X i).env) :: starEach es (G.X i).env := by intro _; rfl) : DenL G (e :: es) (wCons w r) := by
  obtain ⟨t, h1, h2⟩ := h
  obtain ⟨u, k1, k2⟩ := hr
  refine ⟨_, fun i => pa_cons (h1 i) (k1 i) (hs i), fun W F0 H0 F H σ env Q R s h k => ?_⟩
  refine h2 W F0 H0 F H σ env _ _ s h fun v d F1 H1 e1 r1 q1 => ?_
  exact k2 W F0 H0 F1 H1 σ env _ _ (s.step e1) q1 fun vs ds F2 H2 e2 r2 q2 => k (v :: vs) (d :: ds) F2 H2 (e1.trans e2) (.cons (r1.step e2) r2) q2
/-- values that stand still: the items of a display, a def's arguments -/
def RpA (K : KT) (W : Option Addr) (F : Hp) (v : V) : En → Prop
  | .sh d => Rp K F v d
  | .ob a => v = .ref a ∧ W = some a
  | _ => False
abbrev RpAs (K : KT) (W : Option Addr) (F : Hp) : List V → List En → Prop := Paired (RpA K W F)
theorem RpA.mono {K : KT} {W : Option Addr} {F F1 : Hp} {v : V} {en : En} (e : Same F F1) (h : RpA K W F v en) : RpA K W F1 v en := by
  cases en with
  | sh d => exact Rp.mono e h
  | ob a => exact h
  | ow _ _ => exact h.elim
  | od _ => exact h.elim
  | ot _ _ => exact h.elim
  | th _ _ _ => exact h.elim
  | ex _ _ _ => exact h.elim
theorem RpAs.mono {K : KT} {W : Option Addr} {F F1 : Hp} (e : Same F F1) : ∀ {vs : List V} {ds : List En}, RpAs K W F vs ds → RpAs K W F1 vs ds
  | _, _, .nil => .nil
  | _, _, .cons h r => .cons (h.mono e) (RpAs.mono e r)
abbrev WA := Env → (List En → Prop) → Prop
def DenA (G : Fam) (es : List Expr) (w : WA) : Prop := ∃ t : TA, (∀ i, PA (G.X i) es t) ∧ ∀ (W : Option Addr) (F0 H0 F H : Hp) (σ : L2.St) (env : Env) (Q : List En → Prop) (R : List V → Hp → Prop), StR G.K W F0 H0 F H σ env → w env Q →
  (∀ vs ds F' H', Ext G.K W F H F' H' → RpAs G.K W F' vs ds → ds.length = es.length → Q ds → R vs H') → t σ H R
def wANil : WA := fun _ Q => Q []
@[simp ↓] theorem wANil_ap u0_ Q : wANil u0_ Q = (Q []) := Eq.trans rfl rfl
def wACons (a : WE) (r : WA) : WA := fun env Q => a env fun x => r env fun xs => Q (.sh x :: xs)
@[simp ↓] theorem wACons_ap (a : WE) (r : WA) env Q : wACons a r env Q = (a env fun x => r env fun xs => Q (.sh x :: xs)) := Eq.trans rfl rfl
/-- the hand as an argument -/
def wAOb (i : Nat) (r : WA) : WA := fun env Q => match env[i]? with
  | some (some (.ob a)) => r env fun xs => Q (.ob a :: xs)
  | _ => False
@[simp ↓] theorem wAOb_ap (i : Nat) (r : WA) env Q : wAOb i r env Q = (match env[i]? with
  | some (some (.ob a)) => r env fun xs => Q (.ob a :: xs)
  | _ => False) := Eq.trans rfl rfl
theorem a_nil : DenA G [] wANil := ⟨tNil, fun _ => pa_nil, fun W F0 H0 F H σ env Q R s h k => k [] [] F H (Ext.refl s.u s.w) .nil rfl h⟩
theorem a_cons {w : WE} {r : WA} (h : DenE G e w) (hr : DenA G es r) (hs : ∀ i, starEach (e :: es) (G.X i).env = (false, eval e (G.X i).env) :: starEach es (G.X i).env := by intro _; rfl) : DenA G (e :: es) (wACons w r) := by
  obtain ⟨t, h1, h2⟩ := h
  obtain ⟨u, k1, k2⟩ := hr
  refine ⟨_, fun i => pa_cons (h1 i) (k1 i) (hs i), fun W F0 H0 F H σ env Q R s h k => ?_⟩
  refine h2 W F0 H0 F H σ env _ _ s h fun v d F1 H1 e1 r1 q1 => ?_
  exact k2 W F0 H0 F1 H1 σ env _ _ (s.step e1) q1 fun vs ds F2 H2 e2 r2 l2 q2 => k (v :: vs) (.sh d :: ds) F2 H2 (e1.trans e2) (.cons (show RpA G.K W F2 v (.sh d) from Rp.mono e2.f r1) r2) (congrArg (· + 1) l2) q2
theorem a_ob {i : Nat} {x : Str} {pos : Pos} {r : WA} (hN : ∀ j, (G.X j).N[i]? = some x := by intro _; rfl) (hv : ∀ j, Vis (G.X j).env.scope x := by intro _; first | exact Or.inl rfl | exact Or.inr (Or.inl rfl) | exact Or.inr (Or.inr rfl)) (hr : DenA G es r) (hd : (x == ("__debug__" : Str)) = false := by decide) (hcd : (x == ("__classdict__" : Str)) = false := by decide)
    (hs : ∀ i, starEach (.Name x pos :: es) (G.X i).env = (false, eval (.Name x pos) (G.X i).env) :: starEach es (G.X i).env := by intro _; rfl) : DenA G (.Name x pos :: es) (wAOb i r) := by
  obtain ⟨u, k1, k2⟩ := hr
  refine ⟨_, fun j => pa_cons (pe_var (hN j) (hv j) hd hcd) (k1 j) (hs j), fun W F0 H0 F H σ env Q R s h k => ?_⟩
  unfold wAOb at h
  split at h
  · rename_i a q
    obtain ⟨v, h1, h2⟩ := s.ent i _ q
    refine ⟨v, h1, ?_⟩
    exact k2 W F0 H0 F H σ env _ _ s h fun vs ds F2 H2 e2 r2 l2 q2 => k (v :: vs) (.ob a :: ds) F2 H2 e2 (.cons (show RpA G.K W F2 v (.ob a) from h2) r2) (congrArg (· + 1) l2) q2
  · exact h.elim
@[simp] def shs : List En → Option (List D)
  | [] => some []
  | .sh d :: r => (shs r).map (d :: ·)
  | _ :: _ => none
theorem RpAs.shs {K : KT} {W : Option Addr} {F : Hp} : ∀ {vs : List V} {ens : List En} {ds : List D}, RpAs K W F vs ens → Dn.shs ens = some ds → Rps K F vs ds
  | _, _, _, .nil, e => by cases e; exact .nil
  | _, _, _, .cons (b := en) h r, e => by
    cases en with
    | sh d =>
      simp only [Dn.shs, Option.map_eq_some_iff] at e
      obtain ⟨es, q, rfl⟩ := e
      exact .cons h (RpAs.shs r q)
    | ob a => simp [Dn.shs] at e
    | ow a _ => simp [Dn.shs] at e
    | od _ => simp [Dn.shs] at e
    | ot _ _ => simp [Dn.shs] at e
    | th _ _ _ => simp [Dn.shs] at e
    | ex _ _ _ => simp [Dn.shs] at e
/-! displays -/
def wTup (r : WA) : WE := fun env Q => r env fun xs => match shs xs with
  | some ds => ds.length ≤ sizeLine ∧ Q (.tuple ds)
  | none => False
@[simp ↓] theorem wTup_ap (r : WA) env Q : wTup r env Q = (r env fun xs => match shs xs with
  | some ds => ds.length ≤ sizeLine ∧ Q (.tuple ds)
  | none => False) := Eq.trans rfl rfl
def wLst (r : WA) : WE := fun env Q => r env fun xs => match shs xs with
  | some ds => ds.length ≤ sizeLine ∧ Q (.list ds)
  | none => False
@[simp ↓] theorem wLst_ap (r : WA) env Q : wLst r env Q = (r env fun xs => match shs xs with
  | some ds => ds.length ≤ sizeLine ∧ Q (.list ds)
  | none => False) := Eq.trans rfl rfl
theorem e_tup {x1 : Nat} {pos : Pos} {r : WA} (h : DenA G es r) : DenE G (.Tuple es x1 pos) (wTup r) := by
  obtain ⟨t, h1, h2⟩ := h
  refine ⟨_, fun i => pe_tup (h1 i), fun W F0 H0 F H σ env Q R s h k => ?_⟩
  refine h2 W F0 H0 F H σ env _ _ s h fun vs ens F1 H1 e1 r1 _ q1 => ?_
  split at q1
  · rename_i ds q
    have r2 := r1.shs q
    refine ⟨by rw [r2.length]; exact q1.1, fun p hp => ?_⟩
    have e2 : Ext G.K W F1 H1 (upd F1 p (.tup vs)) (upd H1 p (.tup vs)) := Ext.new e1.u e1.w hp
    exact k _ _ _ _ (e1.trans e2) (.tup (SqT.of upd_same) (by rw [r2.length]; exact q1.1) (Rps.mono e2.f r2)) q1.2
  · exact q1.elim
theorem snd_lst {K : KT} {W : Option Addr} {F1 H1 : Hp} {vs : List V} {ds : List D} {Q : D → Prop} {R : VK} (u : Same F1 H1) (w : WdOk K W F1 H1) (r : Rps K F1 vs ds) (hl : vs.length ≤ sizeLine) (q : Q (.list ds))
    (k : ∀ v d F' H', Ext K W F1 H1 F' H' → Rp K F' v d → Q d → R v H') : ∀ p, H1 p = none → R (.ref p) (upd H1 p (.lst vs)) := fun p hp => by
  have e2 : Ext K W F1 H1 (upd F1 p (.lst vs)) (upd H1 p (.lst vs)) := Ext.new u w hp
  exact k _ _ _ _ e2 (.lst upd_same hl (Rps.mono e2.f r)) q
theorem snd_tup {K : KT} {W : Option Addr} {F1 H1 : Hp} {vs : List V} {ds : List D} {Q : D → Prop} {R : VK} (u : Same F1 H1) (w : WdOk K W F1 H1) (r : Rps K F1 vs ds) (hl : vs.length ≤ sizeLine) (q : Q (.tuple ds))
    (k : ∀ v d F' H', Ext K W F1 H1 F' H' → Rp K F' v d → Q d → R v H') : ∀ p, H1 p = none → R (.ref p) (upd H1 p (.tup vs)) := fun p hp => by
  have e2 : Ext K W F1 H1 (upd F1 p (.tup vs)) (upd H1 p (.tup vs)) := Ext.new u w hp
  exact k _ _ _ _ e2 (.tup (SqT.of upd_same) hl (Rps.mono e2.f r)) q
theorem e_lst {pos : Pos} {r : WA} (h : DenA G es r) : DenE G (.List es pos) (wLst r) := by
  obtain ⟨t, h1, h2⟩ := h
  refine ⟨_, fun i => pe_lst (h1 i), fun W F0 H0 F H σ env Q R s h k => ?_⟩
  refine h2 W F0 H0 F H σ env _ _ s h fun vs ens F1 H1 e1 r1 _ q1 => ?_
  split at q1
  · rename_i ds q
    have r2 := r1.shs q
    refine ⟨by rw [r2.length]; exact q1.1, ?_⟩
    exact snd_lst e1.u e1.w r2 (by rw [r2.length]; exact q1.1) q1.2 fun v d F' H' e2 => k v d F' H' (e1.trans e2)
  · exact q1.elim
/-! built-ins by name -/
abbrev CD := List D → (D → Prop) → Prop
def CallS (K : KT) (r : List V → Hp → VK → Prop) (o : CD) : Prop := ∀ (W : Option Addr) (F H : Hp) (vs : List V) (ds : List D) (Q : D → Prop) (R : VK), Same F H → WdOk K W F H → RpBs K W F H vs ds → o ds Q →
  (∀ v d' F' H', Ext K W F H F' H' → Rp K F' v d' → Q d' → R v H') → r vs H R
def CallD (G : Fam) (f : Value) (o : CD) : Prop := ∃ r, (∀ i, CallR (G.X i) f r) ∧ CallS G.K r o
def wCall (o : CD) (r : WL) : WE := fun env Q => r env fun ds => o ds Q
@[simp ↓] theorem wCall_ap (o : CD) (r : WL) env Q : wCall o r env Q = (r env fun ds => o ds Q) := Eq.trans rfl rfl
theorem snd_call {K : KT} {r : List V → Hp → VK → Prop} {o : CD} {t : TA} {w : WL} (ho : CallS K r o) (h2 : ∀ (W : Option Addr) (F0 H0 F H : Hp) (σ : L2.St) (env : Env) (Q : List D → Prop) (R : List V → Hp → Prop), StR K W F0 H0 F H σ env → w env Q →
    (∀ vs ds F' H', Ext K W F H F' H' → RpBs K W F' H' vs ds → Q ds → R vs H') → t σ H R) : SndE K (tCB r t) (wCall o w) := by
  intro W F0 H0 F H σ env Q R s h k
  refine h2 W F0 H0 F H σ env _ _ s h fun vs ds F1 H1 e1 r1 q1 => ?_
  exact ho W F1 H1 vs ds Q R e1.u e1.w r1 q1 fun v d F' H' e2 r2 q2 => k v d F' H' (e1.trans e2) r2 q2
theorem e_callB {id : String} {x : Str} {p pos : Pos} {o : CD} {w : WL} (ho : CallD G (.builtin id) o) (hg : ∀ i, Gl (G.X i) x := by intro _; rfl) (hm : ∀ i, (G.X i).mg x = none) (hv : bootBuiltins x = some (.builtin id)) (ha : DenL G (e :: es) w) (hn : x ≠ "__name__" := by decide) (hdb : (x == ("__debug__" : Str)) = false := by decide)
    (he : ∀ i, starEach (e :: es) (G.X i).env = (false, eval e (G.X i).env) :: starEach es (G.X i).env := by intro _; rfl) (hpl : ∀ i, (backTo pos (starEach es (G.X i).env)).any (·.1) = false := by intro _; rfl) : DenE G (.Call (.Name x p) (e :: es) [] pos) (wCall o w) := by
  obtain ⟨r, h1, h2⟩ := ho
  obtain ⟨t, a1, a2⟩ := ha
  exact ⟨_, fun i => pe_callB (h1 i) (hg i) (hm i) hv (a1 i) hn hdb (he i) (hpl i), snd_call h2 a2⟩
theorem e_callTy {T : String} {x : Str} {p pos : Pos} {o : CD} {w : WL} (ho : CallD G (.type T) o) (hg : ∀ i, Gl (G.X i) x := by intro _; rfl) (hm : ∀ i, (G.X i).mg x = none) (hv : bootBuiltins x = some (.type T)) (ha : DenL G (e :: es) w) (hn : x ≠ "__name__" := by decide) (hdb : (x == ("__debug__" : Str)) = false := by decide)
    (he : ∀ i, starEach (e :: es) (G.X i).env = (false, eval e (G.X i).env) :: starEach es (G.X i).env := by intro _; rfl) (hpl : ∀ i, (backTo pos (starEach es (G.X i).env)).any (·.1) = false := by intro _; rfl) : DenE G (.Call (.Name x p) (e :: es) [] pos) (wCall o w) := by
  obtain ⟨r, h1, h2⟩ := ho
  obtain ⟨t, a1, a2⟩ := ha
  exact ⟨_, fun i => pe_callTy (h1 i) (hg i) (hm i) hv (a1 i) hn hdb (he i) (hpl i), snd_call h2 a2⟩
end
end Dn
/-! Dn3: the operators and built-ins over plain data. -/
namespace Dn
open PySem PySem.Spec PyProof.Rows L2
theorem opR_K {X : Cx} {K : PySem.W.Frag} {f : Value → Value → Sem Value} {r : PySem.W.Frag → R2} (h : X.K = K) (o : OpR X f (r X.K)) : OpR X f (r K) := by
  subst h
  exact o
theorem callR_K {X : Cx} {K : PySem.W.Frag} {f : Value} {r : PySem.W.Frag → List V → Hp → VK → Prop} (h : X.K = K) (o : CallR X f (r X.K)) : CallR X f (r K) := by
  subst h
  exact o
section
variable {G : Fam}
def dAdd : OD := fun d e Q => match d, e with
  | .int i, .int j => Q (.int (i + j))
  | .list a, .list b => a.length + b.length ≤ sizeLine ∧ Q (.list (a ++ b))
  | .tuple a, .tuple b => a.length + b.length ≤ sizeLine ∧ Q (.tuple (a ++ b))
  | .str a, .str b => a.length + b.length ≤ sizeLine ∧ Q (.str (a ++ b))
  | _, _ => False
@[simp ↓] theorem dAdd_ap d e Q : dAdd d e Q = (match d, e with
  | .int i, .int j => Q (.int (i + j))
  | .list a, .list b => a.length + b.length ≤ sizeLine ∧ Q (.list (a ++ b))
  | .tuple a, .tuple b => a.length + b.length ≤ sizeLine ∧ Q (.tuple (a ++ b))
  | .str a, .str b => a.length + b.length ≤ sizeLine ∧ Q (.str (a ++ b))
  | _, _ => False) := Eq.trans rfl rfl
theorem o_add : OpD G (binaryOp .Add) dAdd := by
  refine ⟨_, fun i => OpR.or op_add (OpR.or op_cat (OpR.or (opR_K (r := rCatA) (G.hK i) op_catA) op_add_str)), fun W F H x y d e Q R u w rx ry q k => ?_⟩
  cases d <;> cases e <;> first | exact (show False from q).elim | skip
  · cases rx.int
    cases ry.int
    exact .inl ⟨_, _, rfl, rfl, k _ _ F H (Ext.refl u w) (.int _) q⟩
  · cases rx.str
    cases ry.str
    exact .inr (.inr (.inr ⟨_, _, rfl, rfl, q.1, k _ _ F H (Ext.refl u w) (.str _) q.2⟩))
  · obtain ⟨a, vs, rfl, h1, l1, r1⟩ := rx.list u
    obtain ⟨b, ws, rfl, h2, l2, r2⟩ := ry.list u
    have hl : vs.length + ws.length ≤ sizeLine := by rw [r1.length, r2.length]; exact q.1
    exact .inr (.inl ⟨a, b, vs, ws, rfl, rfl, h1, h2, hl, snd_lst u w (r1.append r2) (by rw [List.length_append]; exact hl) q.2 k⟩)
  · obtain ⟨a, vs, rfl, h1, l1, r1⟩ := rx.tuple
    obtain ⟨b, ws, rfl, h2, l2, r2⟩ := ry.tuple
    have hl : vs.length + ws.length ≤ sizeLine := by rw [r1.length, r2.length]; exact q.1
    refine .inr (.inr (.inl ⟨a, b, vs, ws, rfl, rfl, sameT u h1, sameT u h2, hl, fun e => ?_, fun _ e => ?_, fun _ _ => snd_tup u w (r1.append r2) (by rw [List.length_append]; exact hl) q.2 k⟩))
    · subst e
      cases r1
      exact k _ _ F H (Ext.refl u w) (.tup h2 l2 r2) q.2
    · subst e
      cases r2
      refine k _ _ F H (Ext.refl u w) (.tup h1 l1 r1) ?_
      have z := q.2
      rw [List.append_nil] at z
      exact z
def dSub : OD := fun d e Q => match d, e with
  | .int i, .int j => Q (.int (i - j))
  | _, _ => False
@[simp ↓] theorem dSub_ap d e Q : dSub d e Q = (match d, e with
  | .int i, .int j => Q (.int (i - j))
  | _, _ => False) := Eq.trans rfl rfl
theorem o_sub : OpD G (binaryOp .Sub) dSub := by
  refine ⟨_, fun i => op_sub, fun W F H x y d e Q R u w rx ry q k => ?_⟩
  cases d <;> cases e <;> first | exact (show False from q).elim | skip
  cases rx.int
  cases ry.int
  exact ⟨_, _, rfl, rfl, k _ _ F H (Ext.refl u w) (.int _) q⟩
/-! ints under a condition -/
theorem o_I {f : Value → Value → Sem Value} {C : Int → Int → Prop} {g : Int → Int → Int} {o : OD} (h : ∀ i, OpR (G.X i) f (rI C fun i j => .int (g i j))) (ho : ∀ d e Q, o d e Q → ∃ i j, d = .int i ∧ e = .int j ∧ C i j ∧ Q (.int (g i j))) : OpD G f o := by
  refine ⟨_, h, fun W F H x y d e Q R u w rx ry q k => ?_⟩
  obtain ⟨i, j, rfl, rfl, c, q⟩ := ho d e Q q
  cases rx.int
  cases ry.int
  exact ⟨_, _, rfl, rfl, c, k _ _ F H (Ext.refl u w) (.int _) q⟩
def dMod : OD := fun d e Q => match d, e with
  | .int i, .int j => j ≠ 0 ∧ Q (.int (i.fmod j))
  | _, _ => False
@[simp ↓] theorem dMod_ap d e Q : dMod d e Q = (match d, e with
  | .int i, .int j => j ≠ 0 ∧ Q (.int (i.fmod j))
  | _, _ => False) := Eq.trans rfl rfl
theorem o_mod : OpD G (binaryOp .Mod) dMod := o_I (fun _ => op_modN) fun d e Q q => by
  cases d <;> cases e <;> first | exact (show False from q).elim | exact ⟨_, _, rfl, rfl, q.1, q.2⟩
def dDiv : OD := fun d e Q => match d, e with
  | .int i, .int j => (j ≠ 0 ∧ j.natAbs < 1073741824) ∧ Q (.int (i.fdiv j))
  | _, _ => False
@[simp ↓] theorem dDiv_ap d e Q : dDiv d e Q = (match d, e with
  | .int i, .int j => (j ≠ 0 ∧ j.natAbs < 1073741824) ∧ Q (.int (i.fdiv j))
  | _, _ => False) := Eq.trans rfl rfl
theorem o_div : OpD G (binaryOp .FloorDiv) dDiv := o_I (fun _ => op_fdivN) fun d e Q q => by
  cases d <;> cases e <;> first | exact (show False from q).elim | exact ⟨_, _, rfl, rfl, q.1, q.2⟩
def dPow : OD := fun d e Q => match d, e with
  | .int i, .int j => (0 ≤ j ∧ j ≤ 1000000 ∧ i.natAbs < 2 ^ 64) ∧ Q (.int (i ^ j.toNat))
  | _, _ => False
@[simp ↓] theorem dPow_ap d e Q : dPow d e Q = (match d, e with
  | .int i, .int j => (0 ≤ j ∧ j ≤ 1000000 ∧ i.natAbs < 2 ^ 64) ∧ Q (.int (i ^ j.toNat))
  | _, _ => False) := Eq.trans rfl rfl
theorem o_pow : OpD G (binaryOp .Pow) dPow := o_I (fun _ => op_pow) fun d e Q q => by
  cases d <;> cases e <;> first | exact (show False from q).elim | exact ⟨_, _, rfl, rfl, q.1, q.2⟩
def dXor : OD := fun d e Q => match d, e with
  | .int i, .int j => Q (.int (Builtin.bitXor i j))
  | _, _ => False
@[simp ↓] theorem dXor_ap d e Q : dXor d e Q = (match d, e with
  | .int i, .int j => Q (.int (Builtin.bitXor i j))
  | _, _ => False) := Eq.trans rfl rfl
theorem o_xor : OpD G (binaryOp .BitXor) dXor := by
  refine ⟨_, fun i => op_xor, fun W F H x y d e Q R u w rx ry q k => ?_⟩
  cases d <;> cases e <;> first | exact (show False from q).elim | skip
  cases rx.int
  cases ry.int
  exact ⟨_, _, rfl, rfl, k _ _ F H (Ext.refl u w) (.int _) q⟩
end
/-! ### products -/
theorem tuple_once (l : Addr) (its : Array Value) (n : Nat) (dd : Option Addr) (sl : Array (Option Value)) (u : Tok) :
    Meets (Builtin.«tuple.__mul__» ⟨[.ref l, .int 1 u], []⟩) (fun _ R s => s.heap.get? l = some { cls := .type "tuple", dict := dd, data := .seq its n, slots := sl } ∧ s.TypeIs (.ref l) "tuple" ∧ R (.ok (.ret (Value.ref l))) s) :=
  .of_wp fun P w A R st hyp => by
    obtain ⟨hp, gs, dr, tk, os⟩ := st
    obtain ⟨look, ty, goal⟩ := hyp
    have idx := AutoSeq1.idx_int
    have one : (its.isEmpty || (1 : Int) == 1) = true := by simp
    wp_walk using wpAny_loadPart' look
    all_goals first
      | exact ⟨_, rfl, goal⟩
      | (refine wpAny_bind (wpAny_typeOf ty (wpAny_pure ?_)) ; wp_walk using wpAny_loadPart' look ; exact ⟨_, rfl, goal⟩)
      | trace_state

theorem op_once {X : Cx} : OpR X (binaryOp .Mult) (fun x y H Q => ∃ l xs, x = .ref l ∧ y = .int 1 ∧ SqT X.K H l xs ∧ Q (.ref l) H) := by
  intro pins s σ H x y v u Q I rx ry h
  obtain ⟨l, xs, rfl, rfl, hT, q⟩ := h
  cases rx
  obtain ⟨t, rfl⟩ := ry
  obtain ⟨its, r, ⟨⟨cls, dd, data, sl⟩, ho, hc, n, hd⟩, hs⟩ := I.tuple hT
  simp only at hc hd
  subst hc hd
  have ty : s.TypeIs (.ref l) "tuple" := ⟨_, ho, rfl⟩
  refine wpAny_binaryOp_repeat_ref (T := "tuple") (U := "int") (by decide) ty (fun s' => typeIs_int s' 1 t) noFill_tuple_mul F.fills_int_mul F.slot_int_rmul repeat_tuple F.slot_int_index.lookup ?_
  refine call_meets F.slot_int_rmul (typeIs_int s 1 t) F.entry_int_rmul (F.args_int_rmul_2 _ _) (int_rmul_tuple 1 t l its.toArray n dd sl) ?_
  refine ⟨ho, rfl, ty, ?_⟩
  exact call_meets F.slot_tuple_mul ty F.entry_tuple_mul (F.args_tuple_mul_2 _ _) (tuple_once l its.toArray n dd sl t) ⟨ho, ty, ⟨.ref l, H, I, rfl, q⟩⟩
section
variable {G : Fam}
def dMul : OD := fun d e Q => match d, e with
  | .int i, .int j => CMul i j ∧ Q (.int (i * j))
  | .tuple a, .int k => (a ≠ [] ∧ 1 ≤ k ∧ k ≤ 1000 ∧ a.length ≤ 1000) ∧ Q (.tuple (List.replicate k.toNat a).flatten)
  | .list a, .int k => (-(2 ^ 63) ≤ k ∧ k < 2 ^ 63 ∧ a.length * k.toNat ≤ sizeLine) ∧ Q (.list (List.replicate k.toNat a).flatten)
  | _, _ => False
@[simp ↓] theorem dMul_ap d e Q : dMul d e Q = (match d, e with
  | .int i, .int j => CMul i j ∧ Q (.int (i * j))
  | .tuple a, .int k => (a ≠ [] ∧ 1 ≤ k ∧ k ≤ 1000 ∧ a.length ≤ 1000) ∧ Q (.tuple (List.replicate k.toNat a).flatten)
  | .list a, .int k => (-(2 ^ 63) ≤ k ∧ k < 2 ^ 63 ∧ a.length * k.toNat ≤ sizeLine) ∧ Q (.list (List.replicate k.toNat a).flatten)
  | _, _ => False) := Eq.trans rfl rfl
theorem o_mul : OpD G (binaryOp .Mult) dMul := by
  refine ⟨_, fun i => OpR.or op_mul (OpR.or (opR_K (r := rRepT) (G.hK i) op_repT) (OpR.or (opR_K (r := fun K x y H Q => ∃ l xs, x = .ref l ∧ y = .int 1 ∧ SqT K H l xs ∧ Q (.ref l) H) (G.hK i) op_once) op_rep)), fun W F H x y d e Q R u w rx ry q k => ?_⟩
  cases d <;> cases e <;> first | exact (show False from q).elim | skip
  · cases rx.int
    cases ry.int
    exact .inl ⟨_, _, rfl, rfl, q.1, k _ _ F H (Ext.refl u w) (.int _) q.2⟩
  · rename_i xs j
    obtain ⟨a, vs, rfl, h1, l1, r1⟩ := rx.list u
    cases ry.int
    obtain ⟨⟨q1, q2, q3⟩, q⟩ := q
    have hz : vs.length * j.toNat ≤ sizeLine := by rw [r1.length]; exact q3
    exact .inr (.inr (.inr ⟨a, j, vs, rfl, rfl, h1, q1, q2, hz, snd_lst u w (r1.rep _) (by rw [PyProof.Rows.lm_len_rep_flat, Nat.mul_comm]; exact hz) q k⟩))
  · rename_i xs j
    obtain ⟨a, vs, rfl, h1, l1, r1⟩ := rx.tuple
    cases ry.int
    obtain ⟨⟨q0, q1, q2, q3⟩, q⟩ := q
    have hl := r1.length
    by_cases hj : j = 1
    · subst hj
      refine .inr (.inr (.inl ⟨a, vs, rfl, rfl, sameT u h1, k _ _ F H (Ext.refl u w) (.tup h1 l1 r1) ?_⟩))
      have z : (List.replicate (Int.toNat 1) xs).flatten = xs := by
        show (List.replicate 1 xs).flatten = xs
        simp
      rw [z] at q
      exact q
    · have nv : vs ≠ [] := fun z => by
        subst z
        cases r1
        exact q0 rfl
      refine .inr (.inl ⟨a, j, vs, rfl, rfl, sameT u h1, nv, by omega, q2, by omega, snd_tup u w (r1.rep _) ?_ q k⟩)
      rw [PyProof.Rows.lm_len_rep_flat, sizeLine_eq]
      have a1 : j.toNat * vs.length ≤ 1000 * 1000 := Nat.mul_le_mul (by omega) (by omega)
      omega

def dShl : OD := fun d e Q => match d, e with
  | .int i, .int j => (0 ≤ j ∧ j ≤ 1000000 ∧ i.natAbs < 2 ^ 64) ∧ Q (.int (i * 2 ^ j.toNat))
  | _, _ => False
@[simp ↓] theorem dShl_ap d e Q : dShl d e Q = (match d, e with
  | .int i, .int j => (0 ≤ j ∧ j ≤ 1000000 ∧ i.natAbs < 2 ^ 64) ∧ Q (.int (i * 2 ^ j.toNat))
  | _, _ => False) := Eq.trans rfl rfl
theorem o_shl : OpD G (binaryOp .LShift) dShl := o_I (fun _ => op_shl) fun d e Q q => by
  cases d <;> cases e <;> first | exact (show False from q).elim | exact ⟨_, _, rfl, rfl, q.1, q.2⟩
/-! ### comparisons -/
theorem o_B {f : Value → Value → Sem Value} {g : Int → Int → Bool} {o : OD} (h : ∀ i, OpR (G.X i) f (rI0 fun i j => .bl (g i j))) (ho : ∀ d e Q, o d e Q → ∃ i j, d = .int i ∧ e = .int j ∧ Q (.bool (g i j))) : OpD G f o := by
  refine ⟨_, h, fun W F H x y d e Q R u w rx ry q k => ?_⟩
  obtain ⟨i, j, rfl, rfl, q2⟩ := ho d e Q q
  cases rx.int
  cases ry.int
  exact ⟨_, _, rfl, rfl, k _ _ F H (Ext.refl u w) (.bl _) q2⟩
def dCmp (g : Int → Int → Bool) : OD := fun d e Q => match d, e with
  | .int i, .int j => Q (.bool (g i j))
  | _, _ => False
@[simp ↓] theorem dCmp_ap (g : Int → Int → Bool) d e Q : dCmp g d e Q = (match d, e with
  | .int i, .int j => Q (.bool (g i j))
  | _, _ => False) := Eq.trans rfl rfl
theorem dCmp_out {g : Int → Int → Bool} (d e : D) (Q : D → Prop) (q : dCmp g d e Q) : ∃ i j, d = .int i ∧ e = .int j ∧ Q (.bool (g i j)) := by
  cases d <;> cases e <;> first | exact (show False from q).elim | exact ⟨_, _, rfl, rfl, q⟩
abbrev dLt : OD := dCmp fun i j => decide (i < j)
abbrev dLe : OD := dCmp fun i j => decide (i ≤ j)
abbrev dGt : OD := dCmp fun i j => decide (j < i)
abbrev dGe : OD := dCmp fun i j => decide (j ≤ i)
theorem o_lt : OpD G (compareOp .Lt) dLt := o_B (fun _ => op_lt) dCmp_out
theorem o_le : OpD G (compareOp .LtE) dLe := o_B (fun _ => op_le) dCmp_out
theorem o_gt : OpD G (compareOp .Gt) dGt := o_B (fun _ => op_gt) dCmp_out
theorem o_ge : OpD G (compareOp .GtE) dGe := o_B (fun _ => op_ge) dCmp_out
/-- there is room to compare -/
def Hu (G : Fam) : Prop := ∀ i, (G.X i).A.units + 65 < cLine
def dEq : OD := fun d e Q => (SeqAt.shaped d = true ∧ SeqAt.shaped e = true) ∧ Q (.bool (PyData.eqv d e))
@[simp ↓] theorem dEq_ap d e Q : dEq d e Q = ((SeqAt.shaped d = true ∧ SeqAt.shaped e = true) ∧ Q (.bool (PyData.eqv d e))) := Eq.trans rfl rfl
def dNe : OD := fun d e Q => (SeqAt.shaped d = true ∧ SeqAt.shaped e = true) ∧ Q (.bool (!PyData.eqv d e))
@[simp ↓] theorem dNe_ap d e Q : dNe d e Q = ((SeqAt.shaped d = true ∧ SeqAt.shaped e = true) ∧ Q (.bool (!PyData.eqv d e))) := Eq.trans rfl rfl
theorem o_eq (hu : Hu G) : OpD G (compareOp .Eq) dEq :=
  ⟨_, fun i => opR_K (r := rEqD) (G.hK i) (op_eqD (Nat.lt_of_succ_lt (hu i))), fun W F H x y d e Q R u w rx ry q k => ⟨d, e, rx.dp u (SeqAt.canLay_of_shaped q.1.1), ry.dp u (SeqAt.canLay_of_shaped q.1.2), q.1.1, q.1.2, k _ _ F H (Ext.refl u w) (.bl _) q.2⟩⟩
theorem o_ne (hu : Hu G) : OpD G (compareOp .NotEq) dNe :=
  ⟨_, fun i => opR_K (r := rNeD) (G.hK i) (op_neD (Nat.lt_of_succ_lt (hu i))), fun W F H x y d e Q R u w rx ry q k => ⟨d, e, rx.dp u (SeqAt.canLay_of_shaped q.1.1), ry.dp u (SeqAt.canLay_of_shaped q.1.2), q.1.1, q.1.2, k _ _ F H (Ext.refl u w) (.bl _) q.2⟩⟩
def flatD : D → Bool
  | .none => true
  | .bool _ => true
  | .int _ => true
  | .str _ => true
  | _ => false
@[simp] theorem flatD_n : flatD .none = true := rfl
@[simp] theorem flatD_b (b : Bool) : flatD (.bool b) = true := rfl
@[simp] theorem flatD_i (i : Int) : flatD (.int i) = true := rfl
@[simp] theorem flatD_s (x : Str) : flatD (.str x) = true := rfl
@[simp] theorem flatD_t (xs : List D) : flatD (.tuple xs) = false := rfl
@[simp] theorem flatD_l (xs : List D) : flatD (.list xs) = false := rfl
@[simp] theorem flatD_d (xs : List (D × D)) : flatD (.dict xs) = false := rfl
theorem Rp.flat {K : KT} {F : Hp} {v : V} {d : D} (h : Rp K F v d) : flatV v = flatD d := by
  cases h <;> rfl
theorem Rps.flat {K : KT} {F : Hp} : ∀ {vs : List V} {ds : List D}, Rps K F vs ds → vs.all flatV = ds.all flatD
  | _, _, .nil => rfl
  | _, _, .cons h r => by rw [List.all_cons, List.all_cons, h.flat, Rps.flat r]
theorem RpB.flat {K : KT} {W : Option Addr} {F H : Hp} {v : V} {d : D} (h : RpB K W F H v d) : flatV v = flatD d := by
  rcases h with h | ⟨a, vs, es, h1, h2, _⟩ | ⟨a, o, xs, fs, h1, h2, _⟩
  · exact h.flat
  · subst h1 h2
    rfl
  · subst h1 h2
    rfl
theorem Rp.eqv {K : KT} {F F' : Hp} {v u : V} {d e : D} (h : Rp K F v d) (r : Rp K F' u e) (f : flatD d = true) (g : flatD e = true) : eqV v u = PyData.eqv d e := by
  cases h <;> cases r <;> first | rfl | cases f | cases g
theorem Rp.inV {K : KT} {F F' : Hp} {u : V} {e : D} (r : Rp K F' u e) (g : flatD e = true) : ∀ {vs : List V} {ds : List D}, Rps K F vs ds → ds.all flatD = true → inV u vs = ds.any fun z => PyData.eqv z e
  | _, _, .nil, _ => rfl
  | _, _, .cons h t, f => by
    rw [List.all_cons, Bool.and_eq_true] at f
    have ih := Rp.inV r g t f.2
    unfold L2.inV at ih ⊢
    rw [List.any_cons, List.any_cons, h.eqv r f.1 g, ih]
theorem RpB.rp {K : KT} {W : Option Addr} {F H : Hp} {v : V} {d : D} (h : RpB K W F H v d) (f : flatD d = true) : Rp K F v d := by
  rcases h with h | ⟨a, vs, es, h1, h2, _⟩ | ⟨a, o, xs, fs, h1, h2, _⟩
  · exact h
  · subst h2
    cases f
  · subst h2
    cases f
def dIn : OD := fun d e Q => match e with
  | .list ds => (SeqAt.shaped d = true ∧ SeqAt.shaped (.list ds) = true) ∧ Q (.bool (ds.any fun z => PyData.eqv z d))
  | .tuple ds => (flatD d = true ∧ ds.all flatD = true) ∧ Q (.bool (ds.any fun z => PyData.eqv z d))
  | _ => False
@[simp ↓] theorem dIn_ap d e Q : dIn d e Q = (match e with
  | .list ds => (SeqAt.shaped d = true ∧ SeqAt.shaped (.list ds) = true) ∧ Q (.bool (ds.any fun z => PyData.eqv z d))
  | .tuple ds => (flatD d = true ∧ ds.all flatD = true) ∧ Q (.bool (ds.any fun z => PyData.eqv z d))
  | _ => False) := Eq.trans rfl rfl
def dNotIn : OD := fun d e Q => match e with
  | .list ds => (SeqAt.shaped d = true ∧ SeqAt.shaped (.list ds) = true) ∧ Q (.bool (!ds.any fun z => PyData.eqv z d))
  | .tuple ds => (flatD d = true ∧ ds.all flatD = true) ∧ Q (.bool (!ds.any fun z => PyData.eqv z d))
  | _ => False
@[simp ↓] theorem dNotIn_ap d e Q : dNotIn d e Q = (match e with
  | .list ds => (SeqAt.shaped d = true ∧ SeqAt.shaped (.list ds) = true) ∧ Q (.bool (!ds.any fun z => PyData.eqv z d))
  | .tuple ds => (flatD d = true ∧ ds.all flatD = true) ∧ Q (.bool (!ds.any fun z => PyData.eqv z d))
  | _ => False) := Eq.trans rfl rfl
theorem o_in (hu : Hu G) : OpD G (compareOp .In) dIn := by
  refine ⟨_, fun i => OpR.or (opR_K (r := rInD) (G.hK i) (op_inD (hu i))) (opR_K (r := fun K => rIn K false) (G.hK i) op_in_seq), fun W F H x y d e Q R u w rx ry q k => ?_⟩
  cases e with
  | list ds => exact .inl ⟨d, ds, rx.dp u (SeqAt.canLay_of_shaped q.1.1), ry.dp u (SeqAt.canLay_of_shaped q.1.2), q.1.1, q.1.2, k _ _ F H (Ext.refl u w) (.bl _) q.2⟩
  | tuple ds =>
    obtain ⟨a, vs, rfl, h1, l1, r1⟩ := ry.tuple
    refine .inr ⟨a, vs, rfl, .inr (sameT u h1), by rw [rx.flat]; exact q.1.1, by rw [r1.flat]; exact q.1.2, ?_⟩
    rw [if_neg Bool.false_ne_true, (rx.rp q.1.1).inV q.1.1 r1 q.1.2]
    exact k _ _ F H (Ext.refl u w) (.bl _) q.2
  | _ => exact (show False from q).elim
theorem o_notIn (hu : Hu G) : OpD G (compareOp .NotIn) dNotIn := by
  refine ⟨_, fun i => OpR.or (opR_K (r := rNotInD) (G.hK i) (op_notInD (hu i))) (opR_K (r := fun K => rIn K true) (G.hK i) op_notIn_seq), fun W F H x y d e Q R u w rx ry q k => ?_⟩
  cases e with
  | list ds => exact .inl ⟨d, ds, rx.dp u (SeqAt.canLay_of_shaped q.1.1), ry.dp u (SeqAt.canLay_of_shaped q.1.2), q.1.1, q.1.2, k _ _ F H (Ext.refl u w) (.bl _) q.2⟩
  | tuple ds =>
    obtain ⟨a, vs, rfl, h1, l1, r1⟩ := ry.tuple
    refine .inr ⟨a, vs, rfl, .inr (sameT u h1), by rw [rx.flat]; exact q.1.1, by rw [r1.flat]; exact q.1.2, ?_⟩
    rw [if_pos rfl, (rx.rp q.1.1).inV q.1.1 r1 q.1.2]
    exact k _ _ F H (Ext.refl u w) (.bl _) q.2
  | _ => exact (show False from q).elim

/-! ### subscripts, slices -/
variable {a b e : Expr} {wa wb w : WE} {pos p2 : Pos}
def dIx : OD := fun d e Q => match d, e with
  | .list ds, .int i => match atI ds i with
    | some x => Q x
    | none => False
  | .tuple ds, .int i => match atI ds i with
    | some x => Q x
    | none => False
  | .str z, .int i => z.length ≤ sizeLine ∧ match atI z.cps.toList i with
    | some c => Q (.str ⟨#[c]⟩)
    | none => False
  | _, _ => False
@[simp ↓] theorem dIx_ap d e Q : dIx d e Q = (match d, e with
  | .list ds, .int i => match atI ds i with
    | some x => Q x
    | none => False
  | .tuple ds, .int i => match atI ds i with
    | some x => Q x
    | none => False
  | .str z, .int i => z.length ≤ sizeLine ∧ match atI z.cps.toList i with
    | some c => Q (.str ⟨#[c]⟩)
    | none => False
  | _, _ => False) := Eq.trans rfl rfl
theorem Rps.atI {K : KT} {F : Hp} {vs : List V} {ds : List D} {i : Int} {d : D} (r : Rps K F vs ds) (h : L2.atI ds i = some d) : ∃ v, L2.atI vs i = some v ∧ Rp K F v d := by
  unfold L2.atI at h ⊢
  rw [← r.length] at h
  cases q : ixN vs.length i with
  | none =>
    rw [q] at h
    cases h
  | some j =>
    rw [q] at h
    obtain ⟨v, h1, h2⟩ := r.getD (i := j) h
    exact ⟨v, h1, h2⟩
theorem s_ix {K : KT} : OpS K (rIx K) dIx := by
  intro W F H x y d e Q R u w rx ry q k
  cases d <;> cases e <;> first | exact (show False from q).elim | skip
  · cases rx.str
    cases ry.int
    obtain ⟨hl, q⟩ := q
    split at q
    · rename_i c hc
      exact .inr (.inr ⟨_, _, c, rfl, rfl, hl, hc, k _ _ F H (Ext.refl u w) (.str _) q⟩)
    · exact q.elim
  · obtain ⟨a, vs, rfl, h1, l1, r1⟩ := rx.list u
    cases ry.int
    simp only [dIx] at q
    split at q
    · rename_i z hz
      obtain ⟨v, g1, g2⟩ := r1.atI hz
      exact .inl ⟨a, vs, _, v, rfl, rfl, SqL.of h1, g1, k _ _ F H (Ext.refl u w) g2 q⟩
    · exact q.elim
  · obtain ⟨a, vs, rfl, h1, l1, r1⟩ := rx.tuple
    cases ry.int
    simp only [dIx] at q
    split at q
    · rename_i z hz
      obtain ⟨v, g1, g2⟩ := r1.atI hz
      exact .inr (.inl ⟨a, vs, _, v, rfl, rfl, sameT u h1, g1, k _ _ F H (Ext.refl u w) g2 q⟩)
    · exact q.elim
theorem e_ix (ha : DenB G a wa) (hb : DenB G b wb) (hs : PlainIx b := by exact fun _ _ => rfl) : DenE G (.Subscript a b pos) (wOp dIx wa wb) := by
  obtain ⟨ta, a1, a2⟩ := ha
  obtain ⟨tb, b1, b2⟩ := hb
  refine ⟨_, fun i => ?_, snd_op s_ix a2 b2⟩
  have z : IxR (G.X i) (rIx G.K) := by
    have y : IxR (G.X i) (rIx (G.X i).K) := ix_seq
    rw [G.hK i] at y
    exact y
  exact pe_ix z (a1 i) (b1 i) hs
abbrev WO := Env → (Option Int → Prop) → Prop
def DenO (G : Fam) (e : Option Expr) (w : WO) : Prop := ∃ t, (∀ i, PO (G.X i) e t) ∧ ∀ (W : Option Addr) (F0 H0 F H : Hp) (σ : L2.St) (env : Env) (Q : Option Int → Prop) (R : Option Int → Hp → Prop), StR G.K W F0 H0 F H σ env → w env Q →
  (∀ o F' H', Ext G.K W F H F' H' → Q o → R o H') → t σ H R
def wNoP : WO := fun _ Q => Q none
@[simp ↓] theorem wNoP_ap u0_ Q : wNoP u0_ Q = (Q none) := Eq.trans rfl rfl
def wSomeP (w : WE) : WO := fun env Q => w env fun d => match d with
  | .int i => Q (some i)
  | _ => False
@[simp ↓] theorem wSomeP_ap (w : WE) env Q : wSomeP w env Q = (w env fun d => match d with
  | .int i => Q (some i)
  | _ => False) := Eq.trans rfl rfl
theorem p_none : DenO G none wNoP := ⟨_, fun _ => po_none, fun W F0 H0 F H σ env Q R s h k => k none F H (Ext.refl s.u s.w) h⟩
theorem p_some (h : DenE G e w) : DenO G (some e) (wSomeP w) := by
  obtain ⟨t, h1, h2⟩ := h
  refine ⟨_, fun i => po_some (h1 i), fun W F0 H0 F H σ env Q R s h k => ?_⟩
  refine h2 W F0 H0 F H σ env _ _ s h fun v d F' H' x r q => ?_
  cases r with
  | int i => exact ⟨i, rfl, k _ F' H' x q⟩
  | _ => exact (show False from q).elim
def cutD {α : Type} (xs : List α) (lo hi : Option Int) : List α := (xs.drop (HT.sIx xs.length 0 lo)).take (HT.sIx xs.length xs.length hi - HT.sIx xs.length 0 lo)
theorem Rps.cut {K : KT} {F : Hp} {vs : List V} {ds : List D} (r : Rps K F vs ds) (lo hi : Option Int) : Rps K F (cutV vs lo hi) (cutD ds lo hi) := by
  unfold cutV cutD
  rw [r.length]
  exact (r.drop _).take _
theorem cutD_whole {α : Type} (xs : List α) (lo hi : Option Int) (h : HT.sIx xs.length 0 lo = 0 ∧ HT.sIx xs.length xs.length hi = xs.length) : cutD xs lo hi = xs := by
  unfold cutD
  rw [h.1, h.2]
  simp
def wSl (a : WE) (lo hi : WO) : WE := fun env Q => a env fun d => lo env fun l => hi env fun h => match d with
  | .list ds => Q (.list (cutD ds l h))
  | .tuple ds => Q (.tuple (cutD ds l h))
  | .str z => z.length ≤ sizeLine ∧ Q (.str (cutS z l h))
  | _ => False
@[simp ↓] theorem wSl_ap (a : WE) (lo hi : WO) env Q : wSl a lo hi env Q = (a env fun d => lo env fun l => hi env fun h => match d with
  | .list ds => Q (.list (cutD ds l h))
  | .tuple ds => Q (.tuple (cutD ds l h))
  | .str z => z.length ≤ sizeLine ∧ Q (.str (cutS z l h))
  | _ => False) := Eq.trans rfl rfl
theorem e_sl {lo hi : Option Expr} {wl wh : WO} (ha : DenB G a wa) (hl : DenO G lo wl) (hh : DenO G hi wh) : DenE G (.Subscript a (.Slice lo hi none p2) pos) (wSl wa wl wh) := by
  obtain ⟨t, a1, a2⟩ := ha
  obtain ⟨tl, l1, l2⟩ := hl
  obtain ⟨th, h1, h2⟩ := hh
  refine ⟨_, fun i => pe_slice (r := fun x lo hi H Q => rSlL G.K x lo hi H Q ∨ rSlA G.K x lo hi H Q ∨ rSlS x lo hi H Q) ?_ (a1 i) (l1 i) (h1 i), fun W F0 H0 F H σ env Q R s h k => ?_⟩
  · have y : SlR (G.X i) (fun x lo hi H Q => rSlL (G.X i).K x lo hi H Q ∨ rSlA (G.X i).K x lo hi H Q ∨ rSlS x lo hi H Q) := SlR.or sl_list (SlR.or sl_tupA sl_str)
    rw [G.hK i] at y
    exact y
  · refine a2 W F0 H0 F H σ env _ _ s h fun v d F1 H1 e1 r1 q1 => ?_
    refine l2 W F0 H0 F1 H1 σ env _ _ (s.step e1) q1 fun l F2 H2 e2 q2 => ?_
    refine h2 W F0 H0 F2 H2 σ env _ _ ((s.step e1).step e2) q2 fun u F3 H3 e3 q3 => ?_
    have r := (r1.step e2).step e3
    have ee := (e1.trans e2).trans e3
    cases d with
    | list ds =>
      obtain ⟨a, vs, rfl, g1, g2, g3⟩ := r.list ee.u
      refine .inl ⟨a, vs, rfl, SqL.of g1, ?_⟩
      exact snd_lst ee.u ee.w (g3.cut l u) (Nat.le_trans (cutV_length vs l u) g2) q3 fun v d F' H' e4 => k v d F' H' (ee.trans e4)
    | tuple ds =>
      obtain ⟨a, vs, rfl, g1, g2, g3⟩ := r.tuple
      refine .inr (.inl ⟨a, vs, rfl, sameT ee.u g1, fun hw => ?_, fun _ => ?_⟩)
      · have q4 : Q (.tuple (cutD ds l u)) := q3
        rw [cutD_whole ds l u (by rw [← g3.length]; exact hw)] at q4
        exact k _ _ F3 H3 ee (.tup g1 g2 g3) q4
      · exact snd_tup ee.u ee.w (g3.cut l u) (Nat.le_trans (cutV_length vs l u) g2) q3 fun v d F' H' e4 => k v d F' H' (ee.trans e4)
    | str z =>
      cases r.str
      exact .inr (.inr ⟨z, rfl, q3.1, k _ _ F3 H3 ee (.str _) q3.2⟩)
    | _ => exact (show False from q3).elim
end
end Dn
/-! Dn4: built-ins, isinstance, count; what is walked; targets; comprehensions. -/
namespace Dn
open PySem PySem.Spec PyProof.Rows L2
section
variable {G : Fam}
/-! ### built-ins -/
theorem RpBs.one {K : KT} {W : Option Addr} {F H : Hp} {vs : List V} {d : D} (r : RpBs K W F H vs [d]) : ∃ v, vs = [v] ∧ RpB K W F H v d := by
  cases r with
  | cons h t =>
    cases t
    exact ⟨_, rfl, h⟩
theorem RpBs.two {K : KT} {W : Option Addr} {F H : Hp} {vs : List V} {d e : D} (r : RpBs K W F H vs [d, e]) : ∃ v u, vs = [v, u] ∧ RpB K W F H v d ∧ RpB K W F H u e := by
  cases r with
  | cons h t =>
    obtain ⟨u, rfl, g⟩ := RpBs.one t
    exact ⟨_, u, rfl, h, g⟩
def cLen : CD := fun ds Q => match ds with
  | [.list xs] => Q (.int xs.length)
  | [.tuple xs] => Q (.int xs.length)
  | [.str z] => z.length ≤ sizeLine ∧ Q (.int z.length)
  | _ => False
@[simp ↓] theorem cLen_ap ds Q : cLen ds Q = (match ds with
  | [.list xs] => Q (.int xs.length)
  | [.tuple xs] => Q (.int xs.length)
  | [.str z] => z.length ≤ sizeLine ∧ Q (.int z.length)
  | _ => False) := Eq.trans rfl rfl
theorem c_len : CallD G (.builtin "len") cLen := by
  refine ⟨_, fun i => CallR.or (callR_K (r := fun K xs H Q => ∃ p ys, xs = [.ref p] ∧ (SqL K H p ys ∨ SqT K H p ys) ∧ Q (.int ys.length) H) (G.hK i) call_len_seq) call_len_str, fun W F H vs ds Q R u w r q k => ?_⟩
  unfold cLen at q
  split at q
  · obtain ⟨v, rfl, h⟩ := r.one
    obtain ⟨a, vs, rfl, h1, h2, h3⟩ := h.list u
    exact .inl ⟨a, vs, rfl, .inl (SqL.of h1), by rw [h3.length]; exact k _ _ F H (Ext.refl u w) (.int _) q⟩
  · obtain ⟨v, rfl, h⟩ := r.one
    obtain ⟨a, vs, rfl, h1, h2, h3⟩ := h.tuple
    exact .inl ⟨a, vs, rfl, .inr (sameT u h1), by rw [h3.length]; exact k _ _ F H (Ext.refl u w) (.int _) q⟩
  · obtain ⟨v, rfl, h⟩ := r.one
    cases h.str
    exact .inr ⟨_, rfl, q.1, k _ _ F H (Ext.refl u w) (.int _) q.2⟩
  · exact q.elim
def cList : CD := fun ds Q => match ds with
  | [.list xs] => Q (.list xs)
  | [.tuple xs] => Q (.list xs)
  | _ => False
@[simp ↓] theorem cList_ap ds Q : cList ds Q = (match ds with
  | [.list xs] => Q (.list xs)
  | [.tuple xs] => Q (.list xs)
  | _ => False) := Eq.trans rfl rfl
theorem c_list : CallD G (.type "list") cList := by
  refine ⟨_, fun i => callR_K (r := fun K xs H Q => ∃ p ys, xs = [.ref p] ∧ (SqL K H p ys ∨ SqT K H p ys) ∧ ∀ l, H l = none → Q (.ref l) (upd H l (.lst ys))) (G.hK i) call_list_of, fun W F H vs ds Q R u w r q k => ?_⟩
  unfold cList at q
  split at q
  · obtain ⟨v, rfl, h⟩ := r.one
    obtain ⟨a, vs, rfl, h1, h2, h3⟩ := h.list u
    exact ⟨a, vs, rfl, .inl (SqL.of h1), snd_lst u w h3 h2 q k⟩
  · obtain ⟨v, rfl, h⟩ := r.one
    obtain ⟨a, vs, rfl, h1, h2, h3⟩ := h.tuple
    exact ⟨a, vs, rfl, .inr (sameT u h1), snd_lst u w h3 h2 q k⟩
  · exact q.elim
def cTuple : CD := fun ds Q => match ds with
  | [.list xs] => Q (.tuple xs)
  | [.tuple xs] => Q (.tuple xs)
  | _ => False
@[simp ↓] theorem cTuple_ap ds Q : cTuple ds Q = (match ds with
  | [.list xs] => Q (.tuple xs)
  | [.tuple xs] => Q (.tuple xs)
  | _ => False) := Eq.trans rfl rfl
theorem c_tuple : CallD G (.type "tuple") cTuple := by
  refine ⟨_, fun i => callR_K (r := fun K xs H Q => ∃ p ys, xs = [.ref p] ∧ ((SqL K H p ys ∧ ∀ l, H l = none → Q (.ref l) (upd H l (.tup ys))) ∨ (SqT K H p ys ∧ Q (.ref p) H))) (G.hK i) call_tuple_of, fun W F H vs ds Q R u w r q k => ?_⟩
  unfold cTuple at q
  split at q
  · obtain ⟨v, rfl, h⟩ := r.one
    obtain ⟨a, vs, rfl, h1, h2, h3⟩ := h.list u
    exact ⟨a, vs, rfl, .inl ⟨SqL.of h1, snd_tup u w h3 h2 q k⟩⟩
  · obtain ⟨v, rfl, h⟩ := r.one
    obtain ⟨a, vs, rfl, h1, h2, h3⟩ := h.tuple
    exact ⟨a, vs, rfl, .inr ⟨sameT u h1, k _ _ F H (Ext.refl u w) (.tup h1 h2 h3) q⟩⟩
  · exact q.elim
def bools : List D → Option (List Bool)
  | [] => some []
  | .bool b :: r => (bools r).map (b :: ·)
  | _ :: _ => none
def intsD : List D → Option (List Int)
  | [] => some []
  | .int b :: r => (intsD r).map (b :: ·)
  | _ :: _ => none
theorem bools_map (bs : List Bool) : bools (bs.map .bool) = some bs := by
  induction bs with
  | nil => rfl
  | cons b r ih => show (bools (r.map .bool)).map (b :: ·) = _; rw [ih]; rfl
theorem ints_map (bs : List Int) : intsD (bs.map .int) = some bs := by
  induction bs with
  | nil => rfl
  | cons b r ih => show (intsD (r.map .int)).map (b :: ·) = _; rw [ih]; rfl
theorem Rps.bls {K : KT} {F : Hp} : ∀ {vs : List V} {ds : List D} {bs : List Bool}, Rps K F vs ds → bools ds = some bs → vs = bs.map V.bl
  | _, _, _, .nil, e => by cases e; rfl
  | _, _, _, .cons (d := d) h r, e => by
    cases h with
    | bl b =>
      simp only [bools, Option.map_eq_some_iff] at e
      obtain ⟨es, q, rfl⟩ := e
      rw [Rps.bls r q]
      rfl
    | _ => simp [bools] at e
theorem Rps.intsV {K : KT} {F : Hp} : ∀ {vs : List V} {ds : List D} {bs : List Int}, Rps K F vs ds → intsD ds = some bs → vs = bs.map V.int
  | _, _, _, .nil, e => by cases e; rfl
  | _, _, _, .cons (d := d) h r, e => by
    cases h with
    | int b =>
      simp only [intsD, Option.map_eq_some_iff] at e
      obtain ⟨es, q, rfl⟩ := e
      rw [Rps.intsV r q]
      rfl
    | _ => simp [intsD] at e
def cAll : CD := fun ds Q => match ds with
  | [.list xs] => match bools xs with
    | some bs => Q (.bool (bs.all id))
    | none => False
  | _ => False
@[simp ↓] theorem cAll_ap ds Q : cAll ds Q = (match ds with
  | [.list xs] => match bools xs with
    | some bs => Q (.bool (bs.all id))
    | none => False
  | _ => False) := Eq.trans rfl rfl
def cAny : CD := fun ds Q => match ds with
  | [.list xs] => match bools xs with
    | some bs => Q (.bool (bs.any id))
    | none => False
  | _ => False
@[simp ↓] theorem cAny_ap ds Q : cAny ds Q = (match ds with
  | [.list xs] => match bools xs with
    | some bs => Q (.bool (bs.any id))
    | none => False
  | _ => False) := Eq.trans rfl rfl
def Calm (G : Fam) : Prop := ∀ i, (G.X i).calm = true
theorem c_all (hc : Calm G) : CallD G (.builtin "all") cAll := by
  refine ⟨_, fun i => callR_K (r := rAll) (G.hK i) (cr_all (hc i)), fun W F H vs ds Q R u w r q k => ?_⟩
  unfold cAll at q
  split at q
  · obtain ⟨v, rfl, h⟩ := r.one
    obtain ⟨a, vs, rfl, h1, h2, h3⟩ := h.list u
    split at q
    · rename_i bs hb
      cases h3.bls hb
      exact ⟨a, bs, rfl, SqL.of h1, k _ _ F H (Ext.refl u w) (.bl _) q⟩
    · exact q.elim
  · exact q.elim
theorem c_any (hc : Calm G) : CallD G (.builtin "any") cAny := by
  refine ⟨_, fun i => callR_K (r := rAny) (G.hK i) (cr_any (hc i)), fun W F H vs ds Q R u w r q k => ?_⟩
  unfold cAny at q
  split at q
  · obtain ⟨v, rfl, h⟩ := r.one
    obtain ⟨a, vs, rfl, h1, h2, h3⟩ := h.list u
    split at q
    · rename_i bs hb
      cases h3.bls hb
      exact ⟨a, bs, rfl, SqL.of h1, k _ _ F H (Ext.refl u w) (.bl _) q⟩
    · exact q.elim
  · exact q.elim
def cSum : CD := fun ds Q => match ds with
  | [.list xs] => match intsD xs with
    | some bs => Q (.int bs.sum)
    | none => False
  | _ => False
@[simp ↓] theorem cSum_ap ds Q : cSum ds Q = (match ds with
  | [.list xs] => match intsD xs with
    | some bs => Q (.int bs.sum)
    | none => False
  | _ => False) := Eq.trans rfl rfl
theorem c_sum (hc : Calm G) : CallD G (.builtin "sum") cSum := by
  refine ⟨_, fun i => callR_K (r := rSum) (G.hK i) (cr_sum (hc i)), fun W F H vs ds Q R u w r q k => ?_⟩
  unfold cSum at q
  split at q
  · obtain ⟨v, rfl, h⟩ := r.one
    obtain ⟨a, vs, rfl, h1, h2, h3⟩ := h.list u
    split at q
    · rename_i bs hb
      cases h3.intsV hb
      exact ⟨a, bs, rfl, SqL.of h1, k _ _ F H (Ext.refl u w) (.int _) q⟩
    · exact q.elim
  · exact q.elim
def cAbs : CD := fun ds Q => match ds with
  | [.int i] => Q (.int (if i < 0 then -i else i))
  | _ => False
@[simp ↓] theorem cAbs_ap ds Q : cAbs ds Q = (match ds with
  | [.int i] => Q (.int (if i < 0 then -i else i))
  | _ => False) := Eq.trans rfl rfl
theorem c_abs : CallD G (.builtin "abs") cAbs := by
  refine ⟨_, fun i => call_abs, fun W F H vs ds Q R u w r q k => ?_⟩
  unfold cAbs at q
  split at q
  · obtain ⟨v, rfl, h⟩ := r.one
    cases h.int
    exact ⟨_, rfl, k _ _ F H (Ext.refl u w) (.int _) q⟩
  · exact q.elim
def cInt : CD := fun ds Q => match ds with
  | [.int i] => Q (.int i)
  | [.bool b] => Q (.int (if b then 1 else 0))
  | _ => False
@[simp ↓] theorem cInt_ap ds Q : cInt ds Q = (match ds with
  | [.int i] => Q (.int i)
  | [.bool b] => Q (.int (if b then 1 else 0))
  | _ => False) := Eq.trans rfl rfl
theorem c_int : CallD G (.type "int") cInt := by
  refine ⟨_, fun i => call_int1, fun W F H vs ds Q R u w r q k => ?_⟩
  unfold cInt at q
  split at q
  · obtain ⟨v, rfl, h⟩ := r.one
    cases h.int
    exact .inl ⟨_, rfl, k _ _ F H (Ext.refl u w) (.int _) q⟩
  · obtain ⟨v, rfl, h⟩ := r.one
    cases h.bool
    exact .inr ⟨_, rfl, k _ _ F H (Ext.refl u w) (.int _) q⟩
  · exact q.elim

/-! ### isinstance -/
def tyD : D → String
  | .none => "NoneType"
  | .bool _ => "bool"
  | .int _ => "int"
  | .str _ => "str"
  | .list _ => "list"
  | .tuple _ => "tuple"
  | .dict _ => "dict"
/-- the type of a value: what the library tells, or one of our dicts -/
def TyY (K : PySem.W.Frag) (H : Hp) (x : V) (t : Value) : Prop := TyX K H x t ∨ (t = .type "dict" ∧ ∃ (a : Addr) (o : Obj) (xs : List (NestedKey × Value × Value)), x = .ref a ∧ H a = some (.ext (DictAt a o xs)))
def rIsY (K : PySem.W.Frag) : List V → Hp → VK → Prop := fun as H Q => ∃ (x c : V) (t u : Value) (b : Bool), as = [x, c] ∧ ClsV c u ∧ TyY K H x t ∧ PySem.W.kitOne K t u = some b ∧ Q (.bl b) H
def rIsYT (K : PySem.W.Frag) : List V → Hp → VK → Prop := fun as H Q => ∃ (x : V) (tp : Addr) (cs : List V) (t : Value) (us : List Value) (b : Bool), as = [x, .ref tp] ∧ H tp = some (.tup cs) ∧ Paired ClsV cs us ∧ TyY K H x t ∧ PySem.W.kitAny K t us = some b ∧ Q (.bl b) H
section
variable {X : Cx}
theorem kit_ofY {pins : List (Addr × Obj)} {σ : L2.St} {H : Hp} {s : Shared} {x : V} {u t : Value} (I : Inv X pins σ H s) (rx : RelV x u) (ty : TyY X.K H x t) : ∃ P : Heap → Prop, PySem.W.KitX X.K u t P ∧ P s.heap ∧ u ≠ .builtin "__main__.__loader__#opaque" := by
  rcases ty with ty | ⟨rfl, a, o, xs, rfl, h⟩
  · exact kit_of I rx ty
  · cases (show u = Value.ref a from rx)
    obtain ⟨⟨e1, e2, _⟩, _⟩ := (show ObjOk X.prog X.w H s.heap a (.ext (DictAt a o xs)) from I.hok a _ h)
    exact ⟨_, PySem.W.kitx_dict, ⟨o, e1, e2.1⟩, fun z => nomatch z⟩
theorem call_isY : CallR X (.builtin "isinstance") (rIsY X.K) := by
  intro pins s σ H as us Q I r h
  obtain ⟨x, c, t, u, b, rfl, k, ty, e, q⟩ := h
  obtain ⟨v1, v2, rfl, q1, q2⟩ := vals2 r
  have ec := k.eq q2
  subst ec
  obtain ⟨P, Z, p, nl⟩ := kit_ofY I q1 ty
  exact PySem.W.kia_one Z I.kIn p e nl fun tk => ⟨.bl b, H, I.tok tk, rfl, q⟩
theorem call_isYT : CallR X (.builtin "isinstance") (rIsYT X.K) := by
  intro pins s σ H as us Q I r h
  obtain ⟨x, tp, cs, t, ws, b, rfl, hT, k, ty, e, q⟩ := h
  obtain ⟨v1, v2, rfl, q1, q2⟩ := vals2 r
  cases (show v2 = Value.ref tp from q2)
  obtain ⟨P, Z, p, nl⟩ := kit_ofY I q1 ty
  obtain ⟨_, its, rv, o, g1, g2, n, g3⟩ := (show ObjOk X.prog X.w H s.heap tp (.tup cs) from I.hok tp _ hT)
  have ec := ClsV.all k rv
  subst ec
  obtain ⟨oc, od, dt, sl⟩ := o
  simp only at g2 g3
  subst g2 g3
  exact PySem.W.kia_tup Z I.kIn p g1 e nl fun tk => ⟨.bl b, H, I.tok tk, rfl, q⟩
end
theorem sqT_ty {K : PySem.W.Frag} {H : Hp} {a : Addr} {xs : List V} (h : SqT K H a xs) : TyX K H (.ref a) (.type "tuple") := by
  rcases h with (h | ⟨o, h⟩) | ⟨o, its, n, h, hc, _⟩
  · exact .base (.tup h)
  · exact .fTuple h
  · exact .kTuple h hc
theorem RpB.ty {K : KT} {W : Option Addr} {F H : Hp} {v : V} {d : D} (u : Same F H) (h : RpB K W F H v d) : TyY K H v (.type (tyD d)) := by
  cases d with
  | none => cases h.none; exact .inl (.base .non)
  | bool b => cases h.bool; exact .inl (.base (.bl b))
  | int i => cases h.int; exact .inl (.base (.int i))
  | str x => cases h.str; exact .inl (.base (.str x))
  | list ds =>
    obtain ⟨a, vs, rfl, h1, _⟩ := h.list u
    exact .inl (.base (.lst h1))
  | tuple ds =>
    obtain ⟨a, vs, rfl, h1, _⟩ := h.tuple
    exact .inl (sqT_ty (sameT u h1))
  | dict kvs =>
    rcases h with h | ⟨a, vs, es, h1, h2, _⟩ | ⟨a, o, xs, fs, h1, h2, _, h4, _⟩
    · cases h with
      | dct g => exact .inl (.base (.dK (u _ _ g)))
      | dcd g _ _ _ => exact .inr ⟨rfl, _, _, _, rfl, u _ _ g⟩
    · cases h2
    · exact .inr ⟨rfl, a, o, xs, h1, h4⟩
def isi (d : D) : List String → Option Bool
  | [] => some false
  | n :: r => match kitB (tyD d) n with
    | some true => some true
    | some false => isi d r
    | none => none
/-- isinstance(x, T), T a built-in type by its name -/
def wIsi (w : WE) (ns : List String) : WE := fun env Q => w env fun d => match isi d ns with
  | some b => Q (.bool b)
  | none => False
@[simp ↓] theorem wIsi_ap (w : WE) (ns : List String) env Q : wIsi w ns env Q = (w env fun d => match isi d ns with
  | some b => Q (.bool b)
  | none => False) := Eq.trans rfl rfl
variable {e : Expr} {w : WE} {pos p p2 : Pos}
theorem e_isi {x T : Str} {n : String} (hg : ∀ i, Gl (G.X i) x := by intro _; rfl) (hm : ∀ i, (G.X i).mg x = none) (hv : bootBuiltins x = some (.builtin "isinstance")) (hg2 : ∀ i, Gl (G.X i) T := by intro _; rfl) (hm2 : ∀ i, (G.X i).mg T = none) (hv2 : bootBuiltins T = some (.type n)) (h : DenB G e w)
    (hn : x ≠ "__name__" := by decide) (hdb : (x == ("__debug__" : Str)) = false := by decide) (hn2 : T ≠ "__name__" := by decide) (hdb2 : (T == ("__debug__" : Str)) = false := by decide)
    (he : ∀ i, starEach [e, .Name T p2] (G.X i).env = (false, eval e (G.X i).env) :: starEach [.Name T p2] (G.X i).env := by intro _; rfl) (hpl : ∀ i, (backTo pos (starEach [.Name T p2] (G.X i).env)).any (·.1) = false := by intro _; rfl) :
    DenE G (.Call (.Name x p) [e, .Name T p2] [] pos) (wIsi w [n]) := by
  obtain ⟨t, h1, h2⟩ := h
  refine ⟨_, fun i => pe_callB (callR_K (r := rIsY) (G.hK i) call_isY) (hg i) (hm i) hv (pa_cons (h1 i) (pa_cons (pe_bltn (v := .ty n) (hg2 i) (hm2 i) hv2 rfl hn2 hdb2) pa_nil) (he i)) hn hdb (he i) (hpl i), fun W F0 H0 F H σ env Q R s hw k => ?_⟩
  refine h2 W F0 H0 F H σ env _ _ s hw fun v d F' H' x r q => ?_
  have hq : ∃ b, kitB (tyD d) n = some b ∧ Q (.bool b) := by
    unfold isi at q
    cases z : kitB (tyD d) n with
    | none => rw [z] at q; exact q.elim
    | some b =>
      rw [z] at q
      cases b with
      | true => exact ⟨true, rfl, q⟩
      | false => exact ⟨false, rfl, q⟩
  obtain ⟨b, hb, q⟩ := hq
  exact ⟨v, .ty n, _, _, b, rfl, .ty n, r.ty x.u, kit_ty hb, k _ _ F' H' x (.bl b) q⟩
/-- isinstance(x, (T1, T2)) -/
theorem e_isi2 {x T U : Str} {n m : String} {j : Nat} {p3 p4 : Pos} (hg : ∀ i, Gl (G.X i) x := by intro _; rfl) (hm : ∀ i, (G.X i).mg x = none) (hv : bootBuiltins x = some (.builtin "isinstance")) (hg2 : ∀ i, Gl (G.X i) T := by intro _; rfl) (hm2 : ∀ i, (G.X i).mg T = none) (hv2 : bootBuiltins T = some (.type n))
    (hg3 : ∀ i, Gl (G.X i) U := by intro _; rfl) (hm3 : ∀ i, (G.X i).mg U = none) (hv3 : bootBuiltins U = some (.type m)) (h : DenB G e w)
    (hn : x ≠ "__name__" := by decide) (hdb : (x == ("__debug__" : Str)) = false := by decide) (hn2 : T ≠ "__name__" := by decide) (hdb2 : (T == ("__debug__" : Str)) = false := by decide) (hn3 : U ≠ "__name__" := by decide) (hdb3 : (U == ("__debug__" : Str)) = false := by decide)
    (he : ∀ i, starEach [e, .Tuple [.Name T p2, .Name U p3] j p4] (G.X i).env = (false, eval e (G.X i).env) :: starEach [.Tuple [.Name T p2, .Name U p3] j p4] (G.X i).env := by intro _; rfl)
    (hpl : ∀ i, (backTo pos (starEach [.Tuple [.Name T p2, .Name U p3] j p4] (G.X i).env)).any (·.1) = false := by intro _; rfl) :
    DenE G (.Call (.Name x p) [e, .Tuple [.Name T p2, .Name U p3] j p4] [] pos) (wIsi w [n, m]) := by
  obtain ⟨t, h1, h2⟩ := h
  refine ⟨_, fun i => pe_callB (callR_K (r := rIsYT) (G.hK i) call_isYT) (hg i) (hm i) hv (pa_cons (h1 i) (pa_cons (pe_tup (pa_cons (pe_bltn (v := .ty n) (hg2 i) (hm2 i) hv2 rfl hn2 hdb2) (pa_cons (pe_bltn (v := .ty m) (hg3 i) (hm3 i) hv3 rfl hn3 hdb3) pa_nil))) pa_nil) (he i)) hn hdb (he i) (hpl i), fun W F0 H0 F H σ env Q R s hw k => ?_⟩
  refine h2 W F0 H0 F H σ env _ _ s hw fun v d F' H' x r q => ?_
  refine ⟨by show 2 ≤ sizeLine; decide, fun p hp => ?_⟩
  have x2 : Ext G.K W F' H' (upd F' p (.tup [.ty n, .ty m])) (upd H' p (.tup [.ty n, .ty m])) := Ext.new x.u x.w hp
  have hq : ∃ b, PySem.W.kitAny G.K (.type (tyD d)) [.type n, .type m] = some b ∧ Q (.bool b) := by
    unfold isi at q
    cases z : kitB (tyD d) n with
    | none => rw [z] at q; exact q.elim
    | some b =>
      rw [z] at q
      cases b with
      | true => exact ⟨true, kitAny_cons (kit_ty z) (fun y => nomatch y) (fun _ => rfl), q⟩
      | false =>
        unfold isi at q
        simp only at q
        cases z2 : kitB (tyD d) m with
        | none => rw [z2] at q; exact q.elim
        | some b2 =>
          rw [z2] at q
          cases b2 with
          | true => exact ⟨true, kitAny_cons (kit_ty z) (fun _ => kitAny_cons (kit_ty z2) (fun y => nomatch y) fun _ => rfl) (fun y => nomatch y), q⟩
          | false => exact ⟨false, kitAny_cons (kit_ty z) (fun _ => kitAny_cons (kit_ty z2) (fun _ => kitAny_nil) fun y => nomatch y) (fun y => nomatch y), q⟩
  obtain ⟨b, hb, q⟩ := hq
  refine ⟨v, p, [.ty n, .ty m], _, _, b, rfl, upd_same, .cons (.ty n) (.cons (.ty m) .nil), (r.step x2).ty x2.u, hb, k _ _ _ _ (x.trans x2) (.bl b) q⟩

/-! ### methods of lists that only look -/
def rCntV (K : PySem.W.Frag) : V → List V → Hp → VK → Prop := fun x xs H Q => ∃ (p : Addr) (vs : List V) (y : V), x = .ref p ∧ xs = [y] ∧ SqL K H p vs ∧ flatV y = true ∧ vs.all flatV = true ∧ Q (.int (vs.countP fun z => eqV z y : Nat)) H
theorem countP_eqU {x : V} : ∀ {xs : List V} {us : List Value}, Vals xs us → xs.all flatV = true → us.countP (eqU x) = xs.countP fun y => eqV y x
  | _, _, .nil, _ => rfl
  | _, _, .cons r t, f => by
    rw [List.all_cons, Bool.and_eq_true] at f
    rw [List.countP_cons, List.countP_cons, countP_eqU t f.2, eqU_of r f.1]
theorem mt_cntV {X : Cx} : MtR X "list.count" (rCntV X.K) := by
  intro pins s σ H x xs v us Q I rx rxs h
  obtain ⟨p, vs, y, rfl, rfl, hs, fy, fv, q⟩ := h
  cases rx
  obtain ⟨u, rfl, ru⟩ := rxs.one
  obtain ⟨its, rv, ⟨⟨cls, dd, data, sl⟩, n, ho, hc, hdn, hd⟩, hlen⟩ := I.list hs
  simp only at hc hd
  subst hc hd
  refine call_meets PySem.F.slot_list_count ⟨_, ho, rfl⟩ PySem.F.entry_list_count (PySem.F.args_list_count_2 _ _) (SeqAt.list_countAt p its.toArray n dd sl u (eqU y)) ⟨ho, fun z hz => mem_eqAt ru fy rv fv z (by simpa using hz), ?_⟩
  refine ⟨.int (vs.countP fun z => eqV z y : Nat), H, I.tok _, ⟨s.toks, ?_⟩, q⟩
  rw [show its.toArray.toList = its from rfl, countP_eqU rv fv]
def wCount (a b : WE) : WE := fun env Q => a env fun d => match d with
  | .list ds => b env fun x => (flatD x = true ∧ ds.all flatD = true) ∧ Q (.int (ds.countP fun z => PyData.eqv z x : Nat))
  | _ => False
@[simp ↓] theorem wCount_ap (a b : WE) env Q : wCount a b env Q = (a env fun d => match d with
  | .list ds => b env fun x => (flatD x = true ∧ ds.all flatD = true) ∧ Q (.int (ds.countP fun z => PyData.eqv z x : Nat))
  | _ => False) := Eq.trans rfl rfl
theorem Rp.cnt {K : KT} {F F' : Hp} {u : V} {e : D} (r : Rp K F' u e) (g : flatD e = true) : ∀ {vs : List V} {ds : List D}, Rps K F vs ds → ds.all flatD = true → vs.countP (fun z => eqV z u) = ds.countP fun z => PyData.eqv z e
  | _, _, .nil, _ => rfl
  | _, _, .cons h t, f => by
    rw [List.all_cons, Bool.and_eq_true] at f
    rw [List.countP_cons, List.countP_cons, Rp.cnt r g t f.2, h.eqv r f.1 g]
theorem e_count {a b : Expr} {wa wb : WE} {apos cpos : Pos} (ha : DenB G a wa) (hb : DenE G b wb)
    (hbase : ∀ i, attributeBase a "count" (G.X i).env (eval a (G.X i).env) = eval a (G.X i).env := by intro _; rfl)
    (hfew : ∀ i, ((backTo cpos (starEach [b] (G.X i).env)).all (fun x => !x.1) && (backToKw cpos (keywordEach [] (G.X i).env)).all (fun x => x.1.isSome)
      && decide (([b] : List Expr).length + ([] : List Keyword).length + (if ([] : List Keyword).isEmpty then 0 else 1) < 30)) = true := by intro _; rfl)
    (hline : (apos.endLine == cpos.line) = true := by rfl) (hs : ∀ i, starEach [b] (G.X i).env = (false, eval b (G.X i).env) :: starEach [] (G.X i).env := by intro _; rfl) :
    DenE G (.Call (.Attribute a "count" apos) [b] [] cpos) (wCount wa wb) := by
  obtain ⟨t, h1, h2⟩ := ha
  obtain ⟨u, k1, k2⟩ := hb
  refine ⟨fun σ H Q => t σ H fun x H1 => tyV G.K "list" x H1 ∧ tCons u tNil σ H1 fun xs H2 => rCntV G.K x xs H2 Q, fun i => ?_, fun W F0 H0 F H σ env Q R s h k => ?_⟩
  · have z := pe_bm (T := "list") (name := "count") (id := "list.count") (apos := apos) (cpos := cpos) PySem.F.plainAttrs_list PySem.F.slot_list_count PySem.F.type_list_count mt_cntV (h1 i) (pa_cons (k1 i) pa_nil (hs i)) (hbase i) (hfew i) hline (hs i) rfl
    unfold tBM at z
    rw [G.hK i] at z
    exact z
  · refine h2 W F0 H0 F H σ env _ _ s h fun v d F1 H1 e1 r1 q1 => ?_
    cases d with
    | list ds =>
      refine ⟨?_, ?_⟩
      · obtain ⟨a, vs, rfl, g1, _⟩ := r1.list e1.u
        exact .inl ⟨rfl, vs, SqL.of g1⟩
      · refine k2 W F0 H0 F1 H1 σ env _ _ (s.step e1) q1 fun x c F2 H2 e2 r2 q2 => ?_
        obtain ⟨a, vs, rfl, g1, g2, g3⟩ := (r1.step e2).list e2.u
        refine ⟨a, vs, x, rfl, rfl, SqL.of g1, by rw [r2.flat]; exact q2.1.1, by rw [g3.flat]; exact q2.1.2, ?_⟩
        rw [r2.cnt q2.1.1 g3 q2.1.2]
        exact k _ _ F2 H2 (e1.trans e2) (.int _) q2.2
    | _ => exact (show False from q1).elim
end
end Dn
/-! Dn5: what is walked (lists, tuples, ranges, enumerate, zip), targets, comprehensions. -/
namespace Dn
open PySem PySem.Spec PyProof.Rows L2
/-! ### enumerate over a tuple -/
theorem enum_new_tup (l : Addr) (its : Array Value) (n : Nat) (dd : Option Addr) (sl : Array (Option Value)) :
    Meets (Builtin.«enumerate.__new__» ⟨[.type "enumerate", .ref l], []⟩) (fun _ R s => s.heap.get? l = some { cls := .type "tuple", dict := dd, data := .seq its n, slots := sl } ∧
      R (.ok (.ret (.ref (s.heap.push { cls := .type "tuple_iterator", data := .fields #[.ref l, .int 0 0] }).objs.size)))
        { s with heap := (s.heap.push { cls := .type "tuple_iterator", data := .fields #[.ref l, .int 0 0] }).push { cls := .type "enumerate", data := .fields #[.none, .bool false, .ref s.heap.objs.size, rawInt 0, .none, .none] } }) :=
  .of_wp fun P w A R st hyp => by
    obtain ⟨hp, gs, dr, tk, os⟩ := st
    obtain ⟨look, goal⟩ := hyp
    have below := sub_enumerate
    have tup : Heap.IsTuple (Shared.heap ⟨hp, gs, dr, tk, os⟩) l its := ⟨_, look, rfl, n, rfl⟩
    wp_walk using AutoSeq1.wpAny_loadPart' look
    refine wpAny_stack_any fun top => wpAny_pure ?_
    split
    · rename_i c _ _ _ _ _
      cases (c == Value.type "enumerate") <;> (wp_walk using AutoSeq1.wpAny_loadPart' look, wpAny_pyIter_tuple tup; exact ⟨_, rfl, goal⟩)
    · wp_walk using AutoSeq1.wpAny_loadPart' look, wpAny_pyIter_tuple tup
      exact ⟨_, rfl, goal⟩
theorem call_enum_tup {P : Program} {w : World} {A : Around} {E : Value → Shared → Prop} {s : Shared} {l : Addr} {its : Array Value} {Q : Value → Shared → Prop} (ht : IsTup s.heap l its)
    (h : ∀ h', IsEnum h' (s.heap.objs.size + 1) s.heap.objs.size 0 .none → h'.IsTupleIter s.heap.objs.size l 0 → (∀ b o, s.heap.get? b = some o → h'.get? b = some o) → Q (.ref (s.heap.objs.size + 1)) { s with heap := h' }) :
    wpAny (model P w) A (call (.type "enumerate") [.ref l]) Q E s := by
  obtain ⟨⟨c, dct, dt, sl⟩, hl, hc, n, hd⟩ := ht
  simp only at hc hd
  subst hc hd
  refine callType_new F.called_enumerate (by decide) (F.typeCall_enumerate_1 _) (F.newCall_enumerate_1 _) (fun obj => F.args_object_init_2 obj _) F.entry_enumerate_new (enum_new_tup l its n dct sl) ⟨hl, ?_⟩
  have sz : (s.heap.push { cls := .type "tuple_iterator", data := .fields #[.ref l, .int 0 0] }).objs.size = s.heap.objs.size + 1 := Heap.size_push ..
  show _ ∧ _
  rw [sz]
  have en : IsEnum ((s.heap.push { cls := .type "tuple_iterator", data := .fields #[.ref l, .int 0 0] }).push { cls := .type "enumerate", data := .fields #[.none, .bool false, .ref s.heap.objs.size, rawInt 0, .none, .none] }) (s.heap.objs.size + 1) s.heap.objs.size 0 .none := by
    have z := Heap.get?_push_size (s.heap.push { cls := .type "tuple_iterator", data := .fields #[.ref l, .int 0 0] }) (o := { cls := .type "enumerate", data := .fields #[.none, .bool false, .ref s.heap.objs.size, rawInt 0, .none, .none] }) rfl
    rw [sz] at z
    exact z
  exact ⟨⟨_, en, rfl⟩, h _ en ⟨_, Heap.get?_push_of_some _ (Heap.get?_push_size _ rfl), rfl, rfl⟩ fun b o x => Heap.get?_push_of_some _ (Heap.get?_push_of_some _ x)⟩
def IteT (K : PySem.W.Frag) (a : Addr) : It :=
  ⟨fun i H => ∃ (xs : List V) (x : V), SqT K H a xs ∧ xs[i]? = some x, fun i H v H' => ∃ T x, v = .ref T ∧ H T = none ∧ H' = upd H T (.tup [.int (i : Nat), x]) ∧ ∀ xs, SqT K H a xs → xs[i]? = some x, fun i H => ∃ xs : List V, SqT K H a xs ∧ xs.length ≤ i⟩
theorem turn_enumT {P : Program} {w : World} {K : PySem.W.Frag} {elts : List Expr} {kk : Nat} {tpos : Pos} (a e it : Addr) :
    Turn P w K (.Tuple elts kk tpos) (IteT K a) [e, it] e (fun i h => (∃ old, IsEnum h e it ((i : Nat) : Int) old) ∧ h.IsTupleIter it a i ∧ e ≠ it) where
  mem := by simp
  obj := fun i h st b hb => by
    obtain ⟨⟨old, he⟩, ⟨o, ho, hc, hd⟩, _⟩ := st
    rcases (show b = e ∨ b = it by simpa using hb) with z | z
    · exact ⟨_, z ▸ he, fun v q => by cases q⟩
    · exact ⟨o, z ▸ ho, fun v q => by rw [hd] at q; cases q⟩
  keep := fun i h h' st k => by
    obtain ⟨⟨old, he⟩, hi, hne⟩ := st
    exact ⟨⟨old, k e (by simp) _ he⟩, hi.at fun o q => k it (by simp) o q, hne⟩
  item := by
    intro X hP hw hK hc i pins s σ H E I hf st hg
    subst hP hw hK
    obtain ⟨⟨old, he⟩, hit, hne⟩ := st
    obtain ⟨xs, x, hq, hx⟩ := hg
    obtain ⟨its, rv, p, hz⟩ := I.tuple hq
    obtain ⟨u, hu, ru⟩ := rv.get hx
    have hel : e < s.heap.objs.size := Heap.lt_size he
    have hil : it < s.heap.objs.size := by
      obtain ⟨_, q, _⟩ := hit
      exact Heap.lt_size q
    have hai : a ≠ it := by
      rintro rfl
      obtain ⟨o1, h1, h2, _⟩ := hit
      obtain ⟨o2, h3, h4, _⟩ := p
      rw [h1] at h3
      cases h3
      rw [h2] at h4
      exact absurd h4 (by decide)
    have hae : e ≠ a := by
      rintro rfl
      obtain ⟨o2, h3, h4, _⟩ := p
      rw [he] at h3
      cases h3
      have h5 : Value.type "enumerate" = Value.type "tuple" := h4
      revert h5
      decide
    have hlt : i < its.toArray.size := by
      have := (List.getElem?_eq_some_iff.mp hu).1
      simpa using this
    refine wpAny_pyNext_enum_itemD (PySem.Draws.tuple (A := X.A.in1) (by exact I.ok.hd hc) it a hai its.toArray) he ⟨hit, p⟩ hlt hne (by simp [hne, hae]) fun y h' tk py ho hit' hT hsz hk => ?_
    have hy : y = u := by
      have z : its.toArray[i]? = some y := py
      rw [show its.toArray[i]? = its[i]? by simp, hu] at z
      exact (Option.some.inj z).symm
    subst hy
    refine ⟨_, rfl, wpAny_letOwnedTupleGo_enum (s := { s with heap := h', toks := tk + 1 }) ho fun h2 he' sb => ?_⟩
    have hT2 : h2.get? s.heap.objs.size = some { cls := .type "tuple", data := .seq #[.int i tk, y] } := (sb.2 _ (Nat.ne_of_gt hel)).trans hT
    have new : ObjOk X.prog X.w (upd H s.heap.objs.size (.tup [.int (i : Nat), x])) h2 s.heap.objs.size (.tup [.int (i : Nat), x]) :=
      ⟨by show 2 ≤ sizeLine; decide, [.int i tk, y], .cons ⟨tk, rfl⟩ (.cons ru .nil), ⟨_, hT2, rfl, _, rfl⟩⟩
    have I1 : Inv X pins σ (upd H s.heap.objs.size (.tup [.int (i : Nat), x])) { s with heap := h2, toks := tk + 1 } :=
      I.turnedNew (ch := [e, it]) (fun b ob hb q => (sb.2 b (fun z => hb (by simp [z]))).trans (hk b ob (fun z => hb (by simp [z])) (fun z => hb (by simp [z])) q)) hf (Nat.le_refl _) new
    refine ⟨.ref s.heap.objs.size, _, I1, rfl, ⟨_, x, rfl, I.hok.fresh (Nat.le_refl _), rfl, fun ys hy => by rw [I.tuple_inj hy hq]; exact hx⟩, ⟨⟨y, ?_⟩, hit'.1.at fun o q => (sb.2 it (Ne.symm hne)).trans q, hne⟩, fun b hb => ?_⟩
    · rw [show ((i + 1 : Nat) : Int) = (i : Int) + 1 by omega]
      exact he'
    · have hb' : b < s.heap.objs.size := by
        rcases (show b = e ∨ b = it by simpa using hb) with z | z
        · exact z ▸ hel
        · exact z ▸ hil
      rw [upd_ne (Nat.ne_of_lt hb')]
      exact (hf b hb).1
  done := by
    intro X hP hw hK hc i pins s σ H E I hf st hg
    subst hP hw hK
    obtain ⟨⟨old, he⟩, hit, hne⟩ := st
    obtain ⟨xs, hq, hx⟩ := hg
    obtain ⟨its, rv, p, hz⟩ := I.tuple hq
    obtain ⟨f0, f1, f2, f3, f4, f5⟩ := hf it (by simp)
    have hl := rv.length
    have hai : a ≠ it := by
      rintro rfl
      obtain ⟨o1, h1, h2, _⟩ := hit
      obtain ⟨o2, h3, h4, _⟩ := p
      rw [h1] at h3
      cases h3
      rw [h2] at h4
      exact absurd h4 (by decide)
    have hT : s.TypeIs (.ref e) "enumerate" := ⟨_, he, rfl⟩
    unfold pyNext
    refine wpAny_bind (wpAny_attempt (wpAny_callSpecial?_slot (name := Str.ofString "__next__") hT F.slot_enumerate_next (wpAny_call_entry F.slot_enumerate_next hT F.entry_enumerate_next ?_ (F.args_enumerate_next_1 _))))
    show wpAny _ _ (field (.ref e) 2 >>= _) _ _ _
    refine wpAny_bind (wpAny_field he rfl (x := .ref it) rfl ?_)
    refine wpAny_bind (PySem.wpAny_nextOf_tuple_end (I.ok.hd hc) hit p (by simp; omega) fun h' x he' hx' => ?_)
    obtain ⟨o, ho, hcx⟩ := hx'
    refine wpAny_bind (wpAny_isInstance (T := "StopIteration") (b := true) ⟨o, ho, hcx⟩ isSubtype_stop ?_)
    exact wpAny_pure ⟨rfl, I.turned (t' := s.toks) (fun b o hb q => he' b o hb q) f0 f1 f3 f4 f5⟩
  self := fun A i s Q E st h => by
    obtain ⟨⟨_, he⟩, _⟩ := st
    exact wpAny_pyIter_enum he h
end Dn
/-! Dn6: walks, targets, comprehensions over plain data. -/
namespace Dn
open PySem PySem.Spec PyProof.Rows L2
/-- J walks the data ds, whatever else is made meanwhile -/
def WalkD (K : KT) (W : Option Addr) (J : It) (F' : Hp) (ds : List D) : Prop := ds.length ≤ sizeLine ∧ ∃ (B : Hp → Prop) (Y : Nat → Hp → V → Hp → Prop), Walk J ds.length B Y ∧ (∀ F1 H1, Same F' F1 → Same F1 H1 → B H1) ∧
  ∀ F1 H1 i x H2 d, Same F' F1 → Same F1 H1 → WdOk K W F1 H1 → ds[i]? = some d → Y i H1 x H2 → ∃ F2, Ext K W F1 H1 F2 H2 ∧ Rp K F2 x d
def DenI (G : Fam) (tg it : Expr) (w : WL) : Prop := ∃ wi : TI, (∀ i, PI (G.X i) tg it wi) ∧ ∀ (W : Option Addr) (F0 H0 F H : Hp) (σ : L2.St) (env : Env) (Q : List D → Prop) (R : It → Hp → Prop), StR G.K W F0 H0 F H σ env → w env Q →
  (∀ J ds F' H', Ext G.K W F H F' H' → WalkD G.K W J F' ds → Q ds → R J H') → wi σ H R
section
variable {K : KT} {W : Option Addr} {F H : Hp} {a b : Addr} {vs ws : List V} {ds es : List D}
theorem walkD_list (hl : vs.length ≤ sizeLine) (h : F a = some (.lst vs)) (r : Rps K F vs ds) : WalkD K W (Itl K a) F ds := by
  refine ⟨by rw [← r.length]; exact hl, fun H => SqL K H a vs, YAt vs, by rw [← r.length]; exact walk_list, fun F1 H1 e u => SqL.of (u _ _ (e _ _ h)), fun F1 H1 i x H2 d e u w hd y => ?_⟩
  obtain ⟨rfl, hx⟩ := y
  obtain ⟨v, h1, h2⟩ := r.getD hd
  rw [hx] at h1
  cases h1
  exact ⟨F1, Ext.refl u w, Rp.mono e h2⟩
theorem walkD_tup (hl : vs.length ≤ sizeLine) (h : SqT K F a vs) (r : Rps K F vs ds) : WalkD K W (Itt K a) F ds := by
  refine ⟨by rw [← r.length]; exact hl, fun H => SqT K H a vs, YAt vs, by rw [← r.length]; exact walk_tup, fun F1 H1 e u => sameT u (sameT e h), fun F1 H1 i x H2 d e u w hd y => ?_⟩
  obtain ⟨rfl, hx⟩ := y
  obtain ⟨v, h1, h2⟩ := r.getD hd
  rw [hx] at h1
  cases h1
  exact ⟨F1, Ext.refl u w, Rp.mono e h2⟩
def rngD (lo : Int) (n : Nat) : List D := (List.range n).map fun k => .int (lo + (k : Nat))
theorem walkD_rng {lo : Int} {n : Nat} (hl : n ≤ sizeLine) : WalkD K W (Itr lo n) F (rngD lo n) := by
  have len : (rngD lo n).length = n := by unfold rngD; rw [List.length_map, List.length_range]
  refine ⟨by rw [len]; exact hl, fun _ => True, YFn fun i => .int (lo + i), by rw [len]; exact walk_range, fun _ _ _ _ => trivial, fun F1 H1 i x H2 d e u w hd y => ?_⟩
  obtain ⟨rfl, rfl⟩ := y
  unfold rngD at hd
  rw [List.getElem?_map] at hd
  have hi : (List.range n)[i]? = some i := by
    cases z : (List.range n)[i]? with
    | none => rw [z] at hd; cases hd
    | some j =>
      obtain ⟨h1, h2⟩ := List.getElem?_eq_some_iff.mp z
      rw [List.getElem_range] at h2
      rw [h2]
  rw [hi] at hd
  cases hd
  exact ⟨F1, Ext.refl u w, .int _⟩
/-- pairs, each a new tuple -/
theorem pairD {B : Hp → Prop} {J : It} {f g : Nat → Option V} {ps : List D} {F' : Hp} (hl : ps.length ≤ sizeLine) (wk : Walk J ps.length B (YPair f g)) (hB : ∀ F1 H1, Same F' F1 → Same F1 H1 → B H1)
    (hp : ∀ i d, ps[i]? = some d → ∃ x y d1 d2, f i = some x ∧ g i = some y ∧ d = .tuple [d1, d2] ∧ Rp K F' x d1 ∧ Rp K F' y d2) : WalkD K W J F' ps := by
  refine ⟨hl, B, _, wk, hB, fun F1 H1 i x H2 d e u w hd y => ?_⟩
  obtain ⟨T, v1, v2, rfl, hT, rfl, g1, g2⟩ := y
  obtain ⟨v3, v4, d1, d2, k1, k2, rfl, r1, r2⟩ := hp i d hd
  rw [k1] at g1
  rw [k2] at g2
  cases g1
  cases g2
  have x1 : Ext K W F1 H1 (upd F1 T (.tup [v1, v2])) (upd H1 T (.tup [v1, v2])) := Ext.new u w hT
  exact ⟨_, x1, .tup (SqT.of upd_same) (by show 2 ≤ sizeLine; decide) (.cons (Rp.mono (e.trans x1.f) r1) (.cons (Rp.mono (e.trans x1.f) r2) .nil))⟩
def enumD (ds : List D) : List D := ds.zipIdx.map fun p => .tuple [.int (p.2 : Nat), p.1]
theorem enumD_length : (enumD ds).length = ds.length := by unfold enumD; rw [List.length_map, List.length_zipIdx]
theorem enumD_get {i : Nat} {d : D} (h : (enumD ds)[i]? = some d) : ∃ x, ds[i]? = some x ∧ d = .tuple [.int (i : Nat), x] := by
  unfold enumD at h
  rw [List.getElem?_map, List.getElem?_zipIdx] at h
  cases z : ds[i]? with
  | none => rw [z] at h; cases h
  | some x =>
    rw [z] at h
    simp at h
    exact ⟨x, rfl, h.symm⟩
theorem walkD_enum (hl : vs.length ≤ sizeLine) (h : F a = some (.lst vs)) (r : Rps K F vs ds) : WalkD K W (Ite K a) F (enumD ds) := by
  refine pairD (by rw [enumD_length, ← r.length]; exact hl) (B := fun H => SqL K H a vs) (f := fun i => some (.int (i : Nat))) (g := fun i => vs[i]?) (by rw [enumD_length, ← r.length]; exact walk_enum) (fun F1 H1 e u => SqL.of (u _ _ (e _ _ h))) fun i d hd => ?_
  obtain ⟨x, h1, rfl⟩ := enumD_get hd
  obtain ⟨v, h2, h3⟩ := r.getD h1
  exact ⟨_, v, _, _, rfl, h2, rfl, .int _, h3⟩
theorem walk_enumT : Walk (IteT K a) vs.length (fun H => SqT K H a vs) (YPair (fun i => some (.int (i : Nat))) (fun i => vs[i]?)) := by
  refine ⟨fun i _ hi q => ⟨vs, vs[i], q, by simp [hi]⟩, fun _ q => ⟨vs, q, Nat.le_refl _⟩, fun i H v H' _ q y => ?_⟩
  obtain ⟨T, x, h1, h2, h3, h4⟩ := y
  exact ⟨T, .int (i : Nat), x, h1, h2, h3, rfl, h4 vs q⟩
theorem walkD_enumT (hl : vs.length ≤ sizeLine) (h : SqT K F a vs) (r : Rps K F vs ds) : WalkD K W (IteT K a) F (enumD ds) := by
  refine pairD (by rw [enumD_length, ← r.length]; exact hl) (B := fun H => SqT K H a vs) (f := fun i => some (.int (i : Nat))) (g := fun i => vs[i]?) (by rw [enumD_length, ← r.length]; exact walk_enumT) (fun F1 H1 e u => sameT u (sameT e h)) fun i d hd => ?_
  obtain ⟨x, h1, rfl⟩ := enumD_get hd
  obtain ⟨v, h2, h3⟩ := r.getD h1
  exact ⟨_, v, _, _, rfl, h2, rfl, .int _, h3⟩
def zipD (ds es : List D) : List D := List.zipWith (fun x y => .tuple [x, y]) ds es
theorem zipD_get {i : Nat} {d : D} (h : (zipD ds es)[i]? = some d) : ∃ x y, ds[i]? = some x ∧ es[i]? = some y ∧ d = .tuple [x, y] := by
  unfold zipD at h
  rw [List.getElem?_zipWith] at h
  cases z : ds[i]? with
  | none => rw [z] at h; cases h
  | some x =>
    cases z2 : es[i]? with
    | none => rw [z, z2] at h; cases h
    | some y =>
      rw [z, z2] at h
      cases h
      exact ⟨x, y, rfl, rfl, rfl⟩
theorem zipD_length : (zipD ds es).length = min ds.length es.length := by unfold zipD; rw [List.length_zipWith]
theorem walkD_zip (hl : vs.length ≤ sizeLine) (h : F a = some (.lst vs)) (r : Rps K F vs ds) (h' : F b = some (.lst ws)) (r' : Rps K F ws es) : WalkD K W (Itz K a b) F (zipD ds es) := by
  have hn : (zipD ds es).length = min vs.length ws.length := by rw [zipD_length, r.length, r'.length]
  refine pairD (by rw [hn]; omega) (B := fun H => SqL K H a vs ∧ SqL K H b ws) (f := fun i => vs[i]?) (g := fun i => ws[i]?) (walk_zip hn) (fun F1 H1 e u => ⟨SqL.of (u _ _ (e _ _ h)), SqL.of (u _ _ (e _ _ h'))⟩) fun i d hd => ?_
  obtain ⟨x, y, h1, h2, rfl⟩ := zipD_get hd
  obtain ⟨v, g1, g2⟩ := r.getD h1
  obtain ⟨u, k1, k2⟩ := r'.getD h2
  exact ⟨v, u, _, _, g1, k1, rfl, g2, k2⟩
theorem walk_zipT {n : Nat} (hn : n = min vs.length ws.length) : Walk (RZ.ItzT K a b) n (fun H => SqT K H a vs ∧ SqT K H b ws) (YPair (fun i => vs[i]?) (fun i => ws[i]?)) := by
  subst hn
  refine ⟨fun i _ hi q => ?_, fun _ q => ⟨vs, ws, q.1, q.2, by omega⟩, fun i H v H' _ q y => ?_⟩
  · have h1 : i < vs.length := by omega
    have h2 : i < ws.length := by omega
    exact ⟨vs, ws, vs[i], ws[i], q.1, q.2, by simp [h1], by simp [h2]⟩
  · obtain ⟨T, x, z, h1, h2, h3, h4, h5⟩ := y
    exact ⟨T, x, z, h1, h2, h3, h4 vs q.1, h5 ws q.2⟩
theorem walkD_zipT (hl : vs.length ≤ sizeLine) (h : SqT K F a vs) (r : Rps K F vs ds) (h' : SqT K F b ws) (r' : Rps K F ws es) : WalkD K W (RZ.ItzT K a b) F (zipD ds es) := by
  have hn : (zipD ds es).length = min vs.length ws.length := by rw [zipD_length, r.length, r'.length]
  refine pairD (by rw [hn]; omega) (B := fun H => SqT K H a vs ∧ SqT K H b ws) (f := fun i => vs[i]?) (g := fun i => ws[i]?) (walk_zipT hn) (fun F1 H1 e u => ⟨sameT u (sameT e h), sameT u (sameT e h')⟩) fun i d hd => ?_
  obtain ⟨x, y, h1, h2, rfl⟩ := zipD_get hd
  obtain ⟨v, g1, g2⟩ := r.getD h1
  obtain ⟨u, k1, k2⟩ := r'.getD h2
  exact ⟨v, u, _, _, g1, k1, rfl, g2, k2⟩
end
section
variable {G : Fam} {e tg : Expr} {w : WE} {wl : WL} {p pos : Pos}
/-- for x in e, e a list or a tuple -/
def iSq (K : PySem.W.Frag) (t : TE) : TI := fun σ H R => t σ H fun x H1 => iList K (tC x) σ H1 R ∨ iTup K (tC x) σ H1 R
theorem pi_sq {X : Cx} {t : TE} (h : PE X e t) : PI X tg e (iSq X.K t) := by
  refine ⟨fun pins s σ H R I hw => ?_⟩
  refine thn (h.run pins s σ H _ I hw) fun v s1 ⟨x, H1, I1, r1, q⟩ => ?_
  rcases q with ⟨a, rfl, ⟨xs, hq⟩, q⟩ | ⟨a, rfl, ⟨xs, hq⟩, q⟩
  · cases r1
    obtain ⟨its, rv, p, _⟩ := I1.list hq
    refine wpAny_pyIter_list p.isList ⟨s1.heap.objs.size, [s1.heap.objs.size], _, _, H1, rfl, I1.kept (t' := s1.toks) fun b o e => Heap.get?_push_of_some _ e, turn_list a _, ⟨_, Heap.get?_push_size _ rfl, rfl, rfl⟩, fun b hb => ?_, q⟩
    cases (show b = s1.heap.objs.size by simpa using hb)
    exact I1.fpOk (Nat.le_refl _) I1.fresh
  · cases r1
    obtain ⟨its, rv, p, _⟩ := I1.tuple hq
    refine wpAny_pyIter_tuple (show s1.heap.IsTuple a its.toArray from p) ⟨s1.heap.objs.size, [s1.heap.objs.size], _, _, H1, rfl, I1.kept (t' := s1.toks) fun b o e => Heap.get?_push_of_some _ e, turn_tuple a _, ⟨_, Heap.get?_push_size _ rfl, rfl, rfl⟩, fun b hb => ?_, q⟩
    cases (show b = s1.heap.objs.size by simpa using hb)
    exact I1.fpOk (Nat.le_refl _) I1.fresh
def wSq (w : WE) : WL := fun env Q => w env fun d => match d with
  | .list ds => Q ds
  | .tuple ds => Q ds
  | _ => False
@[simp ↓] theorem wSq_ap (w : WE) env Q : wSq w env Q = (w env fun d => match d with
  | .list ds => Q ds
  | .tuple ds => Q ds
  | _ => False) := Eq.trans rfl rfl
theorem piK {X : Cx} {K : PySem.W.Frag} {r : PySem.W.Frag → TI} (h : X.K = K) (o : PI X tg e (r X.K)) : PI X tg e (r K) := by
  subst h
  exact o
theorem i_sq (h : DenE G e w) : DenI G tg e (wSq w) := by
  obtain ⟨t, h1, h2⟩ := h
  refine ⟨_, fun i => piK (r := fun K => iSq K t) (G.hK i) (pi_sq (h1 i)), fun W F0 H0 F H σ env Q R s hw k => ?_⟩
  refine h2 W F0 H0 F H σ env _ _ s hw fun v d F' H' x r q => ?_
  cases r with
  | lst g1 g2 g3 => exact .inl ⟨_, rfl, ⟨_, SqL.of (x.u _ _ g1)⟩, k _ _ F' H' x (walkD_list g2 g1 g3) q⟩
  | tup g1 g2 g3 => exact .inr ⟨_, rfl, ⟨_, sameT x.u g1⟩, k _ _ F' H' x (walkD_tup g2 g1 g3) q⟩
  | _ => exact (show False from q).elim
/-- range -/
def wRng1 (w : WL) : WL := fun env Q => w env fun ds => match ds with
  | [.int n] => (-(2 ^ 62) ≤ n ∧ n ≤ 16777216) ∧ Q (rngD 0 n.toNat)
  | _ => False
@[simp ↓] theorem wRng1_ap (w : WL) env Q : wRng1 w env Q = (w env fun ds => match ds with
  | [.int n] => (-(2 ^ 62) ≤ n ∧ n ≤ 16777216) ∧ Q (rngD 0 n.toNat)
  | _ => False) := Eq.trans rfl rfl
def wRng2 (w : WL) : WL := fun env Q => w env fun ds => match ds with
  | [.int m, .int n] => (-(2 ^ 62) ≤ m ∧ m < 2 ^ 62 ∧ -(2 ^ 62) ≤ n ∧ n < 2 ^ 62 ∧ n - m ≤ 16777216) ∧ Q (rngD m (n - m).toNat)
  | _ => False
@[simp ↓] theorem wRng2_ap (w : WL) env Q : wRng2 w env Q = (w env fun ds => match ds with
  | [.int m, .int n] => (-(2 ^ 62) ≤ m ∧ m < 2 ^ 62 ∧ -(2 ^ 62) ≤ n ∧ n < 2 ^ 62 ∧ n - m ≤ 16777216) ∧ Q (rngD m (n - m).toNat)
  | _ => False) := Eq.trans rfl rfl
theorem i_rng1 {a : Expr} (hg : ∀ i, Gl (G.X i) "range" := by intro _; rfl) (hm : ∀ i, (G.X i).mg "range" = none) (ha : DenL G [a] wl) (hs : ∀ i, starEach [a] (G.X i).env = [(false, eval a (G.X i).env)] := by intro _; rfl) : DenI G tg (.Call (.Name "range" p) [a] [] pos) (wRng1 wl) := by
  obtain ⟨t, a1, a2⟩ := ha
  refine ⟨_, fun i => pi_range1 (hg i) (hm i) (a1 i) (hs i), fun W F0 H0 F H σ env Q R s hw k => ?_⟩
  refine a2 W F0 H0 F H σ env _ _ s hw fun vs ds F' H' x r q => ?_
  split at q
  · obtain ⟨v, rfl, h⟩ := r.one
    cases h.int
    exact ⟨_, rfl, q.1.1, by have := q.1.2; omega, k _ _ F' H' x (walkD_rng (by rw [sizeLine_eq]; have := q.1.2; omega)) q.2⟩
  · exact q.elim
theorem i_rng2 {a b : Expr} (hg : ∀ i, Gl (G.X i) "range" := by intro _; rfl) (hm : ∀ i, (G.X i).mg "range" = none) (ha : DenL G [a, b] wl) (hs : ∀ i, starEach [a, b] (G.X i).env = [(false, eval a (G.X i).env), (false, eval b (G.X i).env)] := by intro _; rfl) (hs2 : ∀ i, starEach [b] (G.X i).env = [(false, eval b (G.X i).env)] := by intro _; rfl) : DenI G tg (.Call (.Name "range" p) [a, b] [] pos) (wRng2 wl) := by
  obtain ⟨t, a1, a2⟩ := ha
  refine ⟨_, fun i => pi_range2 (hg i) (hm i) (a1 i) (hs i) (hs2 i), fun W F0 H0 F H σ env Q R s hw k => ?_⟩
  refine a2 W F0 H0 F H σ env _ _ s hw fun vs ds F' H' x r q => ?_
  split at q
  · obtain ⟨v, u, rfl, h, h'⟩ := r.two
    cases h.int
    cases h'.int
    exact ⟨_, _, rfl, ⟨q.1.1, q.1.2.1, q.1.2.2.1, q.1.2.2.2.1⟩, k _ _ F' H' x (walkD_rng (by rw [sizeLine_eq]; have := q.1.2.2.2.2; omega)) q.2⟩
  · exact q.elim
/-- enumerate -/
def iEnumA (K : PySem.W.Frag) (t : TA) : TI := fun σ H R => t σ H fun vs H1 => ∃ a xs, vs = [.ref a] ∧ ((SqL K H1 a xs ∧ R (Ite K a) H1) ∨ (SqT K H1 a xs ∧ R (IteT K a) H1))
theorem pi_enumA {X : Cx} {t : TA} {elts : List Expr} {kk : Nat} {tpos : Pos} (hg : Gl X "enumerate") (hm : X.mg "enumerate" = none) (ha : PA X [e] t) (hs : starEach [e] X.env = [(false, eval e X.env)]) : PI X (.Tuple elts kk tpos) (.Call (.Name "enumerate" p) [e] [] pos) (iEnumA X.K t) := by
  refine ⟨fun pins s σ H R I h => ?_⟩
  refine Call_ (ld_blt I hg hm boot_enumerate (PyProof.Rows.callWith_type1 (thn (ha.run pos pins s σ H _ I h) fun us s1 ⟨vs, H1, I1, r1, q1⟩ => ?_) hs rfl))
  obtain ⟨a, xs, rfl, q1⟩ := q1
  obtain ⟨u, rfl, ru⟩ := r1.one
  cases ru
  have fresh : ∀ c, c ∈ [s1.heap.objs.size + 1, s1.heap.objs.size] → FpOk X pins H1 c := fun c hc => by
    have le : s1.heap.objs.size ≤ c := by
      rcases (show c = s1.heap.objs.size + 1 ∨ c = s1.heap.objs.size by simpa using hc) with z | z <;> omega
    exact I1.fpOk le (I1.hok.fresh le)
  rcases q1 with ⟨hq, q⟩ | ⟨hq, q⟩
  · obtain ⟨its, rv, pl, _⟩ := I1.list hq
    refine call_enumerate_list pl.isList fun h' he hit hsz hk => wpAny_pyIter_enum he ?_
    exact ⟨s1.heap.objs.size + 1, [s1.heap.objs.size + 1, s1.heap.objs.size], _, _, H1, rfl, I1.kept (t' := s1.toks) hk, turn_enum a (s1.heap.objs.size + 1) s1.heap.objs.size, ⟨⟨.none, he⟩, hit, Nat.succ_ne_self _⟩, fresh, q⟩
  · obtain ⟨its, rv, pl, _⟩ := I1.tuple hq
    refine call_enum_tup pl fun h' he hit hk => wpAny_pyIter_enum he ?_
    exact ⟨s1.heap.objs.size + 1, [s1.heap.objs.size + 1, s1.heap.objs.size], _, _, H1, rfl, I1.kept (t' := s1.toks) hk, turn_enumT a (s1.heap.objs.size + 1) s1.heap.objs.size, ⟨⟨.none, he⟩, hit, Nat.succ_ne_self _⟩, fresh, q⟩
def wEnum (w : WE) : WL := fun env Q => w env fun d => match d with
  | .list ds => Q (enumD ds)
  | .tuple ds => Q (enumD ds)
  | _ => False
@[simp ↓] theorem wEnum_ap (w : WE) env Q : wEnum w env Q = (w env fun d => match d with
  | .list ds => Q (enumD ds)
  | .tuple ds => Q (enumD ds)
  | _ => False) := Eq.trans rfl rfl
theorem i_enum {elts : List Expr} {kk : Nat} {tpos : Pos} (hg : ∀ i, Gl (G.X i) "enumerate" := by intro _; rfl) (hm : ∀ i, (G.X i).mg "enumerate" = none) (h : DenE G e w) (hs : ∀ i, starEach [e] (G.X i).env = [(false, eval e (G.X i).env)] := by intro _; rfl) : DenI G (.Tuple elts kk tpos) (.Call (.Name "enumerate" p) [e] [] pos) (wEnum w) := by
  obtain ⟨t, h1, h2⟩ := h
  refine ⟨_, fun i => piK (r := fun K => iEnumA K (tCons t tNil)) (G.hK i) (pi_enumA (hg i) (hm i) (pa_cons (h1 i) pa_nil (hs i)) (hs i)), fun W F0 H0 F H σ env Q R s hw k => ?_⟩
  refine h2 W F0 H0 F H σ env _ _ s hw fun v d F' H' x r q => ?_
  cases r with
  | lst g1 g2 g3 => exact ⟨_, _, rfl, .inl ⟨SqL.of (x.u _ _ g1), k _ _ F' H' x (walkD_enum g2 g1 g3) q⟩⟩
  | tup g1 g2 g3 => exact ⟨_, _, rfl, .inr ⟨sameT x.u g1, k _ _ F' H' x (walkD_enumT g2 g1 g3) q⟩⟩
  | _ => exact (show False from q).elim
/-- zip of two lists, of two tuples -/
def wZip (w u : WE) : WL := fun env Q => w env fun d => u env fun c => match d, c with
  | .list ds, .list es => Q (zipD ds es)
  | .tuple ds, .tuple es => Q (zipD ds es)
  | _, _ => False
@[simp ↓] theorem wZip_ap (w u : WE) env Q : wZip w u env Q = (w env fun d => u env fun c => match d, c with
  | .list ds, .list es => Q (zipD ds es)
  | .tuple ds, .tuple es => Q (zipD ds es)
  | _, _ => False) := Eq.trans rfl rfl
theorem i_zip {a b : Expr} {wa wb : WE} {elts : List Expr} {kk : Nat} {tpos : Pos} (hg : ∀ i, Gl (G.X i) "zip" := by intro _; rfl) (hm : ∀ i, (G.X i).mg "zip" = none) (ha : DenE G a wa) (hb : DenE G b wb)
    (hs : ∀ i, starEach [a, b] (G.X i).env = (false, eval a (G.X i).env) :: starEach [b] (G.X i).env := by intro _; rfl) (hs2 : ∀ i, starEach [b] (G.X i).env = (false, eval b (G.X i).env) :: starEach [] (G.X i).env := by intro _; rfl) (hpl : ∀ i, (backTo pos (starEach [b] (G.X i).env)).any (·.1) = false := by intro _; rfl) :
    DenI G (.Tuple elts kk tpos) (.Call (.Name "zip" p) [a, b] [] pos) (wZip wa wb) := by
  obtain ⟨t, h1, h2⟩ := ha
  obtain ⟨u, k1, k2⟩ := hb
  refine ⟨_, fun i => piK (r := fun K => RZ.iZipA K (tCons t (tCons u tNil))) (G.hK i) (RZ.pi_zipA (hg i) (hm i) (pa_cons (h1 i) (pa_cons (k1 i) pa_nil (hs2 i)) (hs i)) (hs i) (hpl i)), fun W F0 H0 F H σ env Q R s hw k => ?_⟩
  refine h2 W F0 H0 F H σ env _ _ s hw fun v d F1 H1 e1 r1 q1 => ?_
  refine k2 W F0 H0 F1 H1 σ env _ _ (s.step e1) q1 fun z c F' H' e2 r q => ?_
  have r1 := Rp.mono e2.f r1
  have x := e1.trans e2
  cases r1 with
  | lst g1 g2 g3 =>
    cases r with
    | lst l1 l2 l3 => exact ⟨_, _, _, _, rfl, .inl ⟨SqL.of (x.u _ _ g1), SqL.of (x.u _ _ l1), k _ _ F' H' x (walkD_zip g2 g1 g3 l1 l3) q⟩⟩
    | _ => exact (show False from q).elim
  | tup g1 g2 g3 =>
    cases r with
    | tup l1 l2 l3 => exact ⟨_, _, _, _, rfl, .inr ⟨sameT x.u g1, sameT x.u l1, k _ _ F' H' x (walkD_zipT g2 g1 g3 l1 l3) q⟩⟩
    | _ => exact (show False from q).elim
  | _ =>
    exfalso
    cases c <;> exact q

/-! ### targets -/
abbrev WG := D → Env → (Env → Prop) → Prop
abbrev WGs := List D → Env → (Env → Prop) → Prop
def DenG (G : Fam) (tg : Expr) (vs : List Nat) (g : WG) : Prop := ∃ t, (∀ i, PG (G.X i) tg t) ∧ ∀ (W : Option Addr) (F0 H0 F H : Hp) (σ : L2.St) (env : Env) (v : V) (d : D) (Q : Env → Prop) (R : L2.St → Hp → Prop), StR G.K W F0 H0 F H σ env → Rp G.K F v d → g d env Q →
  (∀ σ' env', StR G.K W F0 H0 F H σ' env' → (∀ us, (∀ j ∈ vs, j ∈ us) → L2.wipe σ' us = L2.wipe σ us) → Q env' → R σ' H) → t v σ H R
def DenGs (G : Fam) (tgs : List Expr) (vs : List Nat) (g : WGs) : Prop := ∃ t, (∀ i, PGs (G.X i) tgs t) ∧ ∀ (W : Option Addr) (F0 H0 F H : Hp) (σ : L2.St) (env : Env) (xs : List V) (ds : List D) (Q : Env → Prop) (R : L2.St → Hp → Prop), StR G.K W F0 H0 F H σ env → Rps G.K F xs ds → g ds env Q →
  (∀ σ' env', StR G.K W F0 H0 F H σ' env' → (∀ us, (∀ j ∈ vs, j ∈ us) → L2.wipe σ' us = L2.wipe σ us) → Q env' → R σ' H) → t xs σ H R
def gN (i : Nat) : WG := fun d env Q => Q (env.set i (some (.sh d)))
@[simp ↓] theorem gN_ap (i : Nat) d env Q : gN i d env Q = (Q (env.set i (some (.sh d)))) := Eq.trans rfl rfl
def gNil : WGs := fun ds env Q => match ds with
  | [] => Q env
  | _ :: _ => False
@[simp ↓] theorem gNil_ap ds env Q : gNil ds env Q = (match ds with
  | [] => Q env
  | _ :: _ => False) := Eq.trans rfl rfl
def gCons (g : WG) (r : WGs) : WGs := fun ds env Q => match ds with
  | [] => False
  | d :: ds => g d env fun env' => r ds env' Q
@[simp ↓] theorem gCons_ap (g : WG) (r : WGs) ds env Q : gCons g r ds env Q = (match ds with
  | [] => False
  | d :: ds => g d env fun env' => r ds env' Q) := Eq.trans rfl rfl
def gT (g : WGs) : WG := fun d env Q => match d with
  | .tuple ds => g ds env Q
  | _ => False
@[simp ↓] theorem gT_ap (g : WGs) d env Q : gT g d env Q = (match d with
  | .tuple ds => g ds env Q
  | _ => False) := Eq.trans rfl rfl
theorem wipe_set {i : Nat} {x : Option V} : ∀ {us : List Nat} {σ : L2.St}, i ∈ us → L2.wipe (σ.set i x) us = L2.wipe σ us := by
  intro us
  induction us with
  | nil => intro σ h; simp at h
  | cons u us ih =>
    intro σ h
    unfold L2.wipe
    by_cases q : i ∈ us
    · rw [ih q]
    · have e : i = u := by
        rcases List.mem_cons.mp h with z | z
        · exact z
        · exact absurd z q
      subst e
      apply List.ext_getElem?
      intro j
      by_cases hj : j = i
      · subst hj
        by_cases l : j < σ.length
        · rw [List.getElem?_set_self (by rw [L2.wipe_length, List.length_set]; exact l), List.getElem?_set_self (by rw [L2.wipe_length]; exact l)]
        · rw [List.getElem?_eq_none (by rw [List.length_set, L2.wipe_length, List.length_set]; omega), List.getElem?_eq_none (by rw [List.length_set, L2.wipe_length]; omega)]
      · rw [List.getElem?_set_ne (Ne.symm hj), List.getElem?_set_ne (Ne.symm hj)]
        by_cases r : j ∈ us
        · have z : ∀ τ : L2.St, τ.length = σ.length → (L2.wipe τ us)[j]? = if j < σ.length then some none else none := fun τ ht => by
            cases y : (L2.wipe τ us)[j]? with
            | none =>
              have := List.getElem?_eq_none_iff.mp y
              rw [L2.wipe_length, ht] at this
              rw [if_neg (by omega)]
            | some o =>
              have l := (List.getElem?_eq_some_iff.mp y).1
              rw [L2.wipe_length, ht] at l
              rw [if_pos l]
              cases o with
              | none => rfl
              | some v => exact absurd r (L2.wipe_some y).2
          rw [z _ (by rw [List.length_set]), z _ rfl]
        · rw [wipe_get r, wipe_get r, List.getElem?_set_ne (Ne.symm hj)]
theorem g_name {i : Nat} {x : Str} (hN : ∀ j, (G.X j).N.Nodup) (hi : ∀ j, (G.X j).N[i]? = some x := by intro _; rfl) (hx : ∀ j, Loc (G.X j).env.scope x := by intro _; first | exact Or.inl rfl | exact Or.inr rfl) (hf : ∀ j, (G.X j).fn x = true ∨ (G.X j).env.scope.names.lookup x = some .local := by intro _; first | exact Or.inl rfl | exact Or.inr rfl) : DenG G (.Name x pos) [i] (gN i) := by
  refine ⟨_, fun j => pg_name (hN j) (hi j) (hx j) (hf j), fun W F0 H0 F H σ env v d Q R s r h k => ?_⟩
  exact k _ _ (s.setSh r) (fun us hu => wipe_set (hu i (by simp))) h
theorem gs_nil : DenGs G [] [] gNil := by
  refine ⟨_, fun _ => pgs_nil, fun W F0 H0 F H σ env xs ds Q R s r h k => ?_⟩
  cases r with
  | nil => exact ⟨rfl, k σ env s (fun _ _ => rfl) h⟩
  | cons _ _ => exact (show False from h).elim
theorem gs_cons {es : List Expr} {vs us : List Nat} {g : WG} {r : WGs} (h1 : DenG G e vs g) (h2 : DenGs G es us r) (hs : ∀ i, (assignEach (e :: es) (G.X i).env).map (·.2) = assign e (G.X i).env :: (assignEach es (G.X i).env).map (·.2) := by intro _; rfl) : DenGs G (e :: es) (vs ++ us) (gCons g r) := by
  obtain ⟨t, a1, a2⟩ := h1
  obtain ⟨u, b1, b2⟩ := h2
  refine ⟨_, fun i => pgs_cons (a1 i) (b1 i) (hs i), fun W F0 H0 F H σ env xs ds Q R s rr h k => ?_⟩
  cases rr with
  | nil => exact (show False from h).elim
  | cons r1 r2 =>
    refine ⟨_, _, rfl, a2 W F0 H0 F H σ env _ _ _ _ s r1 h fun σ1 env1 s1 w1 q1 => ?_⟩
    exact b2 W F0 H0 F H σ1 env1 _ _ _ _ s1 r2 q1 fun σ2 env2 s2 w2 q2 => k σ2 env2 s2 (fun zs hz => (w2 zs fun j hj => hz j (by simp [hj])).trans (w1 zs fun j hj => hz j (by simp [hj]))) q2
theorem g_tup {es : List Expr} {k : Nat} {vs : List Nat} {g : WGs} (n : Nat) (hc : ∀ i, (G.X i).calm = true) (h : DenGs G es vs g) (hn : ∀ i, (assignEach es (G.X i).env).length = n) (hl : ∀ ds env Q, g ds env Q → ds.length = n) (hst : ∀ i, (assignEach es (G.X i).env).findIdx? (·.1) = none := by intro _; rfl) :
    DenG G (.Tuple es k pos) vs (gT g) := by
  obtain ⟨t, a1, a2⟩ := h
  refine ⟨fun v σ H Q => ∃ a xs, v = .ref a ∧ SqT G.K H a xs ∧ xs.length = n ∧ t xs σ H Q, fun i => ?_, fun W F0 H0 F H σ env v d Q R s r h kk => ?_⟩
  · have z := pg_tup (k := k) (pos := pos) (hc i) (a1 i) (hn i) (hst i)
    unfold gTup at z
    rw [G.hK i] at z
    exact z
  · cases r with
    | tup g1 g2 g3 => exact ⟨_, _, rfl, sameT s.u g1, by rw [g3.length]; exact hl _ _ _ h, a2 W F0 H0 F H σ env _ _ _ _ s g3 h kk⟩
    | _ => exact (show False from h).elim
theorem gNil_len : ∀ ds env Q, gNil ds env Q → ds.length = 0 := fun ds env Q h => by
  cases ds with
  | nil => rfl
  | cons _ _ => exact h.elim
theorem gCons_len {i n : Nat} {r : WGs} (hr : ∀ ds env Q, r ds env Q → ds.length = n) : ∀ ds env Q, gCons (gN i) r ds env Q → ds.length = n + 1 := fun ds env Q h => by
  cases ds with
  | nil => exact h.elim
  | cons d ds => exact congrArg (· + 1) (hr _ _ _ h)
end
end Dn
/-! Dn7: comprehensions, statements, defs. -/
namespace Dn
open PySem PySem.Spec PyProof.Rows L2
section
variable {K : KT} {W : Option Addr} {F0 H0 F H : Hp} {σ : L2.St} {env : Env}
/-- an object that the environment does not know is laid or changed: the list that a comprehension fills -/
theorem StR.aside {a : Addr} {o : HO} (s : StR K W F0 H0 F H σ env) (h0 : H0 a = none) (fa : F a = none) (nw : W ≠ some a) (nx : ∀ fs, H a ≠ some (.xd fs)) (no : ∀ (j : Nat) (e : En), env[j]? = some (some e) → (e.own = true → σ[j]? ≠ some (some (.ref a))) ∧ a ∉ e.adr) : StR K W F0 H0 F (upd H a o) σ env := by
  refine ⟨s.ext.write h0 nw fa, s.len, fun i en h => ?_, s.apart, s.inner⟩
  obtain ⟨v, h1, h2⟩ := s.ent i en h
  exact ⟨v, h1, h2.other nx (fun oe q => (no i _ h).1 oe (by rw [h1, q])) (no i _ h).2⟩
/-- what is fresh was not there at the entry -/
theorem Ext.fresh {a : Addr} (e : Ext K W F0 H0 F H) (h : H a = none) : H0 a = none ∧ F a = none ∧ W ≠ some a := by
  have nw : W ≠ some a := fun z => by
    obtain ⟨_, c, p, l, x, n, cs, h1, _⟩ := e.w.hd a z
    rw [h] at h1
    cases h1
  exact ⟨e.alive a h, e.u.free h, nw⟩
theorem ownLs_get {R : Addr → List D → Prop} : ∀ {as : List Addr} {rows : List (List D)} {a : Addr}, Paired R as rows → a ∈ as → ∃ ds, R a ds
  | _, _, _, .nil, h => nomatch h
  | _, _, _, .cons r t, h => by
    rcases List.mem_cons.mp h with rfl | h
    · exact ⟨_, r⟩
    · exact ownLs_get t h
theorem StR.notOw {a : Addr} (s : StR K W F0 H0 F H σ env) (h : H a = none) : ∀ (j : Nat) (e : En), env[j]? = some (some e) → (e.own = true → σ[j]? ≠ some (some (.ref a))) ∧ a ∉ e.adr := fun j e q => by
  obtain ⟨v, h1, hv⟩ := s.ent j _ q
  refine ⟨fun o z => ?_, fun z => ?_⟩
  · rw [h1] at z
    cases z
    cases e with
    | sh d => cases o
    | ob b => cases o
    | th _ _ _ => cases o
    | ex _ _ _ => cases o
    | ow t us =>
      obtain ⟨b, xs, e2, qt, q2, q3, q4, q5, _⟩ := hv
      cases e2
      rw [h] at q5
      cases q5
    | od es =>
      obtain ⟨b, ob, xs, e2, q2, q3, q4, q5, _⟩ := hv
      cases e2
      rw [h] at q5
      cases q5
    | ot as rows =>
      obtain ⟨b, e2, q2, q3, q4, q5, _⟩ := hv
      cases e2
      rw [h] at q5
      cases q5
  · cases e with
    | ot as rows =>
      obtain ⟨b, e2, q2, q3, q4, q5, _, _, _, q9⟩ := hv
      obtain ⟨ds, g1, g2, g3, vs, g4, _⟩ := ownLs_get q9 z
      rw [h] at g4
      cases g4
    | _ => cases z
theorem StR.newIn {a : Addr} {i : Nat} (s : StR K W F0 H0 F H σ env) (h : H a = none) : NewIn σ env i a := ⟨fun j e _ q o => (s.notOw h j e q).1 o, fun j e _ q => (s.notOw h j e q).2⟩
end

theorem wipe_wipe (σ : L2.St) (vs : List Nat) : L2.wipe (L2.wipe σ vs) vs = L2.wipe σ vs := by
  apply List.ext_getElem?
  intro j
  by_cases h : j ∈ vs
  · have z : ∀ τ : L2.St, τ.length = σ.length → (L2.wipe τ vs)[j]? = if j < σ.length then some none else none := fun τ ht => by
      cases y : (L2.wipe τ vs)[j]? with
      | none =>
        have := List.getElem?_eq_none_iff.mp y
        rw [L2.wipe_length, ht] at this
        rw [if_neg (by omega)]
      | some o =>
        have l := (List.getElem?_eq_some_iff.mp y).1
        rw [L2.wipe_length, ht] at l
        rw [if_pos l]
        cases o with
        | none => rfl
        | some v => exact absurd h (L2.wipe_some y).2
    rw [z _ (L2.wipe_length σ vs), z _ rfl]
  · rw [wipe_get h]
/-! ### comprehensions -/
def DenTs (G : Fam) (ifs : List Expr) (w : WT) : Prop := ∃ t, (∀ i, PTs (G.X i) ifs t) ∧ SndT G.K t w
def wYes : WT := fun _ Q => Q true
@[simp ↓] theorem wYes_ap u0_ Q : wYes u0_ Q = (Q true) := Eq.trans rfl rfl
section
variable {G : Fam}
theorem ts_nil : DenTs G [] wYes := ⟨_, fun _ => pts_nil, fun W F0 H0 F H σ env Q R s h k => k true F H (Ext.refl s.u s.w) h⟩
theorem ts_one {c : Expr} {w : WT} (h : DenT G c w) : DenTs G [c] w := by
  obtain ⟨t, h1, h2⟩ := h
  exact ⟨t, fun i => pts_one (h1 i), h2⟩
@[simp] def lcW (g : WG) (tt : WT) (te : WE) (env : Env) : List D → List D → (D → Prop) → Prop
  | [], acc, Q => Q (.list acc)
  | d :: ds, acc, Q => g d env fun env2 => tt env2 fun b => if b = true then te env2 fun y => lcW g tt te env ds (acc ++ [y]) Q else lcW g tt te env ds acc Q
def wLc (wi : WL) (g : WG) (tt : WT) (te : WE) (vs : List Nat) : WE := fun env Q => wi env fun ds => lcW g tt te (wipeE env vs) ds [] Q
@[simp ↓] theorem wLc_ap (wi : WL) (g : WG) (tt : WT) (te : WE) (vs : List Nat) env Q : wLc wi g tt te vs env Q = (wi env fun ds => lcW g tt te (wipeE env vs) ds [] Q) := Eq.trans rfl rfl
theorem snd_lc {K : KT} {wi : TI} {g : TG} {tt : TT} {te : TE} {vs : List Nat} {ui : WL} {ug : WG} {ut : WT} {ue : WE}
    (hi : ∀ (W : Option Addr) (F0 H0 F H : Hp) (σ : L2.St) (env : Env) (Q : List D → Prop) (R : It → Hp → Prop), StR K W F0 H0 F H σ env → ui env Q → (∀ J ds F' H', Ext K W F H F' H' → WalkD K W J F' ds → Q ds → R J H') → wi σ H R)
    (hg : ∀ (W : Option Addr) (F0 H0 F H : Hp) (σ : L2.St) (env : Env) (v : V) (d : D) (Q : Env → Prop) (R : L2.St → Hp → Prop), StR K W F0 H0 F H σ env → Rp K F v d → ug d env Q → (∀ σ' env', StR K W F0 H0 F H σ' env' → (∀ us, (∀ j ∈ vs, j ∈ us) → L2.wipe σ' us = L2.wipe σ us) → Q env' → R σ' H) → g v σ H R)
    (ht : SndT K tt ut) (he : SndE K te ue) : SndE K (tLc wi g tt te vs) (wLc ui ug ut ue vs) := by
  intro W F0 H0 F H σ env Q R s h k
  refine hi W F0 H0 F H σ env _ _ s h fun J ds F1 H1 e1 wk q1 => ?_
  intro D hD
  obtain ⟨hl, B, Y, wk, hB, hY⟩ := wk
  have s1 := s.step e1
  obtain ⟨h0D, fD, nwD⟩ := s1.ext.fresh hD
  have hDD : H D = none := (e1.fresh hD).1
  refine lc_it wk (fun i Hc => ∃ (Fc : Hp) (accV : List V) (acc : List PyData), StR K W F0 H0 Fc Hc σ env ∧ Ext K W F H Fc Hc ∧ Same F1 Fc ∧ Hc D = some (.lst accV) ∧ Fc D = none ∧ Rps K Fc accV acc ∧ accV.length ≤ i ∧ lcW ug ut ue (wipeE env vs) (ds.drop i) acc Q) ?_ ?_ ?_ ?_
  · exact ⟨F1, [], [], s1.aside h0D fD nwD (fun _ z => by rw [hD] at z; cases z) (s1.notOw hD), e1.write hDD nwD fD, Same.refl _, upd_same, fD, .nil, Nat.le_refl _, by rw [List.drop_zero]; exact q1⟩
  · rintro i Hc _ ⟨Fc, accV, acc, sc, ec, sm, _⟩
    exact hB Fc Hc sm ec.u
  · rintro i x Hc H' hlt ⟨Fc, accV, acc, sc, ec, sm, hcD, fcD, ra, hla, q⟩ y
    have hd : ds[i]? = some ds[i] := by simp [hlt]
    have hdr : ds.drop i = ds[i] :: ds.drop (i + 1) := List.drop_eq_getElem_cons hlt
    rw [hdr] at q
    obtain ⟨F2, e2, rx⟩ := hY Fc Hc i x H' ds[i] sm ec.u ec.w hd y
    have sw := (sc.step e2).wipe vs
    have nowD := s1.notOw hD
    refine hg W F0 H0 F2 H' _ _ x ds[i] _ _ sw rx q fun σ2 env2 s2 w2 q2 => ?_
    refine ⟨(w2 vs fun _ h => h).trans (wipe_wipe σ vs), ?_⟩
    refine ht W F0 H0 F2 H' σ2 env2 _ _ s2 q2 fun b F3 H3 e3 q3 => ?_
    cases b with
    | true =>
      rw [if_pos rfl] at q3 ⊢
      refine he W F0 H0 F3 H3 σ2 env2 _ _ (s2.step e3) q3 fun yv yd F4 H4 e4 r4 q4 => ?_
      have e24 := (e2.trans e3).trans e4
      have hD4 : H4 D = some (.lst accV) := e24.keep D _ hcD nwD nt_lst
      have fD4 : F4 D = none := e24.opn D _ hcD fcD nt_lst
      refine ⟨accV, hD4, by omega, F4, accV ++ [yv], acc ++ [yd], ?_, ?_, sm.trans e24.f, upd_same, fD4, (Rps.mono e24.f ra).append (.one r4), by rw [List.length_append, List.length_singleton]; omega, q4⟩
      · exact (sc.step e24).aside h0D fD4 nwD (fun _ z => by rw [hD4] at z; cases z) nowD
      · exact (ec.trans e24).write hDD nwD fD4
    | false =>
      rw [if_neg Bool.false_ne_true] at q3 ⊢
      have e23 := e2.trans e3
      exact ⟨F3, accV, acc, sc.step e23, ec.trans e23, sm.trans e23.f, e23.keep D _ hcD nwD nt_lst, e23.opn D _ hcD fcD nt_lst, Rps.mono e23.f ra, by omega, q3⟩
  · rintro Hc ⟨Fc, accV, acc, sc, ec, sm, hcD, fcD, ra, hla, q⟩
    rw [List.drop_length] at q
    have ef := ec.freeze hDD hcD nwD fcD
    have sm2 : Same Fc (upd Fc D (.lst accV)) := fun b o z => by
      rw [upd_ne (ne_of_none z fcD)]
      exact z
    exact k (.ref D) (.list acc) _ Hc ef (.lst upd_same (by omega) (Rps.mono sm2 ra)) q
end
end Dn
/-! Dn8: comprehensions as expressions, statements over plain data. -/
namespace Dn
open PySem PySem.Spec PyProof.Rows L2
structure Post where
  nx : Env → Prop
  rt : D → Env → Prop
  bk : Env → Prop
  ct : Env → Prop
  xe : Xn → Env → Prop
/-- Fs: what stands still ahead of the statement -/
structure Conts (K : KT) (W : Option Addr) (F0 H0 Fs : Hp) (T : Ends) (Wx : WX) (P : Post) : Prop where
  nx : ∀ σ env F H, Same Fs F → StR K W F0 H0 F H σ env → P.nx env → T.nx σ H
  rt : ∀ v d σ env F H, StR K W F0 H0 F H σ env → Rp K F v d → P.rt d env → T.rt v H
  bk : ∀ σ env F H, Same Fs F → StR K W F0 H0 F H σ env → P.bk env → T.bk σ H
  ct : ∀ σ env F H, Same Fs F → StR K W F0 H0 F H σ env → P.ct env → T.ct σ H
  xe : ∀ x oe σ env F H, Same Fs F → StR K W F0 H0 F H σ env → XnOk K F H x oe → P.xe x env → Wx (.ref x.cls) oe σ H
theorem Conts.from {K : KT} {W : Option Addr} {F0 H0 Fs Ft : Hp} {T : Ends} {Wx : WX} {P : Post} (c : Conts K W F0 H0 Fs T Wx P) (e : Same Fs Ft) : Conts K W F0 H0 Ft T Wx P :=
  ⟨fun σ env F H q => c.nx σ env F H (e.trans q), c.rt, fun σ env F H q => c.bk σ env F H (e.trans q), fun σ env F H q => c.ct σ env F H (e.trans q), fun x oe σ env F H q => c.xe x oe σ env F H (e.trans q)⟩
abbrev WS := Env → Post → Prop
def SndS (K : KT) (Wx : WX) (t : TS) (w : WS) : Prop := ∀ (W : Option Addr) (F0 H0 F H : Hp) (σ : L2.St) (env : Env) (P : Post) (T : Ends), StR K W F0 H0 F H σ env → w env P → Conts K W F0 H0 F T Wx P → t T σ H
def Den (G : Fam) (Wx : WX) (st : Stmt) (w : WS) : Prop := ∃ t, (∀ i, PS (G.X i) st t) ∧ SndS G.K Wx t w
def Dens (G : Fam) (Wx : WX) (sts : List Stmt) (w : WS) : Prop := ∃ t, (∀ i, PSs (G.X i) sts t) ∧ SndS G.K Wx t w
section
variable {G : Fam} {Wx : WX}
/-! ### comprehensions -/
theorem e_lc {elt tg iter : Expr} {ifs : List Expr} {scope : Scope} {own : List (Str × Nat)} {pos : Pos} {wi : WL} {g : WG} {tt : WT} {te : WE} (hc : Calm G) (hN : ∀ i, (G.X i).N.Nodup) (hi : DenI G tg iter wi) (ok : ∀ i, BlkOk (G.X i).N (G.X i).env.scope scope own := by intro _; exact blkOk_by (by kernel_rfl))
    (hg : DenG (G.blk scope) tg (own.map (·.2)) g) (ht : DenTs (G.blk scope) ifs tt) (he : DenE (G.blk scope) elt te) (hs : ∀ i x, foldedSetIterable iter (G.X i).env x = pure x := by intro _ _; rfl) : DenE G (.ListComp elt [⟨tg, iter, ifs, 0⟩] scope pos) (wLc wi g tt te (own.map (·.2))) := by
  obtain ⟨ti, i1, i2⟩ := hi
  obtain ⟨tg', g1, g2⟩ := hg
  obtain ⟨t2, t1, t3⟩ := ht
  obtain ⟨t4, e1, e2⟩ := he
  exact ⟨_, fun i => pe_lc (hc i) (hN i) (i1 i) (ok i) (fun s H C cl fp => g1 ⟨i, s, H, C, cl, fp⟩) (fun s H C cl fp => t1 ⟨i, s, H, C, cl, fp⟩) (fun s H C cl fp => e1 ⟨i, s, H, C, cl, fp⟩) (hs i), snd_lc i2 g2 t3 e2⟩
/-! ### blocks -/
def wNext : WS := fun env P => P.nx env
@[simp ↓] theorem wNext_ap env P : wNext env P = (P.nx env) := Eq.trans rfl rfl
def wSeq (a b : WS) : WS := fun env P => a env { P with nx := fun env' => b env' P }
@[simp ↓] theorem wSeq_ap (a b : WS) env P : wSeq a b env P = (a env { P with nx := fun env' => b env' P }) := Eq.trans rfl rfl
variable {st : Stmt} {rest : List Stmt} {w w1 w2 : WS} {e : Expr} {we : WE} {pos : Pos}
theorem ss_nil : Dens G Wx [] wNext := ⟨_, fun _ => pss_nil, fun W F0 H0 F H σ env P T s h c => c.nx σ env F H (Same.refl _) s h⟩
theorem ss_one (h : Den G Wx st w) : Dens G Wx [st] w := by
  obtain ⟨t, h1, h2⟩ := h
  exact ⟨t, fun i => pss_one (h1 i), h2⟩
theorem ss_cons (h : Den G Wx st w1) (k : Dens G Wx rest w2) : Dens G Wx (st :: rest) (wSeq w1 w2) := by
  obtain ⟨t, h1, h2⟩ := h
  obtain ⟨u, k1, k2⟩ := k
  refine ⟨_, fun i => pss_cons (h1 i) (k1 i), fun W F0 H0 F H σ env P T s h c => ?_⟩
  exact h2 W F0 H0 F H σ env _ _ s h ⟨fun σ' env' F' H' m s' q => k2 W F0 H0 F' H' σ' env' P T s' q (c.from m), c.rt, c.bk, c.ct, c.xe⟩
theorem s_pass : Den G Wx (.Pass pos) wNext := ⟨_, fun _ => ps_pass, fun W F0 H0 F H σ env P T s h c => c.nx σ env F H (Same.refl _) s h⟩
def wBreak : WS := fun env P => P.bk env
@[simp ↓] theorem wBreak_ap env P : wBreak env P = (P.bk env) := Eq.trans rfl rfl
def wCont : WS := fun env P => P.ct env
@[simp ↓] theorem wCont_ap env P : wCont env P = (P.ct env) := Eq.trans rfl rfl
theorem s_break : Den G Wx (.Break pos) wBreak := ⟨_, fun _ => ps_break, fun W F0 H0 F H σ env P T s h c => c.bk σ env F H (Same.refl _) s h⟩
theorem s_cont : Den G Wx (.Continue pos) wCont := ⟨_, fun _ => ps_continue, fun W F0 H0 F H σ env P T s h c => c.ct σ env F H (Same.refl _) s h⟩
def wDrop (w : WE) : WS := fun env P => w env fun _ => P.nx env
@[simp ↓] theorem wDrop_ap (w : WE) env P : wDrop w env P = (w env fun _ => P.nx env) := Eq.trans rfl rfl
theorem s_expr (h : DenE G e we) (hs : ∀ i, swapsWith e none pos.line (G.X i).env = pure false := by intro _; rfl) : Den G Wx (.Expr e pos) (wDrop we) := by
  obtain ⟨t, h1, h2⟩ := h
  refine ⟨_, fun i => ps_expr (h1 i) (hs i), fun W F0 H0 F H σ env P T s h c => ?_⟩
  exact h2 W F0 H0 F H σ env _ _ s h fun v d F' H' x r q => c.nx σ env F' H' x.f (s.step x) q
def wRet (w : WE) : WS := fun env P => w env fun d => P.rt d env
@[simp ↓] theorem wRet_ap (w : WE) env P : wRet w env P = (w env fun d => P.rt d env) := Eq.trans rfl rfl
theorem s_ret (h : DenE G e we) : Den G Wx (.Return (some e) pos) (wRet we) := by
  obtain ⟨t, h1, h2⟩ := h
  refine ⟨_, fun i => ps_ret (h1 i), fun W F0 H0 F H σ env P T s h c => ?_⟩
  exact h2 W F0 H0 F H σ env _ _ s h fun v d F' H' x r q => c.rt v d σ env F' H' (s.step x) r q
def wRetN : WS := fun env P => P.rt .none env
@[simp ↓] theorem wRetN_ap env P : wRetN env P = (P.rt .none env) := Eq.trans rfl rfl
theorem s_retN : Den G Wx (.Return none pos) wRetN := ⟨_, fun _ => ps_retN, fun W F0 H0 F H σ env P T s h c => c.rt .non .none σ env F H s .non h⟩
def wIfS (c : WT) (a b : WS) : WS := fun env P => c env fun x => if x = true then a env P else b env P
@[simp ↓] theorem wIfS_ap (c : WT) (a b : WS) env P : wIfS c a b env P = (c env fun x => if x = true then a env P else b env P) := Eq.trans rfl rfl
theorem s_if {c : Expr} {a b : List Stmt} {wc : WT} (hc : DenT G c wc) (ha : Dens G Wx a w1) (hb : Dens G Wx b w2) : Den G Wx (.If c a b pos) (wIfS wc w1 w2) := by
  obtain ⟨tc, c1, c2⟩ := hc
  obtain ⟨ta, a1, a2⟩ := ha
  obtain ⟨tb, b1, b2⟩ := hb
  refine ⟨_, fun i => ps_if (c1 i) (a1 i) (b1 i), fun W F0 H0 F H σ env P T s h c => ?_⟩
  refine c2 W F0 H0 F H σ env _ _ s h fun x F' H' e q => ?_
  cases x with
  | true =>
    rw [if_pos rfl] at q ⊢
    exact a2 W F0 H0 F' H' σ env P T (s.step e) q (c.from e.f)
  | false =>
    rw [if_neg Bool.false_ne_true] at q ⊢
    exact b2 W F0 H0 F' H' σ env P T (s.step e) q (c.from e.f)
def wNever : WS := fun _ _ => False
@[simp ↓] theorem wNever_ap u0_ u1_ : wNever u0_ u1_ = (False) := Eq.trans rfl rfl
theorem s_never : Den G Wx st wNever := ⟨_, fun _ => ps_never, fun W F0 H0 F H σ env P T s h c => h.elim⟩
theorem ss_never {sts : List Stmt} : Dens G Wx sts wNever := ⟨_, fun _ => pss_never, fun W F0 H0 F H σ env P T s h c => h.elim⟩
/-! ### stores -/
def wSet (i : Nat) (w : WE) : WS := fun env P => w env fun d => P.nx (env.set i (some (.sh d)))
@[simp ↓] theorem wSet_ap (i : Nat) (w : WE) env P : wSet i w env P = (w env fun d => P.nx (env.set i (some (.sh d)))) := Eq.trans rfl rfl
theorem s_set {i : Nat} {x : Str} {p : Pos} (hN : ∀ j, (G.X j).N.Nodup) (hi : ∀ j, (G.X j).N[i]? = some x := by intro _; rfl) (hx : ∀ j, Loc (G.X j).env.scope x := by intro _; first | exact Or.inl rfl | exact Or.inr rfl) (hf : ∀ j, (G.X j).fn x = true ∨ (G.X j).env.scope.names.lookup x = some .local := by intro _; first | exact Or.inl rfl | exact Or.inr rfl) (h : DenE G e we)
    (hs : ∀ j, swapsWith e (some (.Name x p)) pos.line (G.X j).env = pure false := by intro _; rfl) : Den G Wx (.Assign [.Name x p] e pos) (wSet i we) := by
  obtain ⟨t, h1, h2⟩ := h
  refine ⟨_, fun j => ps_set (hN j) (hi j) (hx j) (h1 j) (hs j) (hf j), fun W F0 H0 F H σ env P T s h c => ?_⟩
  exact h2 W F0 H0 F H σ env _ _ s h fun v d F' H' e r q => c.nx _ _ F' H' e.f ((s.step e).setSh r) q
/-- name = [..], the name a local -/
theorem s_setLc {i : Nat} {y : Str} {py : Pos} {elt tg iter : Expr} {ifs : List Expr} {scope : Scope} {own : List (Str × Nat)} {lpos : Pos} {wi : WL} {g : WG} {tt : WT} {te : WE} (hc : Calm G) (hN : ∀ i, (G.X i).N.Nodup) (hy : ∀ j, (G.X j).N[i]? = some y := by intro _; rfl) (hyl : ∀ j, (G.X j).env.scope.names.lookup y = some .local := by intro _; rfl)
    (hsw : ∀ j, swapsWith (.ListComp elt [⟨tg, iter, ifs, 0⟩] scope lpos) (some (.Name y py)) pos.line (G.X j).env = pure true := by intro _; exact sw_true rfl rfl rfl (by kernel_rfl)) (hi : DenI G tg iter wi) (ok : ∀ i, BlkOk (G.X i).N (G.X i).env.scope scope own := by intro _; exact blkOk_by (by kernel_rfl))
    (hg : DenG (G.blk scope) tg (own.map (·.2)) g) (ht : DenTs (G.blk scope) ifs tt) (he : DenE (G.blk scope) elt te) (hs : ∀ i x, foldedSetIterable iter (G.X i).env x = pure x := by intro _ _; rfl) :
    Den G Wx (.Assign [.Name y py] (.ListComp elt [⟨tg, iter, ifs, 0⟩] scope lpos) pos) (wSet i (wLc wi g tt te (own.map (·.2)))) := by
  obtain ⟨ti, i1, i2⟩ := hi
  obtain ⟨tg', g1, g2⟩ := hg
  obtain ⟨t2, t1, t3⟩ := ht
  obtain ⟨t4, e1, e2⟩ := he
  refine ⟨_, fun j => ps_setLc (hc j) (hN j) (hy j) (hyl j) (hsw j) (i1 j) (ok j) (fun s H C cl fp => g1 ⟨j, s, H, C, cl, fp⟩) (fun s H C cl fp => t1 ⟨j, s, H, C, cl, fp⟩) (fun s H C cl fp => e1 ⟨j, s, H, C, cl, fp⟩) (hs j), fun W F0 H0 F H σ env P T s h c => ?_⟩
  exact snd_lc i2 g2 t3 e2 W F0 H0 F H σ env _ _ s h fun v d F' H' e r q => c.nx _ _ F' H' e.f ((s.step e).setSh r) q
/-- a, b = e -/
def wAsgG (w : WE) (g : WG) : WS := fun env P => w env fun d => g d env P.nx
@[simp ↓] theorem wAsgG_ap (w : WE) (g : WG) env P : wAsgG w g env P = (w env fun d => g d env P.nx) := Eq.trans rfl rfl
theorem s_asg {tg : Expr} {vs : List Nat} {g : WG} (h : DenE G e we) (hg : DenG G tg vs g) (hs : ∀ i, swapsWithSole [tg] e pos.line (G.X i).env = pure false := by intro _; rfl) (hw : ∀ i, swappedStores [tg] e (G.X i).env = pure none := by intro _; rfl)
    (h1 : ∀ i, (assignEach [tg] (G.X i).env).map (·.2) = [assign tg (G.X i).env] := by intro _; rfl) : Den G Wx (.Assign [tg] e pos) (wAsgG we g) := by
  obtain ⟨t, a1, a2⟩ := h
  obtain ⟨u, b1, b2⟩ := hg
  refine ⟨_, fun i => ps_asg (a1 i) (b1 i) (hs i) (hw i) (h1 i), fun W F0 H0 F H σ env P T s h c => ?_⟩
  refine a2 W F0 H0 F H σ env _ _ s h fun v d F' H' e r q => ?_
  exact b2 W F0 H0 F' H' σ env v d _ _ (s.step e) r q fun σ' env' s' _ q' => c.nx σ' env' F' H' e.f s' q'
/-- a, b = x, y, plain names -/
def wPar (i j : Nat) (wa wb : WE) : WS := fun env P => wa env fun d => wb env fun c => P.nx ((env.set i (some (.sh d))).set j (some (.sh c)))
@[simp ↓] theorem wPar_ap (i j : Nat) (wa wb : WE) env P : wPar i j wa wb env P = (wa env fun d => wb env fun c => P.nx ((env.set i (some (.sh d))).set j (some (.sh c)))) := Eq.trans rfl rfl
theorem s_par {i j : Nat} {x y : Str} {a b : Expr} {wa wb : WE} {px py pt pt2 : Pos} {kt k2 : Nat} (hc : Calm G) (hN : ∀ k, (G.X k).N.Nodup) (hi : ∀ k, (G.X k).N[i]? = some x := by intro _; rfl) (hj : ∀ k, (G.X k).N[j]? = some y := by intro _; rfl) (hij : i ≠ j) (hx : ∀ k, (G.X k).env.scope.names.lookup x = some .local := by intro _; rfl) (hy : ∀ k, (G.X k).env.scope.names.lookup y = some .local := by intro _; rfl)
    (ha : DenE G a wa) (hb : DenE G b wb) (hw : ∀ k, swappedStores [.Tuple [.Name x px, .Name y py] kt pt] (.Tuple [a, b] k2 pt2) (G.X k).env = pure (some [x, y]) := by intro _; rfl)
    (hs : ∀ k, swapsWithSole [.Tuple [.Name x px, .Name y py] kt pt] (.Tuple [a, b] k2 pt2) pos.line (G.X k).env = pure false := by intro _; rfl)
    (h1 : ∀ k, starEach [a, b] (G.X k).env = (false, eval a (G.X k).env) :: starEach [b] (G.X k).env := by intro _; rfl) (h2 : ∀ k, starEach [b] (G.X k).env = (false, eval b (G.X k).env) :: starEach [] (G.X k).env := by intro _; rfl) :
    Den G Wx (.Assign [.Tuple [.Name x px, .Name y py] kt pt] (.Tuple [a, b] k2 pt2) pos) (wPar i j wa wb) := by
  obtain ⟨t, a1, a2⟩ := ha
  obtain ⟨u, b1, b2⟩ := hb
  refine ⟨_, fun k => ps_par (hc k) (hN k) (hi k) (hj k) hij (hx k) (hy k) (pa_cons (a1 k) (pa_cons (b1 k) pa_nil (h2 k)) (h1 k)) (hw k) (hs k), fun W F0 H0 F H σ env P T s h c => ?_⟩
  refine a2 W F0 H0 F H σ env _ _ s h fun v d F1 H1 e1 r1 q1 => ?_
  refine b2 W F0 H0 F1 H1 σ env _ _ (s.step e1) q1 fun v2 d2 F2 H2 e2 r2 q2 => ?_
  exact ⟨v, v2, rfl, c.nx _ _ F2 H2 (e1.f.trans e2.f) ((((s.step e1).step e2).setSh (Rp.mono e2.f r1)).setSh r2) q2⟩
/-! ### lists of the frame's own -/
/-- an expression that makes a new list -/
abbrev WN := Env → (List D → Prop) → Prop
def SndN (K : KT) (t : TE) (w : WN) : Prop := ∀ (W : Option Addr) (F0 H0 F H : Hp) (σ : L2.St) (env : Env) (Q : List D → Prop) (R : VK), StR K W F0 H0 F H σ env → w env Q →
  (∀ a vs ds F1 H1, Ext K W F H F1 H1 → H1 a = none → vs.length ≤ sizeLine → Rps K F1 vs ds → Q ds → R (.ref a) (upd H1 a (.lst vs))) → t σ H R
def DenN (G : Fam) (e : Expr) (w : WN) : Prop := ∃ t, (∀ i, PE (G.X i) e t) ∧ SndN G.K t w
def wLstN (r : WA) : WN := fun env Q => r env fun xs => match shs xs with
  | some ds => ds.length ≤ sizeLine ∧ Q ds
  | none => False
@[simp ↓] theorem wLstN_ap (r : WA) env Q : wLstN r env Q = (r env fun xs => match shs xs with
  | some ds => ds.length ≤ sizeLine ∧ Q ds
  | none => False) := Eq.trans rfl rfl
theorem n_lst {es : List Expr} {r : WA} (h : DenA G es r) : DenN G (.List es pos) (wLstN r) := by
  obtain ⟨t, h1, h2⟩ := h
  refine ⟨_, fun i => pe_lst (h1 i), fun W F0 H0 F H σ env Q R s h k => ?_⟩
  refine h2 W F0 H0 F H σ env _ _ s h fun vs ens F1 H1 e1 r1 _ q1 => ?_
  split at q1
  · rename_i ds q
    have r2 := r1.shs q
    exact ⟨by rw [r2.length]; exact q1.1, fun p hp => k p vs ds F1 H1 e1 hp (by rw [r2.length]; exact q1.1) r2 q1.2⟩
  · exact q1.elim
theorem StR.setNew {K : KT} {W : Option Addr} {F0 H0 F H F1 H1 : Hp} {σ : L2.St} {env : Env} {i : Nat} {a : Addr} {vs : List V} {ds : List D} (s : StR K W F0 H0 F H σ env) (e : Ext K W F H F1 H1) (ha : H1 a = none) (hl : vs.length ≤ sizeLine) (r : Rps K F1 vs ds) :
    StR K W F0 H0 F1 (upd H1 a (.lst vs)) (σ.set i (some (.ref a))) (env.set i (some (.ow none ds))) := by
  have s1 := s.step e
  obtain ⟨h0, f1, nw⟩ := s1.ext.fresh ha
  have s2 := s1.aside (o := .lst vs) h0 f1 nw (fun _ z => by rw [ha] at z; cases z) (s1.notOw ha)
  exact s2.setOw (a := a) (t := none) ⟨a, vs, rfl, (fun _ z => nomatch z), h0, f1, nw, upd_same, hl, r⟩ (s1.newIn ha)
def wSetN (i : Nat) (w : WN) : WS := fun env P => w env fun ds => P.nx (env.set i (some (.ow none ds)))
@[simp ↓] theorem wSetN_ap (i : Nat) (w : WN) env P : wSetN i w env P = (w env fun ds => P.nx (env.set i (some (.ow none ds)))) := Eq.trans rfl rfl
theorem s_setN {i : Nat} {x : Str} {p : Pos} {wn : WN} (hN : ∀ j, (G.X j).N.Nodup) (hi : ∀ j, (G.X j).N[i]? = some x := by intro _; rfl) (hx : ∀ j, Loc (G.X j).env.scope x := by intro _; first | exact Or.inl rfl | exact Or.inr rfl) (hf : ∀ j, (G.X j).fn x = true ∨ (G.X j).env.scope.names.lookup x = some .local := by intro _; first | exact Or.inl rfl | exact Or.inr rfl) (h : DenN G e wn)
    (hs : ∀ j, swapsWith e (some (.Name x p)) pos.line (G.X j).env = pure false := by intro _; rfl) : Den G Wx (.Assign [.Name x p] e pos) (wSetN i wn) := by
  obtain ⟨t, h1, h2⟩ := h
  refine ⟨_, fun j => ps_set (hN j) (hi j) (hx j) (h1 j) (hs j) (hf j), fun W F0 H0 F H σ env P T s h c => ?_⟩
  exact h2 W F0 H0 F H σ env _ _ s h fun a vs ds F1 H1 e ha hl r q => c.nx _ _ F1 _ e.f (s.setNew e ha hl r) q
/-- a, b = x, a new list -/
def wParN (i j : Nat) (wa : WE) (wb : WN) : WS := fun env P => wa env fun d => wb env fun ds => P.nx ((env.set i (some (.sh d))).set j (some (.ow none ds)))
@[simp ↓] theorem wParN_ap (i j : Nat) (wa : WE) (wb : WN) env P : wParN i j wa wb env P = (wa env fun d => wb env fun ds => P.nx ((env.set i (some (.sh d))).set j (some (.ow none ds)))) := Eq.trans rfl rfl
theorem s_parN {i j : Nat} {x y : Str} {a b : Expr} {wa : WE} {wb : WN} {px py pt pt2 : Pos} {kt k2 : Nat} (hc : Calm G) (hN : ∀ k, (G.X k).N.Nodup) (hi : ∀ k, (G.X k).N[i]? = some x := by intro _; rfl) (hj : ∀ k, (G.X k).N[j]? = some y := by intro _; rfl) (hij : i ≠ j) (hx : ∀ k, (G.X k).env.scope.names.lookup x = some .local := by intro _; rfl) (hy : ∀ k, (G.X k).env.scope.names.lookup y = some .local := by intro _; rfl)
    (ha : DenE G a wa) (hb : DenN G b wb) (hw : ∀ k, swappedStores [.Tuple [.Name x px, .Name y py] kt pt] (.Tuple [a, b] k2 pt2) (G.X k).env = pure (some [x, y]) := by intro _; rfl)
    (hs : ∀ k, swapsWithSole [.Tuple [.Name x px, .Name y py] kt pt] (.Tuple [a, b] k2 pt2) pos.line (G.X k).env = pure false := by intro _; rfl)
    (h1 : ∀ k, starEach [a, b] (G.X k).env = (false, eval a (G.X k).env) :: starEach [b] (G.X k).env := by intro _; rfl) (h2 : ∀ k, starEach [b] (G.X k).env = (false, eval b (G.X k).env) :: starEach [] (G.X k).env := by intro _; rfl) :
    Den G Wx (.Assign [.Tuple [.Name x px, .Name y py] kt pt] (.Tuple [a, b] k2 pt2) pos) (wParN i j wa wb) := by
  obtain ⟨t, a1, a2⟩ := ha
  obtain ⟨u, b1, b2⟩ := hb
  refine ⟨_, fun k => ps_par (hc k) (hN k) (hi k) (hj k) hij (hx k) (hy k) (pa_cons (a1 k) (pa_cons (b1 k) pa_nil (h2 k)) (h1 k)) (hw k) (hs k), fun W F0 H0 F H σ env P T s h c => ?_⟩
  refine a2 W F0 H0 F H σ env _ _ s h fun v d F1 H1 e1 r1 q1 => ?_
  refine b2 W F0 H0 F1 H1 σ env _ _ (s.step e1) q1 fun l vs ds F2 H2 e2 hl hz r2 q2 => ?_
  refine ⟨v, .ref l, rfl, c.nx _ _ F2 _ (e1.f.trans e2.f) ?_ q2⟩
  exact ((s.step e1).setSh r1).setNew e2 hl hz r2
/-- x = y, y's own list goes -/
def wMove (i j : Nat) : WS := fun env P => match env[j]? with
  | some (some (.ow t ds)) => P.nx ((env.set j none).set i (some (.sh (.list ds))))
  | _ => False
@[simp ↓] theorem wMove_ap (i j : Nat) env P : wMove i j env P = (match env[j]? with
  | some (some (.ow t ds)) => P.nx ((env.set j none).set i (some (.sh (.list ds))))
  | _ => False) := Eq.trans rfl rfl
theorem StR.moved {K : KT} {W : Option Addr} {F0 H0 F H : Hp} {σ : L2.St} {env : Env} {j : Nat} {t : Option Addr} {ds : List D} (s : StR K W F0 H0 F H σ env) (hj : env[j]? = some (some (.ow t ds))) : ∃ a F1, σ[j]? = some (some (.ref a)) ∧ Same F F1 ∧ StR K W F0 H0 F1 H σ (env.set j none) ∧ Rp K F1 (.ref a) (.list ds) := by
  obtain ⟨v, h1, a, vs, rfl, qt, q2, q3, q4, q5, q6, q7⟩ := s.ent j _ hj
  have sm : Same F (upd F a (.lst vs)) := fun b o z => by
    rw [upd_ne (ne_of_none z q3)]
    exact z
  exact ⟨a, upd F a (.lst vs), h1, sm, s.letGo hj h1 q2 q3 q4 q5, .lst upd_same q6 (Rps.mono sm q7)⟩
theorem s_move {i j : Nat} {x y : Str} {p p2 : Pos} (hN : ∀ k, (G.X k).N.Nodup) (hi : ∀ k, (G.X k).N[i]? = some x := by intro _; rfl) (hx : ∀ k, Loc (G.X k).env.scope x := by intro _; first | exact Or.inl rfl | exact Or.inr rfl) (hf : ∀ k, (G.X k).fn x = true ∨ (G.X k).env.scope.names.lookup x = some .local := by intro _; first | exact Or.inl rfl | exact Or.inr rfl) (hj : ∀ k, (G.X k).N[j]? = some y := by intro _; rfl) (hv : ∀ k, Vis (G.X k).env.scope y := by intro _; first | exact Or.inl rfl | exact Or.inr (Or.inl rfl) | exact Or.inr (Or.inr rfl))
    (hd : (y == ("__debug__" : Str)) = false := by decide) (hcd : (y == ("__classdict__" : Str)) = false := by decide)
    (hs : ∀ k, swapsWith (.Name y p2) (some (.Name x p)) pos.line (G.X k).env = pure false := by intro _; rfl) : Den G Wx (.Assign [.Name x p] (.Name y p2) pos) (wMove i j) := by
  refine ⟨_, fun k => ps_set (hN k) (hi k) (hx k) (pe_var (hj k) (hv k) hd hcd) (hs k) (hf k), fun W F0 H0 F H σ env P T s h c => ?_⟩
  unfold wMove at h
  split at h
  · rename_i t ds q
    obtain ⟨a, F1, h1, m, s1, r⟩ := s.moved q
    exact ⟨_, h1, c.nx _ _ F1 H m (s1.setSh r) h⟩
  · exact h.elim
def wRetOw (j : Nat) : WS := fun env P => match env[j]? with
  | some (some (.ow t ds)) => P.rt (.list ds) (env.set j none)
  | _ => False
@[simp ↓] theorem wRetOw_ap (j : Nat) env P : wRetOw j env P = (match env[j]? with
  | some (some (.ow t ds)) => P.rt (.list ds) (env.set j none)
  | _ => False) := Eq.trans rfl rfl
theorem s_retOw {j : Nat} {y : Str} {p2 : Pos} (hj : ∀ k, (G.X k).N[j]? = some y := by intro _; rfl) (hv : ∀ k, Vis (G.X k).env.scope y := by intro _; first | exact Or.inl rfl | exact Or.inr (Or.inl rfl) | exact Or.inr (Or.inr rfl)) (hd : (y == ("__debug__" : Str)) = false := by decide) (hcd : (y == ("__classdict__" : Str)) = false := by decide) : Den G Wx (.Return (some (.Name y p2)) pos) (wRetOw j) := by
  refine ⟨_, fun k => ps_ret (pe_var (hj k) (hv k) hd hcd), fun W F0 H0 F H σ env P T s h c => ?_⟩
  unfold wRetOw at h
  split at h
  · rename_i t ds q
    obtain ⟨a, F1, h1, m, s1, r⟩ := s.moved q
    exact ⟨_, h1, c.rt _ _ σ _ F1 H s1 r h⟩
  · exact h.elim
/-- x.append(e) -/
def wApp (i : Nat) (w : WE) : WS := fun env P => match env[i]? with
  | some (some (.ow t ds)) => w env fun d => ds.length < sizeLine ∧ P.nx (env.set i (some (.ow t (ds ++ [d]))))
  | _ => False
@[simp ↓] theorem wApp_ap (i : Nat) (w : WE) env P : wApp i w env P = (match env[i]? with
  | some (some (.ow t ds)) => w env fun d => ds.length < sizeLine ∧ P.nx (env.set i (some (.ow t (ds ++ [d]))))
  | _ => False) := Eq.trans rfl rfl
theorem s_app {i : Nat} {x : Str} {p apos cpos : Pos} (hi : ∀ k, (G.X k).N[i]? = some x := by intro _; rfl) (hv : ∀ k, Vis (G.X k).env.scope x := by intro _; first | exact Or.inl rfl | exact Or.inr (Or.inl rfl) | exact Or.inr (Or.inr rfl)) (h : DenE G e we) (hd : (x == ("__debug__" : Str)) = false := by decide) (hcd : (x == ("__classdict__" : Str)) = false := by decide)
    (hbase : ∀ k, attributeBase (.Name x p) "append" (G.X k).env (eval (.Name x p) (G.X k).env) = eval (.Name x p) (G.X k).env := by intro _; rfl)
    (hfew : ∀ k, ((backTo cpos (starEach [e] (G.X k).env)).all (fun x => !x.1) && (backToKw cpos (keywordEach [] (G.X k).env)).all (fun x => x.1.isSome)
      && decide (([e] : List Expr).length + ([] : List Keyword).length + (if ([] : List Keyword).isEmpty then 0 else 1) < 30)) = true := by intro _; rfl)
    (hline : (apos.endLine == cpos.line) = true := by rfl) (hs : ∀ k, starEach [e] (G.X k).env = (false, eval e (G.X k).env) :: starEach [] (G.X k).env := by intro _; rfl)
    (hsw : ∀ k, swapsWith (.Call (.Attribute (.Name x p) "append" apos) [e] [] cpos) none pos.line (G.X k).env = pure false := by intro _; rfl) :
    Den G Wx (.Expr (.Call (.Attribute (.Name x p) "append" apos) [e] [] cpos) pos) (wApp i we) := by
  obtain ⟨t, h1, h2⟩ := h
  refine ⟨fun T σ H => tVar i σ H fun x H1 => tyV G.K "list" x H1 ∧ tCons t tNil σ H1 fun xs H2 => rAppend x xs H2 fun _ H3 => T.nx σ H3, fun k => ?_, fun W F0 H0 F H σ env P T s h c => ?_⟩
  · have z := ps_expr (pos := pos) (pe_bm (T := "list") (name := "append") (id := "list.append") (apos := apos) (cpos := cpos) PySem.F.plainAttrs_list PySem.F.slot_list_append PySem.F.type_list_append mt_append (pe_var (pos := p) (hi k) (hv k) hd hcd) (pa_cons (h1 k) pa_nil (hs k)) (hbase k) (hfew k) hline (hs k) rfl) (hsw k)
    unfold tBM tDrop at z
    rw [G.hK k] at z
    exact z
  · unfold wApp at h
    split at h
    · rename_i t ds q
      obtain ⟨v, g1, a, vs, rfl, gt, g2, g3, g4, g5, g6, g7⟩ := s.ent i _ q
      refine ⟨_, g1, .inl ⟨rfl, vs, SqL.of g5⟩, ?_⟩
      refine h2 W F0 H0 F H σ env _ _ s h fun v d F1 H1 e1 r1 q1 => ?_
      have s1 := s.step e1
      have ha : H1 a = some (.lst vs) := e1.keep a _ g5 g4 nt_lst
      exact ⟨a, vs, v, rfl, rfl, ha, by rw [g7.length]; exact q1.1, c.nx _ _ F1 _ e1.f (s1.mutOw gt q g1 g2 (e1.opn a _ g5 g3 nt_lst) g4 ha (by rw [List.length_append, List.length_singleton, g7.length]; exact q1.1) ((Rps.mono e1.f g7).append (.one r1))) q1.2⟩
    · exact h.elim
/-- x.extend(e) -/
def wExt (i : Nat) (w : WE) : WS := fun env P => match env[i]? with
  | some (some (.ow t ds)) => w env fun d => match d with
    | .list es => ds.length + es.length ≤ sizeLine ∧ P.nx (env.set i (some (.ow t (ds ++ es))))
    | _ => False
  | _ => False
@[simp ↓] theorem wExt_ap (i : Nat) (w : WE) env P : wExt i w env P = (match env[i]? with
  | some (some (.ow t ds)) => w env fun d => match d with
    | .list es => ds.length + es.length ≤ sizeLine ∧ P.nx (env.set i (some (.ow t (ds ++ es))))
    | _ => False
  | _ => False) := Eq.trans rfl rfl
theorem s_ext {i : Nat} {x : Str} {p apos cpos : Pos} (hi : ∀ k, (G.X k).N[i]? = some x := by intro _; rfl) (hv : ∀ k, Vis (G.X k).env.scope x := by intro _; first | exact Or.inl rfl | exact Or.inr (Or.inl rfl) | exact Or.inr (Or.inr rfl)) (h : DenB G e we) (hd : (x == ("__debug__" : Str)) = false := by decide) (hcd : (x == ("__classdict__" : Str)) = false := by decide)
    (hbase : ∀ k, attributeBase (.Name x p) "extend" (G.X k).env (eval (.Name x p) (G.X k).env) = eval (.Name x p) (G.X k).env := by intro _; rfl)
    (hfew : ∀ k, ((backTo cpos (starEach [e] (G.X k).env)).all (fun x => !x.1) && (backToKw cpos (keywordEach [] (G.X k).env)).all (fun x => x.1.isSome)
      && decide (([e] : List Expr).length + ([] : List Keyword).length + (if ([] : List Keyword).isEmpty then 0 else 1) < 30)) = true := by intro _; rfl)
    (hline : (apos.endLine == cpos.line) = true := by rfl) (hs : ∀ k, starEach [e] (G.X k).env = (false, eval e (G.X k).env) :: starEach [] (G.X k).env := by intro _; rfl)
    (hsw : ∀ k, swapsWith (.Call (.Attribute (.Name x p) "extend" apos) [e] [] cpos) none pos.line (G.X k).env = pure false := by intro _; rfl) :
    Den G Wx (.Expr (.Call (.Attribute (.Name x p) "extend" apos) [e] [] cpos) pos) (wExt i we) := by
  obtain ⟨t, h1, h2⟩ := h
  refine ⟨fun T σ H => tVar i σ H fun x H1 => tyV G.K "list" x H1 ∧ tCons t tNil σ H1 fun xs H2 => rExtend x xs H2 fun _ H3 => T.nx σ H3, fun k => ?_, fun W F0 H0 F H σ env P T s h c => ?_⟩
  · have z := ps_expr (pos := pos) (pe_bm (T := "list") (name := "extend") (id := "list.extend") (apos := apos) (cpos := cpos) PySem.F.plainAttrs_list PySem.F.slot_list_extend PySem.F.type_list_extend mt_extend (pe_var (pos := p) (hi k) (hv k) hd hcd) (pa_cons (h1 k) pa_nil (hs k)) (hbase k) (hfew k) hline (hs k) rfl) (hsw k)
    unfold tBM tDrop at z
    rw [G.hK k] at z
    exact z
  · unfold wExt at h
    split at h
    · rename_i t ds q
      obtain ⟨v, g1, a, vs, rfl, gt, g2, g3, g4, g5, g6, g7⟩ := s.ent i _ q
      refine ⟨_, g1, .inl ⟨rfl, vs, SqL.of g5⟩, ?_⟩
      refine h2 W F0 H0 F H σ env _ _ s h fun v d F1 H1 e1 r1 q1 => ?_
      have s1 := s.step e1
      have ha : H1 a = some (.lst vs) := e1.keep a _ g5 g4 nt_lst
      split at q1
      · obtain ⟨b, ws, rfl, k1, k2, k3⟩ := r1.list e1.u
        have hl : vs.length + ws.length ≤ sizeLine := by rw [g7.length, k3.length]; exact q1.1
        exact ⟨a, b, vs, ws, rfl, rfl, ha, k1, hl, c.nx _ _ F1 _ e1.f (s1.mutOw gt q g1 g2 (e1.opn a _ g5 g3 nt_lst) g4 ha (by rw [List.length_append]; exact hl) ((Rps.mono e1.f g7).append k3)) q1.2⟩
      · exact q1.elim
    · exact h.elim
/-- x += e, ints -/
def wAugI (i : Nat) (f : Int → Int → Int) (w : WE) : WS := fun env P => match env[i]? with
  | some (some (.sh (.int m))) => w env fun d => match d with
    | .int n => P.nx (env.set i (some (.sh (.int (f m n)))))
    | _ => False
  | _ => False
@[simp ↓] theorem wAugI_ap (i : Nat) (f : Int → Int → Int) (w : WE) env P : wAugI i f w env P = (match env[i]? with
  | some (some (.sh (.int m))) => w env fun d => match d with
    | .int n => P.nx (env.set i (some (.sh (.int (f m n)))))
    | _ => False
  | _ => False) := Eq.trans rfl rfl
theorem s_augI {i : Nat} {x : Str} {p : Pos} {op : Operator} {f : Int → Int → Int} (hN : ∀ j, (G.X j).N.Nodup) (hi : ∀ j, (G.X j).N[i]? = some x := by intro _; rfl) (hx : ∀ j, Loc (G.X j).env.scope x := by intro _; first | exact Or.inl rfl | exact Or.inr rfl) (hf : ∀ j, (G.X j).fn x = true ∨ (G.X j).env.scope.names.lookup x = some .local := by intro _; first | exact Or.inl rfl | exact Or.inr rfl) (ho : ∀ j, PIp (G.X j) op (ipI f)) (h : DenE G e we) : Den G Wx (.AugAssign (.Name x p) op e pos) (wAugI i f we) := by
  obtain ⟨t, h1, h2⟩ := h
  refine ⟨_, fun j => ps_aug (hN j) (hi j) (hx j) (h1 j) (ho j) (hf j), fun W F0 H0 F H σ env P T s h c => ?_⟩
  unfold wAugI at h
  split at h
  · rename_i m q
    obtain ⟨v, g1, g2⟩ := s.ent i _ q
    cases g2
    refine ⟨_, g1, h2 W F0 H0 F H σ env _ _ s h fun v d F1 H1 e1 r1 q1 => ?_⟩
    split at q1
    · cases r1
      exact ⟨_, _, rfl, rfl, c.nx _ _ F1 H1 e1.f ((s.step e1).setSh (.int _)) q1⟩
    · exact q1.elim
  · exact h.elim
/-! ### loops -/
@[simp] def forW (g : WG) (b : WS) (ws : List Nat) (P : Post) : List D → Env → Prop
  | [], env => P.nx env
  | d :: ds, env => g d env fun env2 => b env2 { P with nx := fun env3 => forW g b ws P ds (wipeE env3 ws), ct := fun env3 => forW g b ws P ds (wipeE env3 ws), bk := P.nx }
/-- ws: the slots that no later turn and nothing behind the loop asks for -/
def wFor (wi : WL) (g : WG) (b : WS) (ws : List Nat) : WS := fun env P => wi env fun ds => forW g b ws P ds (wipeE env ws)
@[simp ↓] theorem wFor_ap (wi : WL) (g : WG) (b : WS) (ws : List Nat) env P : wFor wi g b ws env P = (wi env fun ds => forW g b ws P ds (wipeE env ws)) := Eq.trans rfl rfl
theorem s_for {tg iter : Expr} {body : List Stmt} {vs : List Nat} {wi : WL} {g : WG} {wb : WS} (ws : List Nat) (hp : ∀ i, PassesOwn (model (G.X i).prog (G.X i).w) (G.X i).A (G.X i).env (G.X i).xe) (hc : Calm G) (hi : DenI G tg iter wi) (hg : DenG G tg vs g) (hb : Dens G Wx body wb)
    (hs : ∀ i x, foldedSetIterable iter (G.X i).env x = pure x := by intro _ _; rfl) : Den G Wx (.For tg iter body [] pos) (wFor wi g wb ws) := by
  obtain ⟨ti, i1, i2⟩ := hi
  obtain ⟨tg', g1, g2⟩ := hg
  obtain ⟨tb, b1, b2⟩ := hb
  refine ⟨_, fun i => ps_for (hp i) (hc i) (i1 i) (g1 i) (b1 i) (hs i), fun W F0 H0 F H σ env P T s h c => ?_⟩
  refine i2 W F0 H0 F H σ env _ _ s h fun J ds F1 H1 e1 wk q1 => ?_
  obtain ⟨hl, B, Y, wk, hB, hY⟩ := wk
  refine for_it wk (fun i σ' H' => ∃ (Fc : Hp) (env' : Env), StR G.K W F0 H0 Fc H' σ' env' ∧ Same F1 Fc ∧ forW g wb ws P (ds.drop i) env') ?_ ?_ ?_ ?_
  · exact ⟨F1, _, (s.step e1).forget ws, Same.refl _, by rw [List.drop_zero]; exact q1⟩
  · rintro i σ' H' _ ⟨Fc, env', sc, sm, _⟩
    exact hB Fc H' sm sc.u
  · rintro i x σ' Hc H' hlt ⟨Fc, env', sc, sm, q⟩ y
    have hd : ds[i]? = some ds[i] := by simp [hlt]
    rw [List.drop_eq_getElem_cons hlt] at q
    obtain ⟨F2, e2, rx⟩ := hY Fc Hc i x H' ds[i] sm sc.u sc.w hd y
    refine g2 W F0 H0 F2 H' σ' env' x ds[i] _ _ (sc.step e2) rx q fun σ2 env2 s2 _ q2 => ?_
    have sm2 := sm.trans e2.f
    have sm3 : Same F F2 := e1.f.trans sm2
    refine b2 W F0 H0 F2 H' σ2 env2 _ _ s2 q2 ⟨fun σ3 env3 F3 H3 m s3 q3 => ⟨F3, _, s3.forget ws, sm2.trans m, q3⟩, c.rt, fun σ3 env3 F3 H3 m s3 q3 => c.nx σ3 env3 F3 H3 (sm3.trans m) s3 q3, fun σ3 env3 F3 H3 m s3 q3 => ⟨F3, _, s3.forget ws, sm2.trans m, q3⟩, fun x oe σ3 env3 F3 H3 m => c.xe x oe σ3 env3 F3 H3 (sm3.trans m)⟩
  · rintro σ' H' ⟨Fc, env', sc, sm, q⟩
    rw [List.drop_length] at q
    exact c.nx σ' env' Fc H' (e1.f.trans sm) sc q
def whileW (c : WT) (b : WS) (ws : List Nat) (P : Post) : Nat → Env → Prop
  | 0, _ => False
  | n + 1, env => c env fun x => if x = true then b env { P with nx := fun env2 => whileW c b ws P n (wipeE env2 ws), ct := fun env2 => whileW c b ws P n (wipeE env2 ws), bk := P.nx } else P.nx env
def wWhile (c : WT) (b : WS) (ws : List Nat) : WS := fun env P => ∃ n, whileW c b ws P n (wipeE env ws)
theorem s_while {c : Expr} {body : List Stmt} {wc : WT} {wb : WS} (ws : List Nat) (hp : ∀ i, PassesOwn (model (G.X i).prog (G.X i).w) (G.X i).A (G.X i).env (G.X i).xe) (hc : DenT G c wc) (hb : Dens G Wx body wb) : Den G Wx (.While c body [] pos) (wWhile wc wb ws) := by
  obtain ⟨tc, c1, c2⟩ := hc
  obtain ⟨tb, b1, b2⟩ := hb
  refine ⟨_, fun i => ps_while (hp i) (c1 i) (b1 i), fun W F0 H0 F H σ env P T s h c => ?_⟩
  obtain ⟨n, h⟩ := h
  refine ⟨fun m σ' H' => ∃ (Fc : Hp) (env' : Env), StR G.K W F0 H0 Fc H' σ' env' ∧ Same F Fc ∧ whileW wc wb ws P m env', ⟨n, F, _, s.forget ws, Same.refl _, h⟩, ?_⟩
  rintro m σ' H' ⟨Fc, env', sc, sm, q⟩
  cases m with
  | zero => exact q.elim
  | succ m =>
    refine c2 W F0 H0 Fc H' σ' env' _ _ sc q fun x F1 H1 e1 q1 => ?_
    have sm1 := sm.trans e1.f
    cases x with
    | true =>
      rw [if_pos rfl] at q1 ⊢
      refine ⟨fun σ2 H2 => ∃ (F2 : Hp) (env2 : Env), StR G.K W F0 H0 F2 H2 σ2 env2 ∧ Same F F2 ∧ whileW wc wb ws P m env2, fun σ2 H2 p => ⟨m, Nat.lt_succ_self m, p⟩, ?_⟩
      exact b2 W F0 H0 F1 H1 σ' env' _ _ (sc.step e1) q1 ⟨fun σ3 env3 F3 H3 k s3 q3 => ⟨F3, _, s3.forget ws, sm1.trans k, q3⟩, c.rt, fun σ3 env3 F3 H3 k s3 q3 => c.nx σ3 env3 F3 H3 (sm1.trans k) s3 q3, fun σ3 env3 F3 H3 k s3 q3 => ⟨F3, _, s3.forget ws, sm1.trans k, q3⟩, fun x oe σ3 env3 F3 H3 k => c.xe x oe σ3 env3 F3 H3 (sm1.trans k)⟩
    | false =>
      rw [if_neg Bool.false_ne_true] at q1 ⊢
      exact c.nx σ' env' F1 H1 sm1 (sc.step e1) q1
/-- x[k] = e, a list of the frame's own -/
def wSetIx (i : Nat) (wk w : WE) : WS := fun env P => w env fun d => match env[i]? with
  | some (some (.ow t ds)) => wk env fun k => match k with
    | .int k => match ixN ds.length k with
      | some j => P.nx (env.set i (some (.ow t (ds.set j d))))
      | none => False
    | _ => False
  | _ => False
@[simp ↓] theorem wSetIx_ap (i : Nat) (wk w : WE) env P : wSetIx i wk w env P = (w env fun d => match env[i]? with
  | some (some (.ow t ds)) => wk env fun k => match k with
    | .int k => match ixN ds.length k with
      | some j => P.nx (env.set i (some (.ow t (ds.set j d))))
      | none => False
    | _ => False
  | _ => False) := Eq.trans rfl rfl
theorem s_setIx {i : Nat} {x : Str} {p p2 : Pos} {ix : Expr} {wk : WE} (hi : ∀ k, (G.X k).N[i]? = some x := by intro _; rfl) (hv : ∀ k, Vis (G.X k).env.scope x := by intro _; first | exact Or.inl rfl | exact Or.inr (Or.inl rfl) | exact Or.inr (Or.inr rfl)) (hk : DenE G ix wk) (h : DenE G e we) (hd : (x == ("__debug__" : Str)) = false := by decide) (hcd : (x == ("__classdict__" : Str)) = false := by decide)
    (ha : ∀ k v, assign (.Subscript (.Name x p) ix p2) (G.X k).env v = (do
      let ov ← holding [v] (eval (.Name x p) (G.X k).env)
      let iv ← holding [v, ov] (eval ix (G.X k).env)
      standAt p2
      holding [v, ov, iv] (setItem ov iv v)
      release [v, ov, iv] []) := by intro _ _; rfl)
    (hs : ∀ k, swapsWithSole [.Subscript (.Name x p) ix p2] e pos.line (G.X k).env = pure false := by intro _; rfl) (hw : ∀ k, swappedStores [.Subscript (.Name x p) ix p2] e (G.X k).env = pure none := by intro _; rfl)
    (h1 : ∀ k, (assignEach [.Subscript (.Name x p) ix p2] (G.X k).env).map (·.2) = [assign (.Subscript (.Name x p) ix p2) (G.X k).env] := by intro _; rfl) : Den G Wx (.Assign [.Subscript (.Name x p) ix p2] e pos) (wSetIx i wk we) := by
  obtain ⟨t, a1, a2⟩ := h
  obtain ⟨u, b1, b2⟩ := hk
  refine ⟨_, fun k => ps_asg (a1 k) (pg_sub (pe_var (pos := p) (hi k) (hv k) hd hcd) (b1 k) set_list (ha k)) (hs k) (hw k) (h1 k), fun W F0 H0 F H σ env P T s h c => ?_⟩
  refine a2 W F0 H0 F H σ env _ _ s h fun v d F1 H1 e1 r1 q1 => ?_
  have s1 := s.step e1
  split at q1
  · rename_i t ds q
    obtain ⟨v0, g1, a, vs, rfl, gt, g2, g3, g4, g5, g6, g7⟩ := s1.ent i _ q
    refine ⟨_, g1, b2 W F0 H0 F1 H1 σ env _ _ s1 q1 fun kv kd F2 H2 e2 r2 q2 => ?_⟩
    split at q2
    · rename_i k
      cases r2
      split at q2
      · rename_i j hj
        have ha2 := e2.keep a _ g5 g4 nt_lst
        exact ⟨a, vs, k, j, rfl, rfl, ha2, by rw [g7.length]; exact hj, c.nx _ _ F2 _ (e1.f.trans e2.f) ((s1.step e2).mutOw gt q g1 g2 (e2.opn a _ g5 g3 nt_lst) g4 ha2 (by rw [List.length_set]; exact g6) ((Rps.mono e2.f g7).set (Rp.mono e2.f r1) j)) q2⟩
      · exact q2.elim
    · exact q2.elim
  · exact q1.elim
end
end Dn
/-! Dn9: defs, calls, raise, try. -/
namespace Dn
open PySem PySem.Spec PyProof.Rows L2
/-- what a def does with its arguments: wanted of what it hands back, of what it raises -/
abbrev WF := List En → (D → Prop) → (Xn → Prop) → Prop
def spW (K : KT) (n : Nat) (w : WF) : Sp := fun vs H Q E => ∃ (W : Option Addr) (F : Hp) (as : List En) (A : D → Prop) (B : Xn → Prop), Same F H ∧ WdOk K W F H ∧ RpAs K W F vs as ∧ as.length = n ∧ w as A B ∧
  (∀ v d F' H', Ext K W F H F' H' → Rp K F' v d → A d → Q v H') ∧ ∀ x oe F' H', Ext K W F H F' H' → XnOk K F' H' x oe → B x → E (.ref x.cls) oe H'
theorem RpAs.length {K : KT} {W : Option Addr} {F : Hp} {vs : List V} {as : List En} (r : RpAs K W F vs as) : vs.length = as.length := Paired.length r
theorem spW_len {K : KT} {n : Nat} {w : WF} (vs : List V) (H : Hp) (Q : VK) (E : XK) (h : spW K n w vs H Q E) : vs.length = n := by
  obtain ⟨W, F, as, A, B, _, _, r, l, _⟩ := h
  exact r.length.trans l
@[simp] def startE (n : Nat) (as : List En) : Env := as.map some ++ List.replicate (n - as.length) none
theorem RpAs.get {K : KT} {W : Option Addr} {F : Hp} : ∀ {vs : List V} {as : List En} {i : Nat} {en : En}, RpAs K W F vs as → as[i]? = some en → ∃ v, vs[i]? = some v ∧ RpA K W F v en
  | _, _, _, _, .nil, e => by simp at e
  | _, _, 0, _, .cons h _, e => by simp at e; subst e; exact ⟨_, rfl, h⟩
  | _, _, i + 1, _, .cons _ r, e => by
    obtain ⟨d, h1, h2⟩ := RpAs.get (i := i) r (by simpa using e)
    exact ⟨d, by simpa using h1, h2⟩
theorem stR_start {K : KT} {W : Option Addr} {F H : Hp} {N : List Str} {vs : List V} {as : List En} (u : Same F H) (w : WdOk K W F H) (r : RpAs K W F vs as) : StR K W F H F H (L2.start N vs) (startE N.length as) := by
  have hl := r.length
  have key : ∀ (i : Nat) (en : En), (startE N.length as)[i]? = some (some en) → as[i]? = some en := fun i en h => by
    unfold startE at h
    by_cases q : i < as.length
    · rw [List.getElem?_append_left (by simpa using q), List.getElem?_map] at h
      cases z : as[i]? with
      | none => rw [z] at h; cases h
      | some x => rw [z] at h; cases h; rfl
    · rw [List.getElem?_append_right (by simpa using q)] at h
      have m := List.mem_of_getElem? h
      rw [List.mem_replicate] at m
      cases m.2
  refine ⟨Ext.refl u w, by unfold L2.start startE; simp [hl], fun i en h => ?_, fun i j e f n a b o1 o2 => ?_, fun i j e f n a b o2 c hc => ?_⟩
  · obtain ⟨v, h1, h2⟩ := r.get (key i en h)
    refine ⟨v, ?_, ?_⟩
    · have lt := (List.getElem?_eq_some_iff.mp h1).1
      unfold L2.start
      rw [List.getElem?_append_left (by simpa using lt), List.getElem?_map, h1]
      rfl
    · cases en with
      | sh d => exact h2
      | ob a => exact h2
      | ow _ _ => exact h2.elim
      | od _ => exact h2.elim
      | ot _ _ => exact h2.elim
      | th _ _ _ => exact h2.elim
      | ex _ _ _ => exact h2.elim
  · obtain ⟨v, h1, h2⟩ := r.get (key i _ a)
    cases e with
    | sh d => cases o1
    | ob a => cases o1
    | ow _ _ => exact h2.elim
    | od _ => exact h2.elim
    | ot _ _ => exact h2.elim
    | th _ _ _ => exact h2.elim
    | ex _ _ _ => exact h2.elim
  · obtain ⟨v, h1, h2⟩ := r.get (key i _ a)
    cases e with
    | ot _ _ => exact h2.elim
    | _ => cases hc
/-- nothing is raised -/
abbrev Wno : WX := fun _ _ _ _ => False
def fnW (n : Nat) (wb : WS) : WF := fun as A _ => wb (startE n as) ⟨fun _ => A .none, fun d _ => A d, fun _ => False, fun _ => False, fun _ _ => False⟩
@[simp ↓] theorem fnW_ap (n : Nat) (wb : WS) as A u0_ : fnW n wb as A u0_ = (wb (startE n as) ⟨fun _ => A .none, fun d _ => A d, fun _ => False, fun _ => False, fun _ _ => False⟩) := Eq.trans rfl rfl
def fnWX (n : Nat) (wb : WS) : WF := fun as A B => wb (startE n as) ⟨fun _ => A .none, fun d _ => A d, fun _ => False, fun _ => False, fun x _ => B x⟩
@[simp ↓] theorem fnWX_ap (n : Nat) (wb : WS) as A B : fnWX n wb as A B = (wb (startE n as) ⟨fun _ => A .none, fun d _ => A d, fun _ => False, fun _ => False, fun x _ => B x⟩) := Eq.trans rfl rfl
section
variable {P : Program} {w : World} {K : KT} {mg : Str → Option Value} {base : Heap} {x qual : Str} {st : Stmt} {f : Addr} {fd : FuncData} {N ps : List Str} {k : Nat} {wb : WS}
/-- the family of contexts of a def's body -/
abbrev famOf (P : Program) (w : World) (K : KT) (mg : Str → Option Value) (base : Heap) (N : List Str) (qual : Str) (st : Stmt) (f : Addr) (cdv : Value) (A : Around) (outer : List PySem.Env) (s : Shared) (H : Hp) (E : XK) : Fam :=
  Fam.one (cxOf CX0 P w K mg base N qual (defScope st) f cdv A outer s H E).nox K.t
abbrev famX (P : Program) (w : World) (K : KT) (mg : Str → Option Value) (base : Heap) (N : List Str) (qual : Str) (st : Stmt) (f : Addr) (cdv : Value) (A : Around) (outer : List PySem.Env) (s : Shared) (H : Hp) (E : XK) : Fam :=
  Fam.one (cxOf (L2.CX P w) P w K mg base N qual (defScope st) f cdv A outer s H E) K.t
theorem fn_ok (F : Fun K x qual st f fd) (S : FnScope N ps (defScope st)) (hb : ∀ (cdv : Value) (A : Around) (outer : List PySem.Env) (s : Shared) (H : Hp) (E : XK), Room k (A.deeper (envOfC qual (defScope st) s.heap.objs.size f cdv)) → Dens (famOf P w K mg base N qual st f cdv A outer s H E) Wno (defBody st) wb) :
    FnOk P w K mg base CX0 (k + 1) f fd ps (spW K ps.length (fnW N.length wb)) := by
  refine F.ok S spW_len fun cdv A outer s H vs Q E hr h => ?_
  obtain ⟨W, F0, as, A', B', sm, wd, ra, hl, hw, kq, kx⟩ := h
  obtain ⟨t, h1, h2⟩ := hb cdv A outer s H E hr
  refine ⟨t, h1 (), ?_⟩
  refine h2 W F0 H F0 H _ _ _ _ (stR_start sm wd ra) hw ⟨fun σ env F1 H1 _ s1 q => kq .non .none F1 H1 s1.ext .non q, fun v d σ env F1 H1 s1 r q => kq v d F1 H1 s1.ext r q, fun σ env F1 H1 _ _ q => q.elim, fun σ env F1 H1 _ _ q => q.elim, fun x oe σ env F1 H1 _ _ _ q => q.elim⟩
theorem fn_okX (F : Fun K x qual st f fd) (S : FnScope N ps (defScope st)) (hb : ∀ (cdv : Value) (A : Around) (outer : List PySem.Env) (s : Shared) (H : Hp) (E : XK), Room k (A.deeper (envOfC qual (defScope st) s.heap.objs.size f cdv)) → Dens (famX P w K mg base N qual st f cdv A outer s H E) (fun cls d _ H' => E cls d H') (defBody st) wb) :
    FnOk P w K mg base (L2.CX P w) (k + 1) f fd ps (spW K ps.length (fnWX N.length wb)) := by
  refine F.okX S spW_len fun cdv A outer s H vs Q E hr h => ?_
  obtain ⟨W, F0, as, A', B', sm, wd, ra, hl, hw, kq, kx⟩ := h
  obtain ⟨t, h1, h2⟩ := hb cdv A outer s H E hr
  refine ⟨t, h1 (), ?_⟩
  refine h2 W F0 H F0 H _ _ _ _ (stR_start sm wd ra) hw ⟨fun σ env F1 H1 _ s1 q => kq .non .none F1 H1 s1.ext .non q, fun v d σ env F1 H1 s1 r q => kq v d F1 H1 s1.ext r q, fun σ env F1 H1 _ _ q => q.elim, fun σ env F1 H1 _ _ q => q.elim, fun x oe σ env F1 H1 _ s1 xo q => kx x oe F1 H1 s1.ext xo q⟩
/-- a def known by its reading may be known by another that asks more -/
theorem fn_imp {CX : CXT} {n : Nat} {w1 w2 : WF} (F : FnOk P w K mg base CX k f fd ps (spW K n w1)) (h : ∀ as A B, w2 as A B → w1 as A B) : FnOk P w K mg base CX k f fd ps (spW K n w2) :=
  F.imp fun vs H Q E ⟨W, F0, as, A', B', sm, wd, ra, hl, hw, kq, kx⟩ => ⟨W, F0, as, A', B', sm, wd, ra, hl, h _ _ _ hw, kq, kx⟩
end
/-! ### calls -/
def wCl (f : WF) (r : WA) : WE := fun env Q => r env fun as => f as Q fun _ => False
/-- a call: nothing behind it is looked into -/
def cal (f : WF) (as : List En) (A : D → Prop) (B : Xn → Prop) : Prop := f as A B
theorem cal_of {f : WF} {as : List En} {A : D → Prop} {B : Xn → Prop} (h : f as A B) : cal f as A B := h
theorem cal_congr {f : WF} {as bs : List En} {A : D → Prop} {B : Xn → Prop} (h : as = bs) : cal f as A B = cal f bs A B := by rw [h]
@[simp ↓] theorem wCl_ap (f : WF) (r : WA) env Q : wCl f r env Q = (r env fun as => cal f as Q fun _ => False) := Eq.trans rfl rfl
section
variable {G : Fam} {Wx : WX} {CX : CXT} {k : Nat} {f : Addr} {fd : FuncData} {ps : List Str} {n : Nat} {wf : WF} {x : Str} {e : Expr} {es : List Expr} {r : WA} {p pos : Pos}
theorem e_call (hF : ∀ i, FnOk (G.X i).prog (G.X i).w (G.X i).K (G.X i).mg (G.X i).base CX k f fd ps (spW G.K n wf)) (hr : ∀ i, Room k (G.X i).A) (hg : ∀ i, Gl (G.X i) x := by intro _; rfl) (hm : ∀ i, (G.X i).mg x = some (.ref f)) (hk : ∀ i, PySem.W.keepIn (G.X i).K (.ref f) = true) (hb : ∀ i, Binds (G.X i).K fd ps []) (hx : ∀ i, Passes CX (G.X i) E0)
    (ha : DenA G (e :: es) r) (hn : (e :: es).length = n) (hdb : (x == ("__debug__" : Str)) = false := by decide) (he : ∀ i, starEach (e :: es) (G.X i).env = (false, eval e (G.X i).env) :: starEach es (G.X i).env := by intro _; rfl) (hpl : ∀ i, (backTo pos (starEach es (G.X i).env)).any (·.1) = false := by intro _; rfl) :
    DenE G (.Call (.Name x p) (e :: es) [] pos) (wCl wf r) := by
  obtain ⟨t, a1, a2⟩ := ha
  refine ⟨_, fun i => pe_call (hF i) (hr i) (hg i) (hm i) (hk i) (hb i) .nil (hx i) (a1 i) hdb (he i) (hpl i), fun W F0 H0 F H σ env Q R s h kk => ?_⟩
  refine a2 W F0 H0 F H σ env _ _ s h fun vs as F1 H1 e1 r1 l1 q1 => ?_
  show spW G.K n wf (vs ++ []) H1 R E0
  rw [List.append_nil]
  exact ⟨W, F1, as, Q, fun _ => False, e1.u, e1.w, r1, l1.trans hn, q1, fun v d F' H' e2 rd qd => kk v d F' H' (e1.trans e2) rd qd, fun _ _ _ _ _ _ z => z⟩
theorem e_call0 (hF : ∀ i, FnOk (G.X i).prog (G.X i).w (G.X i).K (G.X i).mg (G.X i).base CX k f fd ps (spW G.K 0 wf)) (hr : ∀ i, Room k (G.X i).A) (hg : ∀ i, Gl (G.X i) x := by intro _; rfl) (hm : ∀ i, (G.X i).mg x = some (.ref f)) (hk : ∀ i, PySem.W.keepIn (G.X i).K (.ref f) = true) (hb : ∀ i, Binds (G.X i).K fd ps []) (hx : ∀ i, Passes CX (G.X i) E0)
    (hdb : (x == ("__debug__" : Str)) = false := by decide) : DenE G (.Call (.Name x p) [] [] pos) (wCl wf wANil) := by
  refine ⟨_, fun i => pe_call0 (hF i) (hr i) (hg i) (hm i) (hk i) (hb i) .nil (hx i) hdb, fun W F0 H0 F H σ env Q R s h kk => ?_⟩
  exact ⟨W, F, [], Q, fun _ => False, s.u, s.w, .nil, rfl, h, fun v d F' H' e2 rd qd => kk v d F' H' e2 rd qd, fun _ _ _ _ _ _ z => z⟩
/-! what may raise -/
abbrev WEX := Env → (D → Prop) → (Xn → Prop) → Prop
def DenX (G : Fam) (Wx : WX) (e : Expr) (w : WEX) : Prop := ∃ t : TE, (∀ i, PE (G.X i) e t) ∧ ∀ (W : Option Addr) (F0 H0 F H : Hp) (σ : L2.St) (env : Env) (Q : D → Prop) (B : Xn → Prop) (R : VK), StR G.K W F0 H0 F H σ env → w env Q B →
  (∀ v d F' H', Ext G.K W F H F' H' → Rp G.K F' v d → Q d → R v H') → (∀ x oe F' H', Ext G.K W F H F' H' → XnOk G.K F' H' x oe → B x → Wx (.ref x.cls) oe σ H') → t σ H R
def wClX (f : WF) (r : WA) : WEX := fun env Q B => r env fun as => f as Q B
@[simp ↓] theorem wClX_ap (f : WF) (r : WA) env Q B : wClX f r env Q B = (r env fun as => cal f as Q B) := Eq.trans rfl rfl
theorem x_call (hF : ∀ i, FnOk (G.X i).prog (G.X i).w (G.X i).K (G.X i).mg (G.X i).base (L2.CX (G.X i).prog (G.X i).w) k f fd ps (spW G.K n wf)) (hr : ∀ i, Room k (G.X i).A) (hg : ∀ i, Gl (G.X i) x := by intro _; rfl) (hm : ∀ i, (G.X i).mg x = some (.ref f)) (hk : ∀ i, PySem.W.keepIn (G.X i).K (.ref f) = true) (hb : ∀ i, Binds (G.X i).K fd ps [])
    (tk : ∀ i, Takes (G.X i) Wx) (ha : DenA G (e :: es) r) (hn : (e :: es).length = n) (hdb : (x == ("__debug__" : Str)) = false := by decide) (he : ∀ i, starEach (e :: es) (G.X i).env = (false, eval e (G.X i).env) :: starEach es (G.X i).env := by intro _; rfl) (hpl : ∀ i, (backTo pos (starEach es (G.X i).env)).any (·.1) = false := by intro _; rfl) :
    DenX G Wx (.Call (.Name x p) (e :: es) [] pos) (wClX wf r) := by
  obtain ⟨t, a1, a2⟩ := ha
  refine ⟨_, fun i => pe_callS (E := L2.WE Wx) (hF i) (hr i) (hg i) (hm i) (hk i) (hb i) (fun σ => passAt (tk i) σ) (a1 i) hdb (he i) (hpl i), fun W F0 H0 F H σ env Q B R s h kk kx => ?_⟩
  refine a2 W F0 H0 F H σ env _ _ s h fun vs as F1 H1 e1 r1 l1 q1 => ?_
  exact ⟨W, F1, as, Q, B, e1.u, e1.w, r1, l1.trans hn, q1, fun v d F' H' e2 rd qd => kk v d F' H' (e1.trans e2) rd qd, fun x oe F' H' e2 xo q => kx x oe F' H' (e1.trans e2) xo q⟩
def wDropX (w : WEX) : WS := fun env P => w env (fun _ => P.nx env) fun x => P.xe x env
@[simp ↓] theorem wDropX_ap (w : WEX) env P : wDropX w env P = (w env (fun _ => P.nx env) fun x => P.xe x env) := Eq.trans rfl rfl
theorem s_exprX {we : WEX} (h : DenX G Wx e we) (hs : ∀ i, swapsWith e none pos.line (G.X i).env = pure false := by intro _; rfl) : Den G Wx (.Expr e pos) (wDropX we) := by
  obtain ⟨t, h1, h2⟩ := h
  refine ⟨_, fun i => ps_expr (h1 i) (hs i), fun W F0 H0 F H σ env P T s h c => ?_⟩
  exact h2 W F0 H0 F H σ env _ _ _ s h (fun v d F' H' x r q => c.nx σ env F' H' x.f (s.step x) q) fun x oe F' H' e xo q => c.xe x oe σ env F' H' e.f (s.step e) xo q
def wRetX (w : WEX) : WS := fun env P => w env (fun d => P.rt d env) fun x => P.xe x env
@[simp ↓] theorem wRetX_ap (w : WEX) env P : wRetX w env P = (w env (fun d => P.rt d env) fun x => P.xe x env) := Eq.trans rfl rfl
theorem s_retX {we : WEX} (h : DenX G Wx e we) : Den G Wx (.Return (some e) pos) (wRetX we) := by
  obtain ⟨t, h1, h2⟩ := h
  refine ⟨_, fun i => ps_ret (h1 i), fun W F0 H0 F H σ env P T s h c => ?_⟩
  exact h2 W F0 H0 F H σ env _ _ _ s h (fun v d F' H' x r q => c.rt v d σ env F' H' (s.step x) r q) fun x oe F' H' e xo q => c.xe x oe σ env F' H' e.f (s.step e) xo q
def wSetX (i : Nat) (w : WEX) : WS := fun env P => w env (fun d => P.nx (env.set i (some (.sh d)))) fun x => P.xe x env
@[simp ↓] theorem wSetX_ap (i : Nat) (w : WEX) env P : wSetX i w env P = (w env (fun d => P.nx (env.set i (some (.sh d)))) fun x => P.xe x env) := Eq.trans rfl rfl
theorem s_setX {we : WEX} {i : Nat} {x : Str} {p : Pos} (hN : ∀ j, (G.X j).N.Nodup) (hi : ∀ j, (G.X j).N[i]? = some x := by intro _; rfl) (hx : ∀ j, Loc (G.X j).env.scope x := by intro _; first | exact Or.inl rfl | exact Or.inr rfl) (hf : ∀ j, (G.X j).fn x = true ∨ (G.X j).env.scope.names.lookup x = some .local := by intro _; first | exact Or.inl rfl | exact Or.inr rfl) (h : DenX G Wx e we)
    (hs : ∀ j, swapsWith e (some (.Name x p)) pos.line (G.X j).env = pure false := by intro _; rfl) : Den G Wx (.Assign [.Name x p] e pos) (wSetX i we) := by
  obtain ⟨t, h1, h2⟩ := h
  refine ⟨_, fun j => ps_set (hN j) (hi j) (hx j) (h1 j) (hs j) (hf j), fun W F0 H0 F H σ env P T s h c => ?_⟩
  exact h2 W F0 H0 F H σ env _ _ _ s h (fun v d F' H' e r q => c.nx _ _ F' H' e.f ((s.step e).setSh r) q) fun x oe F' H' e xo q => c.xe x oe σ env F' H' e.f (s.step e) xo q
/-! raise -/
theorem pmk_own0 {X : Cx} {C : Addr} {bmB : List Value} {B newId initId : String} {x : Str} {p pos : Pos} (F : ExcBaseFacts B newId initId bmB) (q : PySem.W.excIn X.K C bmB newId = true) (gC : X.mg x = some (.ref C)) (kC : PySem.W.keepIn X.K (.ref C) = true) (r : Raises X (.ref C)) (hg : Gl X x)
    (hdb : (x == ("__debug__" : Str)) = false := by decide) : PMk X (.Call (.Name x p) [] [] pos) (fun _ H Q => Q (.ref C) none H) := by
  intro pins s σ H Q I h
  refine wpAny_Call_Name_kw (ld_glob I hg gC ?_ hdb)
  refine PySem.W.callWith_K0 I.kIn kC ?_
  show wpAny _ _ (call (.ref C) []) _ _ _
  obtain ⟨bm, N, nm, qn, bs, hdct, sn, sub, ab, col, dd, k0, k1, k2, k3, k5, mN, hC, hN, hni, T⟩ := exc_obj I.kIn q
  exact wpAny_call_exc_subT F T hC hN hni (fun h' e hm => mk_of I hm r h (I.hok.gone hm.new)) (Nat.zero_le _)
def wRaise (C : Addr) : WS := fun env P => P.xe ⟨C, none⟩ env
@[simp ↓] theorem wRaise_ap (C : Addr) env P : wRaise C env P = (P.xe ⟨C, none⟩ env) := Eq.trans rfl rfl
theorem s_raise0 {C : Addr} {bmB : List Value} {B newId initId : String} (hc : Calm G) (tk : ∀ i, Takes (G.X i) Wx) (F : ExcBaseFacts B newId initId bmB) (q : ∀ i, PySem.W.excIn (G.X i).K C bmB newId = true) (gC : ∀ i, (G.X i).mg x = some (.ref C)) (kC : ∀ i, PySem.W.keepIn (G.X i).K (.ref C) = true) (r : ∀ i, Raises (G.X i) (.ref C)) (hg : ∀ i, Gl (G.X i) x := by intro _; rfl)
    (hdb : (x == ("__debug__" : Str)) = false := by decide) {p2 : Pos} : Den G Wx (.Raise (some (.Call (.Name x p) [] [] pos)) none p2) (wRaise C) := by
  refine ⟨_, fun i => ps_raise (hc i) (tk i) (pmk_own0 F (q i) (gC i) (kC i) (r i) (hg i) hdb), fun W F0 H0 F H σ env P T s h c => ?_⟩
  exact c.xe ⟨C, none⟩ none σ env F H (Same.refl _) s rfl h
end
theorem fn_false {P : Program} {w : World} {K : KT} {mg : Str → Option Value} {base : Heap} {CX : CXT} {k n : Nat} {f : Addr} {fd : FuncData} {ps : List Str} (hn : ps.length = n) : FnOk P w K mg base CX k f fd ps (spW K n fun _ _ _ => False) :=
  ⟨fun vs H Q E h => (spW_len vs H Q E h).trans hn.symm, fun A outer s H args us vs Q E hr he hb hv h => by
    obtain ⟨W, F, as, A', B', _, _, _, _, z, _⟩ := h
    exact z.elim⟩
theorem room65 {k : Nat} {A : Around} (r : Room k A) : A.units + 65 < cLine := by
  have := r.un
  omega
/-! ### the hand -/
/-- what a draw is: some number below the bound -/
def wDraw : WF := fun as A _ => ∃ (a : Addr) (m : Int), as = [.ob a, .sh (.int m)] ∧ (0 < m ∧ m < 1073741824) ∧ ∀ k : Int, 0 ≤ k → k < m → A (.int k)
def handD (cs : List Int) (p l x n : Int) : List D := [.list (cs.map .int), .int p, .int l, .int x, .int n]
def HandOk (cs : List Int) (p l x n : Int) : Prop := cs.length ≤ 63 ∧ (∀ i ∈ cs, 0 ≤ i) ∧ 0 ≤ p ∧ 0 ≤ l ∧ 0 ≤ x ∧ 0 ≤ n
theorem rps_ints {K : KT} {F : Hp} : ∀ cs : List Int, Rps K F (cs.map V.int) (cs.map .int)
  | [] => .nil
  | i :: r => .cons (.int i) (rps_ints r)
theorem rps_ints_inv {K : KT} {F : Hp} : ∀ {cs : List Int} {vs : List V}, Rps K F vs (cs.map .int) → vs = cs.map V.int
  | [], _, .nil => rfl
  | i :: r, _, .cons h t => by
    cases h
    rw [rps_ints_inv t]
    rfl
theorem draw_ok {P : Program} {w : World} {K : KT} {mg : Str → Option Value} {base : Heap} {x qual : Str} {st : Stmt} {f : Addr} {fd : FuncData} {N ps : List Str} {k : Nat} {wb : WS} (F : Fun K x qual st f fd) (S : FnScope N ps (defScope st)) (h2 : ps.length = 2) (hN : 2 ≤ N.length)
    (hb : ∀ (cdv : Value) (A : Around) (outer : List PySem.Env) (s : Shared) (H : Hp) (E : XK), Room k (A.deeper (envOfC qual (defScope st) s.heap.objs.size f cdv)) → Dens (famOf P w K mg base N qual st f cdv A outer s H E) Wno (defBody st) wb)
    (hw : ∀ (h : Addr) (cs : List Int) (p l x n m : Int), HandOk cs p l x n → 0 < m → m < 1073741824 → wb (some (.ow (some h) (handD cs p l x n)) :: some (.sh (.int m)) :: List.replicate (N.length - 2) none)
      ⟨fun _ => False, fun d env => ∃ (k : Int) (cs' : List Int) (p' l' x' n' : Int), d = .int k ∧ (0 ≤ k ∧ k < m) ∧ env[0]? = some (some (.ow (some h) (handD cs' p' l' x' n'))) ∧ HandOk cs' p' l' x' n', fun _ => False, fun _ => False, fun _ _ => False⟩) :
    FnOk P w K mg base CX0 (k + 1) f fd ps (spW K 2 wDraw) := by
  refine F.ok S (fun vs H Q E h => (spW_len vs H Q E h).trans h2.symm) fun cdv A outer s H vs Q E hr h => ?_
  obtain ⟨W, F0, as, A', B', sm, wd, ra, hl, ⟨a, m, rfl, ⟨hm, hm2⟩, hA⟩, kq, kx⟩ := h
  obtain ⟨v1, v2, rfl, r1, r2⟩ : ∃ v1 v2, vs = [v1, v2] ∧ RpA K W F0 v1 (.ob a) ∧ RpA K W F0 v2 (.sh (.int m)) := by
    cases ra with
    | cons r1 t =>
      cases t with
      | cons r2 t =>
        cases t
        exact ⟨_, _, rfl, r1, r2⟩
  obtain ⟨rfl, rfl⟩ := r1
  cases (show Rp K F0 v2 (.int m) from r2)
  obtain ⟨fa, c, p, l, x, n, cs, hH, hF, ok⟩ := wd.hd a rfl
  obtain ⟨t, t1, t2⟩ := hb cdv A outer s H E hr
  refine ⟨t, t1 (), ?_⟩
  have hid : ∀ b o, (if b = a then none else H b) = some o → H b = some o := fun b o z => by
    by_cases q : b = a
    · rw [if_pos q] at z; cases z
    · rw [if_neg q] at z; exact z
  have lc : cs.length ≤ sizeLine := Nat.le_trans ok.1 (by decide)
  have st0 : StR K none F0 (fun b => if b = a then none else H b) F0 H (L2.start N [.ref a, .int m]) (some (.ow (some a) (handD cs p l x n)) :: some (.sh (.int m)) :: List.replicate (N.length - 2) none) := by
    have ta : ∀ q ∈ K.t, q.1 ≠ a := fun q hq z => by
      obtain ⟨_, ps, z2, _⟩ := wd.tb q hq
      rw [z, hH] at z2
      cases z2
    have only : ∀ (i : Nat) (e : En), (some (En.ow (some a) (handD cs p l x n)) :: some (.sh (.int m)) :: List.replicate (N.length - 2) none)[i]? = some (some e) → e.own = true → i = 0 := fun i e z o => by
      match i, z with
      | 0, _ => rfl
      | 1, z =>
        cases z
        cases o
      | i + 2, z =>
        have z : (List.replicate (N.length - 2) (none : Option En))[i]? = some (some _) := z
        have := List.mem_of_getElem? z
        rw [List.mem_replicate] at this
        cases this.2
    refine ⟨⟨Same.refl _, sm, ⟨fun _ z => (nomatch z), wd.tb⟩, fun b o z _ _ => hid b o z, fun b o _ z _ => z, fun q hq => ?_, fun b z => ?_⟩, by unfold L2.start; simp, fun i en hi => ?_, fun i j e f' ne q1 q2 o1 o2 => ?_, fun i j e f' ne q1 q2 o2 c hc => ?_⟩
    · obtain ⟨_, ps, z, _⟩ := wd.tb q hq
      exact ⟨ps, (if_neg (ta q hq)).trans z⟩
    · show (if b = a then none else H b) = none
      split
      · rfl
      · exact z
    · match i, hi with
      | 0, hi =>
        cases hi
        refine ⟨.ref a, rfl, a, _, rfl, fun b z => Option.some.inj z, if_pos rfl, fa, (fun z => nomatch z), hH, by show 5 ≤ sizeLine; decide, ?_⟩
        exact .cons (.lst hF (by rw [List.length_map]; exact lc) (rps_ints cs)) (.cons (.int _) (.cons (.int _) (.cons (.int _) (.cons (.int _) .nil))))
      | 1, hi =>
        cases hi
        exact ⟨.int m, rfl, .int m⟩
      | i + 2, hi =>
        have z : (List.replicate (N.length - 2) (none : Option En))[i]? = some (some en) := hi
        have := List.mem_of_getElem? z
        rw [List.mem_replicate] at this
        cases this.2
    · exact absurd ((only i e q1 o1).trans (only j f' q2 o2).symm) ne
    · exact absurd ((only i e q1 (adr_own hc)).trans (only j f' q2 o2).symm) ne
  refine t2 none F0 _ F0 H _ _ _ _ st0 (hw a cs p l x n m ok hm hm2) ⟨fun σ env F1 H1 _ s1 q => q.elim, fun v d σ env F1 H1 s1 r q => ?_, fun σ env F1 H1 _ _ q => q.elim, fun σ env F1 H1 _ _ q => q.elim, fun x oe σ env F1 H1 _ _ _ q => q.elim⟩
  obtain ⟨k', cs', p', l', x', n', rfl, ⟨k1, k2⟩, e0, ok'⟩ := q
  obtain ⟨v0, g1, b, ws, rfl, gt, g2, g3, g4, g5, g6, g7⟩ := s1.ent 0 _ e0
  cases gt a rfl
  obtain ⟨c', vs', rfl, hc1⟩ : ∃ c' vs', ws = .ref c' :: vs' ∧ F1 c' = some (.lst (cs'.map V.int)) := by
    cases g7 with
    | cons h1 h2 =>
      cases h1 with
      | lst q1 q2 q3 =>
        rw [rps_ints_inv q3] at q1
        exact ⟨_, _, rfl, q1⟩
  have e4 : vs' = [.int p', .int l', .int x', .int n'] := by
    cases g7 with
    | cons _ h2 =>
      cases h2 with
      | cons i1 h2 => cases i1; cases h2 with
        | cons i1 h2 => cases i1; cases h2 with
          | cons i1 h2 => cases i1; cases h2 with
            | cons i1 h2 => cases i1; cases h2; rfl
  subst e4
  refine kq v (.int k') F1 H1 ⟨s1.ext.f, s1.ext.u, ⟨fun h hh => ?_, s1.ext.w.tb⟩, fun b o z nb nt => ?_, fun b o z fz nt => ?_, wd.old, fun b z => ?_⟩ r (hA k' k1 k2)
  · cases hh
    exact ⟨g3, c', p', l', x', n', cs', g5, hc1, ok'⟩
  · have nba : b ≠ a := fun q => nb (by rw [q])
    exact s1.ext.keep b o (by rw [if_neg nba]; exact z) (fun q => nomatch q) nt
  · by_cases q : b = a
    · rw [q]; exact g3
    · exact s1.ext.opn b o (by rw [if_neg q]; exact z) fz nt
  · by_cases q : b = a
    · rw [q, g5] at z
      cases z
    · have := s1.ext.alive b z
      rwa [if_neg q] at this
end Dn
/-! Dn10: written dicts, negation, try. -/
namespace Dn
open PySem PySem.Spec PyProof.Rows L2
section
variable {G : Fam} {Wx : WX} {e : Expr} {w : WE} {pos : Pos}
theorem e_dict0 : DenE G (.Dict [] [] pos) (wC (.dict opqE)) := by
  refine ⟨_, fun _ => pe_dnewK, fun W F0 H0 F H σ env Q R s h k p hp => ?_⟩
  exact k _ _ _ _ (Ext.new s.u s.w hp) (.dct upd_same) h
/-- {k: v}, k a written int -/
def wDict1 (i : Int) (w : WE) : WE := fun env Q => w env fun d => Q (.dict opqE)
@[simp ↓] theorem wDict1_ap (i : Int) (w : WE) env Q : wDict1 i w env Q = (w env fun d => Q (.dict opqE)) := Eq.trans rfl rfl
theorem e_dict1 {i : Int} {j : Nat} {p2 : Pos} (h : DenE G e w) : DenE G (.Dict [some (.Constant (.int i) j p2)] [e] pos) (wDict1 i w) := by
  obtain ⟨t, h1, h2⟩ := h
  refine ⟨_, fun k => pe_disp (pps_cons pe_int (h1 k) pps_nil) rfl rfl (fun z => nomatch z) (by show 1 ≤ 15; decide), fun W F0 H0 F H σ env Q R s h k p hp => ?_⟩
  obtain ⟨h0, fp, nw⟩ := s.ext.fresh hp
  have s1 := s.aside (o := .dK []) h0 fp nw (fun _ z => by rw [hp] at z; cases z) (s.notOw hp)
  have e0 : Ext G.K W F H F (upd H p (.dK [])) := (Ext.refl s.u s.w).write hp nw fp
  show t σ (upd H p (.dK [])) _
  refine h2 W F0 H0 F _ σ env _ _ s1 h fun v d F2 H2 e2 r2 q2 => ?_
  have hp2 : H2 p = some (.dK []) := e2.keep p _ upd_same nw (fun _ z => nomatch z)
  have fp2 : F2 p = none := e2.opn p _ upd_same fp (fun _ z => nomatch z)
  refine ⟨hp2, [(.inl i, v)], rfl, by show 1 ≤ 15; decide, ?_⟩
  have e3 := (e0.trans e2).write (o := .dK (mergeK [] [(.inl i, v)])) hp nw fp2
  have e4 := e3.freeze hp upd_same nw fp2
  exact k _ _ _ _ e4 (.dct upd_same) q2
def wNeg (w : WE) : WE := fun env Q => w env fun d => match d with
  | .int i => Q (.int (-i))
  | _ => False
@[simp ↓] theorem wNeg_ap (w : WE) env Q : wNeg w env Q = (w env fun d => match d with
  | .int i => Q (.int (-i))
  | _ => False) := Eq.trans rfl rfl
theorem e_neg (h : DenE G e w) : DenE G (.UnaryOp .USub e pos) (wNeg w) := by
  obtain ⟨t, h1, h2⟩ := h
  refine ⟨_, fun k => pe_un un_neg (h1 k), fun W F0 H0 F H σ env Q R s h k => ?_⟩
  refine h2 W F0 H0 F H σ env _ _ s h fun v d F2 H2 e2 r2 q2 => ?_
  cases r2 with
  | int i => exact ⟨i, rfl, k _ _ F2 H2 e2 (.int _) q2⟩
  | _ => exact (show False from q2).elim
theorem takes_no {X : Cx} : Takes X Wno := fun _ _ ⟨_, _, _, _, _, _, _, _, _, _, _, _, _, _, _, _, w⟩ => w.elim
/-- the contexts of a try's body -/
def Fam.tr (G : Fam) (Wb : WX) : Fam := ⟨{p : G.ι × List (Addr × Obj) × (Value → Shared → Prop) // Takes ((G.X p.1).tr p.2.1 p.2.2) Wb ∧ PassesOwn (model (G.X p.1).prog (G.X p.1).w) (G.X p.1).A (G.X p.1).env p.2.2},
  fun p => (G.X p.1.1).tr p.1.2.1 p.1.2.2, G.K, fun p => G.hK p.1.1⟩
def Fam.suite (G : Fam) : Fam := ⟨G.ι × Addr × Obj × List (Addr × Obj), fun p => (G.X p.1).suite p.2.1 ((p.2.1, p.2.2.1) :: p.2.2.2), G.K, fun p => G.hK p.1⟩
/-- try: body, except C: suite -/
def wTry (mt : Addr → Option Bool) (wb ws : WS) : WS := fun env P => wb env { P with xe := fun x env' => match mt x.cls with
  | some true => ws env' { P with xe := fun _ _ => False }
  | some false => P.xe x env'
  | none => False }
@[simp ↓] theorem wTry_ap (mt : Addr → Option Bool) (wb ws : WS) env P : wTry mt wb ws env P = (wb env { P with xe := fun x env' => match mt x.cls with
  | some true => ws env' { P with xe := fun _ _ => False }
  | some false => P.xe x env'
  | none => False }) := Eq.trans rfl rfl
theorem s_try {x : Str} {C : Addr} {body suite : List Stmt} {b₀ : Stmt} {np pos' : Pos} {wb ws : WS} {mt : Addr → Option Bool} (hst : ∀ i, (G.X i).stack = (G.X i).env :: (G.X i).outer) (hf : ∀ i, (G.X i).env.frame = some (G.X i).env.locals) (hc : ∀ i, Names (G.X i) x (.ref C)) (tk : ∀ i, Takes (G.X i) Wx)
    (hm : ∀ cls b, mt cls = some b → PySem.W.exmOne G.K (.ref cls) (.ref C) = some b) (hb : ∀ Wb, Dens (G.tr Wb) Wb body wb) (hsu : Dens G.suite Wno (b₀ :: suite) ws) :
    Den G Wx (.Try body [.ExceptHandler (some (.Name x np)) none (b₀ :: suite) pos'] [] [] pos) (wTry mt wb ws) := by
  obtain ⟨ts, u1, u2⟩ := hsu
  refine ⟨fun T σ H => (hb (wOnly G.K (.ref C) (fun _ _ _ => ts) Wx T)).choose T σ H, fun i => ?_, fun W F0 H0 F H σ env P T s h c => ?_⟩
  · have z := ps_try_only (pos := pos) (pos' := pos') (np := np) (tb := fun Wb => (hb Wb).choose) (ts := fun _ _ _ => ts) (hst i) (hf i) (hc i) (tk i) (fun Wb pn xe t p => (hb Wb).choose_spec.1 ⟨⟨i, pn, xe⟩, t, p⟩) (fun a oe cls d pn _ _ => u1 ⟨i, a, oe, pn⟩)
    rw [G.hK i] at z
    exact z
  · refine (hb _).choose_spec.2 W F0 H0 F H σ env _ T s h ⟨c.nx, c.rt, c.bk, c.ct, fun x oe σ' env' F' H' m s' xo q => ?_⟩
    have q' : (match mt x.cls with | some true => ws env' { P with xe := fun _ _ => False } | some false => P.xe x env' | none => False) := q
    cases hx : mt x.cls with
    | none => rw [hx] at q'; exact q'.elim
    | some b =>
      rw [hx] at q'
      cases b with
      | true =>
        refine ⟨true, hm _ _ hx, fun _ a _ => ?_, fun z => nomatch z⟩
        exact u2 W F0 H0 F' H' σ' env' _ T s' q' ⟨fun σ env F H m2 => c.nx σ env F H (m.trans m2), c.rt, fun σ env F H m2 => c.bk σ env F H (m.trans m2), fun σ env F H m2 => c.ct σ env F H (m.trans m2), fun _ _ _ _ _ _ _ _ _ z => z⟩
      | false =>
        refine ⟨false, hm _ _ hx, (fun z => nomatch z), fun _ => ?_⟩
        exact c.xe x oe σ' env' F' H' m s' xo q'
end
/-! ### the hand is made -/
theorem yes_do {σ : L2.St} {H : Hp} {A B : Hp → Prop} (h : A H) : tYes σ H (fun b H3 => if b = true then A H3 else B H3) := h
/-- a def that is handed the script and hands back the hand -/
def spHand (K : KT) : Sp := fun vs H Q _ => ∃ (a : Addr) (ns : List Int), vs = [.ref a] ∧ SqL K H a (ns.map V.int) ∧ ns.length ≤ 63 ∧ ∀ H' h c x cs, Same H H' → H h = none → H c = none → h ≠ c → H' h = some (.lst [.ref c, .int 0, .int 0, .int x, .int 0]) → H' c = some (.lst (cs.map V.int)) → HandOk cs 0 0 x 0 → Q (.ref h) H'
/-- the law: hand = make(script), then the rest -/
def spLaw (K : KT) : Sp := fun vs H Q _ => ∃ (a : Addr) (ns : List Int), vs = [.ref a] ∧ SqL K H a (ns.map V.int) ∧ ns.length ≤ 63 ∧ (∀ p ∈ K.t, H p.1 = some (.tbl #[])) ∧ ∀ H', Q (.bl true) H'
theorem law_ok {P : Program} {w : World} {K : KT} {mg : Str → Option Value} {base : Heap} {x qual : Str} {st : Stmt} {f : Addr} {fd : FuncData} {N : List Str} {k kh : Nat} {wb : WS} {g : Addr} {gd : FuncData} {hn hs : Str} {hps : List Str} {p1 p2 p3 p4 p5 : Pos} {rest : List Stmt} (F : Fun K x qual st f fd) (S : FnScope N ["script"] (defScope st)) (hN : 2 ≤ N.length) (hh : N[1]? = some hn) (h0 : N[0]? = some ("script" : Str))
    (hb0 : defBody st = .Assign [.Name hn p1] (.Call (.Name hs p2) [.Name "script" p3] [] p4) p5 :: rest) (Gh : FnOk P w K mg base CX0 kh g gd hps (spHand K)) (hkh : kh ≤ k) (hgl : (defScope st).names.lookup hs = some .globalImplicit) (hmg : mg hs = some (.ref g)) (hkp : PySem.W.keepIn K (.ref g) = true) (hbi : Binds K gd hps [])
    (hdb : (hs == ("__debug__" : Str)) = false) (hl1 : (defScope st).names.lookup hn = some .local) (hl0 : (defScope st).names.lookup ("script" : Str) = some .local ∨ (defScope st).names.lookup ("script" : Str) = some .cell)
    (hd : ∀ (cdv : Value) (A : Around) (outer : List PySem.Env) (s : Shared) (H : Hp) (E : XK), Room k (A.deeper (envOfC qual (defScope st) s.heap.objs.size f cdv)) → Dens (famOf P w K mg base N qual st f cdv A outer s H E) Wno rest wb)
    (hw : ∀ h : Addr, wb (none :: some (.ob h) :: List.replicate (N.length - 2) none) ⟨fun _ => False, fun d _ => d = .bool true, fun _ => False, fun _ => False, fun _ _ => False⟩) : FnOk P w K mg base CX0 (k + 1) f fd ["script"] (spLaw K) := by
  refine F.ok S (fun vs H Q E h => ?_) fun cdv A outer s H vs Q E hr h => ?_
  · obtain ⟨a, ns, rfl, _⟩ := h
    rfl
  obtain ⟨a, ns, rfl, hS, hlen, hT, hQ⟩ := h
  obtain ⟨t, t1, t2⟩ := hd cdv A outer s H E hr
  rw [hb0]
  have head : PS (cxOf CX0 P w K mg base N qual (defScope st) f cdv A outer s H E).nox (.Assign [.Name hn p1] (.Call (.Name hs p2) [.Name "script" p3] [] p4) p5) (tAsg (tCall (spHand K) [] E0 (tCons (tVar 0) tNil)) (gName 1)) := by
    refine ps_set S.nd hh (Or.inl hl1) (pe_call Gh (hr.mono hkh) hgl hmg hkp hbi .nil pass0 (pa_cons (pe_var h0 ?_) pa_nil) hdb) ?_ (Or.inl rfl)
    · rcases hl0 with z | z
      · exact .inl z
      · exact .inr (.inl z)
    · rfl
  refine ⟨_, pss_cons head (t1 ()), ?_⟩
  have e0 : (L2.start N [V.ref a])[0]? = some (some (.ref a)) := rfl
  refine ⟨.ref a, e0, ?_⟩
  refine ⟨a, ns, rfl, hS, hlen, fun H' h c x cs sm hh0 hc0 hne h1 h2 ok => ?_⟩
  let F1 : Hp := upd (fun _ => none) c (.lst (cs.map V.int))
  have fF : ∀ b, b ≠ c → F1 b = none := fun b z => upd_ne z
  have sF : Same F1 H' := fun b o z => by
    by_cases q : b = c
    · subst q
      rw [show F1 b = some (.lst (cs.map V.int)) from upd_same] at z
      cases z
      exact h2
    · rw [fF b q] at z
      cases z
  have wd : WdOk K (some h) F1 H' := by
    refine ⟨fun h' hh' => ?_, fun p hp => ?_⟩
    · cases hh'
      exact ⟨fF _ hne, c, 0, 0, x, 0, cs, h1, upd_same, ok⟩
    · have z := hT p hp
      have nc : p.1 ≠ c := ne_of_none z hc0
      exact ⟨fF _ nc, #[], sm _ _ z, trivial, fun pos cv q => by
        have q : codeAmong pos [] = some cv := q
        simp [codeAmong] at q⟩
  have st0 : StR K (some h) F1 H' F1 H' ((L2.start N [V.ref a]).set 1 (some (.ref h))) (none :: some (.ob h) :: List.replicate (N.length - 2) none) := by
    have only : ∀ (i : Nat) (e : En), (none :: some (En.ob h) :: List.replicate (N.length - 2) none)[i]? = some (some e) → e.own = false := fun i e z => by
      match i, z with
      | 0, z => cases z
      | 1, z =>
        cases z
        rfl
      | i + 2, z =>
        have z : (List.replicate (N.length - 2) (none : Option En))[i]? = some (some _) := z
        have := List.mem_of_getElem? z
        rw [List.mem_replicate] at this
        cases this.2
    refine ⟨Ext.refl sF wd, by unfold L2.start; simp; omega, fun i en hi => ?_, fun i j e f' ne q1 q2 o1 o2 => ?_, fun i j e f' ne q1 q2 o2 c hc => ?_⟩
    · match i, hi with
      | 0, hi => cases hi
      | 1, hi =>
        cases hi
        refine ⟨.ref h, ?_, rfl, rfl⟩
        rw [List.getElem?_set_self (by unfold L2.start; simp; omega)]
      | i + 2, hi =>
        have z : (List.replicate (N.length - 2) (none : Option En))[i]? = some (some en) := hi
        have := List.mem_of_getElem? z
        rw [List.mem_replicate] at this
        cases this.2
    · rw [only i e q1] at o1
      cases o1
    · rw [only j f' q2] at o2
      cases o2
  refine t2 (some h) _ _ _ _ _ _ _ _ st0 (hw h) ⟨fun σ env F1 H1 _ _ q => q.elim, fun v d σ env F1 H1 _ r q => ?_, fun σ env F1 H1 _ _ q => q.elim, fun σ env F1 H1 _ _ q => q.elim, fun x oe σ env F1 H1 _ _ _ q => q.elim⟩
  cases q
  cases r
  exact hQ H1
end Dn
/-! DnP: plain Lean over the readings. -/
namespace Dn
open PySem L2
/-! ### equality, shape -/
@[simp] theorem shp_none : SeqAt.shaped .none = true := rfl
@[simp] theorem shp_bool (b : Bool) : SeqAt.shaped (.bool b) = true := rfl
@[simp] theorem shp_int (i : Int) : SeqAt.shaped (.int i) = true := rfl
@[simp] theorem eqv_nn : PyData.eqv .none .none = true := rfl
@[simp] theorem eqv_bb (a b : Bool) : PyData.eqv (.bool a) (.bool b) = (a == b) := rfl
@[simp] theorem eqv_bi (a : Bool) (j : Int) : PyData.eqv (.bool a) (.int j) = ((if a then 1 else 0) == j) := rfl
@[simp] theorem eqv_ib (i : Int) (b : Bool) : PyData.eqv (.int i) (.bool b) = (i == (if b then 1 else 0)) := rfl
@[simp] theorem eqv_ii (i j : Int) : PyData.eqv (.int i) (.int j) = (i == j) := rfl
@[simp] theorem eqv_ni (j : Int) : PyData.eqv .none (.int j) = false := rfl
@[simp] theorem eqv_in (j : Int) : PyData.eqv (.int j) .none = false := rfl
@[simp] theorem eqv_nb (j : Bool) : PyData.eqv .none (.bool j) = false := rfl
@[simp] theorem eqv_bn (j : Bool) : PyData.eqv (.bool j) .none = false := rfl
@[simp] theorem eqv_tt (a b : List D) : PyData.eqv (.tuple a) (.tuple b) = PyData.eqvAll a b := rfl
@[simp] theorem eqv_ll (a b : List D) : PyData.eqv (.list a) (.list b) = PyData.eqvAll a b := rfl
@[simp] theorem eqvAll_nil : PyData.eqvAll [] [] = true := rfl
@[simp] theorem eqvAll_cons (x y : D) (xs ys : List D) : PyData.eqvAll (x :: xs) (y :: ys) = (PyData.eqv x y && PyData.eqvAll xs ys) := rfl
@[simp] theorem kit_tup (d : D) : kitB (tyD d) "tuple" = some (match d with | .tuple _ => true | _ => false) := by cases d <;> rfl
@[simp] theorem kit_lst (d : D) : kitB (tyD d) "list" = some (match d with | .list _ => true | _ => false) := by cases d <;> rfl
@[simp] theorem kit_int (d : D) : kitB (tyD d) "int" = some (match d with | .int _ => true | .bool _ => true | _ => false) := by cases d <;> rfl
@[simp] theorem kit_bool (d : D) : kitB (tyD d) "bool" = some (match d with | .bool _ => true | _ => false) := by cases d <;> rfl
@[simp] theorem kit_str (d : D) : kitB (tyD d) "str" = some (match d with | .str _ => true | _ => false) := by cases d <;> rfl
@[simp] theorem kit_dict (d : D) : kitB (tyD d) "dict" = some (match d with | .dict _ => true | _ => false) := by cases d <;> rfl
@[simp] theorem isi_tup (d : D) : isi d ["tuple"] = some (match d with | .tuple _ => true | _ => false) := by
  unfold isi; rw [kit_tup]; cases d <;> rfl
@[simp] theorem isi_lst (d : D) : isi d ["list"] = some (match d with | .list _ => true | _ => false) := by
  unfold isi; rw [kit_lst]; cases d <;> rfl
@[simp] theorem isi_int (d : D) : isi d ["int"] = some (match d with | .int _ => true | .bool _ => true | _ => false) := by
  unfold isi; rw [kit_int]; cases d <;> rfl
@[simp] theorem isi_bool (d : D) : isi d ["bool"] = some (match d with | .bool _ => true | _ => false) := by
  unfold isi; rw [kit_bool]; cases d <;> rfl
@[simp] theorem isi_str (d : D) : isi d ["str"] = some (match d with | .str _ => true | _ => false) := by
  unfold isi; rw [kit_str]; cases d <;> rfl
@[simp] theorem isi_dict (d : D) : isi d ["dict"] = some (match d with | .dict _ => true | _ => false) := by
  unfold isi; rw [kit_dict]; cases d <;> rfl
@[simp] theorem isi_tl (d : D) : isi d ["tuple", "list"] = some (match d with | .tuple _ => true | .list _ => true | _ => false) := by
  unfold isi; rw [kit_tup]; cases d <;> first | rfl | exact isi_lst _
/-! ### places -/
theorem atI_nat' {α : Type} (xs : List α) (n : Nat) : atI xs (n : Int) = xs[n]? := by
  unfold atI ixN
  rw [if_pos (Int.natCast_nonneg n)]
  by_cases h : n < xs.length
  · rw [if_pos (by omega)]
    rfl
  · rw [if_neg (by omega)]
    show none = _
    rw [List.getElem?_eq_none (by omega)]
theorem atI_of {α : Type} (xs : List α) (i : Int) (h : 0 ≤ i) : atI xs i = xs[i.toNat]? := by
  have := atI_nat' xs i.toNat
  rwa [Int.toNat_of_nonneg h] at this
@[simp] theorem atI_0 {α : Type} (xs : List α) : atI xs 0 = xs[0]? := atI_nat' xs 0
@[simp] theorem atI_1 {α : Type} (xs : List α) : atI xs 1 = xs[1]? := atI_nat' xs 1
@[simp] theorem atI_2 {α : Type} (xs : List α) : atI xs 2 = xs[2]? := atI_nat' xs 2
@[simp] theorem atI_3 {α : Type} (xs : List α) : atI xs 3 = xs[3]? := atI_nat' xs 3
@[simp] theorem atI_4 {α : Type} (xs : List α) : atI xs 4 = xs[4]? := atI_nat' xs 4
@[simp] theorem bools_map' {α : Type} (f : α → Bool) (xs : List α) : bools (xs.map fun x => .bool (f x)) = some (xs.map f) := by
  have := bools_map (xs.map f)
  rwa [List.map_map] at this
@[simp] theorem ints_map' {α : Type} (f : α → Int) (xs : List α) : intsD (xs.map fun x => .int (f x)) = some (xs.map f) := by
  have := ints_map (xs.map f)
  rwa [List.map_map] at this
/-! ### comprehensions -/
theorem lcW_fm {α : Type} {g : WG} {tt : WT} {te : WE} {env : Env} (f : α → Option D) (h : α → D) : ∀ (xs : List α) (acc : List D) (Q : D → Prop), (∀ x ∈ xs, ∀ (Y : D → Prop) (N : Prop), (match f x with | some y => Y y | none => N) → g (h x) env fun e2 => tt e2 fun b => if b = true then te e2 Y else N) →
    Q (.list (acc ++ xs.filterMap f)) → lcW g tt te env (xs.map h) acc Q
  | [], acc, Q, _, q => by simpa using q
  | x :: xs, acc, Q, hx, q => by
    show g (h x) env _
    refine hx x List.mem_cons_self _ _ ?_
    cases e : f x with
    | none =>
      refine lcW_fm f h xs acc Q (fun y hy => hx y (List.mem_cons_of_mem _ hy)) ?_
      rwa [List.filterMap_cons, e] at q
    | some y =>
      refine lcW_fm f h xs (acc ++ [y]) Q (fun y hy => hx y (List.mem_cons_of_mem _ hy)) ?_
      rw [List.append_assoc]
      rwa [List.filterMap_cons, e] at q
/-- without a test -/
theorem lcW_map {α : Type} {g : WG} {te : WE} {env : Env} (f : α → D) (h : α → D) (xs : List α) (Q : D → Prop) (hx : ∀ x ∈ xs, ∀ Y : D → Prop, Y (f x) → g (h x) env fun e2 => te e2 Y) (q : Q (.list (xs.map f))) : lcW g wYes te env (xs.map h) [] Q := by
  refine lcW_fm (fun x => some (f x)) h xs [] Q (fun x m Y N y => ?_) ?_
  · have := hx x m Y y
    simpa using this
  · have e : xs.filterMap (fun x => some (f x)) = xs.map f := by
      induction xs with
      | nil => rfl
      | cons x r ih => simp
    rw [e]
    exact q
theorem fm_filter {α : Type} (p : α → Bool) (f : α → D) : ∀ xs : List α, xs.filterMap (fun x => if p x = true then some (f x) else none) = (xs.filter p).map f
  | [] => rfl
  | x :: r => by
    rw [List.filterMap_cons, List.filter_cons]
    cases e : p x with
    | true => simp [fm_filter p f r]
    | false => simp [fm_filter p f r]
/-- with a test -/
theorem lcW_filter {α : Type} {g : WG} {tt : WT} {te : WE} {env : Env} (p : α → Bool) (f : α → D) (h : α → D) (xs : List α) (Q : D → Prop) (hx : ∀ x ∈ xs, ∀ (Y : D → Prop) (N : Prop), (p x = true → Y (f x)) → (p x = false → N) → g (h x) env fun e2 => tt e2 fun b => if b = true then te e2 Y else N)
    (q : Q (.list ((xs.filter p).map f))) : lcW g tt te env (xs.map h) [] Q := by
  refine lcW_fm (fun x => if p x = true then some (f x) else none) h xs [] Q (fun x m Y N y => ?_) ?_
  · refine hx x m Y N (fun e => ?_) (fun e => ?_)
    · rw [e] at y
      exact y
    · rw [e] at y
      exact y
  · rw [List.nil_append, fm_filter]
    exact q
/-! ### ints -/
theorem fmodB (a : Int) {b : Int} (h : 0 < b) : 0 ≤ a.fmod b ∧ a.fmod b < b := ⟨Int.fmod_nonneg_of_pos a h, Int.fmod_lt_of_pos a h⟩
theorem cmul_fm (a b c : Int) (h : 0 < b) (h2 : b < 4294967296) : CMul (a.fmod b) c := by
  have := fmodB a h
  exact .inl ⟨by omega, by omega⟩
theorem cmul_r (a b : Int) (h : -4294967296 < b) (h2 : b < 4294967296) : CMul a b := .inr ⟨by omega, by omega⟩
theorem cmul_l (a b : Int) (h : -4294967296 < a) (h2 : a < 4294967296) : CMul a b := .inl ⟨by omega, by omega⟩
theorem ix51 : ixN 5 1 = some 1 := rfl
theorem ix52 : ixN 5 2 = some 2 := rfl
theorem ix53 : ixN 5 3 = some 3 := rfl
theorem ix54 : ixN 5 4 = some 4 := rfl
/-! ### loops: nothing inside is looked into -/
theorem forW_congr {g : WG} {b : WS} {ws : List Nat} {P : Post} {ds es : List D} {env env' : Dn.Env} (h : ds = es) (h2 : env = env') : forW g b ws P ds env = forW g b ws P es env' := by rw [h, h2]
theorem lcW_congr {g : WG} {tt : WT} {te : WE} {env env' : Dn.Env} {ds es acc acc' : List D} {Q : D → Prop} (h2 : env = env') (h : ds = es) (h3 : acc = acc') : lcW g tt te env ds acc Q = lcW g tt te env' es acc' Q := by rw [h, h2, h3]
theorem whileW_congr {c : WT} {b : WS} {ws : List Nat} {P : Post} {n : Nat} {env env' : Dn.Env} (h2 : env = env') : whileW c b ws P n env = whileW c b ws P n env' := by rw [h2]
/-- a loop with a state -/
theorem forW_acc {S : Type} {g : WG} {b : WS} {ws : List Nat} {P : Post} (st : S → Dn.Env) (f : S → D → S) : ∀ (ds : List D) (s : S), (∀ s, ∀ d ∈ ds, ∀ N : Dn.Env → Prop, N (st (f s d)) → g d (st s) fun e2 => b e2 { P with nx := fun e3 => N (wipeE e3 ws), ct := fun e3 => N (wipeE e3 ws), bk := P.nx }) →
    P.nx (st (ds.foldl f s)) → forW g b ws P ds (st s)
  | [], s, _, q => q
  | d :: ds, s, h, q => h s d List.mem_cons_self (fun e => forW g b ws P ds e) (forW_acc st f ds (f s d) (fun s d m => h s d (List.mem_cons_of_mem _ m)) q)
/-- a loop that leaves all as it was -/
theorem forW_same {g : WG} {b : WS} {ws : List Nat} {P : Post} {env : Dn.Env} : ∀ (ds : List D), (∀ d ∈ ds, ∀ N : Dn.Env → Prop, N env → g d env fun e2 => b e2 { P with nx := fun e3 => N (wipeE e3 ws), ct := fun e3 => N (wipeE e3 ws), bk := P.nx }) → P.nx env → forW g b ws P ds env
  | [], _, q => q
  | d :: ds, h, q => h d List.mem_cons_self (fun e => forW g b ws P ds e) (forW_same ds (fun d m => h d (List.mem_cons_of_mem _ m)) q)
/-- a loop that ends the def at the first bad one -/
theorem forW_any {R : Prop} {g : WG} {b : WS} {ws : List Nat} {P : Post} {env : Dn.Env} (bad : D → Bool) : ∀ (ds : List D), (∀ d ∈ ds, ∀ N : Dn.Env → Prop, (bad d = true → R) → (bad d = false → N env) → g d env fun e2 => b e2 { P with nx := fun e3 => N (wipeE e3 ws), ct := fun e3 => N (wipeE e3 ws), bk := P.nx }) →
    (ds.any bad = true → R) → (ds.any bad = false → P.nx env) → forW g b ws P ds env
  | [], _, _, q => q rfl
  | d :: ds, h, r, q => by
    refine h d List.mem_cons_self (fun e => forW g b ws P ds e) (fun e => r (by rw [List.any_cons, e]; rfl)) (fun e => ?_)
    refine forW_any bad ds (fun d m => h d (List.mem_cons_of_mem _ m)) (fun z => r ?_) (fun z => q ?_)
    · rw [List.any_cons, e, z]; rfl
    · rw [List.any_cons, e, z]; rfl
/-- a loop with an invariant -/
theorem forW_inv {g : WG} {b : WS} {ws : List Nat} {P : Post} (I : Dn.Env → Prop) : ∀ (ds : List D) (env : Dn.Env), (∀ env, I env → ∀ d ∈ ds, ∀ N : Dn.Env → Prop, (∀ e, I e → N e) → g d env fun e2 => b e2 { P with nx := fun e3 => N (wipeE e3 ws), ct := fun e3 => N (wipeE e3 ws), bk := P.nx }) →
    I env → (∀ e, I e → P.nx e) → forW g b ws P ds env
  | [], env, _, i, q => q env i
  | d :: ds, env, h, i, q => h env i d List.mem_cons_self (fun e => forW g b ws P ds e) fun e i => forW_inv I ds e (fun env i d m => h env i d (List.mem_cons_of_mem _ m)) i q
/-- a draw -/
theorem draw_cal {a : Addr} {m : Int} {A : D → Prop} {B : Xn → Prop} (h : 0 < m) (h2 : m < 1073741824) (k : ∀ k : Int, 0 ≤ k → k < m → A (.int k)) : cal wDraw [.ob a, .sh (.int m)] A B := ⟨a, m, rfl, ⟨h, h2⟩, k⟩
/-! ### range -/
@[simp] theorem rng0 (n : Nat) : rngD 0 n = (List.range n).map fun k => .int (k : Nat) := by
  unfold rngD
  simp
@[simp] theorem rngN0 (n : Int) : rngD n 0 = [] := rfl
theorem rngD_1 (m : Int) : rngD m 1 = [.int m] := by
  unfold rngD
  simp
theorem rngD_2 (m : Int) : rngD m 2 = [.int m, .int (m + 1)] := by
  unfold rngD
  simp [List.range_succ]
theorem cut_take {α : Type} (xs : List α) (k : Nat) : cutD xs none (some (k : Int)) = xs.take k := by
  unfold cutD
  rw [HT.sIx_none, HT.sIx_nat, List.drop_zero, Nat.sub_zero]
  by_cases h : k ≤ xs.length
  · rw [Nat.min_eq_left h]
  · rw [Nat.min_eq_right (by omega), List.take_of_length_le (Nat.le_refl _), List.take_of_length_le (by omega)]
theorem cut_drop {α : Type} (xs : List α) (k : Nat) : cutD xs (some (k : Int)) none = xs.drop k := by
  unfold cutD
  rw [HT.sIx_none, HT.sIx_nat]
  by_cases h : k ≤ xs.length
  · rw [Nat.min_eq_left h, List.take_of_length_le (by rw [List.length_drop]; exact Nat.le_refl _)]
  · rw [Nat.min_eq_right (by omega), List.drop_eq_nil_of_le (Nat.le_refl _), List.drop_eq_nil_of_le (by omega)]
    simp
theorem cut_drop1 {α : Type} (xs : List α) (k : Nat) : cutD xs (some ((k : Int) + 1)) none = xs.drop (k + 1) := cut_drop xs (k + 1)
theorem splice {α : Type} (g : Nat → α) (x : α) (n i : Nat) (h : i < n) : ((List.range n).map g).take i ++ [x] ++ ((List.range n).map g).drop (i + 1) = (List.range n).map fun k => if k = i then x else g k := by
  apply List.ext_getElem?
  intro k
  by_cases h1 : k < i
  · rw [List.append_assoc, List.getElem?_append_left (by simp; omega)]
    rw [List.getElem?_take, if_pos h1]
    simp [show ¬ k = i by omega, show k < n by omega]
  · by_cases h2 : k = i
    · subst h2
      rw [List.append_assoc, List.getElem?_append_right (by simp; omega)]
      simp [show min k n = k by omega, h]
    · rw [List.getElem?_append_right (by simp; omega)]
      rw [List.getElem?_drop]
      have e : i + 1 + (k - (List.take i (List.map g (List.range n)) ++ [x]).length) = k := by
        simp
        omega
      rw [e]
      by_cases h3 : k < n
      · simp [h2, h3]
      · simp [h3]
/-- a loop over places -/
theorem forW_from {g : WG} {b : WS} {ws : List Nat} {P : Post} (h : Nat → D) (st : Nat → Dn.Env) (n : Nat) (hs : ∀ k, k < n → ∀ N : Dn.Env → Prop, N (st (k + 1)) → g (h k) (st k) fun e2 => b e2 { P with nx := fun e3 => N (wipeE e3 ws), ct := fun e3 => N (wipeE e3 ws), bk := P.nx }) (q : P.nx (st n)) :
    ∀ (m k : Nat), k + m = n → forW g b ws P ((List.range' k m).map h) (st k)
  | 0, k, e => by
    have : k = n := by omega
    subst this
    exact q
  | m + 1, k, e => hs k (by omega) (fun e => forW g b ws P ((List.range' (k + 1) m).map h) e) (forW_from h st n hs q m (k + 1) (by omega))
theorem forW_range {g : WG} {b : WS} {ws : List Nat} {P : Post} {h : Nat → D} (st : Nat → Dn.Env) (n : Nat) (hs : ∀ k, k < n → ∀ N : Dn.Env → Prop, N (st (k + 1)) → g (h k) (st k) fun e2 => b e2 { P with nx := fun e3 => N (wipeE e3 ws), ct := fun e3 => N (wipeE e3 ws), bk := P.nx }) (q : P.nx (st n)) : forW g b ws P ((List.range n).map h) (st 0) := by
  rw [List.range_eq_range']
  exact forW_from h st n hs q n 0 (by omega)
/-- a loop over a list, with what came before -/
theorem forW_pre {α : Type} {g : WG} {b : WS} {ws : List Nat} {P : Post} {h : α → D} (st : List α → Dn.Env) : ∀ (xs pre : List α), (∀ p x r, pre ++ xs = p ++ x :: r → ∀ N : Dn.Env → Prop, N (st (p ++ [x])) → g (h x) (st p) fun e2 => b e2 { P with nx := fun e3 => N (wipeE e3 ws), ct := fun e3 => N (wipeE e3 ws), bk := P.nx }) →
    P.nx (st (pre ++ xs)) → forW g b ws P (xs.map h) (st pre)
  | [], pre, _, q => by rw [List.append_nil] at q; exact q
  | x :: xs, pre, hs, q => hs pre x xs rfl (fun e => forW g b ws P (xs.map h) e) (forW_pre st xs (pre ++ [x]) (fun p y r e => hs p y r (by rw [← e]; simp)) (by simpa using q))
theorem fm_succ {α : Type} (F : Nat → List α) (k : Nat) : (List.range (k + 1)).flatMap F = (List.range k).flatMap F ++ F k := by
  rw [List.range_succ, List.flatMap_append]
  simp
theorem fm_len {α : Type} (F : Nat → List α) (m : Nat) (h : ∀ k, (F k).length ≤ m) (k : Nat) : ((List.range k).flatMap F).length ≤ m * k := by
  induction k with
  | zero => simp
  | succ k ih =>
    rw [fm_succ, List.length_append]
    have := h k
    have : m * (k + 1) = m * k + m := Nat.mul_succ _ _
    omega
theorem enum_range (n : Nat) (g : Nat → D) : enumD ((List.range n).map g) = (List.range n).map fun k => .tuple [.int (k : Nat), g k] := by
  unfold enumD
  apply List.ext_getElem?
  intro k
  by_cases h : k < n
  · simp [h]
  · simp [h]
theorem forW_rangeE {g : WG} {b : WS} {ws : List Nat} {P : Post} {h : Nat → D} {env : Dn.Env} (st : Nat → Dn.Env) (n : Nat) (he : env = st 0) (hs : ∀ k, k < n → ∀ N : Dn.Env → Prop, N (st (k + 1)) → g (h k) (st k) fun e2 => b e2 { P with nx := fun e3 => N (wipeE e3 ws), ct := fun e3 => N (wipeE e3 ws), bk := P.nx }) (q : P.nx (st n)) : forW g b ws P ((List.range n).map h) env := by
  rw [he]
  exact forW_range st n hs q
/-! ### shapes -/
def Shp (k : Nat) (d : D) : Prop := d.canLay0 = true ∧ d.depth ≤ k
theorem shaped_of {k : Nat} {d : D} (h : Shp k d) (hk : k ≤ 64) : SeqAt.shaped d = true := by
  unfold SeqAt.shaped
  rw [h.1, decide_eq_true (by have := h.2; omega)]
  rfl
theorem shp_int' (i : Int) : Shp 1 (.int i) := ⟨rfl, by show PyData.depth _ ≤ 1; simp [PyData.depth]⟩
theorem shp_none' : Shp 1 .none := ⟨rfl, by show PyData.depth _ ≤ 1; simp [PyData.depth]⟩
theorem shp_bool' (b : Bool) : Shp 1 (.bool b) := ⟨rfl, by show PyData.depth _ ≤ 1; simp [PyData.depth]⟩
theorem shp_all {k : Nat} : ∀ {xs : List D}, (∀ x ∈ xs, Shp k x) → PyData.canLayAll0 xs = true ∧ PyData.depthAll xs ≤ k
  | [], _ => ⟨rfl, by simp [PyData.depthAll]⟩
  | x :: r, h => by
    obtain ⟨h1, h2⟩ := shp_all fun y m => h y (List.mem_cons_of_mem _ m)
    obtain ⟨h3, h4⟩ := h x List.mem_cons_self
    refine ⟨by simp [PyData.canLayAll0, h1, h3], ?_⟩
    simp only [PyData.depthAll]
    omega
theorem Shp.list {k : Nat} {xs : List D} (h : ∀ x ∈ xs, Shp k x) : Shp (k + 1) (.list xs) := by
  obtain ⟨h1, h2⟩ := shp_all h
  refine ⟨by simp [PyData.canLay0, h1], ?_⟩
  simp only [PyData.depth]
  omega
theorem Shp.tuple {k : Nat} {xs : List D} (h : ∀ x ∈ xs, Shp k x) : Shp (k + 1) (.tuple xs) := by
  obtain ⟨h1, h2⟩ := shp_all h
  refine ⟨by simp [PyData.canLay0, h1], ?_⟩
  simp only [PyData.depth]
  omega
theorem Shp.mono {k m : Nat} {d : D} (h : Shp k d) (hk : k ≤ m) : Shp m d := ⟨h.1, Nat.le_trans h.2 hk⟩
theorem lcW_mapL {g : WG} {te : WE} {env : Dn.Env} (f : D → D) (xs : List D) (Q : D → Prop) (hx : ∀ x ∈ xs, ∀ Y : D → Prop, Y (f x) → g x env fun e2 => te e2 Y) (q : Q (.list (xs.map f))) : lcW g wYes te env xs [] Q := by
  have z := lcW_map (g := g) (te := te) (env := env) f id xs Q hx q
  rwa [List.map_id] at z
theorem lcW_filterL {g : WG} {tt : WT} {te : WE} {env : Dn.Env} (p : D → Bool) (f : D → D) (xs : List D) (Q : D → Prop) (hx : ∀ x ∈ xs, ∀ (Y : D → Prop) (N : Prop), (p x = true → Y (f x)) → (p x = false → N) → g x env fun e2 => tt e2 fun b => if b = true then te e2 Y else N)
    (q : Q (.list ((xs.filter p).map f))) : lcW g tt te env xs [] Q := by
  have z := lcW_filter (g := g) (tt := tt) (te := te) (env := env) p f id xs Q hx q
  rwa [List.map_id] at z
/-- of depth k at most, no dicts -/
def OkS : Nat → D → Prop
  | 0, _ => False
  | k + 1, d => match d with
    | .tuple xs => ∀ x ∈ xs, OkS k x
    | .list xs => ∀ x ∈ xs, OkS k x
    | .none => True
    | .bool _ => True
    | .int _ => True
    | .str z => SeqAt.shaped (.str z) = true ∧ PyData.eqv (.str z) (.str z) = true
    | _ => False
theorem zipD_self : ∀ xs : List D, zipD xs xs = xs.map fun x => .tuple [x, x]
  | [] => rfl
  | x :: r => congrArg (List.cons (PyData.tuple [x, x])) (zipD_self r)
theorem atI_ex {α : Type} {xs : List α} {k : Int} (k0 : 0 ≤ k) (k1 : k < xs.length) : ∃ x, atI xs k = some x ∧ x ∈ xs := by
  rw [atI_of _ _ k0, List.getElem?_eq_getElem (by omega)]
  exact ⟨_, rfl, List.getElem_mem _⟩
end Dn
/-! DnB: boards: n rows of n cells, each a sign or None. -/
namespace Dn
open PySem L2
def cD : Option Int → D
  | none => .none
  | some i => .int i
abbrev Gr := Nat → Nat → Option Int
/-- a line of n cells -/
def lnD (n : Nat) (l : Nat → Option Int) : List D := (List.range n).map fun c => cD (l c)
def gD (n : Nat) (f : Gr) : D := .tuple ((List.range n).map fun r => .tuple (lnD n (f r)))
@[simp] theorem cD_flat (a : Option Int) : flatD (cD a) = true := by cases a <;> rfl
@[simp] theorem cD_shaped (a : Option Int) : SeqAt.shaped (cD a) = true := by cases a <;> rfl
@[simp] theorem cD_eqv (a b : Option Int) : PyData.eqv (cD a) (cD b) = decide (a = b) := by
  cases a with
  | none => cases b <;> simp [cD]
  | some i =>
    cases b with
    | none => simp [cD]
    | some j =>
      simp [cD]
      by_cases h : i = j <;> simp [h]
@[simp] theorem cD_eqvI (a : Option Int) (i : Int) : PyData.eqv (cD a) (.int i) = decide (a = some i) := cD_eqv a (some i)
@[simp] theorem cD_isN (a : Option Int) : oIsN (cD a) = decide (a = none) := by cases a <;> rfl
@[simp] theorem lnD_length (n : Nat) (l : Nat → Option Int) : (lnD n l).length = n := by simp [lnD]
theorem lnD_flat (n : Nat) (l : Nat → Option Int) : (lnD n l).all flatD = true := by
  simp [lnD, List.all_eq_true]
theorem atI_map {α : Type} (g : Nat → α) (n i : Nat) (h : i < n) : atI ((List.range n).map g) (i : Int) = some (g i) := by
  rw [atI_nat']
  simp [h]
theorem at_ln (n : Nat) (l : Nat → Option Int) (i : Nat) (h : i < n) : atI (lnD n l) (i : Int) = some (cD (l i)) := atI_map _ n i h
/-- one more sign -/
def put3 (f : Gr) (r c : Nat) (s : Int) : Gr := fun i j => if i = r ∧ j = c then some s else f i j
theorem ln_put {n c : Nat} (l : Nat → Option Int) (s : Option Int) (h : c < n) : (lnD n l).take c ++ [cD s] ++ (lnD n l).drop (c + 1) = lnD n fun k => if k = c then s else l k := by
  unfold lnD
  rw [splice _ _ _ _ h]
  apply List.map_congr_left
  intro k _
  by_cases e : k = c <;> simp [e]
theorem g_put {n r c : Nat} (f : Gr) (s : Int) (h : r < n) (h2 : c < n) : PyData.tuple (((List.range n).map fun r => PyData.tuple (lnD n (f r))).take r ++ [PyData.tuple ((lnD n (f r)).take c ++ [PyData.int s] ++ (lnD n (f r)).drop (c + 1))] ++ ((List.range n).map fun r => PyData.tuple (lnD n (f r))).drop (r + 1)) = gD n (put3 f r c s) := by
  rw [show PyData.int s = cD (some s) from rfl, ln_put _ _ h2, splice _ _ _ _ h]
  unfold gD
  congr 1
  apply List.map_congr_left
  intro k _
  by_cases e : k = r
  · rw [if_pos e]
    congr 1
    unfold lnD
    apply List.map_congr_left
    intro j _
    unfold put3
    by_cases e2 : j = c
    · simp [e, e2]
    · simp [e, e2]
  · rw [if_neg e]
    congr 1
    unfold lnD
    apply List.map_congr_left
    intro j _
    unfold put3
    simp [e]
/-! ### what can be put -/
def trD (r c : Nat) (s : Int) : D := .tuple [.int r, .int c, .int s]
/-- the sign s stands neither in row r nor in column c -/
def fits (n : Nat) (f : Gr) (r c : Nat) (s : Nat) : Bool := (List.range n).all fun k => !decide (f r k = some (s : Int)) && !decide (f k c = some (s : Int))
def putsAt (n : Nat) (f : Gr) (r c : Nat) : List D := if f r c = none then ((List.range n).filter fun (s : Nat) => fits n f r c s).map fun (s : Nat) => trD r c (s : Int) else []
def puts (n : Nat) (f : Gr) : List D := (List.range n).flatMap fun r => (List.range n).flatMap fun c => putsAt n f r c
theorem any_ln (n : Nat) (l : Nat → Option Int) (s : Nat) : ((lnD n l).any fun z => PyData.eqv z (.int s)) = (List.range n).any fun k => decide (l k = some (s : Int)) := by
  unfold lnD
  rw [List.any_map]
  congr 1
  funext k
  simp
theorem fits_aux (a b x y : Bool) : (!a && !b && (!x && !y)) = (!(a || x) && !(b || y)) := by cases a <;> cases b <;> cases x <;> cases y <;> rfl
theorem fits_any (n : Nat) (f : Gr) (r c s : Nat) : fits n f r c s = (!((lnD n (f r)).any fun z => PyData.eqv z (.int s)) && !((lnD n fun k => f k c).any fun z => PyData.eqv z (.int s))) := by
  rw [any_ln, any_ln]
  unfold fits
  induction (List.range n) with
  | nil => rfl
  | cons k r ih =>
    rw [List.all_cons, List.any_cons, List.any_cons, ih]
    exact fits_aux _ _ _ _
theorem foldl_app {α : Type} (g : D → List α) : ∀ (ds : List D) (acc : List α), ds.foldl (fun a d => a ++ g d) acc = acc ++ ds.flatMap g
  | [], acc => by simp
  | d :: ds, acc => by
    rw [List.foldl_cons, foldl_app g ds, List.flatMap_cons, List.append_assoc]
theorem flatMap_map' {α β : Type} (h : Nat → β) (g : β → List α) (xs : List Nat) : (xs.map h).flatMap g = xs.flatMap fun k => g (h k) := by
  induction xs with
  | nil => rfl
  | cons x r ih => simp [ih]
theorem len_flatMap {α : Type} (g : Nat → List α) (m : Nat) (hg : ∀ k, (g k).length ≤ m) : ∀ xs : List Nat, (xs.flatMap g).length ≤ m * xs.length
  | [] => by simp
  | x :: r => by
    have ih := len_flatMap g m hg r
    have h := hg x
    rw [List.flatMap_cons, List.length_append, List.length_cons]
    have : m * (r.length + 1) = m * r.length + m := Nat.mul_succ _ _
    omega
theorem putsAt_len (n : Nat) (f : Gr) (r c : Nat) : (putsAt n f r c).length ≤ n := by
  unfold putsAt
  split
  · rw [List.length_map]
    exact Nat.le_trans (List.length_filter_le _ _) (by simp)
  · simp
theorem puts_len (n : Nat) (f : Gr) : (puts n f).length ≤ n * n * n := by
  unfold puts
  have := len_flatMap (fun r => (List.range n).flatMap fun c => putsAt n f r c) (n * n) (fun r => by
    have := len_flatMap (fun c => putsAt n f r c) n (fun c => putsAt_len n f r c) (List.range n)
    rwa [List.length_range] at this) (List.range n)
  rwa [List.length_range] at this
theorem mem_puts {n : Nat} {f : Gr} {d : D} : d ∈ puts n f ↔ ∃ r c s : Nat, r < n ∧ c < n ∧ s < n ∧ f r c = none ∧ fits n f r c s = true ∧ d = trD r c s := by
  unfold puts putsAt
  simp only [List.mem_flatMap, List.mem_range]
  constructor
  · rintro ⟨r, hr, c, hc, h⟩
    split at h
    · rename_i e
      simp only [List.mem_map, List.mem_filter, List.mem_range] at h
      obtain ⟨s, ⟨h1, h2⟩, rfl⟩ := h
      exact ⟨r, c, s, hr, hc, h1, e, h2, rfl⟩
    · cases h
  · rintro ⟨r, c, s, hr, hc, hs, e, h2, rfl⟩
    refine ⟨r, hr, c, hc, ?_⟩
    rw [if_pos e]
    simp only [List.mem_map, List.mem_filter, List.mem_range]
    exact ⟨s, ⟨hs, h2⟩, rfl⟩
theorem fits_iff {n : Nat} {f : Gr} {r c s : Nat} : fits n f r c s = true ↔ (∀ k, k < n → ¬ f r k = some (s : Int)) ∧ ∀ k, k < n → ¬ f k c = some (s : Int) := by
  unfold fits
  simp only [List.all_eq_true, List.mem_range, Bool.and_eq_true, Bool.not_eq_true', decide_eq_false_iff_not]
  exact ⟨fun h => ⟨fun k hk => (h k hk).1, fun k hk => (h k hk).2⟩, fun h k hk => ⟨h.1 k hk, h.2 k hk⟩⟩
theorem ln_all {n : Nat} {l : Nat → Option Int} {p : D → Prop} : (∀ x, x ∈ lnD n l → p x) ↔ ∀ k, k < n → p (cD (l k)) := by
  unfold lnD
  simp only [List.mem_map, List.mem_range]
  exact ⟨fun h k hk => h _ ⟨k, hk, rfl⟩, fun h x ⟨k, hk, e⟩ => e ▸ h k hk⟩
theorem shp_cD (a : Option Int) : Shp 1 (cD a) := by
  cases a with
  | none => exact shp_none'
  | some i => exact shp_int' i
theorem shp_ln (n : Nat) (l : Nat → Option Int) : ∀ x ∈ lnD n l, Shp 1 x := ln_all.mpr fun k _ => shp_cD _
theorem shp_g (n : Nat) (f : Gr) : Shp 3 (gD n f) := by
  refine Shp.tuple fun x hx => ?_
  simp only [List.mem_map, List.mem_range] at hx
  obtain ⟨k, _, rfl⟩ := hx
  exact Shp.tuple (shp_ln _ _)
theorem shp_tr (r c : Nat) (s : Int) : Shp 2 (trD r c s) := by
  refine Shp.tuple fun x hx => ?_
  simp only [List.mem_cons, List.not_mem_nil, or_false] at hx
  rcases hx with rfl | rfl | rfl <;> exact shp_int' _
theorem enum_ln (n : Nat) (l : Nat → Option Int) : enumD (lnD n l) = (List.range n).map fun k => .tuple [.int (k : Nat), cD (l k)] := enum_range n _
/-! ### what is a board -/
def isI : D → Bool
  | .int _ => true
  | _ => false
def wiB (d : D) (lo hi : Int) : Bool := match d with
  | .int i => decide (lo ≤ i) && decide (i ≤ hi)
  | _ => false
def szB (d : D) (lo hi : Int) : Bool := match d with
  | .tuple xs => decide (lo ≤ (xs.length : Int)) && decide ((xs.length : Int) ≤ hi)
  | _ => false
def cellOk (n : Nat) (c : D) : Bool := match c with
  | .none => true
  | .int i => decide (0 ≤ i) && decide (i < n)
  | _ => false
def rowOk (n : Nat) (r : D) : Bool := match r with
  | .tuple cs => cs.length == n && cs.all (cellOk n)
  | _ => false
def InR (n : Nat) (f : Gr) : Prop := ∀ r c s, r < n → c < n → f r c = some s → 0 ≤ s ∧ s < n
def cellOf (c : D) : Option Int := match c with
  | .int i => some i
  | _ => none
theorem cellOf_ok {n : Nat} {c : D} (h : cellOk n c = true) : cD (cellOf c) = c ∧ ∀ s, cellOf c = some s → 0 ≤ s ∧ s < n := by
  cases c with
  | none => exact ⟨rfl, fun s h => nomatch h⟩
  | int i =>
    simp [cellOk] at h
    exact ⟨rfl, fun s e => by cases e; exact h⟩
  | _ => cases h
theorem ext_range {α : Type} {xs : List α} {n : Nat} {g : Nat → α} (hl : xs.length = n) (h : ∀ k x, k < n → xs[k]? = some x → g k = x) : xs = (List.range n).map g := by
  apply List.ext_getElem?
  intro k
  by_cases hk : k < n
  · have : k < xs.length := by omega
    have e : xs[k]? = some xs[k] := List.getElem?_eq_getElem this
    rw [e, ← h k _ hk e]
    simp [hk]
  · rw [List.getElem?_eq_none (by omega), List.getElem?_eq_none (by simp; omega)]
theorem board_of {rows : List D} (h : rows.all (rowOk rows.length) = true) : ∃ f : Gr, PyData.tuple rows = gD rows.length f ∧ InR rows.length f := by
  have hr : ∀ (k : Nat) (x : D), rows[k]? = some x → ∃ cs, x = .tuple cs ∧ cs.length = rows.length ∧ ∀ c ∈ cs, cellOk rows.length c = true := fun k x e => by
    have m := List.all_eq_true.mp h x (List.mem_of_getElem? e)
    cases x with
    | tuple cs =>
      simp [rowOk] at m
      exact ⟨cs, rfl, m.1, m.2⟩
    | _ => cases m
  let f : Gr := fun r c => match rows[r]? with
    | some (.tuple cs) => match cs[c]? with
      | some d => cellOf d
      | none => none
    | _ => none
  refine ⟨f, ?_, ?_⟩
  · unfold gD
    congr 1
    refine ext_range rfl fun k x hk e => ?_
    obtain ⟨cs, rfl, hl, hc⟩ := hr k x e
    congr 1
    symm
    refine ext_range hl fun j y hj ey => ?_
    have ef : f k j = cellOf y := by
      show (match rows[k]? with | some (.tuple cs) => (match cs[j]? with | some d => cellOf d | none => none) | _ => none) = _
      rw [e]
      show (match cs[j]? with | some d => cellOf d | none => none) = _
      rw [ey]
    rw [ef]
    exact (cellOf_ok (hc y (List.mem_of_getElem? ey))).1
  · intro r c s hr' hc' e
    have e1 : (match rows[r]? with | some (.tuple cs) => (match cs[c]? with | some d => cellOf d | none => none) | _ => none) = some s := e
    have l1 : r < rows.length := hr'
    obtain ⟨cs, ec, hl, hc⟩ := hr r _ (List.getElem?_eq_getElem l1)
    rw [List.getElem?_eq_getElem l1, ec] at e1
    have l2 : c < cs.length := by omega
    have e2 : (match cs[c]? with | some d => cellOf d | none => none) = some s := e1
    rw [List.getElem?_eq_getElem l2] at e2
    exact (cellOf_ok (hc _ (List.getElem_mem l2))).2 s e2
/-- no sign twice -/
def lnFree (n : Nat) (l : Nat → Option Int) : Bool := (List.range n).all fun k => decide (l k = none) || (List.range n).all fun j => decide (j = k) || !decide (l j = l k)
def grFree (n : Nat) (f : Gr) : Bool := ((List.range n).all fun r => lnFree n (f r)) && (List.range n).all fun c => lnFree n fun r => f r c
theorem lnFree_iff {n : Nat} {l : Nat → Option Int} : lnFree n l = true ↔ ∀ k j, k < n → j < n → l k ≠ none → l j = l k → j = k := by
  unfold lnFree
  simp only [List.all_eq_true, List.mem_range, Bool.or_eq_true, decide_eq_true_eq, Bool.not_eq_true', decide_eq_false_iff_not]
  constructor
  · intro h k j hk hj hn e
    rcases h k hk with h | h
    · exact absurd h hn
    · rcases h j hj with h | h
      · exact h
      · exact absurd e h
  · intro h k hk
    by_cases hn : l k = none
    · exact .inl hn
    · refine .inr fun j hj => ?_
      by_cases e : l j = l k
      · exact .inl (h k j hk hj hn e)
      · exact .inr e
/-- how often one stands in a line -/
theorem count_le {n : Nat} {p : Nat → Bool} : (List.range n).countP p ≤ 1 ↔ ∀ k j, k < n → j < n → p k = true → p j = true → j = k := by
  induction n with
  | zero => simp
  | succ n ih =>
    rw [List.range_succ, List.countP_append, List.countP_singleton]
    constructor
    · intro h k j hk hj pk pj
      by_cases e : p n = true
      · rw [if_pos e] at h
        have z : (List.range n).countP p = 0 := by omega
        rw [List.countP_eq_zero] at z
        have no : ∀ x, x < n → p x = true → False := fun x hx q => z x (List.mem_range.mpr hx) q
        by_cases h1 : k = n
        · by_cases h2 : j = n
          · omega
          · exact (no j (by omega) pj).elim
        · exact (no k (by omega) pk).elim
      · rw [if_neg e] at h
        have h1 : k ≠ n := fun q => e (q ▸ pk)
        have h2 : j ≠ n := fun q => e (q ▸ pj)
        exact ih.mp (by omega) k j (by omega) (by omega) pk pj
    · intro h
      by_cases e : p n = true
      · rw [if_pos e]
        have z : (List.range n).countP p = 0 := by
          rw [List.countP_eq_zero]
          intro x hx q
          have := h x n (by have := List.mem_range.mp hx; omega) (by omega) q e
          have := List.mem_range.mp hx
          omega
        omega
      · rw [if_neg e]
        have := ih.mpr fun k j hk hj => h k j (by omega) (by omega)
        omega
theorem cnt_ln (n : Nat) (l : Nat → Option Int) (a : Option Int) : (lnD n l).countP (fun z => PyData.eqv z (cD a)) = (List.range n).countP fun k => decide (l k = a) := by
  unfold lnD
  rw [List.countP_map]
  congr 1
  funext k
  simp
theorem pos_cnt {n : Nat} {p : Nat → Bool} {k : Nat} (hk : k < n) (h : p k = true) : 0 < (List.range n).countP p := List.countP_pos_iff.mpr ⟨k, List.mem_range.mpr hk, h⟩
theorem lineB (n : Nat) (l : Nat → Option Int) : (((lnD n l).filter fun d => !oIsN d).all fun x => decide (((lnD n l).filter fun d => !oIsN d).countP (fun z => PyData.eqv z x) = 1)) = lnFree n l := by
  rw [Bool.eq_iff_iff, List.all_eq_true, lnFree_iff]
  have cnt : ∀ s : Int, ((lnD n l).filter fun d => !oIsN d).countP (fun z => PyData.eqv z (cD (some s))) = (List.range n).countP fun k => decide (l k = some s) := fun s => by
    rw [List.countP_filter, ← cnt_ln]
    apply List.countP_congr
    intro x hx
    unfold lnD at hx
    simp only [List.mem_map] at hx
    obtain ⟨k, _, rfl⟩ := hx
    simp only [cD_eqv, cD_isN]
    cases l k with
    | none => simp
    | some i => simp
  constructor
  · intro h k j hk hj hn e
    cases ek : l k with
    | none => exact absurd ek hn
    | some s =>
      have m : cD (some s) ∈ (lnD n l).filter fun d => !oIsN d := by
        rw [List.mem_filter]
        refine ⟨?_, rfl⟩
        unfold lnD
        exact List.mem_map.mpr ⟨k, List.mem_range.mpr hk, by rw [ek]⟩
      have q := of_decide_eq_true (h _ m)
      rw [cnt] at q
      exact count_le.mp (Nat.le_of_eq q) k j hk hj (decide_eq_true ek) (decide_eq_true (e.trans ek))
  · intro h x hx
    rw [List.mem_filter] at hx
    obtain ⟨hx, hn⟩ := hx
    unfold lnD at hx
    simp only [List.mem_map, List.mem_range] at hx
    obtain ⟨k, hk, rfl⟩ := hx
    cases ek : l k with
    | none => rw [ek] at hn; simp [cD] at hn
    | some s =>
      rw [decide_eq_true_eq, cnt]
      have h1 := pos_cnt (p := fun k => decide (l k = some s)) hk (decide_eq_true ek)
      have h2 : (List.range n).countP (fun k => decide (l k = some s)) ≤ 1 := count_le.mpr fun a b ha hb pa pb => by
        have pa := of_decide_eq_true pa
        have pb := of_decide_eq_true pb
        exact h a b ha hb (by rw [pa]; exact fun z => nomatch z) (pb.trans pa.symm)
      omega
/-- the law's way -/
theorem lineL {n : Nat} {l : Nat → Option Int} (hr : ∀ k s, k < n → l k = some s → 0 ≤ s ∧ s < n) : ((List.range n).any fun (s : Nat) => decide (1 < (lnD n l).countP (fun z => PyData.eqv z (.int s)))) = !lnFree n l := by
  have e : ∀ s : Nat, (lnD n l).countP (fun z => PyData.eqv z (.int s)) = (List.range n).countP fun k => decide (l k = some (s : Int)) := fun s => cnt_ln n l (some s)
  rw [Bool.eq_iff_iff, Bool.not_eq_true', ← Bool.not_eq_true, lnFree_iff]
  simp only [List.any_eq_true, List.mem_range, decide_eq_true_eq, e]
  constructor
  · rintro ⟨s, hs, h⟩ q
    have : (List.range n).countP (fun k => decide (l k = some (s : Int))) ≤ 1 := count_le.mpr fun a b ha hb pa pb => by
      have pa := of_decide_eq_true pa
      have pb := of_decide_eq_true pb
      exact q a b ha hb (by rw [pa]; exact fun z => nomatch z) (pb.trans pa.symm)
    omega
  · intro h
    refine Classical.byContradiction fun no => h fun k j hk hj hn e2 => ?_
    cases ek : l k with
    | none => exact absurd ek hn
    | some s =>
      obtain ⟨s0, s1⟩ := hr k s hk ek
      have c : (List.range n).countP (fun k => decide (l k = some ((s.toNat : Nat) : Int))) ≤ 1 := by
        refine Nat.le_of_not_lt fun q => no ⟨s.toNat, by omega, q⟩
      rw [Int.toNat_of_nonneg s0] at c
      exact count_le.mp c k j hk hj (decide_eq_true ek) (decide_eq_true (e2.trans ek))
theorem grFree_iff {n : Nat} {f : Gr} : grFree n f = true ↔ ∀ k, k < n → lnFree n (f k) = true ∧ lnFree n (fun r => f r k) = true := by
  unfold grFree
  simp only [Bool.and_eq_true, List.all_eq_true, List.mem_range]
  exact ⟨fun h k hk => ⟨h.1 k hk, h.2 k hk⟩, fun h => ⟨fun k hk => (h k hk).1, fun k hk => (h k hk).2⟩⟩
/-! ### open cells -/
def opr (n : Nat) (l : Nat → Option Int) : Nat := ((List.range n).filter fun c => decide (l c = none)).length
def opn (n : Nat) (f : Gr) : Nat := ((List.range n).map fun r => opr n (f r)).sum
theorem sum_cast : ∀ (xs : List Nat) (g : Nat → Nat), (xs.map fun r => ((g r : Nat) : Int)).sum = (((xs.map g).sum : Nat) : Int)
  | [], _ => rfl
  | x :: r, g => by
    rw [List.map_cons, List.map_cons, List.sum_cons, List.sum_cons, sum_cast r g]
    omega
theorem opr_le (n : Nat) (l : Nat → Option Int) : opr n l ≤ n := Nat.le_trans (List.length_filter_le _ _) (by simp)
theorem sum_le {g : Nat → Nat} {m : Nat} (h : ∀ k, g k ≤ m) : ∀ xs : List Nat, (xs.map g).sum ≤ m * xs.length
  | [] => by simp
  | x :: r => by
    rw [List.map_cons, List.sum_cons, List.length_cons]
    have := sum_le h r
    have := h x
    have : m * (r.length + 1) = m * r.length + m := Nat.mul_succ _ _
    omega
theorem opn_le (n : Nat) (f : Gr) : opn n f ≤ n * n := by
  have := sum_le (fun r => opr_le n (f r)) (List.range n)
  rwa [List.length_range] at this
/-- a drawn board -/
structure Bd (n : Nat) (f : Gr) : Prop where
  lo : 1 ≤ n
  hi : n ≤ 3
  rng : InR n f
  fre : grFree n f = true
theorem bd_open {n : Nat} (h1 : 1 ≤ n) (h3 : n ≤ 3) : Bd n fun _ _ => none := ⟨h1, h3, fun _ _ _ _ _ e => (nomatch e), grFree_iff.mpr fun _ _ => ⟨lnFree_iff.mpr fun _ _ _ _ h => absurd rfl h, lnFree_iff.mpr fun _ _ _ _ h => absurd rfl h⟩⟩
theorem lnFree_put {n c : Nat} {l : Nat → Option Int} {s : Int} (h : lnFree n l = true) (no : ∀ k, k < n → ¬ l k = some s) : lnFree n (fun k => if k = c then some s else l k) = true := by
  rw [lnFree_iff] at h ⊢
  intro k j hk hj hn e
  by_cases hkc : k = c
  · by_cases hjc : j = c
    · omega
    · simp [hkc, hjc] at e
      exact absurd e (no j hj)
  · by_cases hjc : j = c
    · simp [hkc, hjc] at e
      exact absurd e.symm (no k hk)
    · simp [hkc, hjc] at e hn
      exact h k j hk hj hn e
theorem put3_row (f : Gr) (r c : Nat) (s : Int) (i : Nat) : put3 f r c s i = if i = r then fun k => if k = c then some s else f r k else f i := by
  funext k
  unfold put3
  by_cases h : i = r
  · simp [h]
  · simp [h]
theorem put3_col (f : Gr) (r c : Nat) (s : Int) (j : Nat) : (fun i => put3 f r c s i j) = if j = c then fun k => if k = r then some s else f k c else fun i => f i j := by
  by_cases h : j = c
  · subst h
    rw [if_pos rfl]
    funext i
    unfold put3
    by_cases h2 : i = r <;> simp [h2]
  · rw [if_neg h]
    funext i
    unfold put3
    simp [h]
theorem Bd.put {n : Nat} {f : Gr} {r c s : Nat} (b : Bd n f) (hr : r < n) (hc : c < n) (hs : s < n) (hf : fits n f r c s = true) : Bd n (put3 f r c s) := by
  obtain ⟨f1, f2⟩ := fits_iff.mp hf
  refine ⟨b.lo, b.hi, fun i j t hi hj e => ?_, grFree_iff.mpr fun k hk => ⟨?_, ?_⟩⟩
  · unfold put3 at e
    split at e
    · cases e
      omega
    · exact b.rng i j t hi hj e
  · obtain ⟨g1, _⟩ := grFree_iff.mp b.fre k hk
    rw [put3_row]
    split
    · rename_i e
      subst e
      exact lnFree_put g1 f1
    · exact g1
  · obtain ⟨_, g1⟩ := grFree_iff.mp b.fre k hk
    rw [put3_col]
    split
    · rename_i e
      subst e
      exact lnFree_put g1 f2
    · exact g1
theorem filter_len_lt {p q : Nat → Bool} {c : Nat} : ∀ {xs : List Nat}, (∀ k, q k = true → p k = true) → c ∈ xs → p c = true → q c = false → (xs.filter q).length < (xs.filter p).length := by
  intro xs
  induction xs with
  | nil => intro _ h; cases h
  | cons x r ih =>
    intro h m pc qc
    have le : ∀ ys : List Nat, (ys.filter q).length ≤ (ys.filter p).length := fun ys => by
      induction ys with
      | nil => simp
      | cons y t ih =>
        rw [List.filter_cons, List.filter_cons]
        cases eq : q y with
        | true => rw [h y eq]; simp; exact ih
        | false =>
          cases p y with
          | true => simp; omega
          | false => simpa using ih
    rw [List.filter_cons, List.filter_cons]
    rcases List.mem_cons.mp m with rfl | m
    · rw [pc, qc]
      have := le r
      simp
      omega
    · have := ih h m pc qc
      cases eq : q x with
      | true => rw [h x eq]; simp; exact this
      | false =>
        cases p x with
        | true => simp; omega
        | false => simpa using this
theorem opr_put {n c : Nat} {l : Nat → Option Int} {s : Int} (hc : c < n) (h : l c = none) : opr n (fun k => if k = c then some s else l k) < opr n l := by
  unfold opr
  refine filter_len_lt (c := c) (fun k hk => ?_) (List.mem_range.mpr hc) (decide_eq_true h) (by simp)
  have hk := of_decide_eq_true hk
  dsimp only at hk
  split at hk
  · cases hk
  · exact decide_eq_true hk
theorem sum_lt {g h : Nat → Nat} {r : Nat} : ∀ {xs : List Nat}, (∀ k, g k ≤ h k) → r ∈ xs → g r < h r → (xs.map g).sum < (xs.map h).sum := by
  intro xs
  induction xs with
  | nil => intro _ m; cases m
  | cons x t ih =>
    intro le m lt
    have le2 : (t.map g).sum ≤ (t.map h).sum := by
      clear ih m
      induction t with
      | nil => simp
      | cons y u ih => 
        rw [List.map_cons, List.map_cons, List.sum_cons, List.sum_cons]
        have := le y
        omega
    rw [List.map_cons, List.map_cons, List.sum_cons, List.sum_cons]
    have := le x
    rcases List.mem_cons.mp m with rfl | m
    · omega
    · have := ih le m lt
      omega
theorem opn_put {n r c : Nat} {f : Gr} {s : Int} (hr : r < n) (hc : c < n) (h : f r c = none) : opn n (put3 f r c s) < opn n f := by
  unfold opn
  refine sum_lt (r := r) (fun k => ?_) (List.mem_range.mpr hr) ?_
  · rw [put3_row]
    split
    · rename_i e
      subst e
      exact Nat.le_of_lt (opr_put hc h)
    · exact Nat.le_refl _
  · rw [put3_row, if_pos rfl]
    exact opr_put hc h
/-- the board that stands for all that are stuck -/
def bd2 : Gr := fun r c => if r = c then none else some 0
theorem bd2_ok : Bd 2 bd2 := ⟨by decide, by decide, fun r c s hr hc e => by
  unfold bd2 at e
  split at e
  · cases e
  · cases e
    decide, by decide +kernel⟩
theorem bd2_D : gD 2 bd2 = .tuple [.tuple [.none, .int 0], .tuple [.int 0, .none]] := rfl
theorem bd2_open : opn 2 bd2 = 2 := by decide +kernel
theorem any_puts {n : Nat} {f : Gr} {r c s : Nat} : ((puts n f).any fun z => PyData.eqv z (trD r c s)) = true ↔ trD r c s ∈ puts n f := by
  rw [List.any_eq_true]
  constructor
  · rintro ⟨d, hd, e⟩
    obtain ⟨r', c', s', _, _, _, _, _, rfl⟩ := mem_puts.mp hd
    simp [trD] at e
    obtain ⟨e1, e2, e3⟩ := e
    have e1 : r' = r := by omega
    have e2 : c' = c := by omega
    have e3 : s' = s := by omega
    subst e1 e2 e3
    exact hd
  · intro h
    exact ⟨_, h, by simp [trD]⟩
theorem shp_puts (n : Nat) (f : Gr) : Shp 3 (.list (puts n f)) := Shp.list fun x hx => by
  obtain ⟨r, c, s, _, _, _, _, _, rfl⟩ := mem_puts.mp hx
  exact shp_tr _ _ _
theorem oks_g (n : Nat) (f : Gr) : OkS 3 (gD n f) := by
  intro x hx
  obtain ⟨r, _, rfl⟩ := List.mem_map.mp hx
  intro y hy
  obtain ⟨c, _, rfl⟩ := List.mem_map.mp hy
  cases f r c with
  | none => trivial
  | some i => trivial
theorem oks_puts (n : Nat) (f : Gr) : OkS 3 (.tuple (puts n f)) := by
  intro x hx
  obtain ⟨r, c, s, _, _, _, _, _, rfl⟩ := mem_puts.mp hx
  intro y hy
  simp at hy
  rcases hy with rfl | rfl | rfl <;> trivial
end Dn
/-! Dn11: sorted of alike data; a list of the frame's own is let go ahead of a statement. -/
namespace Dn
open PySem PySem.Spec PyProof.Rows L2
/-- the order that sorted gives -/
def srtD (ds : List D) : List D := ds.mergeSort (PySem.W.dataLe false id)
def rSortD (K : PySem.W.Frag) : List V → Hp → VK → Prop := fun vs H Q => ∃ (a : Addr) (xs : List V) (ds : List D), vs = [V.ref a] ∧ SqL K H a xs ∧ DpAll K H xs ds ∧ PySem.W.AllAlike ds ∧ PySem.W.Sortable ds ∧ (∀ d ∈ ds, d.depth ≤ 60) ∧
  ∀ p, H p = none → Q (.ref p) (upd H p (.lst (((xs.zip ds).mergeSort (PySem.W.dataLe false Prod.snd)).map Prod.fst)))
theorem each_zip : ∀ {xs : List V} {us : List Value} {ds : List D}, Vals xs us → xs.length = ds.length → PySem.W.EachIs (fun (v : Value) (b : V × D) => RelV b.1 v) us (xs.zip ds)
  | _, _, [], .nil, _ => .nil
  | _, _, _ :: _, .nil, h => by cases h
  | _, _, [], .cons _ _, h => by cases h
  | _, _, d :: ds, .cons r t, h => .cons r (each_zip t (Nat.succ.inj h))
theorem each_reads {h : Heap} : ∀ {xs : List V} {us : List Value} {ds : List D} {as : List Addr}, ReadsAll h us ds as → xs.length = ds.length → PySem.W.EachIs (fun (v : Value) (b : V × D) => ∃ as, Reads h v b.2 as) us (xs.zip ds)
  | [], _, _, _, .nil, _ => .nil
  | _ :: _, _, _, _, .nil, h => by cases h
  | [], _, _, _, .cons _ _, h => by cases h
  | x :: xs, _, _, _, .cons r t, h => .cons ⟨_, r⟩ (each_reads t (Nat.succ.inj h))
theorem each_vals : ∀ {out : List Value} {bs : List (V × D)}, PySem.W.EachIs (fun (v : Value) (b : V × D) => RelV b.1 v) out bs → Vals (bs.map Prod.fst) out
  | _, _, .nil => .nil
  | _, _, .cons r t => .cons r (each_vals t)
theorem dpAll_len {K : PySem.W.Frag} {H : Hp} : ∀ {vs : List V} {ds : List D}, DpAll K H vs ds → vs.length = ds.length
  | _, _, .nil => rfl
  | _, _, .cons _ t => congrArg (· + 1) (dpAll_len t)
theorem zip_snd {α β : Type} : ∀ {xs : List α} {ys : List β}, xs.length = ys.length → (xs.zip ys).map Prod.snd = ys
  | [], [], _ => rfl
  | _ :: xs, _ :: ys, h => congrArg (List.cons _) (zip_snd (Nat.succ.inj h))
  | [], _ :: _, h => by cases h
  | _ :: _, [], h => by cases h
section
variable {X : Cx}
theorem cr_sortD (hu : X.A.units + 65 < cLine) : CallR X (.builtin "sorted") (rSortD X.K) := by
  intro pins s σ H vs us Q I r h
  obtain ⟨a, xs, ds, rfl, hs, hd, ha, hk, hdep, q⟩ := h
  obtain ⟨its, rv, hl, hz⟩ := I.list hs
  obtain ⟨u, rfl, ru⟩ := vals1 r
  obtain rfl : u = Value.ref a := ru
  obtain ⟨as, rds⟩ := Dp.readsAll I ds xs its hd rv
  have len := dpAll_len hd
  have ez : (xs.zip ds).map Prod.snd = ds := zip_snd len
  have zl : (xs.zip ds).length = xs.length := by
    rw [List.length_zip]
    omega
  refine PySem.W.sorted_data (β := V × D) (R := fun v b => RelV b.1 v) (enc := Prod.snd) (bs := xs.zip ds) hl.isList (each_zip rv len) (each_reads rds len) (by rw [ez]; exact ha) (by rw [ez]; exact hk) (by rw [zl]; exact hz) (fun b hb => ?_) fun out ho eo => ?_
  · have := hdep b.2 (by rw [← ez]; exact List.mem_map.mpr ⟨b, hb, rfl⟩)
    omega
  · obtain ⟨n, hn⟩ := sortedAll_at s.heap its out.toArray
    refine ⟨.ref (s.heap.objs.size + 1), upd H (s.heap.objs.size + 1) (.lst (((xs.zip ds).mergeSort (PySem.W.dataLe false Prod.snd)).map Prod.fst)), I.laid (t' := s.toks) (fun b o e => sortedAll_old e) (Nat.le_succ _) ⟨?_, out, n, each_vals eo, hn⟩, rfl, q _ (I.hok.fresh (Nat.le_succ _))⟩
    rw [List.length_map, List.length_mergeSort, zl]
    exact hz
end
section
variable {G : Fam}
theorem Rps.zipmem {K : KT} {F : Hp} : ∀ {vs : List V} {ds : List D}, Rps K F vs ds → ∀ b ∈ vs.zip ds, Rp K F b.1 b.2
  | _, _, .nil, b, hb => by cases hb
  | _, _, .cons r t, b, hb => by
    rcases List.mem_cons.mp hb with rfl | hb
    · exact r
    · exact Rps.zipmem t b hb
theorem Rps.ofpairs {K : KT} {F : Hp} : ∀ {bs : List (V × D)}, (∀ b ∈ bs, Rp K F b.1 b.2) → Rps K F (bs.map Prod.fst) (bs.map Prod.snd)
  | [], _ => .nil
  | b :: bs, h => .cons (h b List.mem_cons_self) (Rps.ofpairs fun c hc => h c (List.mem_cons_of_mem _ hc))
theorem srtD_zip {vs : List V} {ds : List D} (h : vs.length = ds.length) : ((vs.zip ds).mergeSort (PySem.W.dataLe false Prod.snd)).map Prod.snd = srtD ds := by
  unfold srtD
  rw [List.map_mergeSort (r := PySem.W.dataLe false Prod.snd) (s := PySem.W.dataLe false id) (f := Prod.snd) (l := vs.zip ds) fun a _ b _ => rfl, zip_snd h]
def SortOk (ds : List D) : Prop := PyData.canLayAll0 ds = true ∧ PySem.W.AllAlike ds ∧ PySem.W.Sortable ds ∧ ∀ d ∈ ds, d.depth ≤ 60
/-- sorted(list) -/
def cSorted : CD := fun ds Q => match ds with
  | [.list xs] => SortOk xs ∧ Q (.list (srtD xs))
  | _ => False
@[simp ↓] theorem cSorted_ap ds Q : cSorted ds Q = (match ds with
  | [.list xs] => SortOk xs ∧ Q (.list (srtD xs))
  | _ => False) := Eq.trans rfl rfl
theorem c_sorted (hu : Hu G) : CallD G (.builtin "sorted") cSorted := by
  refine ⟨_, fun i => callR_K (r := rSortD) (G.hK i) (cr_sortD (hu i)), fun W F H vs ds Q R u w r q k => ?_⟩
  unfold cSorted at q
  split at q
  · rename_i xs
    obtain ⟨v, rfl, h⟩ := r.one
    obtain ⟨a, vs, rfl, h1, h2, h3⟩ := h.list u
    obtain ⟨⟨q1, q2, q3, q4⟩, q⟩ := q
    have len := h3.length
    refine ⟨a, vs, xs, rfl, SqL.of h1, Rps.dp u q1 h3, q2, q3, q4, ?_⟩
    have rp : Rps G.K F (((vs.zip xs).mergeSort (PySem.W.dataLe false Prod.snd)).map Prod.fst) (srtD xs) := by
      rw [← srtD_zip len]
      exact Rps.ofpairs fun b hb => h3.zipmem b (List.mem_mergeSort.mp hb)
    refine snd_lst u w rp ?_ q k
    rw [List.length_map, List.length_mergeSort, List.length_zip, len]
    have : vs.length ≤ sizeLine := h2
    omega
  · exact q.elim
/-! ### letting go -/
variable {Wx : WX} {st : Stmt} {w : WS}
/-- an object that no own entry knows is let go -/
theorem StR.freezeAt {K : KT} {W : Option Addr} {F0 H0 F H : Hp} {σ : L2.St} {env : Dn.Env} {b : Addr} {o : HO} (s : StR K W F0 H0 F H σ env) (h0 : H0 b = none) (hf : F b = none) (hw : W ≠ some b) (hh : H b = some o)
    (no : ∀ (j : Nat) (e : En), env[j]? = some (some e) → (e.own = true → σ[j]? ≠ some (some (.ref b))) ∧ b ∉ e.adr) : StR K W F0 H0 (upd F b o) H σ env := by
  refine ⟨s.ext.freeze h0 hh hw hf, s.len, fun i en h => ?_, s.apart, s.inner⟩
  obtain ⟨v, h1, h2⟩ := s.ent i en h
  exact ⟨v, h1, h2.gone hf (fun oe q => (no i _ h).1 oe (by rw [h1, q])) (no i _ h).2⟩
theorem same_upd {F : Hp} {b : Addr} {o : HO} (h : F b = none) : Same F (upd F b o) := fun c q z => by
  rw [upd_ne (ne_of_none z h)]
  exact z
theorem StR.freezeAll {K : KT} {W : Option Addr} {F0 H0 H : Hp} {σ : L2.St} {env : Dn.Env} : ∀ {as : List Addr} {rows : List (List D)} {F : Hp}, StR K W F0 H0 F H σ env → Paired (OwnL K W H0 F H) as rows → as.Nodup →
    (∀ b ∈ as, ∀ (j : Nat) (e : En), env[j]? = some (some e) → (e.own = true → σ[j]? ≠ some (some (.ref b))) ∧ b ∉ e.adr) → ∃ F', Same F F' ∧ (∀ c, c ∉ as → F' c = F c) ∧ StR K W F0 H0 F' H σ env ∧ Rps K F' (as.map V.ref) (rows.map .list)
  | _, _, F, s, .nil, _, _ => ⟨F, Same.refl _, fun _ _ => rfl, s, .nil⟩
  | b :: as, _, F, s, .cons r t, nd, no => by
    rw [List.nodup_cons] at nd
    obtain ⟨g1, g2, g3, vs, g4, g5, g6⟩ := r
    have s1 := s.freezeAt g1 g2 g3 g4 (no b List.mem_cons_self)
    have sm : Same F (upd F b (.lst vs)) := same_upd g2
    obtain ⟨F', e1, e2, s2, rp⟩ := StR.freezeAll s1 (ownLs_imp (fun c hc ds ⟨k1, k2, k3, ws, k4, k5, k6⟩ => ⟨k1, by rw [upd_ne fun z => nd.1 (by rw [← z]; exact hc)]; exact k2, k3, ws, k4, k5, Rps.mono sm k6⟩) t) nd.2 fun c hc => no c (List.mem_cons_of_mem _ hc)
    refine ⟨F', sm.trans e1, fun c hc => ?_, s2, .cons (.lst (e1 _ _ upd_same) g5 (Rps.mono (sm.trans e1) g6)) rp⟩
    simp only [List.mem_cons, not_or] at hc
    rw [e2 c hc.2, upd_ne hc.1]
theorem ownLs_len {R : Addr → List D → Prop} : ∀ {as : List Addr} {rows : List (List D)}, Paired R as rows → as.length = rows.length
  | _, _, .nil => rfl
  | _, _, .cons _ t => congrArg (· + 1) (ownLs_len t)
theorem set_self {σ : L2.St} {i : Nat} {x : V} (e1 : σ[i]? = some (some x)) : σ.set i (some x) = σ := by
  apply List.ext_getElem?
  intro k
  by_cases hk : k = i
  · subst hk
    rw [e1, List.getElem?_set_self (List.getElem?_eq_some_iff.mp e1).1]
  · rw [List.getElem?_set_ne (Ne.symm hk)]
/-- what an own object is as data -/
def enD : En → Option D
  | .ow _ ds => some (.list ds)
  | .od es => some (.dict es)
  | .ot _ rows => some (.list (rows.map .list))
  | _ => none
theorem StR.share {K : KT} {W : Option Addr} {F0 H0 F H : Hp} {σ : L2.St} {env : Dn.Env} {i : Nat} {en : En} {d : D} (s : StR K W F0 H0 F H σ env) (hi : env[i]? = some (some en)) (he : enD en = some d) :
    ∃ a F', σ[i]? = some (some (.ref a)) ∧ Same F F' ∧ StR K W F0 H0 F' H σ (env.set i none) ∧ Rp K F' (.ref a) d := by
  obtain ⟨v, e1, ok⟩ := s.ent i _ hi
  cases en with
  | ow t ds =>
    cases he
    obtain ⟨a, vs, rfl, _, h0, hf, hw, hh, hl, hr⟩ := ok
    have sm := same_upd (o := .lst vs) hf
    exact ⟨a, _, e1, sm, s.letGo hi e1 h0 hf hw hh, .lst upd_same hl (Rps.mono sm hr)⟩
  | od es =>
    cases he
    obtain ⟨a, o, xs, rfl, h0, hf, hw, hh, hn, hl, hr⟩ := ok
    have sm := same_upd (o := .ext (DictAt a o xs)) hf
    exact ⟨a, _, e1, sm, s.letGoEn hi rfl e1 h0 hf hw hh, .dcd upd_same hn hl (Ents.mono sm hr)⟩
  | ot as rows =>
    cases he
    obtain ⟨a, rfl, h0, hf, hw, hh, hl, na, nd, pr⟩ := ok
    have s1 := s.letGoEn hi rfl e1 h0 hf hw hh
    have sm := same_upd (o := .lst (as.map V.ref)) hf
    have no : ∀ b ∈ as, ∀ (j : Nat) (e : En), (env.set i none)[j]? = some (some e) → (e.own = true → σ[j]? ≠ some (some (.ref b))) ∧ b ∉ e.adr := fun b hb j e q => by
      rcases get_set q with ⟨_, _, z⟩ | ⟨n, z⟩
      · cases z
      · refine ⟨fun oe => (s.inner i j _ e (Ne.symm n) hi z oe b hb).1, fun m => ?_⟩
        exact (s.inner i j _ e (Ne.symm n) hi z (adr_own m) b hb).2 m
    obtain ⟨F', e2, e3, s2, rp⟩ := s1.freezeAll (ownLs_imp (fun c hc ds ⟨k1, k2, k3, ws, k4, k5, k6⟩ => ⟨k1, by rw [upd_ne fun z => na (by rw [← z]; exact hc)]; exact k2, k3, ws, k4, k5, Rps.mono sm k6⟩) pr) nd no
    exact ⟨a, F', e1, sm.trans e2, s2, .lst (e2 _ _ upd_same) (by rw [List.length_map]; exact hl) rp⟩
  | _ => cases he
/-- ahead of the statement the object at slot j is let go: it stands still from now on -/
def wFrz (j : Nat) (w : WS) : WS := fun env P => match env[j]? with
  | some (some en) => match enD en with
    | some d => w (env.set j (some (.sh d))) P
    | none => w env P
  | _ => w env P
@[simp ↓] theorem wFrz_ap (j : Nat) (w : WS) env P : wFrz j w env P = (match env[j]? with
  | some (some en) => match enD en with
    | some d => w (env.set j (some (.sh d))) P
    | none => w env P
  | _ => w env P) := Eq.trans rfl rfl
@[simp] theorem enD_ow (t : Option Addr) (ds : List D) : enD (.ow t ds) = some (.list ds) := rfl
@[simp] theorem enD_od (es : List (D × D)) : enD (.od es) = some (.dict es) := rfl
@[simp] theorem enD_ot (as : List Addr) (rows : List (List D)) : enD (.ot as rows) = some (.list (rows.map .list)) := rfl
@[simp] theorem enD_sh (d : D) : enD (.sh d) = none := rfl
theorem s_frz (j : Nat) (h : Den G Wx st w) : Den G Wx st (wFrz j w) := by
  obtain ⟨t, h1, h2⟩ := h
  refine ⟨t, h1, fun W F0 H0 F H σ env P T s q c => ?_⟩
  unfold wFrz at q
  split at q
  · rename_i en hi
    split at q
    · rename_i d he
      obtain ⟨a, F', e1, sm, s', r⟩ := s.share hi he
      have s3 := s'.setSh (i := j) r
      rw [set_self e1, List.set_set] at s3
      exact h2 W F0 H0 F' H σ _ P T s3 q ⟨fun σ env F1 H1 m => c.nx σ env F1 H1 (sm.trans m), fun v d σ env F1 H1 => c.rt v d σ env F1 H1, fun σ env F1 H1 m => c.bk σ env F1 H1 (sm.trans m), fun σ env F1 H1 m => c.ct σ env F1 H1 (sm.trans m), fun x oe σ env F1 H1 m => c.xe x oe σ env F1 H1 (sm.trans m)⟩
    · exact h2 W F0 H0 F H σ env P T s q c
  · exact h2 W F0 H0 F H σ env P T s q c
end
theorem forW_preE {g : WG} {b : WS} {ws : List Nat} {P : Post} {env : Dn.Env} (st : List D → Dn.Env) (xs : List D) (he : env = st []) (hs : ∀ p x r, xs = p ++ x :: r → ∀ N : Dn.Env → Prop, N (st (p ++ [x])) → g x (st p) fun e2 => b e2 { P with nx := fun e3 => N (wipeE e3 ws), ct := fun e3 => N (wipeE e3 ws), bk := P.nx }) (q : P.nx (st xs)) : forW g b ws P xs env := by
  have z := forW_pre (g := g) (b := b) (ws := ws) (P := P) (h := id) st xs [] (fun p x r e => hs p x r (by rw [List.nil_append] at e; exact e)) (by rw [List.nil_append]; exact q)
  rw [List.map_id] at z
  rw [he]
  exact z
end Dn
/-! Dn12: dicts keyed by nested tuples, rules over the heap. -/
namespace Dn
open PySem PySem.Spec PyProof.Rows L2
mutual
theorem key_lay : ∀ (d : D) (k : NestedKey), keyD d = some k → d.canLay0 = true
  | .none, _, _ => rfl
  | .bool _, _, _ => rfl
  | .int _, _, _ => rfl
  | .str _, _, h => by simp [keyD] at h
  | .list _, _, h => by simp [keyD] at h
  | .dict _, _, h => by simp [keyD] at h
  | .tuple xs, _, h => by
    simp only [keyD, Option.map_eq_some_iff] at h
    obtain ⟨ks, h, _⟩ := h
    simp only [PyData.canLay0]
    exact keys_lay xs ks h
theorem keys_lay : ∀ (xs : List D) (ks : List NestedKey), keyDs xs = some ks → PyData.canLayAll0 xs = true
  | [], _, _ => rfl
  | x :: xs, ks, h => by
    simp only [keyDs] at h
    split at h
    · rename_i k ks' h1 h2
      simp [PyData.canLayAll0, key_lay x k h1, keys_lay xs ks' h2]
    · cases h
end
mutual
theorem nested_reads {h : Heap} : ∀ (d : D) (k : NestedKey) (v : Value) (as : List Addr), keyD d = some k → Reads h v d as → NestedIs h k v
  | .none, k, v, _, e, r => by
    cases r
    cases e
    exact .none
  | .bool b, k, v, _, e, r => by
    cases r
    cases e
    exact .bool rfl
  | .int i, k, v, _, e, r => by
    cases r
    cases e
    exact .int _ _
  | .str _, _, _, _, e, _ => by simp [keyD] at e
  | .list _, _, _, _, e, _ => by simp [keyD] at e
  | .dict _, _, _, _, e, _ => by simp [keyD] at e
  | .tuple xs, k, v, _, e, r => by
    simp only [keyD, Option.map_eq_some_iff] at e
    obtain ⟨ks, e, rfl⟩ := e
    cases r with
    | tuple h1 h2 h3 h4 => exact .tup h1 h2 h3 (nested_readsAll xs ks _ _ e h4)
theorem nested_readsAll {h : Heap} : ∀ (xs : List D) (ks : List NestedKey) (vs : List Value) (as : List Addr), keyDs xs = some ks → ReadsAll h vs xs as → NestedAll h ks vs
  | [], ks, vs, _, e, r => by
    cases r
    cases e
    exact .nil
  | x :: xs, ks, vs, _, e, r => by
    simp only [keyDs] at e
    split at e
    · rename_i k ks' h1 h2
      cases e
      cases r with
      | cons r1 r2 => exact .cons (nested_reads x k _ _ h1 r1) (nested_readsAll xs ks' _ _ h2 r2)
    · cases e
end
/-- entries whose keys are tuples -/
abbrev TX := List (NestedKey × Addr × Value)
def liftT (xs : TX) : List (NestedKey × Value × Value) := xs.map fun x => (x.1, .ref x.2.1, x.2.2)
theorem liftT_len (xs : TX) : (liftT xs).length = xs.length := by unfold liftT; rw [List.length_map]
def isTup : D → Bool
  | .tuple _ => true
  | _ => false
@[simp] theorem isTup_t (xs : List D) : isTup (.tuple xs) = true := rfl
def tupK (es : List (D × D)) : Bool := es.all fun e => isTup e.1
@[simp] theorem tupK_nil : tupK [] = true := rfl
/-- the keys' own tuples stand -/
def KeysD (K : PySem.W.Frag) (H : Hp) (xs : TX) : Prop := ∀ x ∈ xs, ∃ d, Dp K H (.ref x.2.1) d ∧ keyD d = some x.1 ∧ x.1.depth ≤ 8
theorem Ents.tup {K : KT} {F : Hp} : ∀ {xs : List (NestedKey × Value × Value)} {es : List (D × D)}, Ents K F xs es → tupK es = true → ∃ ys : TX, xs = liftT ys
  | _, _, .nil, _ => ⟨[], rfl⟩
  | _, _, .cons (k := k) (u := u) (kv := kv) (kd := kd) h1 h2 rk h3 h4 h5 t, e => by
    unfold tupK at e
    rw [List.all_cons, Bool.and_eq_true] at e
    obtain ⟨ys, rfl⟩ := Ents.tup t e.2
    cases h3 with
    | tup _ _ _ =>
      cases rk
      exact ⟨(k, _, u) :: ys, rfl⟩
    | _ => cases e.1
theorem Ents.keys {K : KT} {F H : Hp} (u : Same F H) : ∀ {ys : TX} {xs : List (NestedKey × Value × Value)} {es : List (D × D)}, Ents K F xs es → xs = liftT ys → KeysD K H ys
  | [], _, _, _, _ => fun _ m => nomatch m
  | y :: ys, _, _, .nil, e => nomatch e
  | y :: ys, _, _, .cons (kv := kv) k l rk a r b t, e => fun x m => by
    unfold liftT at e
    rw [List.map_cons] at e
    injection e with e1 e2
    injection e1 with e3 e4
    injection e4 with e5 e6
    rcases List.mem_cons.mp m with rfl | m
    · have z := Rp.dp u (key_lay _ _ k) a
      subst e5
      have ek : kv = .ref x.2.1 := by
        cases kv with
        | ref c => cases rk; rfl
        | _ => first | (obtain ⟨t, z⟩ := rk; cases z) | cases rk
      subst ek
      exact ⟨_, z, by rw [← e3]; exact k, by rw [← e3]; exact l⟩
    · exact Ents.keys u t e2 x m
section
variable {X : Cx} {pins : List (Addr × Obj)} {σ : L2.St} {H : Hp} {s : Shared}
theorem key_is (I : Inv X pins σ H s) {b : Addr} {d : D} {k : NestedKey} (h : Dp X.K H (.ref b) d) (e : keyD d = some k) (l : k.depth ≤ 8) : (nestedKind X.prog X.w).is s.heap k b := by
  obtain ⟨as, r⟩ := Dp.reads I d _ (.ref b) h rfl
  exact ⟨nested_reads d k _ as e r, l⟩
theorem dict_of (I : Inv X pins σ H s) {a : Addr} {o : Obj} {xs : TX} (h : H a = some (.ext (DictAt a o (liftT xs)))) (ks : KeysD X.K H xs) : s.heap.DictOfH (nestedKind X.prog X.w) a xs := by
  obtain ⟨⟨e1, e2, es, ep, e3, e4, e5⟩, _⟩ := (show ObjOk X.prog X.w H s.heap a (.ext (DictAt a o (liftT xs))) from I.hok a _ h)
  refine ⟨o, es, ep, e1, e2, e3, ?_, fun x hx => ?_, ?_⟩
  · rw [e4 X.w]
    unfold liftT
    rw [List.map_map]
    rfl
  · obtain ⟨d, h1, h2, h3⟩ := ks x hx
    exact key_is I h1 h2 h3
  · unfold liftT at e5
    rwa [List.map_map] at e5
/-- d[k], the key is there -/
def rIxK (K : PySem.W.Frag) : R2 := fun x y H Q => ∃ (a b : Addr) (o : Obj) (xs : TX) (d : D) (k : NestedKey) (p : Addr × Value) (v : V), x = .ref a ∧ y = .ref b ∧ H a = some (.ext (DictAt a o (liftT xs))) ∧ KeysD K H xs ∧ Dp K H (.ref b) d ∧ keyD d = some k ∧ k.depth ≤ 8 ∧ atKey xs k = some p ∧ RelV v p.2 ∧ Q v H
/-- k in d -/
def rInK (K : PySem.W.Frag) (neg : Bool) : R2 := fun x y H Q => ∃ (a b : Addr) (o : Obj) (xs : TX) (d : D) (k : NestedKey), x = .ref b ∧ y = .ref a ∧ H a = some (.ext (DictAt a o (liftT xs))) ∧ (a == sysModules) = false ∧ KeysD K H xs ∧ Dp K H (.ref b) d ∧ keyD d = some k ∧ k.depth ≤ 8 ∧ Q (.bl (neg != (atKey xs k).isSome)) H
end
section
variable {X : Cx}
theorem room_in1 (hu : X.A.units + 65 < cLine) : (nestedKind X.prog X.w).room X.A.in1 := by
  show X.A.units + 1 + 8 < cLine
  omega
theorem op_inK (hu : X.A.units + 65 < cLine) : OpR X (compareOp .In) (rInK X.K false) := by
  intro pins s σ H x y v u Q I rx ry h
  obtain ⟨a, b, o, xs, d, k, rfl, rfl, hd, hm, ks, hk, e, l, q⟩ := h
  cases rx
  cases ry
  refine wpAny_in_heap (knd := nestedKind X.prog X.w) (room_in1 hu) (key_is I hk e l) hm (dict_of I hd ks) ⟨.bl (atKey xs k).isSome, H, I.tok _, rfl, ?_⟩
  have z : (false != (atKey xs k).isSome) = (atKey xs k).isSome := by cases (atKey xs k).isSome <;> rfl
  rw [z] at q
  exact q
theorem op_notInK (hu : X.A.units + 65 < cLine) : OpR X (compareOp .NotIn) (rInK X.K true) := by
  intro pins s σ H x y v u Q I rx ry h
  obtain ⟨a, b, o, xs, d, k, rfl, rfl, hd, hm, ks, hk, e, l, q⟩ := h
  cases rx
  cases ry
  refine notIn_keyed (knd := nestedKind X.prog X.w) (kvs := pairsH xs) (room_in1 hu) (key_is I hk e l) hm ⟨xs, dict_of I hd ks, rfl⟩ ⟨.bl (!(valueAt (pairsH xs) k).isSome), H, I.tok _, rfl, ?_⟩
  rw [valueAt_pairsH, Option.isSome_map]
  have z : (true != (atKey xs k).isSome) = !(atKey xs k).isSome := by cases (atKey xs k).isSome <;> rfl
  rw [z] at q
  exact q
end
mutual
theorem hash_free (w w' : World) : ∀ (d : D) (k : NestedKey), keyD d = some k → NestedKey.hash w k = NestedKey.hash w' k
  | .none, k, e => by cases e; rfl
  | .bool b, k, e => by cases e; rfl
  | .int i, k, e => by cases e; rfl
  | .str _, _, e => by simp [keyD] at e
  | .list _, _, e => by simp [keyD] at e
  | .dict _, _, e => by simp [keyD] at e
  | .tuple xs, k, e => by
    simp only [keyD, Option.map_eq_some_iff] at e
    obtain ⟨ks, e, rfl⟩ := e
    simp only [NestedKey.hash]
    rw [hashes_free w w' xs ks e]
theorem hashes_free (w w' : World) : ∀ (xs : List D) (ks : List NestedKey), keyDs xs = some ks → NestedKey.hashes w ks = NestedKey.hashes w' ks
  | [], ks, e => by cases e; rfl
  | x :: xs, ks, e => by
    simp only [keyDs] at e
    split at e
    · rename_i k ks' h1 h2
      cases e
      simp only [NestedKey.hashes]
      rw [hash_free w w' x k h1, hashes_free w w' xs ks' h2]
    · cases e
end
theorem dictAt_mono {a : Addr} {o : Obj} {xs : List (NestedKey × Value × Value)} {h1 h2 : Heap} (h : DictAt a o xs h1) (k : ∀ o, h1.get? a = some o → h2.get? a = some o) : DictAt a o xs h2 := by
  obtain ⟨e, r⟩ := h
  exact ⟨k _ e, r⟩
/-- the entries say the same in every world -/
theorem dictAt_of {P : Program} {w : World} {h : Heap} {a : Addr} {xs : TX} (hd : h.DictOfH (nestedKind P w) a xs) (free : ∀ x ∈ xs, ∃ d, keyD d = some x.1) : ∃ o, DictAt a o (liftT xs) h := by
  obtain ⟨o, es, ep, e1, e2, e3, e4, _, e5⟩ := hd
  refine ⟨o, e1, e2, es, ep, e3, fun w' => ?_, ?_⟩
  · rw [e4]
    unfold liftT
    rw [List.map_map]
    refine List.map_congr_left fun x hx => ?_
    obtain ⟨d, hk⟩ := free x hx
    show (⟨NestedKey.hash w x.1, .ref x.2.1, x.2.2⟩ : DictEntry) = ⟨NestedKey.hash w' x.1, .ref x.2.1, x.2.2⟩
    rw [hash_free w w' d x.1 hk]
  · unfold liftT
    rw [List.map_map]
    exact e5
section
variable {X : Cx}
/-- d[k] = v -/
def rSetK (K : PySem.W.Frag) : V → V → V → Hp → (Hp → Prop) → Prop := fun o i v H Q => ∃ (a b : Addr) (ob : Obj) (xs : TX) (d : D) (k : NestedKey), o = .ref a ∧ i = .ref b ∧ H a = some (.ext (DictAt a ob (liftT xs))) ∧ xs.length ≤ sizeLine ∧ KeysD K H xs ∧ Dp K H (.ref b) d ∧ keyD d = some k ∧ k.depth ≤ 8 ∧
  ∀ u o', RelV v u → Q (upd H a (.ext (DictAt a o' (liftT (storedH xs k b u)))))
theorem stored_keys {xs : TX} {k : NestedKey} {b : Addr} {u : Value} {x : NestedKey × Addr × Value} (hx : x ∈ storedH xs k b u) : x.1 = k ∨ ∃ y ∈ xs, x.1 = y.1 := by
  unfold storedH at hx
  split at hx
  · obtain ⟨y, hy, rfl⟩ := List.mem_map.mp hx
    refine .inr ⟨y, hy, ?_⟩
    unfold putAt
    split <;> rfl
  · rcases List.mem_append.mp hx with hx | hx
    · exact .inr ⟨x, hx, rfl⟩
    · rw [List.mem_singleton] at hx
      subst hx
      exact .inl rfl
theorem free_stored {K : PySem.W.Frag} {H : Hp} {xs : TX} {k : NestedKey} {b : Addr} {u : Value} {d : D} (e : keyD d = some k) (ks : KeysD K H xs) : ∀ x ∈ storedH xs k b u, ∃ d, keyD d = some x.1 := fun x hx => by
  rcases stored_keys hx with z | ⟨y, hy, z⟩
  · exact ⟨d, by rw [z]; exact e⟩
  · obtain ⟨d', _, h2, _⟩ := ks y hy
    exact ⟨d', by rw [z]; exact h2⟩
theorem set_dictK (hu : X.A.units + 65 < cLine) : PSet X (rSetK X.K) := by
  intro pins s σ H o i v ov iv u Q I ro ri rv h
  obtain ⟨a, b, ob, xs, d, k, rfl, rfl, hd, hl, ks, hk, e, l, q⟩ := h
  cases ro
  cases ri
  refine wpAny_setItem_heap (knd := nestedKind X.prog X.w) (hsz := hl) (room_in1 hu) (key_is I hk e l) (dict_of I hd ks) fun h' hm hs => ?_
  obtain ⟨o', at'⟩ := dictAt_of hm (free_stored e ks)
  obtain ⟨e1, _⟩ := id at'
  exact ⟨_, I.write (x := a) (e := a) (o := .ext (DictAt a o' (liftT (storedH xs k b u)))) (by rw [hd]; trivial) (.inl rfl) (fun c z hc hz => (hs.2 c hc).trans hz) ⟨_, e1⟩ ⟨at', ⟨_, e1⟩, fun h1 h2 => dictAt_mono⟩, q u o' rv⟩
theorem ix_dictK (hu : X.A.units + 65 < cLine) : IxR X (rIxK X.K) := by
  intro value slice pins s σ H x y v u Q I rx ry h hs
  obtain ⟨a, b, o, xs, d, k, p, z, rfl, rfl, hd, ks, hk, e, l, hp, rz, q⟩ := h
  cases rx
  cases ry
  have dd := dict_of I hd ks
  exact subscriptTail_builtinR (x := p.2) dd.typeIs PySem.F.slot_dict_getitem.lookup (wpAny_getItem_heap (knd := nestedKind X.prog X.w) (room_in1 hu) (key_is I hk e l) dd hp ⟨rfl, z, H, I.tok _, rz, q⟩) hs
/-- {}, a dict for keys of any depth -/
theorem pe_dnewN {pos : Pos} : PE X (.Dict [] [] pos) (fun _ H Q => ∀ p o, H p = none → (p == sysModules) = false → Q (.ref p) (upd H p (.ext (DictAt p o [])))) := ⟨fun pins s σ H Q I h => by
  have new : DictAt s.heap.objs.size { cls := .type "dict", data := .dict #[] } [] (s.heap.push { cls := .type "dict", data := .dict #[] }) := ⟨Heap.get?_push_size _ rfl, ⟨rfl, rfl, rfl⟩, #[], 0, rfl, fun _ => rfl, List.nodup_nil⟩
  refine wpAny_Dict_empty ⟨.ref s.heap.objs.size, _, I.laid (a := s.heap.objs.size) (o := .ext (DictAt s.heap.objs.size { cls := .type "dict", data := .dict #[] } [])) (t' := s.toks) (fun _ _ q => Heap.get?_push_of_some _ q) (Nat.le_refl _) ⟨new, ⟨_, Heap.get?_push_size _ rfl⟩, fun h1 h2 => dictAt_mono⟩, rfl, h _ _ (I.hok.fresh (Nat.le_refl _)) ?_⟩
  exact beq_eq_false_iff_ne.mpr (Ne.symm (Nat.ne_of_lt I.big))⟩
end
/-! ### as data -/
/-- the value at a key -/
def getK (es : List (D × D)) (kd : D) : Option D := (es.find? fun e => decide (keyD e.1 = keyD kd)).map (·.2)
/-- d[k] = v, told of the entries -/
def putK (es : List (D × D)) (kd vd : D) : List (D × D) := if (getK es kd).isSome then es.map fun e => if keyD e.1 = keyD kd then (e.1, vd) else e else es ++ [(kd, vd)]
/-- the same over the heap's entries -/
abbrev EX := List (NestedKey × Value × Value)
def lookX (xs : EX) (k : NestedKey) : Option Value := (xs.find? fun x => decide (x.1 = k)).map (·.2.2)
def putX (xs : EX) (k : NestedKey) (kv u : Value) : EX := if (lookX xs k).isSome then xs.map fun x => if x.1 = k then (x.1, x.2.1, u) else x else xs ++ [(k, kv, u)]
theorem look_lift (k : NestedKey) : ∀ ys : TX, lookX (liftT ys) k = (atKey ys k).map (·.2)
  | [] => rfl
  | y :: ys => by
    have ih := look_lift k ys
    unfold lookX atKey liftT at ih ⊢
    rw [List.map_cons, List.find?_cons, List.find?_cons]
    by_cases q : y.1 = k
    · simp [q]
    · simp only [q, decide_false]
      exact ih
theorem put_lift (k : NestedKey) (b : Addr) (u : Value) (ys : TX) : putX (liftT ys) k (.ref b) u = liftT (storedH ys k b u) := by
  unfold putX storedH
  rw [look_lift, Option.isSome_map]
  split
  · unfold liftT
    rw [List.map_map, List.map_map]
    refine List.map_congr_left fun y _ => ?_
    show (if y.1 = k then _ else _) = _
    unfold putAt
    simp only [Function.comp]
    split <;> rfl
  · unfold liftT
    rw [List.map_append]
    rfl
theorem Ents.get {K : KT} {F : Hp} {kd : D} {k : NestedKey} (e : keyD kd = some k) : ∀ {xs : EX} {es : List (D × D)}, Ents K F xs es → (∀ vd, getK es kd = some vd → ∃ (p : Value) (v : V), lookX xs k = some p ∧ RelV v p ∧ Rp K F v vd) ∧ (getK es kd = none → lookX xs k = none)
  | _, _, .nil => ⟨fun _ h => by simp [getK] at h, fun _ => rfl⟩
  | _, _, .cons (k := k2) (b := b) (u := u) (v := v) (kd := kd2) (vd := vd2) (xs := xs) (es := es) h1 h2 rk h3 h4 h5 t => by
    have ih := Ents.get e t
    by_cases q : k2 = k
    · subst q
      have hk : keyD kd2 = keyD kd := h1.trans e.symm
      refine ⟨fun vd h => ?_, fun h => ?_⟩
      · simp [getK, hk] at h
        subst h
        refine ⟨u, v, ?_, h4, h5⟩
        simp [lookX]
      · simp [getK, hk] at h
    · have hk : ¬ keyD kd2 = keyD kd := by
        rw [h1, e]
        intro z
        exact q (Option.some.inj z)
      have eg : getK ((kd2, vd2) :: es) kd = getK es kd := by simp [getK, hk]
      have ea : lookX ((k2, b, u) :: xs) k = lookX xs k := by simp [lookX, q]
      rw [eg, ea]
      exact ih
theorem Ents.mapPut {K : KT} {F : Hp} {kd vd : D} {k : NestedKey} {v : V} {u : Value} (e : keyD kd = some k) (rv : RelV v u) (rd : Rp K F v vd) : ∀ {xs : EX} {es : List (D × D)}, Ents K F xs es → Ents K F (xs.map fun x => if x.1 = k then (x.1, x.2.1, u) else x) (es.map fun e => if keyD e.1 = keyD kd then (e.1, vd) else e)
  | _, _, .nil => .nil
  | _, _, .cons (k := k2) (b := b2) (u := u2) (kd := kd2) h1 h2 rk h3 h4 h5 t => by
    have ih := Ents.mapPut e rv rd t
    rw [List.map_cons, List.map_cons]
    by_cases q : k2 = k
    · subst q
      have hk : keyD kd2 = keyD kd := h1.trans e.symm
      simp only [hk, if_true]
      exact .cons h1 h2 rk h3 rv rd ih
    · have hk : ¬ keyD kd2 = keyD kd := by
        rw [h1, e]
        intro z
        exact q (Option.some.inj z)
      simp only [q, hk, if_false]
      exact .cons h1 h2 rk h3 h4 h5 ih
theorem Ents.snoc {K : KT} {F : Hp} {kd vd : D} {k : NestedKey} {b : Value} {kv v : V} {u : Value} (e : keyD kd = some k) (l : k.depth ≤ 8) (rk : RelV kv b) (rb : Rp K F kv kd) (rv : RelV v u) (rd : Rp K F v vd) : ∀ {xs : EX} {es : List (D × D)}, Ents K F xs es → Ents K F (xs ++ [(k, b, u)]) (es ++ [(kd, vd)])
  | _, _, .nil => .cons e l rk rb rv rd .nil
  | _, _, .cons h1 h2 hk h3 h4 h5 t => .cons h1 h2 hk h3 h4 h5 (Ents.snoc e l rk rb rv rd t)
theorem Ents.put {K : KT} {F : Hp} {kd vd : D} {k : NestedKey} {b : Value} {kv v : V} {u : Value} (e : keyD kd = some k) (l : k.depth ≤ 8) (rk : RelV kv b) (rb : Rp K F kv kd) (rv : RelV v u) (rd : Rp K F v vd) {xs : EX} {es : List (D × D)} (h : Ents K F xs es) : Ents K F (putX xs k b u) (putK es kd vd) := by
  obtain ⟨g1, g2⟩ := h.get e
  unfold putX putK
  cases hg : getK es kd with
  | none =>
    rw [g2 hg]
    exact h.snoc e l rk rb rv rd
  | some x =>
    obtain ⟨p, v', hp, _, _⟩ := g1 x hg
    rw [hp]
    exact h.mapPut e rv rd
theorem Ents.length {K : KT} {F : Hp} : ∀ {xs : EX} {es : List (D × D)}, Ents K F xs es → xs.length = es.length
  | _, _, .nil => rfl
  | _, _, .cons _ _ _ _ _ _ t => congrArg (· + 1) (Ents.length t)
theorem putK_len (es : List (D × D)) (kd vd : D) : (putK es kd vd).length ≤ es.length + 1 := by
  unfold putK
  split
  · rw [List.length_map]
    omega
  · rw [List.length_append]
    simp
theorem putK_tup {es : List (D × D)} {kd vd : D} (h : tupK es = true) (hk : isTup kd = true) : tupK (putK es kd vd) = true := by
  unfold tupK putK at *
  rw [List.all_eq_true] at h ⊢
  split
  · intro x hx
    obtain ⟨y, hy, rfl⟩ := List.mem_map.mp hx
    have := h y hy
    split <;> exact this
  · intro x hx
    rcases List.mem_append.mp hx with hx | hx
    · exact h x hx
    · rw [List.mem_singleton] at hx
      subst hx
      exact hk
/-- the key and the keys there are of one kind -/
def keyFit (es : List (D × D)) (d : D) : Bool := match keyD d with
  | some k => isTup d && decide (k.depth ≤ 8) && tupK es
  | none => false
theorem keyFit_out {es : List (D × D)} {d : D} (h : keyFit es d = true) : ∃ ys k, d = .tuple ys ∧ keyD d = some k ∧ k.depth ≤ 8 ∧ tupK es = true := by
  unfold keyFit at h
  split at h
  · rename_i k hk
    simp only [Bool.and_eq_true, decide_eq_true_eq] at h
    cases d with
    | tuple ys => exact ⟨ys, k, rfl, hk, h.1.2, h.2⟩
    | _ => cases h.1.1
  · cases h
section
variable {G : Fam} {Wx : WX} {pos : Pos} {e : Expr} {we : WE}
/-- x = {}, a dict of the frame's own -/
def wSetD (i : Nat) : WS := fun env P => P.nx (env.set i (some (.od [])))
@[simp ↓] theorem wSetD_ap (i : Nat) env P : wSetD i env P = (P.nx (env.set i (some (.od [])))) := Eq.trans rfl rfl
theorem s_setD {i : Nat} {x : Str} {p p2 : Pos} (hN : ∀ j, (G.X j).N.Nodup) (hi : ∀ j, (G.X j).N[i]? = some x := by intro _; rfl) (hx : ∀ j, Loc (G.X j).env.scope x := by intro _; first | exact Or.inl rfl | exact Or.inr rfl) (hf : ∀ j, (G.X j).fn x = true ∨ (G.X j).env.scope.names.lookup x = some .local := by intro _; first | exact Or.inl rfl | exact Or.inr rfl)
    (hs : ∀ j, swapsWith (.Dict [] [] p2) (some (.Name x p)) pos.line (G.X j).env = pure false := by intro _; rfl) : Den G Wx (.Assign [.Name x p] (.Dict [] [] p2) pos) (wSetD i) := by
  refine ⟨_, fun j => ps_set (hN j) (hi j) (hx j) pe_dnewN (hs j) (hf j), fun W F0 H0 F H σ env P T s h c => ?_⟩
  intro q o hq hm
  obtain ⟨h0, fq, nw⟩ := s.ext.fresh hq
  have s2 := s.aside (o := .ext (DictAt q o [])) h0 fq nw (fun _ z => by rw [hq] at z; cases z) (s.notOw hq)
  exact c.nx _ _ F _ (Same.refl _) (s2.setOwn (a := q) (en := .od []) ⟨q, o, [], rfl, h0, fq, nw, upd_same, hm, Nat.zero_le _, .nil⟩ (s.newIn hq) fun _ z => nomatch z) h
/-- d[k] = v, a dict of the frame's own -/
def wSetK (i : Nat) (wk w : WE) : WS := fun env P => w env fun vd => match env[i]? with
  | some (some (.od es)) => wk env fun kd => (keyFit es kd = true ∧ es.length < sizeLine) ∧ P.nx (env.set i (some (.od (putK es kd vd))))
  | _ => False
@[simp ↓] theorem wSetK_ap (i : Nat) (wk w : WE) env P : wSetK i wk w env P = (w env fun vd => match env[i]? with
  | some (some (.od es)) => wk env fun kd => (keyFit es kd = true ∧ es.length < sizeLine) ∧ P.nx (env.set i (some (.od (putK es kd vd))))
  | _ => False) := Eq.trans rfl rfl
theorem s_setK {i : Nat} {x : Str} {p p2 : Pos} {ix : Expr} {wk : WE} (hu : Hu G) (hi : ∀ k, (G.X k).N[i]? = some x := by intro _; rfl) (hv : ∀ k, Vis (G.X k).env.scope x := by intro _; first | exact Or.inl rfl | exact Or.inr (Or.inl rfl) | exact Or.inr (Or.inr rfl)) (hk : DenE G ix wk) (h : DenE G e we) (hd : (x == ("__debug__" : Str)) = false := by decide) (hcd : (x == ("__classdict__" : Str)) = false := by decide)
    (ha : ∀ k v, assign (.Subscript (.Name x p) ix p2) (G.X k).env v = (do
      let ov ← holding [v] (eval (.Name x p) (G.X k).env)
      let iv ← holding [v, ov] (eval ix (G.X k).env)
      standAt p2
      holding [v, ov, iv] (setItem ov iv v)
      release [v, ov, iv] []) := by intro _ _; rfl)
    (hs : ∀ k, swapsWithSole [.Subscript (.Name x p) ix p2] e pos.line (G.X k).env = pure false := by intro _; rfl) (hw : ∀ k, swappedStores [.Subscript (.Name x p) ix p2] e (G.X k).env = pure none := by intro _; rfl)
    (h1 : ∀ k, (assignEach [.Subscript (.Name x p) ix p2] (G.X k).env).map (·.2) = [assign (.Subscript (.Name x p) ix p2) (G.X k).env] := by intro _; rfl) : Den G Wx (.Assign [.Subscript (.Name x p) ix p2] e pos) (wSetK i wk we) := by
  obtain ⟨t, a1, a2⟩ := h
  obtain ⟨u, b1, b2⟩ := hk
  have ps : ∀ k, PSet (G.X k) (rSetK G.K) := fun k => by
    have y := set_dictK (hu k)
    rw [G.hK k] at y
    exact y
  refine ⟨_, fun k => ps_asg (a1 k) (pg_sub (pe_var (pos := p) (hi k) (hv k) hd hcd) (b1 k) (ps k) (ha k)) (hs k) (hw k) (h1 k), fun W F0 H0 F H σ env P T s h c => ?_⟩
  refine a2 W F0 H0 F H σ env _ _ s h fun v vd F1 H1 e1 r1 q1 => ?_
  have s1 := s.step e1
  split at q1
  · rename_i es q
    obtain ⟨v0, g1, a, ob, xs, rfl, g2, g3, g4, g5, g6, g7, g8⟩ := s1.ent i _ q
    refine ⟨_, g1, b2 W F0 H0 F1 H1 σ env _ _ s1 q1 fun kv kd F2 H2 e2 r2 q2 => ?_⟩
    obtain ⟨⟨kf, hz⟩, q2⟩ := q2
    obtain ⟨ys, k, rfl, hk, hl, tu⟩ := keyFit_out kf
    have ha2 := e2.keep a _ g5 g4 nt_ext
    have fa2 := e2.opn a _ g5 g3 nt_ext
    have t2 := Ents.mono e2.f g8
    obtain ⟨zs, rfl⟩ := t2.tup tu
    obtain ⟨b, rfl⟩ : ∃ b, kv = .ref b := by
      cases r2 with
      | tup _ _ _ => exact ⟨_, rfl⟩
    rw [liftT_len] at g7
    refine ⟨a, b, ob, zs, _, k, rfl, rfl, ha2, g7, t2.keys e2.u rfl, Rp.dp e2.u (key_lay _ _ hk) r2, hk, hl, fun u o' ru => ?_⟩
    have t3 := t2.put (b := .ref b) (kv := .ref b) hk hl rfl r2 ru (Rp.mono e2.f r1)
    rw [put_lift] at t3
    have len : (liftT (storedH zs k b u)).length ≤ sizeLine := by
      rw [t3.length]
      have := putK_len es (.tuple ys) vd
      omega
    exact c.nx _ _ F2 _ (e1.f.trans e2.f) ((s1.step e2).mutEn (en' := .od (putK es (.tuple ys) vd)) q rfl g1 g2 fa2 g4 (fun _ z => by rw [ha2] at z; cases z) ⟨a, _, _, rfl, g2, fa2, g4, upd_same, g6, len, t3⟩ fun _ z => nomatch z) q2
  · exact q1.elim
theorem RpB.dict {K : KT} {W : Option Addr} {F H : Hp} {v : V} {es : List (D × D)} (u : Same F H) (h : RpB K W F H v (.dict es)) (ne : es ≠ opqE) : ∃ (a : Addr) (o : Obj) (xs : EX), v = .ref a ∧ H a = some (.ext (DictAt a o xs)) ∧ (a == sysModules) = false ∧ xs.length ≤ sizeLine ∧ Ents K F xs es := by
  rcases h with h | ⟨a, vs, fs, h1, h2, _⟩ | ⟨a, o, xs, fs, h1, h2, _, h4, h5, h6, h7⟩
  · cases h with
    | dct g => exact absurd rfl ne
    | dcd g n l r => exact ⟨_, _, _, rfl, u _ _ g, n, l, r⟩
  · cases h2
  · cases h2
    exact ⟨a, o, xs, h1, h4, h5, h6, h7⟩
theorem tup_opq {es : List (D × D)} (h : tupK es = true) : es ≠ opqE := fun e => by
  subst e
  cases h
/-- a dict whose keys are tuples, a key -/
theorem keyArgs {K : KT} {W : Option Addr} {F H : Hp} {x y : V} {d : D} {es : List (D × D)} (u : Same F H) (rx : RpB K W F H x d) (ry : RpB K W F H y (.dict es)) (kf : keyFit es d = true) :
    ∃ (a b : Addr) (o : Obj) (zs : TX) (k : NestedKey), x = .ref b ∧ y = .ref a ∧ H a = some (.ext (DictAt a o (liftT zs))) ∧ (a == sysModules) = false ∧ KeysD K H zs ∧ Dp K H (.ref b) d ∧ keyD d = some k ∧ k.depth ≤ 8 ∧ (∀ vd, getK es d = some vd → ∃ (p : Addr × Value) (v : V), atKey zs k = some p ∧ RelV v p.2 ∧ Rp K F v vd) ∧ (getK es d = none → atKey zs k = none) := by
  obtain ⟨ys, k, rfl, hk, hl, tu⟩ := keyFit_out kf
  obtain ⟨a, o, xs, rfl, ha, hm, hz, en⟩ := ry.dict u (tup_opq tu)
  obtain ⟨b, vs, rfl, _⟩ := rx.tuple
  obtain ⟨zs, rfl⟩ := en.tup tu
  obtain ⟨g1, g2⟩ := en.get hk
  refine ⟨a, b, o, zs, k, rfl, rfl, ha, hm, en.keys u rfl, rx.dp u (key_lay _ _ hk), hk, hl, fun vd h => ?_, fun h => ?_⟩
  · obtain ⟨p, v, h1, h2, h3⟩ := g1 vd h
    rw [look_lift, Option.map_eq_some_iff] at h1
    obtain ⟨pp, h4, rfl⟩ := h1
    exact ⟨pp, v, h4, h2, h3⟩
  · have := g2 h
    rw [look_lift, Option.map_eq_none_iff] at this
    exact this
theorem isSome_same {es : List (D × D)} {d : D} {zs : TX} {k : NestedKey} {P : D → Addr × Value → V → Prop} (g1 : ∀ vd, getK es d = some vd → ∃ (p : Addr × Value) (v : V), atKey zs k = some p ∧ P vd p v) (g2 : getK es d = none → atKey zs k = none) : (atKey zs k).isSome = (getK es d).isSome := by
  cases hg : getK es d with
  | none => rw [g2 hg]; rfl
  | some z =>
    obtain ⟨p, v, hp, _⟩ := g1 z hg
    rw [hp]
    rfl
def dInX : OD := fun d e Q => match e with
  | .dict es => keyFit es d = true ∧ Q (.bool (getK es d).isSome)
  | _ => dIn d e Q
@[simp ↓] theorem dInX_ap d e Q : dInX d e Q = (match e with
  | .dict es => keyFit es d = true ∧ Q (.bool (getK es d).isSome)
  | _ => dIn d e Q) := Eq.trans rfl rfl
theorem o_inX (hu : Hu G) : OpD G (compareOp .In) dInX := by
  obtain ⟨r, h1, h2⟩ := o_in hu
  refine ⟨_, fun i => OpR.or (h1 i) (opR_K (r := fun K => rInK K false) (G.hK i) (op_inK (hu i))), fun W F H x y d e Q R u w rx ry q k => ?_⟩
  unfold dInX at q
  split at q
  · rename_i es
    obtain ⟨kf, q⟩ := q
    obtain ⟨a, b, o, zs, kk, rfl, rfl, ha, hm, ks, dp, hk, hl, g1, g2⟩ := keyArgs u rx ry kf
    refine .inr ⟨a, b, o, zs, _, kk, rfl, rfl, ha, hm, ks, dp, hk, hl, ?_⟩
    have ee := isSome_same g1 g2
    rw [ee]
    have z : (false != (getK es d).isSome) = (getK es d).isSome := by cases (getK es d).isSome <;> rfl
    rw [z]
    exact k _ _ F H (Ext.refl u w) (.bl _) q
  · exact .inl (h2 W F H x y d e Q R u w rx ry q k)
def dNotInX : OD := fun d e Q => match e with
  | .dict es => keyFit es d = true ∧ Q (.bool (!(getK es d).isSome))
  | _ => dNotIn d e Q
@[simp ↓] theorem dNotInX_ap d e Q : dNotInX d e Q = (match e with
  | .dict es => keyFit es d = true ∧ Q (.bool (!(getK es d).isSome))
  | _ => dNotIn d e Q) := Eq.trans rfl rfl
theorem o_notInX (hu : Hu G) : OpD G (compareOp .NotIn) dNotInX := by
  obtain ⟨r, h1, h2⟩ := o_notIn hu
  refine ⟨_, fun i => OpR.or (h1 i) (opR_K (r := fun K => rInK K true) (G.hK i) (op_notInK (hu i))), fun W F H x y d e Q R u w rx ry q k => ?_⟩
  unfold dNotInX at q
  split at q
  · rename_i es
    obtain ⟨kf, q⟩ := q
    obtain ⟨a, b, o, zs, kk, rfl, rfl, ha, hm, ks, dp, hk, hl, g1, g2⟩ := keyArgs u rx ry kf
    refine .inr ⟨a, b, o, zs, _, kk, rfl, rfl, ha, hm, ks, dp, hk, hl, ?_⟩
    have ee := isSome_same g1 g2
    rw [ee]
    have z : (true != (getK es d).isSome) = !(getK es d).isSome := by cases (getK es d).isSome <;> rfl
    rw [z]
    exact k _ _ F H (Ext.refl u w) (.bl _) q
  · exact .inl (h2 W F H x y d e Q R u w rx ry q k)
/-- d[k], of a list, a tuple, a text, a dict -/
def dIxX : OD := fun d e Q => match d with
  | .dict es => keyFit es e = true ∧ match getK es e with
    | some v => Q v
    | none => False
  | _ => dIx d e Q
@[simp ↓] theorem dIxX_ap d e Q : dIxX d e Q = (match d with
  | .dict es => keyFit es e = true ∧ match getK es e with
    | some v => Q v
    | none => False
  | _ => dIx d e Q) := Eq.trans rfl rfl
theorem s_ixX {K : KT} : OpS K (fun x y H Q => rIx K x y H Q ∨ rIxK K x y H Q) dIxX := fun W F H x y d e Q R u w rx ry q k => by
  unfold dIxX at q
  split at q
  · rename_i es
    obtain ⟨kf, q⟩ := q
    obtain ⟨a, b, o, zs, kk, rfl, rfl, ha, hm, ks, dp, hk, hl, g1, g2⟩ := keyArgs u ry rx kf
    split at q
    · rename_i z hg
      obtain ⟨p, v, hp, rv, rd⟩ := g1 z hg
      exact .inr ⟨a, b, o, zs, _, kk, p, v, rfl, rfl, ha, ks, dp, hk, hl, hp, rv, k v z F H (Ext.refl u w) rd q⟩
    · exact q.elim
  · exact .inl (s_ix W F H x y d e Q R u w rx ry q k)
theorem e_ixX {a b : Expr} {wa wb : WE} (hu : Hu G) (ha : DenB G a wa) (hb : DenB G b wb) (hs : PlainIx b := by exact fun _ _ => rfl) : DenE G (.Subscript a b pos) (wOp dIxX wa wb) := by
  obtain ⟨ta, a1, a2⟩ := ha
  obtain ⟨tb, b1, b2⟩ := hb
  refine ⟨_, fun i => ?_, snd_op s_ixX a2 b2⟩
  have z : IxR (G.X i) (fun x y H Q => rIx G.K x y H Q ∨ rIxK G.K x y H Q) := by
    have y1 : IxR (G.X i) (rIx (G.X i).K) := ix_seq
    have y2 : IxR (G.X i) (rIxK (G.X i).K) := ix_dictK (hu i)
    rw [G.hK i] at y1 y2
    intro value slice pins s σ H x y v u Q I rx ry h hs
    rcases h with h | h
    · exact y1 value slice pins s σ H x y v u Q I rx ry h hs
    · exact y2 value slice pins s σ H x y v u Q I rx ry h hs
  exact pe_ix z (a1 i) (b1 i) hs
end
end Dn
/-! Dn13: dicts walked, listed, counted, made of pairs, grown; xs[::-1]. -/
namespace Dn
open PySem PySem.Spec PyProof.Rows L2
/-! ### over the heap -/
section
variable {X : Cx} {pins : List (Addr × Obj)} {σ : L2.St} {H : Hp} {s : Shared}
theorem dict_raw (I : Inv X pins σ H s) {a : Addr} {o : Obj} {xs : EX} (h : H a = some (.ext (DictAt a o xs))) : s.heap.get? a = some o ∧ o.ExactDict ∧ ∃ es ep, o.data = .dict es ep ∧ es.size = xs.length ∧ ∀ (i : Nat) (k : NestedKey) (b u : Value), xs[i]? = some (k, b, u) → ∃ en : DictEntry, es[i]? = some en ∧ en.key = b ∧ en.val = u := by
  obtain ⟨⟨e1, e2, es, ep, e3, e4, e5⟩, _⟩ := (show ObjOk X.prog X.w H s.heap a (.ext (DictAt a o xs)) from I.hok a _ h)
  have e4 := e4 X.w
  refine ⟨e1, e2, es, ep, e3, ?_, fun i k b u hi => ?_⟩
  · have := congrArg List.length e4
    rw [List.length_map, Array.length_toList] at this
    exact this
  · have z : es.toList[i]? = (xs.map fun x => (⟨NestedKey.hash X.w x.1, x.2.1, x.2.2⟩ : DictEntry))[i]? := by rw [e4]
    rw [List.getElem?_map, hi, Array.getElem?_toList] at z
    exact ⟨_, z, rfl, rfl⟩
end
/-- each key is a value of ours -/
abbrev KeysVal (xs : EX) : Prop := ∀ (i : Nat) (k : NestedKey) (b u : Value), xs[i]? = some (k, b, u) → ∃ v, RelV v b
/-- the keys of a dict that stands still -/
def Itxk (d : Addr) (o : Obj) (xs : EX) : It :=
  ⟨fun i H => H d = some (.ext (DictAt d o xs)) ∧ i < xs.length, fun i H x H' => H' = H ∧ ∃ k b u, xs[i]? = some (k, b, u) ∧ RelV x b, fun i H => H d = some (.ext (DictAt d o xs)) ∧ xs.length ≤ i⟩
theorem turn_xk {P : Program} {w : World} {K : PySem.W.Frag} {tg : Expr} {d : Addr} {o : Obj} {es : Array DictEntry} {ep : Nat} {xs : EX} (it : Addr) (hod : o.data = .dict es ep) (hk : KeysVal xs) :
    Turn P w K tg (Itxk d o xs) [it] it (fun i h => h.IsKeyIter it d i xs.length ep) where
  mem := by simp
  obj := fun i h st b hb => by
    have e : b = it := by simpa using hb
    subst e
    obtain ⟨oi, e, c, dd⟩ := st
    exact ⟨oi, e, fun v z => by rw [dd] at z; cases z⟩
  keep := fun i h h' st k => st.at fun oi e => k it (by simp) oi e
  item := by
    intro X hP hw hK hc i pins s σ H E I hf st hg
    subst hP hw hK
    obtain ⟨hd, hi⟩ := hg
    obtain ⟨f0, f1, f2, f3, f4, f5⟩ := hf it (by simp)
    obtain ⟨hgd, hx, es', ep', hdt, hsz, ent⟩ := dict_raw I hd
    obtain ⟨rfl, rfl⟩ := dict_ep hod hdt
    obtain ⟨⟨k, b, u⟩, hkv⟩ : ∃ p, xs[i]? = some p := ⟨xs[i], List.getElem?_eq_getElem hi⟩
    obtain ⟨en, hen, hkey, _⟩ := ent i k b u hkv
    obtain ⟨v, hv⟩ := hk i k b u hkv
    refine next_key_item st hgd hdt hsz hen fun h' st' sb => ?_
    have I1 : Inv X pins σ H { s with heap := h' } := I.turned (t' := s.toks) (fun b ob hb e => (sb.2 b hb).trans e) f0 f1 f3 f4 f5
    obtain ⟨oi, e, c, dd⟩ := id st'
    exact ⟨en.key, rfl, go_of (s := { s with heap := h' }) e c dd (by decide) ⟨v, H, I1, by rw [hkey]; exact hv, ⟨rfl, k, b, u, hkv, hv⟩, st', fun b hb => (hf b hb).1⟩⟩
  done := by
    intro X hP hw hK hc i pins s σ H E I hf st hg
    subst hP hw hK
    obtain ⟨hd, hi⟩ := hg
    obtain ⟨f0, f1, f2, f3, f4, f5⟩ := hf it (by simp)
    obtain ⟨hgd, hx, es', ep', hdt, hsz, ent⟩ := dict_raw I hd
    obtain ⟨rfl, rfl⟩ := dict_ep hod hdt
    exact next_key_end (I.ok.hd hc) st hgd hdt hsz hi fun h' eb => ⟨rfl, I.turned (t' := s.toks) (fun b ob hb e => eb b ob hb e) f0 f1 f3 f4 f5⟩
  self := fun A i s Q E st h => wpAny_pyIter_keyiter st h
/-- for k in d -/
def iXk (K : PySem.W.Frag) (td : TE) : TI := fun σ H R => td σ H fun x H1 => ∃ (d : Addr) (o : Obj) (xs : EX), x = .ref d ∧ (d == sysModules) = false ∧ H1 d = some (.ext (DictAt d o xs)) ∧ KeysVal xs ∧ R (Itxk d o xs) H1
theorem pi_xk {X : Cx} {tg e : Expr} {td : TE} (he : PE X e td) : PI X tg e (iXk X.K td) := by
  refine ⟨fun pins s σ H R I h => ?_⟩
  refine thn (he.run pins s σ H _ I h) fun u s1 ⟨x, H1, I1, rx, d, o, xs, ex, hs, hd, hk, q⟩ => ?_
  subst ex
  obtain rfl : u = Value.ref d := rx
  obtain ⟨hgd, hx, es, ep, hdt, hsz, ent⟩ := dict_raw I1 hd
  refine iter_keys hs hgd hx hdt (pi_one (tk := s1.toks) I1 _ (turn_xk _ hdt hk) ⟨_, Heap.get?_push_size _ rfl, rfl, ?_⟩ q)
  rw [hsz] <;> rfl
section
variable {X : Cx}
theorem len_rawX {prog : Program} {w : World} {A : Around} {E : Value → Shared → Prop} {s : Shared} {d : Addr} {es : Array DictEntry} {ep : Nat} {Q : Value → Shared → Prop} (hd : (d == sysModules) = false) (hm : s.heap.DictRaw d es ep) (hfit : (es.size : Int) < 2 ^ 63)
    (h : Q (.int es.size (s.toks + 1)) { s with toks := s.toks + 1 + 1 }) : wpAny (model prog w) A (call (.builtin "len") [.ref d]) Q E s := by
  refine Calls.call_function_entry kind_len plain_len entry_len (args_len1 _) ?_
  unfold Builtin.«len»
  refine wpAny_bind (m := oneArg "len" _) (wpAny_pure ?_)
  refine wpAny_bind (m := callSpecial? (.ref d) (Str.ofString "__len__")) (wpAny_callSpecial?_slot (name := Str.ofString "__len__") hm.typeIs F.slot_dict_len (call_len_raw hd hm ?_))
  show wpAny _ _ _ _ _ { s with toks := s.toks + 1 }
  refine wpAny_bind (wpAny_holding (wpAny_pure ?_))
  refine wpAny_bind (wpAny_letGo ?_)
  show wpAny _ _ (if ((es.size : Nat) : Int) < 0 then _ else _) _ _ _
  rw [if_neg (by omega)]
  show wpAny _ _ (if ((es.size : Nat) : Int) ≥ 2 ^ 63 then _ else _) _ _ _
  rw [if_neg (by omega)]
  exact wpAny_bind (wpAny_mkInt (wpAny_pure ⟨_, rfl, h⟩))
/-- len(d) -/
def rLenX : List V → Hp → VK → Prop := fun vs H Q => ∃ (a : Addr) (o : Obj) (xs : EX), vs = [.ref a] ∧ H a = some (.ext (DictAt a o xs)) ∧ (a == sysModules) = false ∧ xs.length ≤ sizeLine ∧ Q (.int xs.length) H
theorem call_lenX : CallR X (.builtin "len") rLenX := by
  intro pins s σ H vs us Q I r h
  obtain ⟨a, o, xs, rfl, ha, hm, hz, q⟩ := h
  obtain ⟨u, rfl, ru⟩ := vals1 r
  obtain rfl : u = Value.ref a := ru
  obtain ⟨e1, e2, es, ep, e3, e4, _⟩ := dict_raw I ha
  have raw : s.heap.DictRaw a es ep := ⟨o, e1, e2, e3⟩
  have hl := line63
  have hs : sizeLine = 16777216 := sizeLine_eq
  exact len_rawX hm raw (by rw [e4]; omega) ⟨.int xs.length, H, I.tok _, ⟨_, by rw [e4]⟩, q⟩
/-- list(d) -/
def rListX : List V → Hp → VK → Prop := fun vs H Q => ∃ (a : Addr) (o : Obj) (xs : EX), vs = [.ref a] ∧ H a = some (.ext (DictAt a o xs)) ∧ (a == sysModules) = false ∧ xs.length ≤ sizeLine ∧ KeysVal xs ∧ ∀ (p : Addr) (ks : List V), H p = none → ks.length = xs.length → (∀ (i : Nat) (v : V), ks[i]? = some v → ∃ (k : NestedKey) (b u : Value), xs[i]? = some (k, b, u) ∧ RelV v b) → Q (.ref p) (upd H p (.lst ks))
theorem vals_ex : ∀ (us : List Value), (∀ u ∈ us, ∃ v, RelV v u) → ∃ vs, Vals vs us
  | [], _ => ⟨[], .nil⟩
  | u :: us, h => by
    obtain ⟨v, hv⟩ := h u List.mem_cons_self
    obtain ⟨vs, hs⟩ := vals_ex us fun w hw => h w (List.mem_cons_of_mem _ hw)
    exact ⟨v :: vs, .cons hv hs⟩
theorem vals_at : ∀ {vs : List V} {us : List Value} {i : Nat} {v : V}, Vals vs us → vs[i]? = some v → ∃ u, us[i]? = some u ∧ RelV v u
  | _, _, _, _, .nil, h => by simp at h
  | _, _, 0, _, .cons r _, h => by simp at h; subst h; exact ⟨_, rfl, r⟩
  | _, _, i + 1, _, .cons _ t, h => by
    obtain ⟨u, h1, h2⟩ := vals_at (i := i) t (by simpa using h)
    exact ⟨u, by simpa using h1, h2⟩
theorem call_listX (hc : X.calm = true) : CallR X (.type "list") rListX := by
  intro pins s σ H vs us Q I r h
  obtain ⟨a, o, xs, rfl, ha, hm, hz, hk, q⟩ := h
  obtain ⟨u, rfl, ru⟩ := vals1 r
  obtain rfl : u = Value.ref a := ru
  obtain ⟨e1, e2, es, ep, e3, e4, ent⟩ := dict_raw I ha
  have raw : s.heap.DictRaw a es ep := ⟨o, e1, e2, e3⟩
  refine PySem.W.kdl_call (KdlSrc.rawDict (prog := X.prog) (w := X.w) hm) (I.ok.hd hc) raw (by rw [e4]; exact hz) fun h' tk acc c ext hl items => ?_
  obtain ⟨i1, i2⟩ := items
  have key : ∀ (i : Nat) (v : Value), acc.toList[i]? = some v → ∃ k b u, xs[i]? = some (k, b, u) ∧ v = b := fun i v hi => by
    rw [Array.getElem?_toList] at hi
    obtain ⟨hlt, ev⟩ := i2 i v hi
    obtain ⟨⟨k, b, u⟩, hkv⟩ : ∃ p, xs[i]? = some p := ⟨xs[i]'(by omega), List.getElem?_eq_getElem (by omega)⟩
    obtain ⟨en, h1, h2, _⟩ := ent i k b u hkv
    rw [Array.getElem?_eq_getElem hlt] at h1
    cases h1
    exact ⟨k, b, u, hkv, ev.trans h2⟩
  obtain ⟨ks, hv⟩ := vals_ex acc.toList fun v hv => by
    obtain ⟨i, hi⟩ := List.getElem?_of_mem hv
    obtain ⟨k, b, u, h1, rfl⟩ := key i v hi
    exact hk i k v u h1
  have hl1 : ks.length = xs.length := by
    rw [hv.length, Array.length_toList, i1, e4]
  refine ⟨.ref s.heap.objs.size, upd H s.heap.objs.size (.lst ks), I.laid (t' := tk) ext (Nat.le_refl _) ⟨by rw [hl1]; exact hz, acc.toList, c, hv, by simpa using hl⟩, rfl, q _ ks (I.hok.fresh (Nat.le_refl _)) hl1 fun i v hi => ?_⟩
  obtain ⟨u', g1, g2⟩ := vals_at hv hi
  obtain ⟨k, b, u, h1, rfl⟩ := key i u' g1
  exact ⟨k, u', u, h1, g2⟩
/-- the items of a list are pairs, their keys tuples -/
def PairsV (K : PySem.W.Frag) (H : Hp) : List V → List (NestedKey × Addr × V) → Prop := Paired fun x p => ∃ (T : Addr) (d : D), x = .ref T ∧ SqT K H T [.ref p.2.1, p.2.2] ∧ Dp K H (.ref p.2.1) d ∧ keyD d = some p.1 ∧ p.1.depth ≤ 8
def ValP (p : NestedKey × Addr × V) (y : NestedKey × Addr × Value) : Prop := p.1 = y.1 ∧ p.2.1 = y.2.1 ∧ RelV p.2.2 y.2.2
/-- dict(pairs) -/
def rDictL (K : PySem.W.Frag) : List V → Hp → VK → Prop := fun vs H Q => ∃ (a : Addr) (xs : List V) (ps : List (NestedKey × Addr × V)), vs = [.ref a] ∧ SqL K H a xs ∧ PairsV K H xs ps ∧
  ∀ (p : Addr) (o : Obj) (ys : TX), H p = none → (p == sysModules) = false → Paired ValP ps ys → Q (.ref p) (upd H p (.ext (DictAt p o (liftT (storedAllH [] ys)))))
theorem pairs_of {X : Cx} {pins : List (Addr × Obj)} {σ : L2.St} {H : Hp} {s : Shared} (I : Inv X pins σ H s) : ∀ {xs : List V} {ps : List (NestedKey × Addr × V)} {us : List Value}, PairsV X.K H xs ps → Vals xs us →
    ∃ ys : TX, Paired ValP ps ys ∧ ∃ Ts : Nat → Addr, (∀ j k b v, ys[j]? = some (k, b, v) → us[j]? = some (.ref (Ts j)) ∧ PairAt s.heap (Ts j) (.ref b) v) ∧ us.length = ys.length ∧ ∀ y ∈ ys, (nestedKind X.prog X.w).is s.heap y.1 y.2.1
  | _, _, _, .nil, .nil => ⟨[], .nil, fun _ => 0, fun j k b v h => by simp at h, rfl, fun _ h => nomatch h⟩
  | _, _, _, .cons (b := p) h t, .cons r rs => by
    obtain ⟨T, d, rfl, h1, h2, h3, h4⟩ := h
    obtain rfl := (show _ = Value.ref T from r)
    obtain ⟨ys, g1, Ts, g2, g3, g4⟩ := pairs_of I t rs
    obtain ⟨its, rv, pl, _⟩ := I.tuple h1
    cases rv with
    | cons ra rb =>
      cases rb with
      | cons rb rc =>
        cases rc
        rename_i ub
        cases ra
        refine ⟨(p.1, p.2.1, ub) :: ys, .cons ⟨rfl, rfl, rb⟩ g1, fun j => match j with | 0 => T | j + 1 => Ts j, fun j k b v hj => ?_, congrArg (· + 1) g3, fun y hy => ?_⟩
        · cases j with
          | zero =>
            simp at hj
            obtain ⟨rfl, rfl, rfl⟩ := hj
            exact ⟨rfl, .inl pl⟩
          | succ j => exact g2 j k b v (by simpa using hj)
        · rcases List.mem_cons.mp hy with rfl | hy
          · exact key_is I h2 h3 h4
          · exact g4 y hy
theorem storedAll_free {P : Program} {w : World} {ys : TX} {xs : TX} (hx : ∀ x ∈ xs, ∃ d, keyD d = some x.1) (hy : ∀ y ∈ ys, ∃ d, keyD d = some y.1) : ∀ x ∈ storedAllH xs ys, ∃ d, keyD d = some x.1 := by
  induction ys generalizing xs with
  | nil => exact hx
  | cons y ys ih =>
    refine ih (fun x hm => ?_) fun z hz => hy z (List.mem_cons_of_mem _ hz)
    rcases stored_keys hm with z | ⟨x', hx', z⟩
    · rw [z]
      exact hy y List.mem_cons_self
    · rw [z]
      exact hx x' hx'
theorem pairs_free {K : PySem.W.Frag} {H : Hp} : ∀ {xs : List V} {ps : List (NestedKey × Addr × V)} {ys : TX}, PairsV K H xs ps → Paired ValP ps ys → ∀ y ∈ ys, ∃ d, keyD d = some y.1
  | _, _, _, .nil, .nil => fun _ h => nomatch h
  | _, _, _, .cons ⟨_, d, _, _, _, h, _⟩ t, .cons r rs => fun y hy => by
    rcases List.mem_cons.mp hy with rfl | hy
    · exact ⟨d, by rw [h, r.1]⟩
    · exact pairs_free t rs y hy
theorem room_in2 (hu : X.A.units + 65 < cLine) : (nestedKind X.prog X.w).room X.A.in1.in1 := by
  show X.A.units + 1 + 1 + 8 < cLine
  omega
theorem call_dictL (hc : X.calm = true) (hu : X.A.units + 65 < cLine) : CallR X (.type "dict") (rDictL X.K) := by
  intro pins s σ H vs us Q I r h
  obtain ⟨a, xs, ps, rfl, hs, hp, q⟩ := h
  obtain ⟨u, rfl, ru⟩ := vals1 r
  obtain rfl : u = Value.ref a := ru
  obtain ⟨its, rv, ⟨o0, n0, ho, hcl, hdn, hd⟩, hz⟩ := I.list hs
  obtain ⟨ys, g1, Ts, g2, g3, g4⟩ := pairs_of I hp rv
  let kvs : List (Value × Value) := ys.map fun y => (.ref y.2.1, y.2.2)
  have hlen : kvs.length = ys.length := by rw [List.length_map]
  have items : PairItems s.heap its.toArray Ts kvs := by
    refine ⟨by rw [List.size_toArray, hlen]; exact g3, fun j k v hj => ?_⟩
    rw [List.getElem?_map, Option.map_eq_some_iff] at hj
    obtain ⟨⟨kk, b, vv⟩, hy, e⟩ := hj
    cases e
    obtain ⟨e1, e2⟩ := g2 j kk b vv hy
    exact ⟨by simpa using e1, e2⟩
  have st := nestedKind_stays (prog := X.prog) (w := X.w)
  refine call_dict_pairsH (knd := nestedKind X.prog X.w) (PairArg.list a its.toArray Ts kvs) (I.ok.hd hc) (room_in2 hu) ⟨⟨o0, n0, ho, hcl, hdn, hd⟩, items⟩ (ps := ys) ⟨by rw [hlen], fun i key v hi => ?_⟩ (fun h' hk x hx => st.all (h := s.heap) h' (fun b o _ e => hk b o (Nat.ne_of_lt (Heap.lt_size e)) (fun z => nomatch z) e) _ _ (g4 x hx)) (by rw [hlen, ← g3, ← rv.length]; exact hz) fun h' tk hm hk => ?_
  · have hi : kvs[i]? = some (key, v) := hi
    rw [List.getElem?_map, Option.map_eq_some_iff] at hi
    obtain ⟨⟨kk, b, vv⟩, hy, e⟩ := hi
    cases e
    exact ⟨kk, b, hy, rfl⟩
  · obtain ⟨o', at'⟩ := dictAt_of hm (storedAll_free (P := X.prog) (w := X.w) (xs := []) (fun _ z => nomatch z) (pairs_free hp g1))
    obtain ⟨e1, _⟩ := id at'
    exact ⟨.ref s.heap.objs.size, _, I.laid (a := s.heap.objs.size) (o := .ext (DictAt s.heap.objs.size o' (liftT (storedAllH [] ys)))) (t' := tk) (fun b o e => hk b o (fun z => nomatch z) e) (Nat.le_refl _) ⟨at', ⟨_, e1⟩, fun h1 h2 => dictAt_mono⟩, rfl, q _ o' ys (I.hok.fresh (Nat.le_refl _)) (beq_eq_false_iff_ne.mpr (Ne.symm (Nat.ne_of_lt I.big))) g1⟩
/-- d.update(e) -/
def rUpdD (K : PySem.W.Frag) : V → List V → Hp → (V → Hp → Prop) → Prop := fun x vs H Q => ∃ (a b : Addr) (o ob : Obj) (xs ys : TX), x = .ref a ∧ vs = [.ref b] ∧ a ≠ b ∧ (b == sysModules) = false ∧ H a = some (.ext (DictAt a o (liftT xs))) ∧ H b = some (.ext (DictAt b ob (liftT ys))) ∧ KeysD K H xs ∧ KeysD K H ys ∧
  (xs ≠ [] ∨ ∀ w : World, (ys.map fun y => NestedKey.hash w y.1).Nodup) ∧ xs.length + ys.length ≤ sizeLine ∧ ∀ o', Q .non (upd H a (.ext (DictAt a o' (liftT (storedAllH xs ys)))))
theorem mt_updD (hu : X.A.units + 65 < cLine) : MtR X "dict.update" (rUpdD X.K) := by
  intro pins s σ H x xs v us Q I rx rxs h
  obtain ⟨a, b, o, ob, zs, ys, rfl, rfl, hab, hbs, ha, hb, ka, kb, hh, hz, q⟩ := h
  cases rx
  obtain ⟨u, rfl, ru⟩ := rxs.one
  cases ru
  have da := dict_of I ha ka
  have db := dict_of I hb kb
  refine call_update_dictH (knd := nestedKind X.prog X.w) (room_in1 hu) hab hbs da db ?_ hz fun h' hm hm2 hs => ?_
  · rcases hh with z | z
    · exact .inl z
    · exact .inr ⟨keyed_apart nestedKind_stays db, z X.w⟩
  · have fr : ∀ {ws : TX}, KeysD X.K H ws → ∀ x ∈ ws, ∃ d, keyD d = some x.1 := fun k x hx => let ⟨d, _, h2, _⟩ := k x hx; ⟨d, h2⟩
    obtain ⟨o', at'⟩ := dictAt_of hm (storedAll_free (P := X.prog) (w := X.w) (fr ka) (fr kb))
    obtain ⟨e1, _⟩ := id at'
    exact ⟨.non, _, I.write (x := a) (e := a) (o := .ext (DictAt a o' (liftT (storedAllH zs ys)))) (by rw [ha]; trivial) (.inl rfl) (fun c z hc hz => (hs.2 c hc).trans hz) ⟨_, e1⟩ ⟨at', ⟨_, e1⟩, fun h1 h2 => dictAt_mono⟩, rfl, q o'⟩
end
/-! ### as data -/
/-- the pairs of a list of pairs -/
def pairsD : List D → Option (List (D × D))
  | [] => some []
  | .tuple [k, v] :: r => (pairsD r).map ((k, v) :: ·)
  | _ :: _ => none
def putAll (es ps : List (D × D)) : List (D × D) := ps.foldl (fun acc p => putK acc p.1 p.2) es
@[simp] theorem pairsD_nil : pairsD [] = some [] := rfl
@[simp] theorem pairsD_cons (k v : D) (r : List D) : pairsD (.tuple [k, v] :: r) = (pairsD r).map ((k, v) :: ·) := rfl
theorem pairsD_map {α : Type} (f g : α → D) (xs : List α) : pairsD (xs.map fun x => .tuple [f x, g x]) = some (xs.map fun x => (f x, g x)) := by
  induction xs with
  | nil => rfl
  | cons x r ih => rw [List.map_cons, List.map_cons, pairsD_cons, ih]; rfl
theorem putAll_len (ps : List (D × D)) : ∀ es : List (D × D), (putAll es ps).length ≤ es.length + ps.length := by
  induction ps with
  | nil => intro es; exact Nat.le_refl _
  | cons p ps ih =>
    intro es
    have h1 := ih (putK es p.1 p.2)
    have h2 := putK_len es p.1 p.2
    show (putAll (putK es p.1 p.2) ps).length ≤ _
    rw [List.length_cons]
    omega
theorem putAll_tup (ps : List (D × D)) : ∀ es : List (D × D), tupK es = true → tupK ps = true → tupK (putAll es ps) = true := by
  induction ps with
  | nil => intro es h _; exact h
  | cons p ps ih =>
    intro es h h2
    unfold tupK at h2
    rw [List.all_cons, Bool.and_eq_true] at h2
    exact ih _ (putK_tup h h2.1) h2.2
/-- keys that are tuples, not too deep -/
def keysOk (ps : List (D × D)) : Bool := ps.all fun p => keyFit [] p.1
theorem keysOk_tup {ps : List (D × D)} (h : keysOk ps = true) : tupK ps = true := by
  unfold keysOk tupK at *
  rw [List.all_eq_true] at h ⊢
  intro p hp
  obtain ⟨ys, k, e, _⟩ := keyFit_out (h p hp)
  rw [e]
  rfl
section
variable {K : KT} {F : Hp}
/-- entries told by their keys' own tuples -/
def StoR (K : KT) (F : Hp) (y : NestedKey × Addr × Value) (p : D × D) : Prop := keyD p.1 = some y.1 ∧ y.1.depth ≤ 8 ∧ Rp K F (.ref y.2.1) p.1 ∧ ∃ v, RelV v y.2.2 ∧ Rp K F v p.2
theorem Ents.storeAll {ys : TX} {ps : List (D × D)} (t : Paired (StoR K F) ys ps) : ∀ {xs : TX} {es : List (D × D)}, Ents K F (liftT xs) es → Ents K F (liftT (storedAllH xs ys)) (putAll es ps) := by
  induction t with
  | nil => exact fun h => h
  | @cons y p ys ps r t ih =>
    intro xs es h
    obtain ⟨h1, h2, h3, v, h4, h5⟩ := r
    have z := h.put (b := .ref y.2.1) (kv := .ref y.2.1) h1 h2 rfl h3 h4 h5
    rw [put_lift] at z
    exact ih z
theorem pairsD_len : ∀ {xs : List D} {ps : List (D × D)}, pairsD xs = some ps → ps.length = xs.length
  | [], _, h => by cases h; rfl
  | .tuple [k, v] :: r, _, h => by
    rw [pairsD_cons, Option.map_eq_some_iff] at h
    obtain ⟨ps', e, rfl⟩ := h
    exact congrArg (· + 1) (pairsD_len e)
  | .tuple [] :: _, _, h => by cases h
  | .tuple [_] :: _, _, h => by cases h
  | .tuple (_ :: _ :: _ :: _) :: _, _, h => by cases h
  | .none :: _, _, h => by cases h
  | .bool _ :: _, _, h => by cases h
  | .int _ :: _, _, h => by cases h
  | .str _ :: _, _, h => by cases h
  | .list _ :: _, _, h => by cases h
  | .dict _ :: _, _, h => by cases h
theorem Ents.stoR : ∀ {ys : TX} {xs : EX} {es : List (D × D)}, Ents K F xs es → xs = liftT ys → Paired (StoR K F) ys es
  | [], _, _, .nil, _ => .nil
  | [], _, _, .cons _ _ _ _ _ _ _, e => nomatch e
  | y :: ys, _, _, .nil, e => nomatch e
  | y :: ys, _, _, .cons (kv := kv) (v := v) k l rk a r b t, e => by
    unfold liftT at e
    rw [List.map_cons] at e
    injection e with e1 e2
    injection e1 with e3 e4
    injection e4 with e5 e6
    subst e5
    have ek : kv = .ref y.2.1 := by
      cases kv with
      | ref c => cases rk; rfl
      | _ => first | (obtain ⟨t, z⟩ := rk; cases z) | cases rk
    subst ek
    exact .cons ⟨by rw [← e3]; exact k, by rw [← e3]; exact l, a, v, by rw [← e6]; exact r, b⟩ (Ents.stoR t e2)
theorem pairs_data {H : Hp} (u : Same F H) : ∀ {vs : List V} {ds : List D} {ps : List (D × D)}, Rps K F vs ds → pairsD ds = some ps → keysOk ps = true →
    ∃ qs : List (NestedKey × Addr × V), PairsV K H vs qs ∧ ∀ ys : TX, Paired ValP qs ys → Paired (StoR K F) ys ps
  | _, _, _, .nil, e, _ => by
    cases e
    exact ⟨[], .nil, fun ys h => by cases h; exact .nil⟩
  | _, _, _, .cons (d := d) (ds := ds) h t, e, ok => by
    cases h with
    | tup h1 h2 h3 =>
      cases h3 with
      | nil => cases e
      | cons ra rb =>
        cases rb with
        | nil => cases e
        | cons rb rc =>
          cases rc with
          | cons _ _ => cases e
          | nil =>
            rename_i a kv kd vv vd
            rw [pairsD_cons, Option.map_eq_some_iff] at e
            obtain ⟨ps, e, rfl⟩ := e
            unfold keysOk at ok
            rw [List.all_cons, Bool.and_eq_true] at ok
            obtain ⟨zs, k, rfl, hk, hl, _⟩ := keyFit_out ok.1
            obtain ⟨qs, g1, g2⟩ := pairs_data u t e ok.2
            obtain ⟨b, rfl⟩ : ∃ b, kv = .ref b := by
              cases ra with
              | tup _ _ _ => exact ⟨_, rfl⟩
            refine ⟨(k, b, vv) :: qs, .cons ⟨a, _, rfl, sameT u h1, Rp.dp u (key_lay _ _ hk) ra, hk, hl⟩ g1, fun ys hy => ?_⟩
            cases hy with
            | cons r rs =>
              obtain ⟨r1, r2, r3⟩ := r
              exact .cons ⟨by rw [← r1]; exact hk, by rw [← r1]; exact hl, by rw [← r2]; exact ra, vv, r3, rb⟩ (g2 _ rs)
    | _ => cases e
end
section
variable {G : Fam} {Wx : WX} {pos : Pos} {e : Expr} {we : WE}
/-! new objects of the frame's own -/
abbrev WNw := Env → (En → Prop) → Prop
def SndNw (K : KT) (t : TE) (w : WNw) : Prop := ∀ (W : Option Addr) (F0 H0 F H : Hp) (σ : L2.St) (env : Env) (Q : En → Prop) (R : VK), StR K W F0 H0 F H σ env → w env Q →
  (∀ a en F1 H1, Ext K W F H F1 H1 → H a = none → (∀ b ∈ en.adr, H b = none) → EnOk K W H F1 H1 (.ref a) en → Q en → R (.ref a) H1) → t σ H R
def DenNw (G : Fam) (e : Expr) (w : WNw) : Prop := ∃ t, (∀ i, PE (G.X i) e t) ∧ SndNw G.K t w
theorem ownNone {K : KT} {W : Option Addr} {F0 H0 F H : Hp} {σ : L2.St} {env : Env} (s : StR K W F0 H0 F H σ env) {a : Addr} (h : H a = none) : H0 a = none := s.ext.alive a h
theorem EnOk.old {K : KT} {W : Option Addr} {H0 Hs F H : Hp} {v : V} {en : En} (al : ∀ b, Hs b = none → H0 b = none) (h : EnOk K W Hs F H v en) : EnOk K W H0 F H v en := by
  cases en with
  | sh d => exact h
  | ob a => exact h
  | th f c q => exact h
  | ex a x oe => exact h
  | ow t ds =>
    obtain ⟨a, vs, h1, ht, h2, h3⟩ := h
    exact ⟨a, vs, h1, ht, al _ h2, h3⟩
  | od es =>
    obtain ⟨a, o, xs, h1, h2, h3⟩ := h
    exact ⟨a, o, xs, h1, al _ h2, h3⟩
  | ot as rows =>
    obtain ⟨a, h1, h2, h3, h4, h5, h6, h7, h8, h9⟩ := h
    exact ⟨a, h1, al _ h2, h3, h4, h5, h6, h7, h8, ownLs_imp (fun _ _ _ g => ⟨al _ g.1, g.2⟩) h9⟩
/-- what is new is stored -/
theorem StR.setNw {K : KT} {W : Option Addr} {F0 H0 F H F1 H1 : Hp} {σ : L2.St} {env : Env} {i : Nat} {a : Addr} {en : En} (s : StR K W F0 H0 F H σ env) (e : Ext K W F H F1 H1) (ha : H a = none) (hb : ∀ b ∈ en.adr, H b = none) (h : EnOk K W H F1 H1 (.ref a) en) : StR K W F0 H0 F1 H1 (σ.set i (some (.ref a))) (env.set i (some en)) :=
  (s.step e).setOwn (h.old fun b => s.ext.alive b) (s.newIn ha) fun b m => s.newIn (hb b m)
/-- x = a new object -/
def wSetNw (i : Nat) (w : WNw) : WS := fun env P => w env fun en => P.nx (env.set i (some en))
@[simp ↓] theorem wSetNw_ap (i : Nat) (w : WNw) env P : wSetNw i w env P = (w env fun en => P.nx (env.set i (some en))) := Eq.trans rfl rfl
theorem s_setNw {i : Nat} {x : Str} {p : Pos} {w : WNw} (hN : ∀ j, (G.X j).N.Nodup) (hi : ∀ j, (G.X j).N[i]? = some x := by intro _; rfl) (hx : ∀ j, Loc (G.X j).env.scope x := by intro _; first | exact Or.inl rfl | exact Or.inr rfl) (hf : ∀ j, (G.X j).fn x = true ∨ (G.X j).env.scope.names.lookup x = some .local := by intro _; first | exact Or.inl rfl | exact Or.inr rfl) (h : DenNw G e w)
    (hs : ∀ j, swapsWith e (some (.Name x p)) pos.line (G.X j).env = pure false := by intro _; rfl) : Den G Wx (.Assign [.Name x p] e pos) (wSetNw i w) := by
  obtain ⟨t, h1, h2⟩ := h
  refine ⟨_, fun j => ps_set (hN j) (hi j) (hx j) (h1 j) (hs j) (hf j), fun W F0 H0 F H σ env P T s h c => ?_⟩
  exact h2 W F0 H0 F H σ env _ _ s h fun a en F1 H1 e ha hb ok q => c.nx _ _ F1 H1 e.f (s.setNw e ha hb ok) q
/-- .. let go at once -/
def wNwE (w : WNw) : WE := fun env Q => w env fun en => match enD en with
  | some d => Q d
  | none => False
@[simp ↓] theorem wNwE_ap (w : WNw) env Q : wNwE w env Q = (w env fun en => match enD en with
  | some d => Q d
  | none => False) := Eq.trans rfl rfl
theorem e_nw {w : WNw} (h : DenNw G e w) : DenE G e (wNwE w) := by
  obtain ⟨t, h1, h2⟩ := h
  refine ⟨t, h1, fun W F0 H0 F H σ env Q R s h k => ?_⟩
  refine h2 W F0 H0 F H σ env _ _ s h fun a en F1 H1 e1 ha hb ok q => ?_
  split at q
  · rename_i d hd
    have s0 : StR G.K W F H F H [some (.ref a)] [none] := ⟨Ext.refl s.u s.w, rfl, fun i en hi => by cases i <;> simp at hi, fun i j e f n p => by cases i <;> simp at p, fun i j e f n p => by cases i <;> simp at p⟩
    have s1 := s0.setNw (i := 0) e1 ha hb ok
    obtain ⟨b, F2, g1, g2, g3, g4⟩ := s1.share (i := 0) (en := en) rfl hd
    cases g1
    exact k _ d F2 H1 g3.ext g4 q
  · exact q.elim
/-- [..] -/
def wNwL (r : WA) : WNw := fun env Q => r env fun xs => match shs xs with
  | some ds => ds.length ≤ sizeLine ∧ Q (.ow none ds)
  | none => False
@[simp ↓] theorem wNwL_ap (r : WA) env Q : wNwL r env Q = (r env fun xs => match shs xs with
  | some ds => ds.length ≤ sizeLine ∧ Q (.ow none ds)
  | none => False) := Eq.trans rfl rfl
theorem nw_lst {es : List Expr} {r : WA} (h : DenA G es r) : DenNw G (.List es pos) (wNwL r) := by
  obtain ⟨t, h1, h2⟩ := h
  refine ⟨_, fun i => pe_lst (h1 i), fun W F0 H0 F H σ env Q R s h k => ?_⟩
  refine h2 W F0 H0 F H σ env _ _ s h fun vs ens F1 H1 e1 r1 _ q1 => ?_
  split at q1
  · rename_i ds q
    have r2 := r1.shs q
    have hl : vs.length ≤ sizeLine := by rw [r2.length]; exact q1.1
    refine ⟨hl, fun p hp => ?_⟩
    obtain ⟨h0, fp, nw⟩ := e1.fresh hp
    exact k p (.ow none ds) F1 _ (e1.write h0 nw fp) h0 (fun _ z => nomatch z) ⟨p, vs, rfl, (fun _ z => nomatch z), h0, fp, nw, upd_same, hl, r2⟩ q1.2
  · exact q1.elim
/-- {} -/
def wNwD : WNw := fun _ Q => Q (.od [])
@[simp ↓] theorem wNwD_ap u0_ Q : wNwD u0_ Q = (Q (.od [])) := Eq.trans rfl rfl
theorem nw_dict0 : DenNw G (.Dict [] [] pos) wNwD := by
  refine ⟨_, fun _ => pe_dnewN, fun W F0 H0 F H σ env Q R s h k p o hp hm => ?_⟩
  obtain ⟨h0, fp, nw⟩ := s.ext.fresh hp
  exact k p (.od []) F _ ((Ext.refl s.u s.w).write hp nw fp) hp (fun _ z => nomatch z) ⟨p, o, [], rfl, hp, fp, nw, upd_same, hm, Nat.zero_le _, .nil⟩ h
/-- dict(pairs) -/
def dictL (d : D) (Q : List (D × D) → Prop) : Prop := match d with
  | .list xs => match pairsD xs with
    | some ps => keysOk ps = true ∧ Q (putAll [] ps)
    | none => False
  | _ => False
def wNwDL (w : WE) : WNw := fun env Q => w env fun d => dictL d fun es => Q (.od es)
@[simp ↓] theorem wNwDL_ap (w : WE) env Q : wNwDL w env Q = (w env fun d => dictL d fun es => Q (.od es)) := Eq.trans rfl rfl
theorem nw_dictL {x : Str} {p : Pos} {w : WE} (hc : Calm G) (hu : Hu G) (hg : ∀ i, Gl (G.X i) x := by intro _; rfl) (hm : ∀ i, (G.X i).mg x = none) (hv : bootBuiltins x = some (.type "dict")) (ha : DenE G e w) (hn : x ≠ "__name__" := by decide) (hdb : (x == ("__debug__" : Str)) = false := by decide)
    (he : ∀ i, starEach [e] (G.X i).env = (false, eval e (G.X i).env) :: starEach [] (G.X i).env := by intro _; rfl) (hpl : ∀ i, (backTo pos (starEach [] (G.X i).env)).any (·.1) = false := by intro _; rfl) : DenNw G (.Call (.Name x p) [e] [] pos) (wNwDL w) := by
  obtain ⟨t, a1, a2⟩ := ha
  refine ⟨tCB (rDictL G.K) (tCons t tNil), fun i => ?_, fun W F0 H0 F H σ env Q R s h k => ?_⟩
  · have z : CallR (G.X i) (.type "dict") (rDictL (G.X i).K) := call_dictL (hc i) (hu i)
    rw [G.hK i] at z
    exact pe_callTy z (hg i) (hm i) hv (pa_cons (a1 i) pa_nil (he i)) hn hdb (he i) (hpl i)
  · refine a2 W F0 H0 F H σ env _ _ s h fun v d F1 H1 e1 r1 q1 => ?_
    unfold dictL at q1
    split at q1
    · rename_i xs
      split at q1
      · rename_i ps hps
        obtain ⟨ok, q1⟩ := q1
        cases r1 with
        | lst g1 g2 g3 =>
          obtain ⟨qs, p1, p2⟩ := pairs_data e1.u g3 hps ok
          refine ⟨_, _, qs, rfl, SqL.of (e1.u _ _ g1), p1, fun p o ys hp hm vp => ?_⟩
          obtain ⟨h0, fp, nw⟩ := e1.fresh hp
          have en := Ents.storeAll (K := G.K) (F := F1) (p2 ys vp) (xs := []) (es := []) .nil
          have lp : ps.length = xs.length := pairsD_len hps
          have hl : (liftT (storedAllH [] ys)).length ≤ sizeLine := by
            rw [en.length]
            have := putAll_len ps []
            have := g3.length
            simp at *
            omega
          exact k p (.od (putAll [] ps)) F1 _ (e1.write h0 nw fp) h0 (fun _ z => nomatch z) ⟨p, o, _, rfl, h0, fp, nw, upd_same, hm, hl, en⟩ q1
      · exact q1.elim
    · exact q1.elim
/-- {k: v} -/
def wNwD1 (wk w : WE) : WNw := fun env Q => wk env fun kd => w env fun vd => keyFit [] kd = true ∧ Q (.od [(kd, vd)])
@[simp ↓] theorem wNwD1_ap (wk w : WE) env Q : wNwD1 wk w env Q = (wk env fun kd => w env fun vd => keyFit [] kd = true ∧ Q (.od [(kd, vd)])) := Eq.trans rfl rfl
def tDisp1 (K : PySem.W.Frag) (tk tv : TE) : TE := fun σ H Q => ∀ p o, H p = none → (p == sysModules) = false → tPairs [(tk, tv)] σ (upd H p (.ext (DictAt p o []))) fun ps H2 => ∃ (kv vv : V) (b : Addr) (o2 : Obj) (d : D) (k : NestedKey), ps = [(kv, vv)] ∧ kv = .ref b ∧ H2 p = some (.ext (DictAt p o2 [])) ∧ Dp K H2 (.ref b) d ∧ keyD d = some k ∧ k.depth ≤ 8 ∧
  ∀ o' u, RelV vv u → Q (.ref p) (upd H2 p (.ext (DictAt p o' (liftT [(k, b, u)]))))
theorem pe_disp1 {X : Cx} {ek ev : Expr} {tk tv : TE} (hu : X.A.units + 65 < cLine) (hk : PE X ek tk) (hv : PE X ev tv) : PE X (.Dict [some ek] [ev] pos) (tDisp1 X.K tk tv) := by
  refine ⟨fun pins s σ H Q I q => ?_⟩
  have hn := I.hok.fresh (Nat.le_refl s.heap.objs.size)
  let o0 : Obj := { cls := .type "dict", data := .dict #[] }
  have new : DictAt s.heap.objs.size o0 [] (s.heap.push o0) := ⟨Heap.get?_push_size _ rfl, ⟨rfl, rfl, rfl⟩, #[], 0, rfl, fun _ => rfl, List.nodup_nil⟩
  have I1 := I.laid (a := s.heap.objs.size) (o := .ext (DictAt s.heap.objs.size o0 [])) (h' := s.heap.push o0) (t' := s.toks) (fun _ _ q => Heap.get?_push_of_some _ q) (Nat.le_refl _) ⟨new, ⟨_, Heap.get?_push_size _ rfl⟩, fun h1 h2 => dictAt_mono⟩
  have q := q s.heap.objs.size o0 hn (beq_eq_false_iff_ne.mpr (Ne.symm (Nat.ne_of_lt I.big)))
  have rm : (nestedKind X.prog X.w).room X.A := by
    show X.A.units + 8 < cLine
    omega
  rw [arm_eval_Dict, show (evalEachOpt [some ek] X.env).zip ((evalEach [ev] X.env).map fun v => do let x ← v; standAt pos; pure x) = (pairTrees [some ek] [ev] X.env pos).map fun p => (some p.1, p.2) from rfl, dictDisplay_pairs (pairTrees [some ek] [ev] X.env pos) (fun z => by cases z) (by show 1 < 17; decide)]
  refine wpAny_bind (wpAny_standAt (wpAny_bind (wpAny_subDictH (knd := nestedKind X.prog X.w) (Q := fun d s' => wpAny (model X.prog X.w) X.A (pure (Value.ref d)) (EP X pins σ Q) X.xe s') rm (by show 1 ≤ 15; decide) ?_)))
  refine wpAny_mono ((pps_cons (pos := pos) hk hv pps_nil).run pins _ σ _ _ I1 q) (fun vs s2 ⟨ps, H2, I2, rel, kv, vv, b, o2, d, k, e1, e2, hp, hd, hk, hl, qq⟩ => ?_) fun _ _ e => e
  subst e1 e2
  cases rel with
  | @cons _ pv _ _ r rs =>
    cases rs
    obtain ⟨kval, vval⟩ := pv
    obtain ⟨r1, r2⟩ := r
    obtain rfl : kval = Value.ref b := r1
    have is := key_is I2 hd hk hl
    refine ⟨[(k, b, vval)], ⟨rfl, rfl, is, trivial⟩, dict_of (xs := []) I2 hp (fun _ z => nomatch z), fun h' tk hm hs => wpAny_pure ?_⟩
    have fr : ∀ x ∈ storedAllH [] [(k, b, vval)], ∃ d, keyD d = some x.1 := fun x hx => by
      have hx : x ∈ [(k, b, vval)] := hx
      rw [List.mem_singleton] at hx
      exact ⟨d, by rw [hx]; exact hk⟩
    obtain ⟨o', at'⟩ := dictAt_of hm fr
    obtain ⟨e1, _⟩ := id at'
    exact ⟨.ref s.heap.objs.size, _, I2.write (t' := tk) (x := s.heap.objs.size) (e := s.heap.objs.size) (o := .ext (DictAt s.heap.objs.size o' (liftT [(k, b, vval)]))) (by rw [hp]; trivial) (.inl rfl) (fun c z hc hz => (hs.2 c hc).trans hz) ⟨_, e1⟩ ⟨at', ⟨_, e1⟩, fun h1 h2 => dictAt_mono⟩, rfl, qq o' vval r2⟩
theorem nw_dict1 {ek ev : Expr} {wk w : WE} (hu : Hu G) (hk : DenE G ek wk) (hv : DenE G ev w) : DenNw G (.Dict [some ek] [ev] pos) (wNwD1 wk w) := by
  obtain ⟨tk, k1, k2⟩ := hk
  obtain ⟨tv, v1, v2⟩ := hv
  refine ⟨tDisp1 G.K tk tv, fun i => ?_, fun W F0 H0 F H σ env Q R s h k p o hp hm => ?_⟩
  · have z := pe_disp1 (pos := pos) (hu i) (k1 i) (v1 i)
    rw [G.hK i] at z
    exact z
  obtain ⟨h0, fp, nw⟩ := s.ext.fresh hp
  have s1 := s.aside (o := .ext (DictAt p o [])) h0 fp nw (fun _ z => by rw [hp] at z; cases z) (s.notOw hp)
  have e0 : Ext G.K W F H F (upd H p (.ext (DictAt p o []))) := (Ext.refl s.u s.w).write hp nw fp
  refine k2 W F0 H0 F _ σ env _ _ s1 h fun kv kd F1 H1 e1 r1 q1 => ?_
  refine v2 W F0 H0 F1 H1 σ env _ _ (s1.step e1) q1 fun vv vd F2 H2 e2 r2 q2 => ?_
  obtain ⟨kf, q2⟩ := q2
  obtain ⟨ys, kk, rfl, hkd, hl, _⟩ := keyFit_out kf
  obtain ⟨b, rfl⟩ : ∃ b, kv = .ref b := by
    cases r1 with
    | tup _ _ _ => exact ⟨_, rfl⟩
  have e12 := e1.trans e2
  have hp2 := e12.keep p _ upd_same nw nt_ext
  have fp2 := e12.opn p _ upd_same fp nt_ext
  have rk := Rp.mono e2.f r1
  refine ⟨_, vv, b, o, _, kk, rfl, rfl, hp2, Rp.dp e2.u (key_lay _ _ hkd) rk, hkd, hl, fun o' u ru => ?_⟩
  have e3 := (e0.trans e12).write (o := .ext (DictAt p o' (liftT [(kk, b, u)]))) hp nw fp2
  exact k p (.od [(.tuple ys, vd)]) F2 _ e3 hp (fun _ z => nomatch z) ⟨p, o', _, rfl, hp, fp2, nw, upd_same, hm, by rw [liftT_len]; show 1 ≤ _; decide, .cons hkd hl (show RelV (.ref b) (.ref b) from rfl) rk ru r2 .nil⟩ q2
/-! ### walked, counted, listed -/
theorem Ents.at {K : KT} {F : Hp} : ∀ {xs : EX} {es : List (D × D)} {i : Nat}, Ents K F xs es → ∀ {k : NestedKey} {b u : Value}, xs[i]? = some (k, b, u) → ∃ kd vd v, es[i]? = some (kd, vd) ∧ RelV v b ∧ Rp K F v kd
  | _, _, _, .nil, _, _, _, h => by simp at h
  | _, _, 0, .cons h1 h2 rk h3 h4 h5 t, _, _, _, h => by
    simp at h
    obtain ⟨rfl, rfl, rfl⟩ := h
    exact ⟨_, _, _, rfl, rk, h3⟩
  | _, _, i + 1, .cons h1 h2 rk h3 h4 h5 t, _, _, _, h => by
    obtain ⟨kd, vd, v, g1, g2, g3⟩ := Ents.at (i := i) t (by simpa using h)
    exact ⟨kd, vd, v, by simpa using g1, g2, g3⟩
theorem Ents.kv {K : KT} {F : Hp} {xs : EX} {es : List (D × D)} (h : Ents K F xs es) : KeysVal xs := fun i k b u hi => by
  obtain ⟨_, _, v, _, h2, _⟩ := h.at hi
  exact ⟨v, h2⟩
/-- what stands for a value of the library is one -/
theorem relV_inj {v w : V} {b : Value} {K : KT} {F : Hp} {d : D} (h1 : RelV v b) (h2 : RelV w b) (r : Rp K F v d) (l : flatD d = true ∨ isTup d = true) : w = v := by
  cases r with
  | non => cases h1; cases w <;> first | rfl | (obtain ⟨t, z⟩ := h2; cases z; done) | (cases h2; done)
  | bl x => cases h1; cases w <;> first | (cases h2; rfl) | (obtain ⟨t, z⟩ := h2; cases z; done) | (cases h2; done)
  | int i => obtain ⟨t, rfl⟩ := h1; cases w <;> first | (obtain ⟨t', z⟩ := h2; cases z; rfl) | (obtain ⟨t', z⟩ := h2; cases z; done) | (cases h2; done)
  | str x => obtain ⟨t, rfl⟩ := h1; cases w <;> first | (obtain ⟨t', z⟩ := h2; cases z; rfl) | (obtain ⟨t', z⟩ := h2; cases z; done) | (cases h2; done)
  | tup _ _ _ => cases h1; cases w <;> first | (cases h2; rfl) | (obtain ⟨t, z⟩ := h2; cases z; done) | (cases h2; done)
  | lst _ _ _ => rcases l with l | l <;> cases l
  | dct _ => rcases l with l | l <;> cases l
  | dcd _ _ _ _ => rcases l with l | l <;> cases l
theorem key_kind {d : D} {k : NestedKey} (h : keyD d = some k) : flatD d = true ∨ isTup d = true := by
  cases d with
  | list _ => cases h
  | dict _ => cases h
  | str _ => cases h
  | tuple _ => exact .inr rfl
  | _ => exact .inl rfl
theorem Ents.keyof {K : KT} {F : Hp} : ∀ {xs : EX} {es : List (D × D)} {i : Nat}, Ents K F xs es → ∀ {kd vd : D}, es[i]? = some (kd, vd) → ∃ k b u v, xs[i]? = some (k, b, u) ∧ RelV v b ∧ Rp K F v kd ∧ keyD kd = some k
  | _, _, _, .nil, _, _, h => by simp at h
  | _, _, 0, .cons h1 h2 rk h3 h4 h5 t, _, _, h => by
    simp at h
    obtain ⟨rfl, rfl⟩ := h
    exact ⟨_, _, _, _, rfl, rk, h3, h1⟩
  | _, _, i + 1, .cons h1 h2 rk h3 h4 h5 t, _, _, h => by
    obtain ⟨k, b, u, v, g1, g2⟩ := Ents.keyof (i := i) t (by simpa using h)
    exact ⟨k, b, u, v, by simpa using g1, g2⟩
theorem walk_xk {d : Addr} {o : Obj} {xs : EX} : Walk (Itxk d o xs) xs.length (fun H => H d = some (.ext (DictAt d o xs))) (fun i H x H' => H' = H ∧ ∃ k b u, xs[i]? = some (k, b, u) ∧ RelV x b) :=
  ⟨fun i _ hi q => ⟨q, hi⟩, fun _ q => ⟨q, Nat.le_refl _⟩, fun i H v H' _ q y => y⟩
theorem walkD_xk {K : KT} {W : Option Addr} {F : Hp} {d : Addr} {o : Obj} {xs : EX} {es : List (D × D)} (hl : xs.length ≤ sizeLine) (h : F d = some (.ext (DictAt d o xs))) (r : Ents K F xs es) : WalkD K W (Itxk d o xs) F (es.map (·.1)) := by
  have len : (es.map (·.1)).length = xs.length := by rw [List.length_map, r.length]
  refine ⟨by rw [len]; exact hl, _, _, by rw [len]; exact walk_xk, fun F1 H1 e u => u _ _ (e _ _ h), fun F1 H1 i x H2 kd e u w hd y => ?_⟩
  obtain ⟨rfl, k, b, uu, hi, rv⟩ := y
  rw [List.getElem?_map, Option.map_eq_some_iff] at hd
  obtain ⟨⟨kd', vd⟩, hes, rfl⟩ := hd
  obtain ⟨k', b', u', v, g1, g2, g3, g4⟩ := r.keyof hes
  rw [hi] at g1
  cases g1
  have ev := relV_inj g2 rv g3 (key_kind g4)
  subst ev
  exact ⟨F1, Ext.refl u w, Rp.mono e g3⟩
/-- for k in d, d a list, a tuple, a dict -/
def wSqX (w : WE) : WL := fun env Q => w env fun d => match d with
  | .list ds => Q ds
  | .tuple ds => Q ds
  | .dict es => tupK es = true ∧ Q (es.map (·.1))
  | _ => False
@[simp ↓] theorem wSqX_ap (w : WE) env Q : wSqX w env Q = (w env fun d => match d with
  | .list ds => Q ds
  | .tuple ds => Q ds
  | .dict es => tupK es = true ∧ Q (es.map (·.1))
  | _ => False) := Eq.trans rfl rfl
def iSqX (K : PySem.W.Frag) (t : TE) : TI := fun σ H R => t σ H fun x H1 => iList K (tC x) σ H1 R ∨ iTup K (tC x) σ H1 R ∨ iXk K (tC x) σ H1 R
theorem pi_sqX {X : Cx} {t : TE} {tg : Expr} (h : PE X e t) : PI X tg e (iSqX X.K t) := by
  refine ⟨fun pins s σ H R I hw => ?_⟩
  refine thn (h.run pins s σ H _ I hw) fun v s1 ⟨x, H1, I1, r1, q⟩ => ?_
  rcases q with ⟨a, rfl, ⟨xs, hq⟩, q⟩ | ⟨a, rfl, ⟨xs, hq⟩, q⟩ | ⟨d, o, xs, ex, hs, hd, hk, q⟩
  · cases r1
    obtain ⟨its, rv, p, _⟩ := I1.list hq
    refine wpAny_pyIter_list p.isList ⟨s1.heap.objs.size, [s1.heap.objs.size], _, _, H1, rfl, I1.kept (t' := s1.toks) fun b o e => Heap.get?_push_of_some _ e, turn_list a _, ⟨_, Heap.get?_push_size _ rfl, rfl, rfl⟩, fun b hb => ?_, q⟩
    cases (show b = s1.heap.objs.size by simpa using hb)
    exact I1.fpOk (Nat.le_refl _) I1.fresh
  · cases r1
    obtain ⟨its, rv, p, _⟩ := I1.tuple hq
    refine wpAny_pyIter_tuple (show s1.heap.IsTuple a its.toArray from p) ⟨s1.heap.objs.size, [s1.heap.objs.size], _, _, H1, rfl, I1.kept (t' := s1.toks) fun b o e => Heap.get?_push_of_some _ e, turn_tuple a _, ⟨_, Heap.get?_push_size _ rfl, rfl, rfl⟩, fun b hb => ?_, q⟩
    cases (show b = s1.heap.objs.size by simpa using hb)
    exact I1.fpOk (Nat.le_refl _) I1.fresh
  · subst ex
    obtain rfl : v = Value.ref d := r1
    obtain ⟨hgd, hx, es, ep, hdt, hsz, ent⟩ := dict_raw I1 hd
    refine iter_keys hs hgd hx hdt (pi_one (tk := s1.toks) I1 _ (turn_xk _ hdt hk) ⟨_, Heap.get?_push_size _ rfl, rfl, ?_⟩ q)
    rw [hsz] <;> rfl
theorem i_sqX {tg : Expr} {w : WE} (h : DenE G e w) : DenI G tg e (wSqX w) := by
  obtain ⟨t, h1, h2⟩ := h
  refine ⟨_, fun i => piK (r := fun K => iSqX K t) (G.hK i) (pi_sqX (h1 i)), fun W F0 H0 F H σ env Q R s hw k => ?_⟩
  refine h2 W F0 H0 F H σ env _ _ s hw fun v d F' H' x r q => ?_
  cases r with
  | lst g1 g2 g3 => exact .inl ⟨_, rfl, ⟨_, SqL.of (x.u _ _ g1)⟩, k _ _ F' H' x (walkD_list g2 g1 g3) q⟩
  | tup g1 g2 g3 => exact .inr (.inl ⟨_, rfl, ⟨_, sameT x.u g1⟩, k _ _ F' H' x (walkD_tup g2 g1 g3) q⟩)
  | dcd g1 g2 g3 g4 => exact .inr (.inr ⟨_, _, _, rfl, g2, x.u _ _ g1, g4.kv, k _ _ F' H' x (walkD_xk g3 g1 g4) q.2⟩)
  | dct _ => exact absurd rfl (tup_opq q.1)
  | _ => exact (show False from q).elim
/-- len -/
def cLenX : CD := fun ds Q => match ds with
  | [.dict es] => es ≠ opqE ∧ Q (.int es.length)
  | _ => cLen ds Q
@[simp ↓] theorem cLenX_ap ds Q : cLenX ds Q = (match ds with
  | [.dict es] => es ≠ opqE ∧ Q (.int es.length)
  | _ => cLen ds Q) := Eq.trans rfl rfl
theorem c_lenX : CallD G (.builtin "len") cLenX := by
  obtain ⟨r, h1, h2⟩ := c_len (G := G)
  refine ⟨_, fun i => CallR.or (h1 i) call_lenX, fun W F H vs ds Q R u w r q k => ?_⟩
  unfold cLenX at q
  split at q
  · obtain ⟨v, rfl, h⟩ := r.one
    obtain ⟨a, o, xs, rfl, ha, hm, hz, en⟩ := h.dict u q.1
    refine .inr ⟨a, o, xs, rfl, ha, hm, hz, ?_⟩
    rw [en.length]
    exact k _ _ F H (Ext.refl u w) (.int _) q.2
  · exact .inl (h2 W F H vs ds Q R u w r q k)
/-- list -/
def cListX : CD := fun ds Q => match ds with
  | [.dict es] => es ≠ opqE ∧ Q (.list (es.map (·.1)))
  | _ => cList ds Q
@[simp ↓] theorem cListX_ap ds Q : cListX ds Q = (match ds with
  | [.dict es] => es ≠ opqE ∧ Q (.list (es.map (·.1)))
  | _ => cList ds Q) := Eq.trans rfl rfl
theorem Ents.keysR {K : KT} {F : Hp} : ∀ {xs : EX} {es : List (D × D)} {ks : List V}, Ents K F xs es → ks.length = xs.length → (∀ (i : Nat) (v : V), ks[i]? = some v → ∃ (k : NestedKey) (b u : Value), xs[i]? = some (k, b, u) ∧ RelV v b) → Rps K F ks (es.map (·.1))
  | _, _, [], .nil, _, _ => .nil
  | _, _, _ :: _, .nil, h, _ => nomatch h
  | _, _, [], .cons _ _ _ _ _ _ _, h, _ => nomatch h
  | _, _, w :: ks, .cons h1 h2 rk h3 h4 h5 t, hl, h => by
    obtain ⟨k', b', u', e, rv⟩ := h 0 w rfl
    simp at e
    obtain ⟨rfl, rfl, rfl⟩ := e
    have ev := relV_inj rk rv h3 (key_kind h1)
    subst ev
    exact .cons h3 (Ents.keysR t (Nat.succ.inj hl) fun i v hi => by
      obtain ⟨k2, b2, u2, e2, r2⟩ := h (i + 1) v (by simpa using hi)
      exact ⟨k2, b2, u2, by simpa using e2, r2⟩)
theorem c_listX (hc : Calm G) : CallD G (.type "list") cListX := by
  obtain ⟨r, h1, h2⟩ := c_list (G := G)
  refine ⟨_, fun i => CallR.or (h1 i) (call_listX (hc i)), fun W F H vs ds Q R u w r q k => ?_⟩
  unfold cListX at q
  split at q
  · obtain ⟨v, rfl, h⟩ := r.one
    obtain ⟨a, o, xs, rfl, ha, hm, hz, en⟩ := h.dict u q.1
    exact .inr ⟨a, o, xs, rfl, ha, hm, hz, en.kv, fun p ks hp hl hk => snd_lst u w (en.keysR hl hk) (by rw [hl]; exact hz) q.2 k p hp⟩
  · exact .inl (h2 W F H vs ds Q R u w r q k)
/-! ### d.update(e) -/
/-- o.name(e), o one of our dicts -/
def tBMD (r : V → List V → Hp → VK → Prop) (to : TE) (t : TA) : TE := fun σ H Q => to σ H fun x H1 => (∃ (a : Addr) (o : Obj) (xs : EX), x = .ref a ∧ H1 a = some (.ext (DictAt a o xs))) ∧ t σ H1 fun xs H2 => r x xs H2 Q
theorem pe_bmD {X : Cx} {o e : Expr} {es : List Expr} {to : TE} {t : TA} {name : Str} {apos cpos : Pos} {id : String} {r : V → List V → Hp → VK → Prop} (slot : Slot "dict" name id) (hty : typeOf (.builtin id) = pure (.type "method_descriptor")) (hm : MtR X id r) (ho : PE X o to) (ha : PA X (e :: es) t)
    (hbase : attributeBase o name X.env (eval o X.env) = eval o X.env := by rfl)
    (hfew : ((backTo cpos (starEach (e :: es) X.env)).all (fun x => !x.1) && (backToKw cpos (keywordEach [] X.env)).all (fun x => x.1.isSome)
      && decide ((e :: es).length + ([] : List Keyword).length + (if ([] : List Keyword).isEmpty then 0 else 1) < 30)) = true := by rfl)
    (hline : (apos.endLine == cpos.line) = true := by rfl) (hs : starEach (e :: es) X.env = (false, eval e X.env) :: starEach es X.env := by rfl) (hplain : (backTo cpos (starEach es X.env)).any (·.1) = false := by rfl) :
    PE X (.Call (.Attribute o name apos) (e :: es) [] cpos) (tBMD r to t) := by
  refine ⟨fun pins s σ H Q I h => ?_⟩
  refine wpAny_Call_method_late hbase hfew hline rfl (thn (ho.run pins s σ H _ I h) fun v s1 ⟨x, H1, I1, r1, ty, q1⟩ => ?_)
  obtain ⟨a, ob, xs, rfl, ha1⟩ := ty
  obtain rfl : v = Value.ref a := r1
  obtain ⟨e1, e2, _⟩ := dict_raw I1 ha1
  refine ⟨"dict", id, PySem.F.plainAttrs_dict, slot, hty, ⟨ob, e1, e2.1⟩, fun b hb => ?_, ?_⟩
  · cases hb
    exact ⟨ob, e1, e2.2.1⟩
  have hA := ha.run cpos pins s1 σ H1 _ I1 q1
  rw [hs] at hA ⊢
  refine Calls.callWith_builtin (by show (false || (backTo cpos (starEach es X.env)).any (·.1)) = false; rw [hplain] <;> rfl) (Calls.evalArgs_plain ?_)
  exact thn hA fun us s2 ⟨vs, H2, I2, r2, q2⟩ => hm pins s2 σ H2 (.ref a) vs (.ref a) us Q I2 rfl r2 q2
def hashD (w : World) (d : D) : Int := match keyD d with
  | some k => NestedKey.hash w k
  | none => 0
/-- no two keys hash alike -/
def HashOk (es : List (D × D)) : Prop := ∀ w : World, (es.map fun e => hashD w e.1).Nodup
def wUpd (i : Nat) (w : WE) : WS := fun env P => match env[i]? with
  | some (some (.od es)) => w env fun d => match d with
    | .dict fs => (tupK es = true ∧ tupK fs = true ∧ (es ≠ [] ∨ HashOk fs) ∧ es.length + fs.length ≤ sizeLine) ∧ P.nx (env.set i (some (.od (putAll es fs))))
    | _ => False
  | _ => False
@[simp ↓] theorem wUpd_ap (i : Nat) (w : WE) env P : wUpd i w env P = (match env[i]? with
  | some (some (.od es)) => w env fun d => match d with
    | .dict fs => (tupK es = true ∧ tupK fs = true ∧ (es ≠ [] ∨ HashOk fs) ∧ es.length + fs.length ≤ sizeLine) ∧ P.nx (env.set i (some (.od (putAll es fs))))
    | _ => False
  | _ => False) := Eq.trans rfl rfl
theorem ents_hash {K : KT} {F : Hp} (w : World) : ∀ {ys : TX} {es : List (D × D)}, Paired (StoR K F) ys es → (ys.map fun y => NestedKey.hash w y.1) = es.map fun e => hashD w e.1
  | _, _, .nil => rfl
  | _, _, .cons (a := y) (b := e) r t => by
    rw [List.map_cons, List.map_cons, ents_hash w t]
    congr 1
    unfold hashD
    rw [r.1]
theorem s_upd {i : Nat} {x : Str} {p apos cpos : Pos} {w : WE} (hu : Hu G) (hi : ∀ k, (G.X k).N[i]? = some x := by intro _; rfl) (hv : ∀ k, Vis (G.X k).env.scope x := by intro _; first | exact Or.inl rfl | exact Or.inr (Or.inl rfl) | exact Or.inr (Or.inr rfl)) (h : DenE G e w) (hd : (x == ("__debug__" : Str)) = false := by decide) (hcd : (x == ("__classdict__" : Str)) = false := by decide)
    (hbase : ∀ k, attributeBase (.Name x p) "update" (G.X k).env (eval (.Name x p) (G.X k).env) = eval (.Name x p) (G.X k).env := by intro _; rfl)
    (hfew : ∀ k, ((backTo cpos (starEach [e] (G.X k).env)).all (fun x => !x.1) && (backToKw cpos (keywordEach [] (G.X k).env)).all (fun x => x.1.isSome)
      && decide (([e] : List Expr).length + ([] : List Keyword).length + (if ([] : List Keyword).isEmpty then 0 else 1) < 30)) = true := by intro _; rfl)
    (hline : (apos.endLine == cpos.line) = true := by rfl) (hs : ∀ k, starEach [e] (G.X k).env = (false, eval e (G.X k).env) :: starEach [] (G.X k).env := by intro _; rfl)
    (hsw : ∀ k, swapsWith (.Call (.Attribute (.Name x p) "update" apos) [e] [] cpos) none pos.line (G.X k).env = pure false := by intro _; rfl) :
    Den G Wx (.Expr (.Call (.Attribute (.Name x p) "update" apos) [e] [] cpos) pos) (wUpd i w) := by
  obtain ⟨t, h1, h2⟩ := h
  refine ⟨fun T σ H => tVar i σ H fun x H1 => (∃ (a : Addr) (o : Obj) (xs : EX), x = .ref a ∧ H1 a = some (.ext (DictAt a o xs))) ∧ tCons t tNil σ H1 fun xs H2 => rUpdD G.K x xs H2 fun _ H3 => T.nx σ H3, fun k => ?_, fun W F0 H0 F H σ env P T s h c => ?_⟩
  · have z0 : MtR (G.X k) "dict.update" (rUpdD (G.X k).K) := mt_updD (hu k)
    rw [G.hK k] at z0
    have z := ps_expr (pos := pos) (pe_bmD (name := "update") (id := "dict.update") (apos := apos) (cpos := cpos) PySem.F.slot_dict_update PySem.F.type_dict_update z0 (pe_var (pos := p) (hi k) (hv k) hd hcd) (pa_cons (h1 k) pa_nil (hs k)) (hbase k) (hfew k) hline (hs k) rfl) (hsw k)
    unfold tBMD tDrop at z
    exact z
  · unfold wUpd at h
    split at h
    · rename_i es q
      obtain ⟨v, g1, a, o, xs, rfl, g2, g3, g4, g5, g6, g7, g8⟩ := s.ent i _ q
      refine ⟨_, g1, ⟨a, o, xs, rfl, g5⟩, ?_⟩
      refine h2 W F0 H0 F H σ env _ _ s h fun v d F1 H1 e1 r1 q1 => ?_
      have s1 := s.step e1
      have ha := e1.keep a _ g5 g4 nt_ext
      have fa := e1.opn a _ g5 g3 nt_ext
      have t1 := Ents.mono e1.f g8
      split at q1
      · rename_i fs
        obtain ⟨⟨k1, k2, k3, k4⟩, q1⟩ := q1
        cases r1 with
        | dct _ => exact absurd rfl (tup_opq k2)
        | @dcd b ob ys _ m1 m2 m3 m4 =>
          obtain ⟨xs', rfl⟩ := t1.tup k1
          obtain ⟨ys', rfl⟩ := m4.tup k2
          have sr := m4.stoR rfl
          have hb := e1.u _ _ m1
          have ab : a ≠ b := fun e => by rw [e, m1] at fa; cases fa
          refine ⟨a, b, o, ob, xs', ys', rfl, rfl, ab, m2, ha, hb, t1.keys e1.u rfl, m4.keys e1.u rfl, ?_, ?_, fun o' => ?_⟩
          · rcases k3 with z | z
            · refine .inl fun e => z ?_
              have := t1.length
              rw [e] at this
              exact List.eq_nil_of_length_eq_zero this.symm
            · refine .inr fun w => ?_
              rw [ents_hash w sr]
              exact z w
          · have h1 := t1.length
            have h2 := m4.length
            rw [liftT_len] at h1 h2
            omega
          · have en := Ents.storeAll sr t1
            have hl : (liftT (storedAllH xs' ys')).length ≤ sizeLine := by
              rw [en.length]
              have := putAll_len fs es
              omega
            exact c.nx _ _ F1 _ e1.f (s1.mutEn (en' := .od (putAll es fs)) q rfl g1 g2 fa g4 (fun _ z => by rw [ha] at z; cases z) ⟨a, o', _, rfl, g2, fa, g4, upd_same, g6, hl, en⟩ fun _ z => nomatch z) q1
      · exact q1.elim
    · exact h.elim
end
end Dn
/-! Dn14: several stores at once, what is handed back, pop, xs[::-1], min, max. -/
namespace Dn
open PySem PySem.Spec PyProof.Rows L2
/-! ### several values, some new -/
/-- values made one behind the other from H on: what stands still, or what is new -/
inductive NewAll (K : KT) (W : Option Addr) (F' H' : Hp) : Hp → List V → List En → Prop
  | nil {H : Hp} : NewAll K W F' H' H [] []
  | sh {H : Hp} {v : V} {d : D} {vs : List V} {ens : List En} : Rp K F' v d → NewAll K W F' H' H vs ens → NewAll K W F' H' H (v :: vs) (.sh d :: ens)
  | nw {H H1 : Hp} {a : Addr} {en : En} {vs : List V} {ens : List En} : en.own = true → H a = none → H1 a ≠ none → (∀ b ∈ en.adr, H b = none ∧ H1 b ≠ none) → (∀ b, H1 b = none → H b = none) → EnOk K W H F' H' (.ref a) en → NewAll K W F' H' H1 vs ens → NewAll K W F' H' H (.ref a :: vs) (en :: ens)
theorem NewAll.older {K : KT} {W : Option Addr} {F' H' : Hp} : ∀ {H : Hp} {vs : List V} {ens : List En}, NewAll K W F' H' H vs ens → ∀ {G : Hp}, (∀ b, H b = none → G b = none) → NewAll K W F' H' G vs ens
  | _, _, _, .nil, _, _ => .nil
  | _, _, _, .sh r t, _, h => .sh r (NewAll.older t h)
  | _, _, _, .nw o h1 h2 h3 h4 h5 t, _, h => .nw o (h _ h1) h2 (fun b m => ⟨h _ (h3 b m).1, (h3 b m).2⟩) (fun b z => h _ (h4 b z)) (h5.old h) t
abbrev WAN := Env → (List En → Prop) → Prop
def DenAN (G : Fam) (es : List Expr) (w : WAN) : Prop := ∃ t : TA, (∀ i, PA (G.X i) es t) ∧ ∀ (W : Option Addr) (F0 H0 F H : Hp) (σ : L2.St) (env : Env) (Q : List En → Prop) (R : List V → Hp → Prop), StR G.K W F0 H0 F H σ env → w env Q →
  (∀ vs ens F' H', Ext G.K W F H F' H' → NewAll G.K W F' H' H vs ens → ens.length = es.length → Q ens → R vs H') → t σ H R
def wNNil : WAN := fun _ Q => Q []
@[simp ↓] theorem wNNil_ap u0_ Q : wNNil u0_ Q = (Q []) := Eq.trans rfl rfl
def wNSh (w : WE) (r : WAN) : WAN := fun env Q => w env fun d => r env fun xs => Q (.sh d :: xs)
@[simp ↓] theorem wNSh_ap (w : WE) (r : WAN) env Q : wNSh w r env Q = (w env fun d => r env fun xs => Q (.sh d :: xs)) := Eq.trans rfl rfl
def wNNw (w : WNw) (r : WAN) : WAN := fun env Q => w env fun en => en.own = true ∧ r env fun xs => Q (en :: xs)
@[simp ↓] theorem wNNw_ap (w : WNw) (r : WAN) env Q : wNNw w r env Q = (w env fun en => en.own = true ∧ r env fun xs => Q (en :: xs)) := Eq.trans rfl rfl
section
variable {G : Fam} {Wx : WX} {pos : Pos} {e : Expr} {es : List Expr} {we : WE} {r : WAN}
theorem n_nil : DenAN G [] wNNil := ⟨tNil, fun _ => pa_nil, fun W F0 H0 F H σ env Q R s h k => k [] [] F H (Ext.refl s.u s.w) .nil rfl h⟩
theorem n_sh (h : DenE G e we) (hr : DenAN G es r) (hs : ∀ i, starEach (e :: es) (G.X i).env = (false, eval e (G.X i).env) :: starEach es (G.X i).env := by intro _; rfl) : DenAN G (e :: es) (wNSh we r) := by
  obtain ⟨t, h1, h2⟩ := h
  obtain ⟨u, k1, k2⟩ := hr
  refine ⟨_, fun i => pa_cons (h1 i) (k1 i) (hs i), fun W F0 H0 F H σ env Q R s h k => ?_⟩
  refine h2 W F0 H0 F H σ env _ _ s h fun v d F1 H1 e1 r1 q1 => ?_
  exact k2 W F0 H0 F1 H1 σ env _ _ (s.step e1) q1 fun vs ds F2 H2 e2 r2 l2 q2 => k (v :: vs) (.sh d :: ds) F2 H2 (e1.trans e2) (.sh (Rp.mono e2.f r1) (r2.older e1.alive)) (congrArg (· + 1) l2) q2
theorem n_nw {w : WNw} (h : DenNw G e w) (hr : DenAN G es r) (hs : ∀ i, starEach (e :: es) (G.X i).env = (false, eval e (G.X i).env) :: starEach es (G.X i).env := by intro _; rfl) : DenAN G (e :: es) (wNNw w r) := by
  obtain ⟨t, h1, h2⟩ := h
  obtain ⟨u, k1, k2⟩ := hr
  refine ⟨_, fun i => pa_cons (h1 i) (k1 i) (hs i), fun W F0 H0 F H σ env Q R s h k => ?_⟩
  refine h2 W F0 H0 F H σ env _ _ s h fun a en F1 H1 e1 ha hb ok q1 => ?_
  obtain ⟨ow, q1⟩ := q1
  have there : ∀ b ∈ en.adr, H1 b ≠ none := fun b m => by
    cases en with
    | ot as rows =>
      obtain ⟨c, _, _, _, _, _, _, _, _, q9⟩ := ok
      obtain ⟨ds, _, _, _, vs, g4, _⟩ := ownLs_get q9 m
      rw [g4]
      exact fun z => nomatch z
    | _ => cases m
  have ta : H1 a ≠ none := by
    cases en with
    | ow t ds => obtain ⟨b, vs, e, _, _, _, _, h5, _⟩ := ok; cases e; rw [h5]; exact fun z => nomatch z
    | od es => obtain ⟨b, o, xs, e, _, _, _, h5, _⟩ := ok; cases e; rw [h5]; exact fun z => nomatch z
    | ot as rows => obtain ⟨b, e, _, _, _, h5, _⟩ := ok; cases e; rw [h5]; exact fun z => nomatch z
    | _ => cases ow
  exact k2 W F0 H0 F1 H1 σ env _ _ (s.step e1) q1 fun vs ds F2 H2 e2 r2 l2 q2 => k (.ref a :: vs) (en :: ds) F2 H2 (e1.trans e2) (.nw ow ha ta (fun b m => ⟨hb b m, there b m⟩) e1.alive (ok.step e1.w e2) r2) (congrArg (· + 1) l2) q2
/-- the slots take them -/
def setS (σ : L2.St) : List Nat → List V → L2.St
  | i :: is, v :: vs => setS (σ.set i (some v)) is vs
  | _, _ => σ
@[simp] def setE (env : Env) : List Nat → List En → Env
  | i :: is, v :: vs => setE (env.set i (some v)) is vs
  | _, _ => env
theorem StR.setAll {K : KT} {W : Option Addr} {F0 H0 F' H' : Hp} : ∀ {is : List Nat} {H : Hp} {vs : List V} {ens : List En} {σ : L2.St} {env : Env}, StR K W F0 H0 F' H' σ env → NewAll K W F' H' H vs ens → (∀ b, H b = none → H0 b = none) →
    (∀ b, H b = none → ∀ (j : Nat) (e : En), env[j]? = some (some e) → (e.own = true → σ[j]? ≠ some (some (.ref b))) ∧ b ∉ e.adr) → StR K W F0 H0 F' H' (setS σ is vs) (setE env is ens)
  | [], _, _, _, _, _, s, _, _, _ => s
  | i :: is, _, _, _, _, _, s, .nil, _, _ => s
  | i :: is, H, v :: vs, .sh d :: ens, σ, env, s, .sh r t, h0, no => by
    refine StR.setAll (is := is) (s.setSh (i := i) r) t h0 fun b hb j e q => ?_
    rcases get_set q with ⟨rfl, l, z⟩ | ⟨n, z⟩
    · cases z
      exact ⟨fun o => (show False from nomatch o).elim, fun m => nomatch m⟩
    · obtain ⟨n1, n2⟩ := no b hb j e z
      exact ⟨fun o => by rw [List.getElem?_set_ne (Ne.symm n)]; exact n1 o, n2⟩
  | i :: is, H, _ :: vs, _ :: ens, σ, env, s, .nw (H1 := H1) (a := a) (en := en) o h1 h2 h3 h4 h5 t, h0, no => by
    have s1 := s.setOwn (i := i) (h5.old h0) ⟨fun j e _ q oe => (no a h1 j e q).1 oe, fun j e _ q => (no a h1 j e q).2⟩ fun b m => ⟨fun j e _ q oe => (no b (h3 b m).1 j e q).1 oe, fun j e _ q => (no b (h3 b m).1 j e q).2⟩
    refine StR.setAll (is := is) s1 t (fun b hb => h0 b (h4 b hb)) fun b hb j e q => ?_
    rcases get_set q with ⟨rfl, l, z⟩ | ⟨n, z⟩
    · cases z
      refine ⟨fun _ z2 => ?_, fun m => (h3 b m).2 hb⟩
      rw [List.getElem?_set_self (by rw [s.len]; exact l)] at z2
      cases z2
      exact h2 hb
    · obtain ⟨n1, n2⟩ := no b (h4 b hb) j e z
      exact ⟨fun o => by rw [List.getElem?_set_ne (Ne.symm n)]; exact n1 o, n2⟩
/-- i, j = .. -/
def wParX (is : List Nat) (w : WAN) : WS := fun env P => w env fun ens => P.nx (setE env is ens)
@[simp ↓] theorem wParX_ap (is : List Nat) (w : WAN) env P : wParX is w env P = (w env fun ens => P.nx (setE env is ens)) := Eq.trans rfl rfl
theorem NewAll.len {K : KT} {W : Option Addr} {F' H' : Hp} : ∀ {H : Hp} {vs : List V} {ens : List En}, NewAll K W F' H' H vs ens → vs.length = ens.length
  | _, _, _, .nil => rfl
  | _, _, _, .sh _ t => congrArg (· + 1) (NewAll.len t)
  | _, _, _, .nw _ _ _ _ _ _ t => congrArg (· + 1) (NewAll.len t)
theorem s_par2X {i j : Nat} {x y : Str} {a b : Expr} {w : WAN} {px py pt pt2 : Pos} {kt k2 : Nat} (hc : Calm G) (hN : ∀ k, (G.X k).N.Nodup) (hij : i ≠ j) (h : DenAN G [a, b] w) (hi : ∀ k, (G.X k).N[i]? = some x := by intro _; rfl) (hj : ∀ k, (G.X k).N[j]? = some y := by intro _; rfl) (hx : ∀ k, (G.X k).env.scope.names.lookup x = some .local := by intro _; rfl) (hy : ∀ k, (G.X k).env.scope.names.lookup y = some .local := by intro _; rfl)
    (hw : ∀ k, swappedStores [.Tuple [.Name x px, .Name y py] kt pt] (.Tuple [a, b] k2 pt2) (G.X k).env = pure (some [x, y]) := by intro _; rfl)
    (hs : ∀ k, swapsWithSole [.Tuple [.Name x px, .Name y py] kt pt] (.Tuple [a, b] k2 pt2) pos.line (G.X k).env = pure false := by intro _; rfl) :
    Den G Wx (.Assign [.Tuple [.Name x px, .Name y py] kt pt] (.Tuple [a, b] k2 pt2) pos) (wParX [i, j] w) := by
  obtain ⟨t, a1, a2⟩ := h
  refine ⟨_, fun k => ps_par (hc k) (hN k) (hi k) (hj k) hij (hx k) (hy k) (a1 k) (hw k) (hs k), fun W F0 H0 F H σ env P T s h c => ?_⟩
  refine a2 W F0 H0 F H σ env _ _ s h fun vs ens F1 H1 e1 n1 l1 q1 => ?_
  have s2 := (s.step e1).setAll (is := [i, j]) n1 s.ext.alive fun b hb => s.notOw hb
  have hl := n1.len
  rw [l1] at hl
  match vs, hl with
  | [v1, v2], _ => exact ⟨v1, v2, rfl, c.nx _ _ F1 H1 e1.f s2 q1⟩
theorem s_par3X {i j l : Nat} {x y z : Str} {a b d : Expr} {w : WAN} {px py pz pt pt2 : Pos} {kt k2 : Nat} (hc : Calm G) (hN : ∀ k, (G.X k).N.Nodup) (hij : i ≠ j) (hil : i ≠ l) (hjl : j ≠ l) (h : DenAN G [a, b, d] w) (hi : ∀ k, (G.X k).N[i]? = some x := by intro _; rfl) (hj : ∀ k, (G.X k).N[j]? = some y := by intro _; rfl) (hl : ∀ k, (G.X k).N[l]? = some z := by intro _; rfl) (hx : ∀ k, (G.X k).env.scope.names.lookup x = some .local := by intro _; rfl) (hy : ∀ k, (G.X k).env.scope.names.lookup y = some .local := by intro _; rfl) (hz : ∀ k, (G.X k).env.scope.names.lookup z = some .local := by intro _; rfl)
    (hw : ∀ k, swappedStores [.Tuple [.Name x px, .Name y py, .Name z pz] kt pt] (.Tuple [a, b, d] k2 pt2) (G.X k).env = pure (some [x, y, z]) := by intro _; rfl)
    (hs : ∀ k, swapsWithSole [.Tuple [.Name x px, .Name y py, .Name z pz] kt pt] (.Tuple [a, b, d] k2 pt2) pos.line (G.X k).env = pure false := by intro _; rfl) :
    Den G Wx (.Assign [.Tuple [.Name x px, .Name y py, .Name z pz] kt pt] (.Tuple [a, b, d] k2 pt2) pos) (wParX [i, j, l] w) := by
  obtain ⟨t, a1, a2⟩ := h
  refine ⟨_, fun k => ps_par3 (hc k) (hN k) (hi k) (hj k) (hl k) hij hil hjl (hx k) (hy k) (hz k) (a1 k) (hw k) (hs k), fun W F0 H0 F H σ env P T s h c => ?_⟩
  refine a2 W F0 H0 F H σ env _ _ s h fun vs ens F1 H1 e1 n1 l1 q1 => ?_
  have s2 := (s.step e1).setAll (is := [i, j, l]) n1 s.ext.alive fun b hb => s.notOw hb
  have hl := n1.len
  rw [l1] at hl
  match vs, hl with
  | [v1, v2, v3], _ => exact ⟨v1, v2, v3, rfl, c.nx _ _ F1 H1 e1.f s2 q1⟩
/-! the same by way of a tuple, where a name is captured -/
def gNames : List Nat → TGs
  | [] => L2.gNil
  | i :: is => L2.gCons (gName i) (gNames is)
theorem gNames_ok {H : Hp} {R : L2.St → Hp → Prop} : ∀ {is : List Nat} {vs : List V} {σ : L2.St}, vs.length = is.length → R (setS σ is vs) H → gNames is vs σ H R
  | [], [], σ, _, h => ⟨rfl, h⟩
  | [], _ :: _, _, h, _ => nomatch h
  | _ :: _, [], _, h, _ => nomatch h
  | i :: is, v :: vs, σ, hl, h => ⟨v, vs, rfl, gNames_ok (is := is) (vs := vs) (σ := σ.set i (some v)) (Nat.succ.inj hl) h⟩
def PGNs (G : Fam) (es : List Expr) (is : List Nat) : Prop := ∀ k, PGs (G.X k) es (gNames is)
theorem gn_nil : PGNs G [] [] := fun _ => pgs_nil
theorem gn_cons {i : Nat} {x : Str} {es : List Expr} {is : List Nat} (hr : PGNs G es is) (hN : ∀ j, (G.X j).N.Nodup) (hi : ∀ j, (G.X j).N[i]? = some x := by intro _; rfl) (hx : ∀ j, Loc (G.X j).env.scope x := by intro _; first | exact Or.inl rfl | exact Or.inr rfl) (hf : ∀ j, (G.X j).fn x = true ∨ (G.X j).env.scope.names.lookup x = some .local := by intro _; first | exact Or.inl rfl | exact Or.inr rfl)
    (hs : ∀ k, (assignEach (.Name x pos :: es) (G.X k).env).map (·.2) = assign (.Name x pos) (G.X k).env :: (assignEach es (G.X k).env).map (·.2) := by intro _; rfl) : PGNs G (.Name x pos :: es) (i :: is) := fun k => pgs_cons (pg_name (hN k) (hi k) (hx k) (hf k)) (hr k) (hs k)
theorem s_tupX {tgs vals : List Expr} {is : List Nat} {w : WAN} {pt pt2 : Pos} {kt k2 : Nat} (hc : Calm G) (hl : vals.length = is.length) (hl2 : is.length ≤ 100) (h : DenAN G vals w) (hg : PGNs G tgs is) (hn : ∀ k, (assignEach tgs (G.X k).env).length = is.length := by intro _; rfl) (hst : ∀ i, (assignEach tgs (G.X i).env).findIdx? (·.1) = none := by intro _; rfl)
    (hs : ∀ k, swapsWithSole [.Tuple tgs kt pt] (.Tuple vals k2 pt2) pos.line (G.X k).env = pure false := by intro _; rfl) (hw : ∀ k, swappedStores [.Tuple tgs kt pt] (.Tuple vals k2 pt2) (G.X k).env = pure none := by intro _; rfl)
    (h1 : ∀ k, (assignEach [.Tuple tgs kt pt] (G.X k).env).map (·.2) = [assign (.Tuple tgs kt pt) (G.X k).env] := by intro _; rfl) : Den G Wx (.Assign [.Tuple tgs kt pt] (.Tuple vals k2 pt2) pos) (wParX is w) := by
  obtain ⟨t, a1, a2⟩ := h
  refine ⟨tAsg (fun σ H Q => t σ H fun vs H1 => vs.length ≤ sizeLine ∧ ∀ p, H1 p = none → Q (.ref p) (upd H1 p (.tup vs))) (gTup G.K is.length (gNames is)), fun k => ?_, fun W F0 H0 F H σ env P T s h c => ?_⟩
  · have z := ps_asg (pos := pos) (pe_tup (a1 k)) (pg_tup (k := kt) (pos := pt) (hc k) (hg k) (hn k) (hst k)) (hs k) (hw k) (h1 k)
    rw [G.hK k] at z
    exact z
  refine a2 W F0 H0 F H σ env _ _ s h fun vs ens F1 H1 e1 n1 l1 q1 => ?_
  have hl3 := n1.len
  rw [l1, hl] at hl3
  refine ⟨by rw [hl3, sizeLine_eq]; omega, fun p hp => ?_⟩
  have s1 := s.step e1
  obtain ⟨h0, fp, nw⟩ := s1.ext.fresh hp
  refine ⟨p, vs, rfl, SqT.of upd_same, hl3, gNames_ok hl3 ?_⟩
  have s2 := s1.setAll (is := is) n1 s.ext.alive fun b hb => s.notOw hb
  refine c.nx _ _ F1 _ e1.f (s2.aside h0 fp nw (fun _ z => by rw [hp] at z; cases z) (s2.notOw hp)) q1
/-! ### return of an own object -/
def wRetEn (j : Nat) : WS := fun env P => match env[j]? with
  | some (some en) => match enD en with
    | some d => P.rt d (env.set j none)
    | none => False
  | _ => False
@[simp ↓] theorem wRetEn_ap (j : Nat) env P : wRetEn j env P = (match env[j]? with
  | some (some en) => match enD en with
    | some d => P.rt d (env.set j none)
    | none => False
  | _ => False) := Eq.trans rfl rfl
theorem s_retEn {j : Nat} {y : Str} {p2 : Pos} (hj : ∀ k, (G.X k).N[j]? = some y := by intro _; rfl) (hv : ∀ k, Vis (G.X k).env.scope y := by intro _; first | exact Or.inl rfl | exact Or.inr (Or.inl rfl) | exact Or.inr (Or.inr rfl)) (hd : (y == ("__debug__" : Str)) = false := by decide) (hcd : (y == ("__classdict__" : Str)) = false := by decide) : Den G Wx (.Return (some (.Name y p2)) pos) (wRetEn j) := by
  refine ⟨_, fun k => ps_ret (pe_var (hj k) (hv k) hd hcd), fun W F0 H0 F H σ env P T s h c => ?_⟩
  unfold wRetEn at h
  split at h
  · rename_i en q
    split at h
    · rename_i d he
      obtain ⟨a, F1, h1, m, s1, r⟩ := s.share q he
      exact ⟨_, h1, c.rt _ _ σ _ F1 H s1 r h⟩
    · exact h.elim
  · exact h.elim
/-- x = y, y's own object goes -/
def wMoveEn (i j : Nat) : WS := fun env P => match env[j]? with
  | some (some en) => match enD en with
    | some d => P.nx ((env.set j none).set i (some (.sh d)))
    | none => False
  | _ => False
@[simp ↓] theorem wMoveEn_ap (i j : Nat) env P : wMoveEn i j env P = (match env[j]? with
  | some (some en) => match enD en with
    | some d => P.nx ((env.set j none).set i (some (.sh d)))
    | none => False
  | _ => False) := Eq.trans rfl rfl
theorem s_moveEn {i j : Nat} {x y : Str} {p p2 : Pos} (hN : ∀ k, (G.X k).N.Nodup) (hi : ∀ k, (G.X k).N[i]? = some x := by intro _; rfl) (hx : ∀ k, Loc (G.X k).env.scope x := by intro _; first | exact Or.inl rfl | exact Or.inr rfl) (hf : ∀ k, (G.X k).fn x = true ∨ (G.X k).env.scope.names.lookup x = some .local := by intro _; first | exact Or.inl rfl | exact Or.inr rfl) (hj : ∀ k, (G.X k).N[j]? = some y := by intro _; rfl) (hv : ∀ k, Vis (G.X k).env.scope y := by intro _; first | exact Or.inl rfl | exact Or.inr (Or.inl rfl) | exact Or.inr (Or.inr rfl))
    (hd : (y == ("__debug__" : Str)) = false := by decide) (hcd : (y == ("__classdict__" : Str)) = false := by decide)
    (hs : ∀ k, swapsWith (.Name y p2) (some (.Name x p)) pos.line (G.X k).env = pure false := by intro _; rfl) : Den G Wx (.Assign [.Name x p] (.Name y p2) pos) (wMoveEn i j) := by
  refine ⟨_, fun k => ps_set (hN k) (hi k) (hx k) (pe_var (hj k) (hv k) hd hcd) (hs k) (hf k), fun W F0 H0 F H σ env P T s h c => ?_⟩
  unfold wMoveEn at h
  split at h
  · rename_i en q
    split at h
    · rename_i d he
      obtain ⟨a, F1, h1, m, s1, r⟩ := s.share q he
      exact ⟨_, h1, c.nx _ _ F1 H m (s1.setSh r) h⟩
    · exact h.elim
  · exact h.elim
/-! ### pop: a value that changes an own list -/
abbrev WEM := Env → (D → Env → Prop) → Prop
def DenM (G : Fam) (e : Expr) (w : WEM) : Prop := ∃ t, (∀ i, PE (G.X i) e t) ∧ ∀ (W : Option Addr) (F0 H0 F H : Hp) (σ : L2.St) (env : Env) (Q : D → Env → Prop) (R : VK), StR G.K W F0 H0 F H σ env → w env Q →
  (∀ v d F' H' env', Same F F' → StR G.K W F0 H0 F' H' σ env' → Rp G.K F' v d → Q d env' → R v H') → t σ H R
def wPop (i : Nat) : WEM := fun env Q => match env[i]? with
  | some (some (.ow t ds)) => match ds.getLast? with
    | some d => Q d (env.set i (some (.ow t ds.dropLast)))
    | none => False
  | _ => False
@[simp ↓] theorem wPop_ap (i : Nat) env Q : wPop i env Q = (match env[i]? with
  | some (some (.ow t ds)) => match ds.getLast? with
    | some d => Q d (env.set i (some (.ow t ds.dropLast)))
    | none => False
  | _ => False) := Eq.trans rfl rfl
theorem m_pop {i : Nat} {x : Str} {p apos cpos : Pos} (hi : ∀ k, (G.X k).N[i]? = some x := by intro _; rfl) (hv : ∀ k, Vis (G.X k).env.scope x := by intro _; first | exact Or.inl rfl | exact Or.inr (Or.inl rfl) | exact Or.inr (Or.inr rfl)) (hd : (x == ("__debug__" : Str)) = false := by decide) (hcd : (x == ("__classdict__" : Str)) = false := by decide)
    (hbase : ∀ k, attributeBase (.Name x p) "pop" (G.X k).env (eval (.Name x p) (G.X k).env) = eval (.Name x p) (G.X k).env := by intro _; rfl) (hline : (apos.endLine == cpos.line) = true := by rfl) : DenM G (.Call (.Attribute (.Name x p) "pop" apos) [] [] cpos) (wPop i) := by
  refine ⟨fun σ H Q => tVar i σ H fun x H1 => tyV G.K "list" x H1 ∧ rPop x [] H1 Q, fun k => ?_, fun W F0 H0 F H σ env Q R s h k => ?_⟩
  · have z := pe_bm0 (T := "list") (name := "pop") (id := "list.pop") (apos := apos) (cpos := cpos) PySem.F.plainAttrs_list PySem.F.slot_list_pop PySem.F.type_list_pop mt_pop (pe_var (pos := p) (hi k) (hv k) hd hcd) (hbase k) hline
    unfold tBM0 at z
    rw [G.hK k] at z
    exact z
  · unfold wPop at h
    split at h
    · rename_i t ds q
      obtain ⟨v, g1, a, vs, rfl, gt, g2, g3, g4, g5, g6, g7⟩ := s.ent i _ q
      split at h
      · rename_i d hl
        refine ⟨_, g1, .inl ⟨rfl, vs, SqL.of g5⟩, ?_⟩
        have hl2 : ds[vs.length - 1]? = some d := by
          rw [g7.length]
          rw [List.getLast?_eq_getElem?] at hl
          exact hl
        obtain ⟨y, hy, ry⟩ := g7.getD hl2
        exact ⟨a, vs, y, rfl, rfl, g5, hy, k y d F _ _ (Same.refl _) (s.mutOw gt q g1 g2 g3 g4 g5 (Nat.le_trans (by rw [List.length_dropLast]; omega) g6) g7.dropLast) ry h⟩
      · exact h.elim
    · exact h.elim
theorem Rps.eraseIdx {K : KT} {F : Hp} : ∀ {vs : List V} {ds : List D} (i : Nat), Rps K F vs ds → Rps K F (vs.eraseIdx i) (ds.eraseIdx i)
  | _, _, _, .nil => .nil
  | _, _, 0, .cons _ t => t
  | _, _, i + 1, .cons r t => .cons r (Rps.eraseIdx i t)
def wPopAt (i : Nat) (w : WE) : WEM := fun env Q => match env[i]? with
  | some (some (.ow t ds)) => w env fun d => match d with
    | .int k => (-(2 ^ 63) ≤ k ∧ k < 2 ^ 63) ∧ match seqIndex? k ds.length with
      | some j => match ds[j]? with
        | some x => Q x (env.set i (some (.ow t (ds.eraseIdx j))))
        | none => False
      | none => False
    | _ => False
  | _ => False
@[simp ↓] theorem wPopAt_ap (i : Nat) (w : WE) env Q : wPopAt i w env Q = (match env[i]? with
  | some (some (.ow t ds)) => w env fun d => match d with
    | .int k => (-(2 ^ 63) ≤ k ∧ k < 2 ^ 63) ∧ match seqIndex? k ds.length with
      | some j => match ds[j]? with
        | some x => Q x (env.set i (some (.ow t (ds.eraseIdx j))))
        | none => False
      | none => False
    | _ => False
  | _ => False) := Eq.trans rfl rfl
theorem m_popAt {i : Nat} {x : Str} {p apos cpos : Pos} {w : WE} (h : DenE G e w) (hi : ∀ k, (G.X k).N[i]? = some x := by intro _; rfl) (hv : ∀ k, Vis (G.X k).env.scope x := by intro _; first | exact Or.inl rfl | exact Or.inr (Or.inl rfl) | exact Or.inr (Or.inr rfl)) (hd : (x == ("__debug__" : Str)) = false := by decide) (hcd : (x == ("__classdict__" : Str)) = false := by decide)
    (hbase : ∀ k, attributeBase (.Name x p) "pop" (G.X k).env (eval (.Name x p) (G.X k).env) = eval (.Name x p) (G.X k).env := by intro _; rfl)
    (hfew : ∀ k, ((backTo cpos (starEach [e] (G.X k).env)).all (fun x => !x.1) && (backToKw cpos (keywordEach [] (G.X k).env)).all (fun x => x.1.isSome)
      && decide (([e] : List Expr).length + ([] : List Keyword).length + (if ([] : List Keyword).isEmpty then 0 else 1) < 30)) = true := by intro _; rfl)
    (hline : (apos.endLine == cpos.line) = true := by rfl) (hs : ∀ k, starEach [e] (G.X k).env = (false, eval e (G.X k).env) :: starEach [] (G.X k).env := by intro _; rfl) : DenM G (.Call (.Attribute (.Name x p) "pop" apos) [e] [] cpos) (wPopAt i w) := by
  obtain ⟨t, h1, h2⟩ := h
  refine ⟨fun σ H Q => tVar i σ H fun x H1 => tyV G.K "list" x H1 ∧ tCons t tNil σ H1 fun xs H2 => rPopAt x xs H2 Q, fun k => ?_, fun W F0 H0 F H σ env Q R s h k => ?_⟩
  · have z := pe_bm (T := "list") (name := "pop") (id := "list.pop") (apos := apos) (cpos := cpos) PySem.F.plainAttrs_list PySem.F.slot_list_pop PySem.F.type_list_pop mt_popAt (pe_var (pos := p) (hi k) (hv k) hd hcd) (pa_cons (h1 k) pa_nil (hs k)) (hbase k) (hfew k) hline (hs k) rfl
    unfold tBM at z
    rw [G.hK k] at z
    exact z
  · unfold wPopAt at h
    split at h
    · rename_i t ds q
      obtain ⟨v, g1, a, vs, rfl, gt, g2, g3, g4, g5, g6, g7⟩ := s.ent i _ q
      refine ⟨_, g1, .inl ⟨rfl, vs, SqL.of g5⟩, ?_⟩
      refine h2 W F0 H0 F H σ env _ _ s h fun v d F1 H1 e1 r1 q1 => ?_
      have s1 := s.step e1
      have ha := e1.keep a _ g5 g4 nt_lst
      split at q1
      · rename_i kk
        cases r1
        obtain ⟨⟨k1, k2⟩, q1⟩ := q1
        split at q1
        · rename_i j hj
          split at q1
          · rename_i y hy
            obtain ⟨yv, hyv, ry⟩ := (Rps.mono e1.f g7).getD hy
            exact ⟨a, vs, kk, j, yv, rfl, rfl, ha, k1, k2, by rw [g7.length]; exact hj, hyv, k yv y F1 _ _ e1.f (s1.mutOw gt q g1 g2 (e1.opn a _ g5 g3 nt_lst) g4 ha (Nat.le_trans (len_erase vs j) g6) ((Rps.mono e1.f g7).eraseIdx j)) ry q1⟩
          · exact q1.elim
        · exact q1.elim
      · exact q1.elim
    · exact h.elim
/-- x = pop -/
def wSetM (i : Nat) (w : WEM) : WS := fun env P => w env fun d env' => P.nx (env'.set i (some (.sh d)))
@[simp ↓] theorem wSetM_ap (i : Nat) (w : WEM) env P : wSetM i w env P = (w env fun d env' => P.nx (env'.set i (some (.sh d)))) := Eq.trans rfl rfl
theorem s_setM {i : Nat} {x : Str} {p : Pos} {w : WEM} (hN : ∀ j, (G.X j).N.Nodup) (hi : ∀ j, (G.X j).N[i]? = some x := by intro _; rfl) (hx : ∀ j, Loc (G.X j).env.scope x := by intro _; first | exact Or.inl rfl | exact Or.inr rfl) (hf : ∀ j, (G.X j).fn x = true ∨ (G.X j).env.scope.names.lookup x = some .local := by intro _; first | exact Or.inl rfl | exact Or.inr rfl) (h : DenM G e w)
    (hs : ∀ j, swapsWith e (some (.Name x p)) pos.line (G.X j).env = pure false := by intro _; rfl) : Den G Wx (.Assign [.Name x p] e pos) (wSetM i w) := by
  obtain ⟨t, h1, h2⟩ := h
  refine ⟨_, fun j => ps_set (hN j) (hi j) (hx j) (h1 j) (hs j) (hf j), fun W F0 H0 F H σ env P T s h c => ?_⟩
  exact h2 W F0 H0 F H σ env _ _ s h fun v d F1 H1 env' m s1 r q => c.nx _ _ F1 H1 m (s1.setSh r) q
/-- a, b = pop -/
def wAsgM (w : WEM) (g : WG) : WS := fun env P => w env fun d env' => g d env' P.nx
@[simp ↓] theorem wAsgM_ap (w : WEM) (g : WG) env P : wAsgM w g env P = (w env fun d env' => g d env' P.nx) := Eq.trans rfl rfl
theorem s_asgM {tg : Expr} {vs : List Nat} {g : WG} {w : WEM} (h : DenM G e w) (hg : DenG G tg vs g) (hs : ∀ i, swapsWithSole [tg] e pos.line (G.X i).env = pure false := by intro _; rfl) (hw : ∀ i, swappedStores [tg] e (G.X i).env = pure none := by intro _; rfl)
    (h1 : ∀ i, (assignEach [tg] (G.X i).env).map (·.2) = [assign tg (G.X i).env] := by intro _; rfl) : Den G Wx (.Assign [tg] e pos) (wAsgM w g) := by
  obtain ⟨t, a1, a2⟩ := h
  obtain ⟨u, b1, b2⟩ := hg
  refine ⟨_, fun i => ps_asg (a1 i) (b1 i) (hs i) (hw i) (h1 i), fun W F0 H0 F H σ env P T s h c => ?_⟩
  refine a2 W F0 H0 F H σ env _ _ s h fun v d F' H' env' m s1 r q => ?_
  exact b2 W F0 H0 F' H' σ env' v d _ _ s1 r q fun σ' env2 s' _ q' => c.nx σ' env2 F' H' m s' q'
/-- x.append(pop) -/
def wAppM (i : Nat) (w : WEM) : WS := fun env P => w env fun d env' => match env'[i]? with
  | some (some (.ow t ds)) => ds.length < sizeLine ∧ P.nx (env'.set i (some (.ow t (ds ++ [d]))))
  | _ => False
@[simp ↓] theorem wAppM_ap (i : Nat) (w : WEM) env P : wAppM i w env P = (w env fun d env' => match env'[i]? with
  | some (some (.ow t ds)) => ds.length < sizeLine ∧ P.nx (env'.set i (some (.ow t (ds ++ [d]))))
  | _ => False) := Eq.trans rfl rfl
/-! ### xs[::-1] -/
def wRev (w : WE) : WE := fun env Q => w env fun d => match d with
  | .list ds => Q (.list ds.reverse)
  | _ => False
@[simp ↓] theorem wRev_ap (w : WE) env Q : wRev w env Q = (w env fun d => match d with
  | .list ds => Q (.list ds.reverse)
  | _ => False) := Eq.trans rfl rfl
theorem Rps.reverse {K : KT} {F : Hp} : ∀ {vs : List V} {ds : List D}, Rps K F vs ds → Rps K F vs.reverse ds.reverse
  | _, _, .nil => .nil
  | _, _, .cons r t => by
    rw [List.reverse_cons, List.reverse_cons]
    exact (Rps.reverse t).append (.one r)
theorem e_rev {k : Nat} {p1 p2 p3 : Pos} (h : DenB G e we) : DenE G (.Subscript e (.Slice none none (some (.UnaryOp .USub (.Constant (.int 1) k p1) p2)) p3) pos) (wRev we) := by
  obtain ⟨t, h1, h2⟩ := h
  refine ⟨tRevL G.K t, fun i => ?_, fun W F0 H0 F H σ env Q R s h k => ?_⟩
  · have z := pe_revL (k := k) (p1 := p1) (p2 := p2) (p3 := p3) (pos := pos) (h1 i)
    rw [G.hK i] at z
    exact z
  refine h2 W F0 H0 F H σ env _ _ s h fun v d F1 H1 e1 r1 q1 => ?_
  split at q1
  · obtain ⟨a, vs, rfl, g1, g2, g3⟩ := r1.list e1.u
    exact ⟨a, vs, rfl, SqL.of g1, snd_lst e1.u e1.w g3.reverse (by rw [List.length_reverse]; exact g2) q1 fun v d F' H' e2 => k v d F' H' (e1.trans e2)⟩
  · exact q1.elim
/-! ### min, max of ints -/
def cMin : CD := fun ds Q => match ds with
  | [.list xs] => match intsD xs with
    | some ns => 0 < ns.length ∧ ∀ m, m ∈ ns → (∀ y, y ∈ ns → m ≤ y) → Q (.int m)
    | none => False
  | _ => False
@[simp ↓] theorem cMin_ap ds Q : cMin ds Q = (match ds with
  | [.list xs] => match intsD xs with
    | some ns => 0 < ns.length ∧ ∀ m, m ∈ ns → (∀ y, y ∈ ns → m ≤ y) → Q (.int m)
    | none => False
  | _ => False) := Eq.trans rfl rfl
theorem c_min (hc : Calm G) : CallD G (.builtin "min") cMin := by
  refine ⟨_, fun i => callR_K (r := rMin) (G.hK i) (cr_min (hc i)), fun W F H vs ds Q R u w r q k => ?_⟩
  unfold cMin at q
  split at q
  · obtain ⟨v, rfl, h⟩ := r.one
    obtain ⟨a, vs, rfl, h1, h2, h3⟩ := h.list u
    split at q
    · rename_i ns hb
      cases h3.intsV hb
      exact ⟨a, ns, rfl, SqL.of h1, q.1, fun m hm hy => k _ _ F H (Ext.refl u w) (.int m) (q.2 m hm hy)⟩
    · exact q.elim
  · exact q.elim
def cMax : CD := fun ds Q => match ds with
  | [.list xs] => match intsD xs with
    | some ns => 0 < ns.length ∧ ∀ m, m ∈ ns → (∀ y, y ∈ ns → y ≤ m) → Q (.int m)
    | none => False
  | _ => False
@[simp ↓] theorem cMax_ap ds Q : cMax ds Q = (match ds with
  | [.list xs] => match intsD xs with
    | some ns => 0 < ns.length ∧ ∀ m, m ∈ ns → (∀ y, y ∈ ns → y ≤ m) → Q (.int m)
    | none => False
  | _ => False) := Eq.trans rfl rfl
theorem c_max (hc : Calm G) : CallD G (.builtin "max") cMax := by
  refine ⟨_, fun i => callR_K (r := rMax) (G.hK i) (cr_max (hc i)), fun W F H vs ds Q R u w r q k => ?_⟩
  unfold cMax at q
  split at q
  · obtain ⟨v, rfl, h⟩ := r.one
    obtain ⟨a, vs, rfl, h1, h2, h3⟩ := h.list u
    split at q
    · rename_i ns hb
      cases h3.intsV hb
      exact ⟨a, ns, rfl, SqL.of h1, q.1, fun m hm hy => k _ _ F H (Ext.refl u w) (.int m) (q.2 m hm hy)⟩
    · exact q.elim
  · exact q.elim
end
end Dn
/-! Dn15: lists put together, dicts copied, as objects of the frame's own. -/
namespace Dn
open PySem PySem.Spec PySem.W PyProof.Rows L2
section
variable {G : Fam} {Wx : WX} {pos : Pos} {e a b : Expr} {we wa wb : WE}
/-! ### a + b -/
def wNwCat (wa wb : WE) : WNw := fun env Q => wa env fun d => wb env fun e => match d, e with
  | .list xs, .list ys => xs.length + ys.length ≤ sizeLine ∧ Q (.ow none (xs ++ ys))
  | _, _ => False
@[simp ↓] theorem wNwCat_ap (wa wb : WE) env Q : wNwCat wa wb env Q = (wa env fun d => wb env fun e => match d, e with
  | .list xs, .list ys => xs.length + ys.length ≤ sizeLine ∧ Q (.ow none (xs ++ ys))
  | _, _ => False) := Eq.trans rfl rfl
theorem nw_cat (ha : DenB G a wa) (hb : DenB G b wb) : DenNw G (.BinOp a .Add b pos) (wNwCat wa wb) := by
  obtain ⟨ta, a1, a2⟩ := ha
  obtain ⟨tb, b1, b2⟩ := hb
  refine ⟨_, fun i => pe_op op_cat (a1 i) (b1 i), fun W F0 H0 F H σ env Q R s h k => ?_⟩
  refine a2 W F0 H0 F H σ env _ _ s h fun v d F1 H1 e1 r1 q1 => ?_
  refine b2 W F0 H0 F1 H1 σ env _ _ (s.step e1) q1 fun u c F2 H2 e2 r2 q2 => ?_
  split at q2
  · rename_i xs ys
    have e3 := e1.trans e2
    obtain ⟨l, vs, rfl, h1, l1, g1⟩ := (r1.step e2).list e2.u
    obtain ⟨m, ws, rfl, h2, l2, g2⟩ := r2.list e2.u
    have hl : vs.length + ws.length ≤ sizeLine := by rw [g1.length, g2.length]; exact q2.1
    refine ⟨l, m, vs, ws, rfl, rfl, h1, h2, hl, fun p hp => ?_⟩
    obtain ⟨h0, fp, nw⟩ := e3.fresh hp
    exact k p (.ow none (xs ++ ys)) F2 _ (e3.write h0 nw fp) h0 (fun _ z => nomatch z) ⟨p, vs ++ ws, rfl, (fun _ z => nomatch z), h0, fp, nw, upd_same, by rw [List.length_append]; exact hl, g1.append g2⟩ q2.2
  · exact q2.elim
end
/-! ### dict(d) -/
section
variable {prog : Program} {w : World} {A : Around} {E : Value → Shared → Prop} {s : Shared} {Kt : Type} [DecidableEq Kt]
theorem dict_of_dict {knd : HeapKind prog w Kt} {o : Addr} {ys : List (Kt × Addr × Value)} {Q : Value → Shared → Prop} (hu : knd.room A.in1.in1) (hoS : (o == sysModules) = false) (ho : s.heap.DictOfH knd o ys)
    (ho2 : ∀ h' : Heap, (∀ b ob, s.heap.get? b = some ob → h'.get? b = some ob) → h'.DictOfH knd o ys) (hty : ∀ x ∈ ys, s.TypeIs (.ref x.2.1) "tuple") (hap : (ys.map fun x => knd.hash x.1).Nodup) (hz : ys.length ≤ sizeLine)
    (h : ∀ h' : Heap, h'.DictOfH knd s.heap.objs.size (storedAllH [] ys) → (∀ b ob, s.heap.get? b = some ob → h'.get? b = some ob) → Q (.ref s.heap.objs.size) { s with heap := h' }) :
    wpAny (model prog w) A (call (.type "dict") [.ref o]) Q E s := by
  obtain ⟨oo, _, _, hoo, _⟩ := id ho
  have lt := Heap.lt_size hoo
  have ne : s.heap.objs.size ≠ o := Nat.ne_of_gt lt
  let o0 : Obj := { cls := .type "dict", data := .dict #[] }
  let s1 : Shared := { s with heap := s.heap.push o0 }
  have keep : ∀ b ob, s.heap.get? b = some ob → s1.heap.get? b = some ob := fun b ob e => Heap.get?_push_of_some _ e
  refine callType_codes (Q₁ := fun x s2 => x = .ref s.heap.objs.size ∧ s2 = s1) F.kt_called_dict (F.kt_typeCall_dict_1 _) F.entry_dict_init (kt_code_dict_new _ ⟨rfl, rfl⟩) ?_
  rintro x s2 ⟨rfl, rfl⟩
  have ty : s1.TypeIs (.ref s.heap.objs.size) "dict" := ⟨_, Heap.get?_push_size _ rfl, rfl⟩
  refine ⟨ty, F.args_dict_init_2 _ _, ?_⟩
  unfold Builtin.«dict.__init__»
  refine wpAny_bind ?_
  unfold Builtin.Dict.selfAndRest
  refine wpAny_bind (wpAny_notOrdered_dict ty ?_)
  refine wpAny_pure ?_
  refine updateFrom_dictH (s := s1) (kvs := []) (more := ys) .none hu ne hoS (Heap.DictOfH.new s.heap) (ho2 _ keep) (.inr ⟨fun x hx => ?_, hap⟩) (by simpa using hz) fun h' d1 d2 sb => ?_
  · obtain ⟨ob, e1, e2⟩ := hty x hx
    exact ⟨ob, keep _ _ e1, e2⟩
  · exact ⟨rfl, h h' d1 fun b ob e => (sb.2 b (Nat.ne_of_lt (Heap.lt_size e))).trans (keep b ob e)⟩
end
section
variable {X : Cx}
/-- dict(d) -/
def rDictC (K : PySem.W.Frag) : List V → Hp → VK → Prop := fun vs H Q => ∃ (b : Addr) (ob : Obj) (ys : TX), vs = [.ref b] ∧ (b == sysModules) = false ∧ H b = some (.ext (DictAt b ob (liftT ys))) ∧ KeysD K H ys ∧ (∀ w : World, (ys.map fun y => NestedKey.hash w y.1).Nodup) ∧ ys.length ≤ sizeLine ∧
  ∀ p o', H p = none → (p == sysModules) = false → Q (.ref p) (upd H p (.ext (DictAt p o' (liftT (storedAllH [] ys)))))
theorem call_dictC (hu : X.A.units + 65 < cLine) : CallR X (.type "dict") (rDictC X.K) := by
  intro pins s σ H vs us Q I r h
  obtain ⟨b, ob, ys, rfl, hbs, hb, kb, hh, hz, q⟩ := h
  obtain ⟨u, rfl, ru⟩ := vals1 r
  obtain rfl : u = Value.ref b := ru
  have db := dict_of I hb kb
  have st := nestedKind_stays (prog := X.prog) (w := X.w)
  refine dict_of_dict (knd := nestedKind X.prog X.w) (room_in2 hu) hbs db (fun h' hk => ?_) (keyed_apart st db) (hh X.w) hz fun h' d1 hk => ?_
  · obtain ⟨o1, es, ep, e1, e2, e3, e4, e5, e6⟩ := id db
    exact ⟨o1, es, ep, hk _ _ e1, e2, e3, e4, fun x hx => st.stays (fun c o _ _ e _ => hk c o e) (e5 x hx), e6⟩
  · obtain ⟨o', at'⟩ := dictAt_of d1 (storedAll_free (P := X.prog) (w := X.w) (xs := []) (fun _ z => nomatch z) (fun x hx => let ⟨d, _, h2, _⟩ := kb x hx; ⟨d, h2⟩))
    obtain ⟨e1, _⟩ := id at'
    exact ⟨.ref s.heap.objs.size, _, I.laid (a := s.heap.objs.size) (o := .ext (DictAt s.heap.objs.size o' (liftT (storedAllH [] ys)))) (t' := s.toks) hk (Nat.le_refl _) ⟨at', ⟨_, e1⟩, fun h1 h2 => dictAt_mono⟩, rfl, q _ o' (I.hok.fresh (Nat.le_refl _)) (beq_eq_false_iff_ne.mpr (Ne.symm (Nat.ne_of_lt I.big)))⟩
end
section
variable {G : Fam} {Wx : WX} {pos : Pos} {e a b : Expr} {we wa wb : WE}
def dictX (d : D) (Q : List (D × D) → Prop) : Prop := match d with
  | .dict es => (tupK es = true ∧ HashOk es) ∧ Q (putAll [] es)
  | _ => dictL d Q
/-- dict(pairs), dict(d) -/
def wNwDX (w : WE) : WNw := fun env Q => w env fun d => dictX d fun es => Q (.od es)
@[simp ↓] theorem wNwDX_ap (w : WE) env Q : wNwDX w env Q = (w env fun d => dictX d fun es => Q (.od es)) := Eq.trans rfl rfl
theorem nw_dictX {x : Str} {p : Pos} {w : WE} (hc : Calm G) (hu : Hu G) (hg : ∀ i, Gl (G.X i) x := by intro _; rfl) (hm : ∀ i, (G.X i).mg x = none) (hv : bootBuiltins x = some (.type "dict")) (ha : DenE G e w) (hn : x ≠ "__name__" := by decide) (hdb : (x == ("__debug__" : Str)) = false := by decide)
    (he : ∀ i, starEach [e] (G.X i).env = (false, eval e (G.X i).env) :: starEach [] (G.X i).env := by intro _; rfl) (hpl : ∀ i, (backTo pos (starEach [] (G.X i).env)).any (·.1) = false := by intro _; rfl) : DenNw G (.Call (.Name x p) [e] [] pos) (wNwDX w) := by
  obtain ⟨t, a1, a2⟩ := ha
  refine ⟨tCB (fun vs H Q => rDictL G.K vs H Q ∨ rDictC G.K vs H Q) (tCons t tNil), fun i => ?_, fun W F0 H0 F H σ env Q R s h k => ?_⟩
  · have z1 : CallR (G.X i) (.type "dict") (rDictL (G.X i).K) := call_dictL (hc i) (hu i)
    have z2 : CallR (G.X i) (.type "dict") (rDictC (G.X i).K) := call_dictC (hu i)
    rw [G.hK i] at z1 z2
    exact pe_callTy (CallR.or z1 z2) (hg i) (hm i) hv (pa_cons (a1 i) pa_nil (he i)) hn hdb (he i) (hpl i)
  · refine a2 W F0 H0 F H σ env _ _ s h fun v d F1 H1 e1 r1 q1 => ?_
    unfold dictX at q1
    split at q1
    · rename_i es
      obtain ⟨⟨k1, k2⟩, q1⟩ := q1
      cases r1 with
      | dct _ => exact absurd rfl (tup_opq k1)
      | @dcd b ob ys _ m1 m2 m3 m4 =>
        obtain ⟨ys', rfl⟩ := m4.tup k1
        have sr := m4.stoR rfl
        have hb := e1.u _ _ m1
        refine .inr ⟨b, ob, ys', rfl, m2, hb, m4.keys e1.u rfl, fun w => ?_, ?_, fun p o' hp hm => ?_⟩
        · rw [ents_hash w sr]
          exact k2 w
        · rw [liftT_len] at m3
          exact m3
        · obtain ⟨h0, fp, nw⟩ := e1.fresh hp
          have en := Ents.storeAll (K := G.K) (F := F1) sr (xs := []) (es := []) .nil
          have hl : (liftT (storedAllH [] ys')).length ≤ sizeLine := by
            rw [en.length]
            have h1 := putAll_len es []
            have h2 := m4.length
            simp at *
            omega
          exact k p (.od (putAll [] es)) F1 _ (e1.write h0 nw fp) h0 (fun _ z => nomatch z) ⟨p, o', _, rfl, h0, fp, nw, upd_same, hm, hl, en⟩ q1
    · unfold dictL at q1
      split at q1
      · rename_i xs hxs
        split at q1
        · rename_i ps hps
          obtain ⟨ok, q1⟩ := q1
          cases r1 with
          | lst g1 g2 g3 =>
            obtain ⟨qs, p1, p2⟩ := pairs_data e1.u g3 hps ok
            refine .inl ⟨_, _, qs, rfl, SqL.of (e1.u _ _ g1), p1, fun p o ys hp hm vp => ?_⟩
            obtain ⟨h0, fp, nw⟩ := e1.fresh hp
            have en := Ents.storeAll (K := G.K) (F := F1) (p2 ys vp) (xs := []) (es := []) .nil
            have lp : ps.length = xs.length := pairsD_len hps
            have hl : (liftT (storedAllH [] ys)).length ≤ sizeLine := by
              rw [en.length]
              have := putAll_len ps []
              have := g3.length
              simp at *
              omega
            exact k p (.od (putAll [] ps)) F1 _ (e1.write h0 nw fp) h0 (fun _ z => nomatch z) ⟨p, o, _, rfl, h0, fp, nw, upd_same, hm, hl, en⟩ q1
        · exact q1.elim
      · exact q1.elim
end
/-! ### x is True, x is not True -/
section
variable {G : Fam} {X : Cx}
def rIsB : R2 := fun x y H Q => ∃ b c, x = .bl b ∧ y = .bl c ∧ Q (.bl (b == c)) H
def rIsNotB : R2 := fun x y H Q => ∃ b c, x = .bl b ∧ y = .bl c ∧ Q (.bl (!(b == c))) H
theorem op_isB : OpR X (compareOp .Is) rIsB := by
  intro pins s σ H x y v u Q I rx ry h
  obtain ⟨b, c, rfl, rfl, q⟩ := h
  cases rx
  cases ry
  exact PyProof.Rows.is_bool ⟨.bl (b == c), H, I, rfl, q⟩
theorem op_isNotB : OpR X (compareOp .IsNot) rIsNotB := by
  intro pins s σ H x y v u Q I rx ry h
  obtain ⟨b, c, rfl, rfl, q⟩ := h
  cases rx
  cases ry
  exact PyProof.Rows.isnot_bool ⟨.bl (!(b == c)), H, I, rfl, q⟩
def dIsB : OD := fun d e Q => match d, e with
  | .bool i, .bool j => Q (.bool (i == j))
  | _, _ => False
@[simp ↓] theorem dIsB_ap d e Q : dIsB d e Q = (match d, e with
  | .bool i, .bool j => Q (.bool (i == j))
  | _, _ => False) := Eq.trans rfl rfl
def dIsNotB : OD := fun d e Q => match d, e with
  | .bool i, .bool j => Q (.bool (!(i == j)))
  | _, _ => False
@[simp ↓] theorem dIsNotB_ap d e Q : dIsNotB d e Q = (match d, e with
  | .bool i, .bool j => Q (.bool (!(i == j)))
  | _, _ => False) := Eq.trans rfl rfl
theorem o_isB : OpD G (compareOp .Is) dIsB := by
  refine ⟨_, fun i => op_isB, fun W F H x y d e Q R u w rx ry q k => ?_⟩
  cases d <;> cases e <;> first | exact (show False from q).elim | skip
  cases rx.bool
  cases ry.bool
  exact ⟨_, _, rfl, rfl, k _ _ F H (Ext.refl u w) (.bl _) q⟩
theorem o_isNotB : OpD G (compareOp .IsNot) dIsNotB := by
  refine ⟨_, fun i => op_isNotB, fun W F H x y d e Q R u w rx ry q k => ?_⟩
  cases d <;> cases e <;> first | exact (show False from q).elim | skip
  cases rx.bool
  cases ry.bool
  exact ⟨_, _, rfl, rfl, k _ _ F H (Ext.refl u w) (.bl _) q⟩
end
end Dn
/-! DnS: all fillings of a board, cell by cell. -/
namespace Dn
open PySem L2
def Full (n : Nat) (g : Gr) : Prop := ∀ i j, i < n → j < n → g i j ≠ none
def Same2 (n : Nat) (g h : Gr) : Prop := ∀ i j, i < n → j < n → g i j = h i j
/-- g has all signs of f -/
def Ext2 (n : Nat) (f g : Gr) : Prop := ∀ i j, i < n → j < n → f i j ≠ none → g i j = f i j
def Diff (n : Nat) (g h : Gr) : Prop := ∃ i j, i < n ∧ j < n ∧ g i j ≠ h i j
theorem gD_congr {n : Nat} {g h : Gr} (e : Same2 n g h) : gD n g = gD n h := by
  unfold gD lnD
  congr 1
  apply List.map_congr_left
  intro r hr
  congr 1
  apply List.map_congr_left
  intro c hc
  rw [e r c (List.mem_range.mp hr) (List.mem_range.mp hc)]
theorem cD_inj {a b : Option Int} (h : cD a = cD b) : a = b := by
  cases a <;> cases b <;> first | rfl | (unfold cD at h; cases h; rfl) | (unfold cD at h; cases h)
theorem gD_inj {n : Nat} {g h : Gr} (e : gD n g = gD n h) : Same2 n g h := by
  intro i j hi hj
  unfold gD at e
  injection e with e
  have e1 : ((List.range n).map fun r => PyData.tuple (lnD n (g r)))[i]? = ((List.range n).map fun r => PyData.tuple (lnD n (h r)))[i]? := by rw [e]
  simp [hi] at e1
  have e2 : (lnD n (g i))[j]? = (lnD n (h i))[j]? := by rw [e1]
  unfold lnD at e2
  simp [hj] at e2
  exact cD_inj e2
theorem diff_ne {n : Nat} {g h : Gr} (d : Diff n g h) : gD n g ≠ gD n h := fun e => by
  obtain ⟨i, j, hi, hj, ne⟩ := d
  exact ne (gD_inj e i j hi hj)
def stepC (n i j : Nat) (g : Gr) : List Gr := if g i j = none then ((List.range n).filter fun (s : Nat) => fits n g i j s).map fun (s : Nat) => put3 g i j (s : Int) else [g]
def cellsL (n : Nat) : List (Nat × Nat) := (List.range n).flatMap fun i => (List.range n).map fun j => (i, j)
def fillS (n : Nat) (bs : List Gr) (ij : Nat × Nat) : List Gr := bs.flatMap (stepC n ij.1 ij.2)
def fillL (n : Nat) (f : Gr) : List Gr := (cellsL n).foldl (fillS n) [f]
/-- what holds while the cells are gone through: those in p are done -/
structure FI (n : Nat) (f : Gr) (p : List (Nat × Nat)) (bs : List Gr) : Prop where
  bd : ∀ h ∈ bs, Bd n h
  done : ∀ h ∈ bs, ∀ ij ∈ p, h ij.1 ij.2 ≠ none
  left : ∀ h ∈ bs, ∀ i j, (i, j) ∉ p → h i j = f i j
  keep : ∀ h ∈ bs, ∀ i j, f i j ≠ none → h i j = f i j
  all : ∀ g, Bd n g → Full n g → Ext2 n f g → ∃ h ∈ bs, ∀ i j, i < n → j < n → ((i, j) ∈ p → h i j = g i j) ∧ ((i, j) ∉ p → h i j = f i j)
  apart : bs.Pairwise (Diff n)
theorem FI.start {n : Nat} {f : Gr} (b : Bd n f) : FI n f [] [f] := by
  refine ⟨fun h m => ?_, fun _ _ _ m => (nomatch m), fun h m _ _ _ => ?_, fun h m _ _ _ => ?_, fun g _ _ _ => ⟨f, List.mem_singleton.mpr rfl, fun i j _ _ => ⟨fun m => (nomatch m), fun _ => rfl⟩⟩, List.pairwise_singleton _ _⟩
  all_goals
    rw [List.mem_singleton] at m
    subst m
  · exact b
  · rfl
  · rfl
theorem put3_same (g : Gr) (a b : Nat) (s : Int) : put3 g a b s a b = some s := by simp [put3]
theorem put3_ne (g : Gr) {a b i j : Nat} (s : Int) (h : ¬ (i = a ∧ j = b)) : put3 g a b s i j = g i j := by simp [put3, h]
theorem step_mem {n a b : Nat} {h x : Gr} (m : x ∈ stepC n a b h) : (h a b ≠ none ∧ x = h) ∨ (h a b = none ∧ ∃ s : Nat, s < n ∧ fits n h a b s = true ∧ x = put3 h a b (s : Int)) := by
  unfold stepC at m
  split at m
  · rename_i e
    simp only [List.mem_map, List.mem_filter, List.mem_range] at m
    obtain ⟨s, ⟨hs, hf⟩, rfl⟩ := m
    exact .inr ⟨e, s, hs, hf, rfl⟩
  · rename_i e
    exact .inl ⟨e, List.mem_singleton.mp m⟩
theorem step_else {n a b i j : Nat} {h x : Gr} (m : x ∈ stepC n a b h) (ne : ¬ (i = a ∧ j = b)) : x i j = h i j := by
  rcases step_mem m with ⟨_, rfl⟩ | ⟨_, s, _, _, rfl⟩
  · rfl
  · exact put3_ne _ _ ne
theorem FI.step {n : Nat} {f : Gr} {p : List (Nat × Nat)} {bs : List Gr} (F : FI n f p bs) {a b : Nat} (ha : a < n) (hb : b < n) (np : (a, b) ∉ p) : FI n f (p ++ [(a, b)]) (fillS n bs (a, b)) := by
  have mem : ∀ x, x ∈ fillS n bs (a, b) ↔ ∃ h ∈ bs, x ∈ stepC n a b h := fun x => List.mem_flatMap
  refine ⟨fun x m => ?_, fun x m ij hij => ?_, fun x m i j hij => ?_, fun x m i j hf => ?_, fun g bg fg eg => ?_, ?_⟩
  · obtain ⟨h, hm, m⟩ := (mem x).mp m
    rcases step_mem m with ⟨_, rfl⟩ | ⟨_, s, hs, hf, rfl⟩
    · exact F.bd _ hm
    · exact (F.bd _ hm).put ha hb hs hf
  · obtain ⟨h, hm, m⟩ := (mem x).mp m
    obtain ⟨i, j⟩ := ij
    by_cases e : i = a ∧ j = b
    · obtain ⟨rfl, rfl⟩ := e
      rcases step_mem m with ⟨h1, rfl⟩ | ⟨_, s, hs, hf, rfl⟩
      · exact h1
      · rw [put3_same]
        exact fun z => nomatch z
    · rw [step_else m e]
      rcases List.mem_append.mp hij with q | q
      · exact F.done h hm _ q
      · rw [List.mem_singleton] at q
        cases q
        exact absurd ⟨rfl, rfl⟩ e
  · obtain ⟨h, hm, m⟩ := (mem x).mp m
    rw [List.mem_append, List.mem_singleton, not_or] at hij
    rw [step_else m (fun e => hij.2 (by rw [e.1, e.2]))]
    exact F.left h hm i j hij.1
  · obtain ⟨h, hm, m⟩ := (mem x).mp m
    by_cases e : i = a ∧ j = b
    · obtain ⟨rfl, rfl⟩ := e
      have e1 := F.left h hm i j np
      rcases step_mem m with ⟨h1, rfl⟩ | ⟨h1, s, hs, _, rfl⟩
      · exact e1
      · exact absurd (e1 ▸ h1) hf
    · rw [step_else m e]
      exact F.keep h hm i j hf
  · obtain ⟨h, hm, hh⟩ := F.all g bg fg eg
    have hab := (hh a b ha hb).2 np
    have fin : ∀ x ∈ stepC n a b h, x a b = g a b → ∃ h ∈ fillS n bs (a, b), ∀ i j, i < n → j < n → ((i, j) ∈ p ++ [(a, b)] → h i j = g i j) ∧ ((i, j) ∉ p ++ [(a, b)] → h i j = f i j) := fun x hx exa => by
      refine ⟨x, (mem x).mpr ⟨h, hm, hx⟩, fun i j hi hj => ⟨fun m => ?_, fun m => ?_⟩⟩
      · by_cases e : i = a ∧ j = b
        · rw [e.1, e.2]
          exact exa
        · rw [step_else hx e]
          rcases List.mem_append.mp m with q | q
          · exact (hh i j hi hj).1 q
          · rw [List.mem_singleton] at q
            cases q
            exact absurd ⟨rfl, rfl⟩ e
      · rw [List.mem_append, List.mem_singleton, not_or] at m
        rw [step_else hx (fun e => m.2 (by rw [e.1, e.2]))]
        exact (hh i j hi hj).2 m.1
    by_cases e : h a b = none
    · cases eg2 : g a b with
      | none => exact absurd eg2 (fg a b ha hb)
      | some s =>
        obtain ⟨s0, s1⟩ := bg.rng a b s ha hb eg2
        obtain ⟨gr, _⟩ := grFree_iff.mp bg.fre a ha
        obtain ⟨_, gc⟩ := grFree_iff.mp bg.fre b hb
        rw [lnFree_iff] at gr gc
        have back : ∀ i j, i < n → j < n → h i j = some s → g i j = some s := fun i j hi hj q => by
          by_cases m : (i, j) ∈ p
          · rw [← (hh i j hi hj).1 m, q]
          · have := (hh i j hi hj).2 m
            rw [eg i j hi hj (by rw [← this, q]; exact fun z => nomatch z), ← this, q]
        refine fin (put3 h a b (s.toNat : Nat)) ?_ ?_
        · unfold stepC
          rw [if_pos e]
          refine List.mem_map.mpr ⟨s.toNat, List.mem_filter.mpr ⟨List.mem_range.mpr (by omega), fits_iff.mpr ⟨fun k hk q => ?_, fun k hk q => ?_⟩⟩, rfl⟩
          · rw [Int.toNat_of_nonneg s0] at q
            have q2 := back a k ha hk q
            have := gr b k hb hk (by rw [eg2]; exact fun z => nomatch z) (q2.trans eg2.symm)
            subst this
            rw [e] at q
            cases q
          · rw [Int.toNat_of_nonneg s0] at q
            have q2 := back k b hk hb q
            have := gc a k ha hk (by rw [eg2]; exact fun z => nomatch z) (q2.trans eg2.symm)
            subst this
            rw [e] at q
            cases q
        · rw [put3_same, eg2, Int.toNat_of_nonneg s0]
    · refine fin h ?_ ?_
      · unfold stepC
        rw [if_neg e]
        exact List.mem_singleton.mpr rfl
      · rw [hab, eg a b ha hb (by rw [← hab]; exact e)]
  · show (bs.flatMap (stepC n a b)).Pairwise (Diff n)
    rw [List.pairwise_flatMap]
    refine ⟨fun h hm => ?_, ?_⟩
    · unfold stepC
      split
      · rw [List.pairwise_map]
        refine List.Pairwise.imp ?_ (List.Pairwise.filter _ List.nodup_range)
        intro s t ne
        refine ⟨a, b, ha, hb, ?_⟩
        rw [put3_same, put3_same]
        intro q
        injection q with q
        omega
      · exact List.pairwise_singleton _ _
    · refine List.Pairwise.imp_of_mem ?_ F.apart
      rintro h h' hm hm' ⟨i, j, hi, hj, ne⟩ x hx y hy
      have e : ¬ (i = a ∧ j = b) := by
        rintro ⟨rfl, rfl⟩
        exact ne ((F.left h hm i j np).trans (F.left h' hm' i j np).symm)
      exact ⟨i, j, hi, hj, by rw [step_else hx e, step_else hy e]; exact ne⟩
theorem cells_mem {n i j : Nat} : (i, j) ∈ cellsL n ↔ i < n ∧ j < n := by
  unfold cellsL
  simp only [List.mem_flatMap, List.mem_range, List.mem_map]
  constructor
  · rintro ⟨a, ha, b, hb, e⟩
    cases e
    exact ⟨ha, hb⟩
  · rintro ⟨ha, hb⟩
    exact ⟨i, ha, j, hb, rfl⟩
theorem cells_nodup (n : Nat) : (cellsL n).Nodup := by
  unfold cellsL
  show List.Pairwise _ _
  rw [List.pairwise_flatMap]
  refine ⟨fun i _ => ?_, ?_⟩
  · rw [List.pairwise_map]
    exact List.Pairwise.imp (fun ne e => ne (by injection e)) List.nodup_range
  · refine List.Pairwise.imp ?_ List.nodup_range
    intro a b ne x hx y hy e
    obtain ⟨_, _, rfl⟩ := List.mem_map.mp hx
    obtain ⟨_, _, rfl⟩ := List.mem_map.mp hy
    injection e with e1 e2
    exact ne e1
theorem FI.go {n : Nat} {f : Gr} : ∀ (xs p : List (Nat × Nat)) (bs : List Gr), FI n f p bs → (∀ ij ∈ xs, ij.1 < n ∧ ij.2 < n) → (p ++ xs).Nodup → FI n f (p ++ xs) (xs.foldl (fillS n) bs)
  | [], p, bs, F, _, _ => by rw [List.append_nil]; exact F
  | (a, b) :: xs, p, bs, F, hx, nd => by
    obtain ⟨h1, h2⟩ := hx (a, b) List.mem_cons_self
    have np : (a, b) ∉ p := fun m => by
      rw [List.nodup_append] at nd
      exact nd.2.2 (a, b) m (a, b) List.mem_cons_self rfl
    have := FI.go xs (p ++ [(a, b)]) _ (F.step h1 h2 np) (fun ij m => hx ij (List.mem_cons_of_mem _ m)) (by rw [List.append_assoc]; exact nd)
    rw [List.append_assoc] at this
    exact this
theorem fill_fi {n : Nat} {f : Gr} (b : Bd n f) : FI n f (cellsL n) (fillL n f) := by
  have := FI.go (cellsL n) [] [f] (FI.start b) (fun ij m => cells_mem.mp m) (by rw [List.nil_append]; exact cells_nodup n)
  rwa [List.nil_append] at this
/-- the fillings -/
structure Fills (n : Nat) (f : Gr) (bs : List Gr) : Prop where
  bd : ∀ h ∈ bs, Bd n h
  full : ∀ h ∈ bs, Full n h
  ext : ∀ h ∈ bs, Ext2 n f h
  all : ∀ g, Bd n g → Full n g → Ext2 n f g → ∃ h ∈ bs, Same2 n h g
  apart : bs.Pairwise (Diff n)
theorem fills {n : Nat} {f : Gr} (b : Bd n f) : Fills n f (fillL n f) := by
  have F := fill_fi b
  refine ⟨F.bd, fun h hm i j hi hj => F.done h hm (i, j) (cells_mem.mpr ⟨hi, hj⟩), fun h hm i j _ _ e => F.keep h hm i j e, fun g bg fg eg => ?_, F.apart⟩
  obtain ⟨h, hm, hh⟩ := F.all g bg fg eg
  exact ⟨h, hm, fun i j hi hj => (hh i j hi hj).1 (cells_mem.mpr ⟨hi, hj⟩)⟩
/-- two lists of all fillings hold the same, each once -/
theorem Fills.perm {n : Nat} {f : Gr} {bs cs : List Gr} (F : Fills n f bs) (G : Fills n f cs) : (bs.map (gD n)).Perm (cs.map (gD n)) := by
  have nd : ∀ {bs : List Gr}, bs.Pairwise (Diff n) → (bs.map (gD n)).Nodup := fun p => by
    show List.Pairwise _ _
    rw [List.pairwise_map]
    exact List.Pairwise.imp (fun d => diff_ne d) p
  have sub : ∀ {bs cs : List Gr}, Fills n f bs → Fills n f cs → ∀ d, d ∈ bs.map (gD n) → d ∈ cs.map (gD n) := fun F G d hd => by
    obtain ⟨h, hm, rfl⟩ := List.mem_map.mp hd
    obtain ⟨k, hk, e⟩ := G.all h (F.bd h hm) (F.full h hm) (F.ext h hm)
    exact List.mem_map.mpr ⟨k, hk, gD_congr e⟩
  exact (List.perm_ext_iff_of_nodup (nd F.apart) (nd G.apart)).mpr fun d => ⟨sub F G d, sub G F d⟩
end Dn
/-! DnG: games on boards: what comes behind a board, dicts keyed by boards, values by going down. -/
namespace Dn
open PySem L2
/-! ### dicts -/
theorem getK_nil (k : D) : getK [] k = none := rfl
theorem getK_cons (e : D × D) (es : List (D × D)) (k : D) : getK (e :: es) k = if keyD e.1 = keyD k then some e.2 else getK es k := by
  unfold getK
  rw [List.find?_cons]
  by_cases h : keyD e.1 = keyD k <;> simp [h]
theorem getK_append (es fs : List (D × D)) (k : D) : getK (es ++ fs) k = (getK es k).or (getK fs k) := by
  induction es with
  | nil => rw [List.nil_append, getK_nil]; rfl
  | cons e es ih =>
    rw [List.cons_append, getK_cons, getK_cons, ih]
    split <;> rfl
theorem getK_map_ne {k k' v : D} (h : ¬ keyD k = keyD k') (es : List (D × D)) : getK (es.map fun e => if keyD e.1 = keyD k then (e.1, v) else e) k' = getK es k' := by
  induction es with
  | nil => rfl
  | cons e es ih =>
    rw [List.map_cons, getK_cons, getK_cons, ih]
    by_cases q : keyD e.1 = keyD k
    · rw [if_pos q, if_neg (by rw [q]; exact h), if_neg (by rw [q]; exact h)]
    · rw [if_neg q]
theorem getK_map_eq {k v : D} {es : List (D × D)} (h : (getK es k).isSome = true) : getK (es.map fun e => if keyD e.1 = keyD k then (e.1, v) else e) k = some v := by
  induction es with
  | nil => cases h
  | cons e es ih =>
    rw [List.map_cons, getK_cons]
    rw [getK_cons] at h
    by_cases q : keyD e.1 = keyD k
    · rw [if_pos q, if_pos q]
    · rw [if_neg q] at h
      rw [if_neg q, if_neg q]
      exact ih h
theorem getK_put (es : List (D × D)) (k v k' : D) : getK (putK es k v) k' = if keyD k = keyD k' then some v else getK es k' := by
  unfold putK
  by_cases h : keyD k = keyD k'
  · rw [if_pos h]
    have e : ∀ fs, getK fs k' = getK fs k := fun fs => by unfold getK; rw [h]
    rw [e]
    split
    · rename_i q
      exact getK_map_eq q
    · rename_i q
      rw [getK_append, getK_cons, if_pos rfl]
      cases z : getK es k with
      | none => rfl
      | some x => rw [z] at q; exact absurd rfl q
  · rw [if_neg h]
    split
    · exact getK_map_ne h es
    · rw [getK_append, getK_cons, if_neg h, getK_nil]
      cases getK es k' <;> rfl
theorem keys_put (es : List (D × D)) (k v : D) (x : D) : x ∈ (putK es k v).map (·.1) → x ∈ es.map (·.1) ∨ x = k := by
  unfold putK
  split
  · intro h
    rw [List.map_map] at h
    obtain ⟨e, he, rfl⟩ := List.mem_map.mp h
    refine .inl (List.mem_map.mpr ⟨e, he, ?_⟩)
    simp only [Function.comp]
    split <;> rfl
  · intro h
    rw [List.map_append] at h
    rcases List.mem_append.mp h with h | h
    · exact .inl h
    · exact .inr (by simpa using h)
theorem keys_put_old (es : List (D × D)) (k v : D) (x : D) (h : x ∈ es.map (·.1)) : x ∈ (putK es k v).map (·.1) := by
  unfold putK
  split
  · rw [List.map_map]
    obtain ⟨e, he, rfl⟩ := List.mem_map.mp h
    refine List.mem_map.mpr ⟨e, he, ?_⟩
    simp only [Function.comp]
    split <;> rfl
  · rw [List.map_append]
    exact List.mem_append_left _ h
theorem getK_some {es : List (D × D)} {k : D} (h : (getK es k).isSome = true) : ∃ e ∈ es, keyD e.1 = keyD k := by
  unfold getK at h
  rw [Option.isSome_map] at h
  obtain ⟨e, he⟩ := Option.isSome_iff_exists.mp h
  exact ⟨e, List.mem_of_find?_eq_some he, of_decide_eq_true (List.find?_some (p := fun e : D × D => decide (keyD e.1 = keyD k)) he)⟩
/-- keys that are told apart by their data -/
def Plain1 (d : D) : Prop := ∀ e : D, (∃ k, keyD d = some k) ∧ (keyD d = keyD e → True)
/-! ### boards as keys -/
theorem key_cD : ∀ a : Option Int, keyD (cD a) = some (match a with | none => .none | some i => .num i)
  | none => rfl
  | some _ => rfl
theorem keys_map {α : Type} (g : α → D) (h : α → NestedKey) : ∀ xs : List α, (∀ x ∈ xs, keyD (g x) = some (h x)) → keyDs (xs.map g) = some (xs.map h)
  | [], _ => rfl
  | x :: xs, e => by
    rw [List.map_cons, List.map_cons]
    simp only [keyDs]
    rw [e x List.mem_cons_self, keys_map g h xs fun y hy => e y (List.mem_cons_of_mem _ hy)]
def keyC (a : Option Int) : NestedKey := match a with
  | none => .none
  | some i => .num i
def keyG (n : Nat) (f : Gr) : NestedKey := .tup ((List.range n).map fun r => .tup ((List.range n).map fun c => keyC (f r c)))
theorem key_g (n : Nat) (f : Gr) : keyD (gD n f) = some (keyG n f) := by
  unfold gD keyG
  simp only [keyD]
  rw [keys_map (fun r => PyData.tuple (lnD n (f r))) (fun r => .tup ((List.range n).map fun c => keyC (f r c))) _ fun r _ => ?_]
  · rfl
  · unfold lnD
    simp only [keyD]
    rw [keys_map (fun c => cD (f r c)) (fun c => keyC (f r c)) _ fun c _ => key_cD _]
    rfl
theorem keyC_inj {a b : Option Int} (h : keyC a = keyC b) : a = b := by
  cases a <;> cases b <;> first | rfl | cases h
  rfl
theorem map_range_inj {α : Type} {n : Nat} {g h : Nat → α} (e : (List.range n).map g = (List.range n).map h) : ∀ i, i < n → g i = h i := fun i hi => by
  have := congrArg (fun l => l[i]?) e
  simpa [hi] using this
theorem keyG_inj {n : Nat} {f g : Gr} (h : keyG n f = keyG n g) : Same2 n f g := fun i j hi hj => by
  unfold keyG at h
  injection h with h
  have h1 := map_range_inj h i hi
  injection h1 with h1
  exact keyC_inj (map_range_inj h1 j hj)
theorem key_g_inj {n : Nat} {f g : Gr} (h : keyD (gD n f) = keyD (gD n g)) : gD n f = gD n g := by
  rw [key_g, key_g] at h
  exact gD_congr (keyG_inj (Option.some.inj h))
theorem depthAll_le {k : Nat} : ∀ {ks : List NestedKey}, (∀ x ∈ ks, x.depth ≤ k) → NestedKey.depthAll ks ≤ k
  | [], _ => by simp [NestedKey.depthAll]
  | x :: ks, h => by
    have h1 := h x List.mem_cons_self
    have h2 := depthAll_le fun y hy => h y (List.mem_cons_of_mem _ hy)
    simp only [NestedKey.depthAll]
    omega
theorem keyG_depth (n : Nat) (f : Gr) : (keyG n f).depth ≤ 2 := by
  unfold keyG
  simp only [NestedKey.depth]
  have : NestedKey.depthAll ((List.range n).map fun r => NestedKey.tup ((List.range n).map fun c => keyC (f r c))) ≤ 1 := depthAll_le fun x hx => by
    obtain ⟨r, _, rfl⟩ := List.mem_map.mp hx
    simp only [NestedKey.depth]
    have : NestedKey.depthAll ((List.range n).map fun c => keyC (f r c)) ≤ 0 := depthAll_le fun x hx => by
      obtain ⟨c, _, rfl⟩ := List.mem_map.mp hx
      cases f r c <;> simp [keyC, NestedKey.depth]
    omega
  omega
theorem isTup_g (n : Nat) (f : Gr) : isTup (gD n f) = true := rfl
theorem fit_g {es : List (D × D)} (h : tupK es = true) (n : Nat) (f : Gr) : keyFit es (gD n f) = true := by
  unfold keyFit
  rw [key_g]
  have := keyG_depth n f
  simp [h, isTup_g]
  omega
/-! ### back from data -/
def grOf (d : D) : Gr := fun r c => match d with
  | .tuple rows => match rows[r]? with
    | some (.tuple cs) => match cs[c]? with
      | some x => cellOf x
      | none => none
    | _ => none
  | _ => none
theorem cell_cD (a : Option Int) : cellOf (cD a) = a := by cases a <;> rfl
theorem grOf_g (n : Nat) (g : Gr) : Same2 n (grOf (gD n g)) g := fun r c hr hc => by
  unfold grOf gD lnD
  simp [hr, hc, cell_cD]
theorem opn_congr {n : Nat} {f g : Gr} (e : Same2 n f g) : opn n f = opn n g := by
  unfold opn opr
  congr 1
  refine List.map_congr_left fun r hr => ?_
  congr 1
  refine List.filter_congr fun c hc => ?_
  rw [e r c (List.mem_range.mp hr) (List.mem_range.mp hc)]
theorem lnFree_congr {n : Nat} {l m : Nat → Option Int} (e : ∀ k, k < n → l k = m k) (h : lnFree n l = true) : lnFree n m = true := by
  rw [lnFree_iff] at h ⊢
  intro k j hk hj
  rw [← e k hk, ← e j hj]
  exact h k j hk hj
theorem Bd.congr {n : Nat} {f g : Gr} (e : Same2 n f g) (b : Bd n f) : Bd n g := by
  refine ⟨b.lo, b.hi, fun r c s hr hc q => b.rng r c s hr hc (by rw [e r c hr hc]; exact q), ?_⟩
  have := grFree_iff.mp b.fre
  exact grFree_iff.mpr fun k hk => ⟨lnFree_congr (fun j hj => e k j hk hj) (this k hk).1, lnFree_congr (fun j hj => e j k hj hk) (this k hk).2⟩
/-- a board, as data -/
structure Can (n : Nat) (d : D) : Prop where
  b : Bd n (grOf d)
  e : d = gD n (grOf d)
theorem same_sym {n : Nat} {f g : Gr} (e : Same2 n f g) : Same2 n g f := fun i j hi hj => (e i j hi hj).symm
theorem Can.of {n : Nat} {f : Gr} (b : Bd n f) : Can n (gD n f) := ⟨b.congr (same_sym (grOf_g n f)), (gD_congr (grOf_g n f)).symm⟩
/-- how many cells are open -/
def opD (n : Nat) (d : D) : Nat := opn n (grOf d)
theorem opD_g (n : Nat) (f : Gr) : opD n (gD n f) = opn n f := opn_congr (grOf_g n f)
/-- the board behind a put -/
def aft (n : Nat) (f : Gr) (t : D) : D := match t with
  | .tuple [.int r, .int c, .int s] => gD n (put3 f r.toNat c.toNat s)
  | _ => .none
theorem aft_tr (n : Nat) (f : Gr) (r c : Nat) (s : Int) : aft n f (trD r c s) = gD n (put3 f r c s) := by
  show gD n (put3 f (r : Int).toNat (c : Int).toNat s) = _
  rw [Int.toNat_natCast, Int.toNat_natCast]
/-- the boards behind all puts -/
def sucs (n : Nat) (d : D) : List D := (puts n (grOf d)).map (aft n (grOf d))
theorem sucs_len (n : Nat) (d : D) : (sucs n d).length ≤ n * n * n := by
  unfold sucs
  rw [List.length_map]
  exact puts_len _ _
theorem sucs_can {n : Nat} {d d' : D} (h : Can n d) (m : d' ∈ sucs n d) : Can n d' ∧ opD n d' + 1 ≤ opD n d := by
  obtain ⟨t, ht, rfl⟩ := List.mem_map.mp m
  obtain ⟨r, c, s, hr, hc, hs, e, ft, rfl⟩ := mem_puts.mp ht
  rw [aft_tr]
  refine ⟨Can.of (h.b.put hr hc hs ft), ?_⟩
  rw [opD_g]
  exact opn_put hr hc e
theorem sucs_none {n : Nat} {d : D} (h : Can n d) (o : opD n d = 0) : sucs n d = [] := by
  cases q : sucs n d with
  | nil => rfl
  | cons x r =>
    have := (sucs_can h (d' := x) (by rw [q]; exact List.mem_cons_self)).2
    omega
/-! ### values by going down -/
section
variable {α : Type} (n : Nat) (st : D → List α → α)
def valF : Nat → D → α
  | 0, d => st d []
  | k + 1, d => st d ((sucs n d).map (valF k))
/-- the value of a board: of what the boards behind it are worth -/
def val (d : D) : α := valF n st 9 d
theorem valF_same : ∀ (k : Nat) (d : D), Can n d → opD n d ≤ k → ∀ j, k ≤ j → valF n st j d = valF n st k d
  | 0, d, h, o, 0, _ => rfl
  | 0, d, h, o, j + 1, _ => by
    show st d _ = st d _
    rw [sucs_none h (by omega)]
    rfl
  | k + 1, d, h, o, 0, hj => by omega
  | k + 1, d, h, o, j + 1, hj => by
    show st d _ = st d _
    congr 1
    refine List.map_congr_left fun x hx => ?_
    obtain ⟨c, o2⟩ := sucs_can h hx
    exact valF_same k x c (by omega) j (by omega)
theorem opD_le {n : Nat} {d : D} (h : Can n d) : opD n d ≤ 9 := by
  have h1 := opn_le n (grOf d)
  have h2 : n * n ≤ 3 * 3 := Nat.mul_le_mul h.b.hi h.b.hi
  unfold opD
  omega
theorem val_eq {d : D} (h : Can n d) : val n st d = st d ((sucs n d).map (val n st)) := by
  have ho := opD_le h
  show valF n st 9 d = _
  show st d ((sucs n d).map (valF n st 8)) = _
  congr 1
  refine List.map_congr_left fun x hx => ?_
  obtain ⟨c, o2⟩ := sucs_can h hx
  exact (valF_same n st 8 x c (by omega) 9 (by omega)).symm
end
/-! ### lists in which what comes behind stands ahead -/
structure Ord (n : Nat) (d0 : D) (L : List D) : Prop where
  top : d0 ∈ L
  can : ∀ d ∈ L, Can n d
  op : ∀ d ∈ L, opD n d ≤ opD n d0
  ahead : ∀ p d r, L = p ++ d :: r → ∀ x ∈ sucs n d, x ∈ p
theorem nodup_len {α : Type} {l m : List α} (nd : l.Nodup) (h : ∀ x ∈ l, x ∈ m) : l.length ≤ m.length := by
  induction l generalizing m with
  | nil => exact Nat.zero_le _
  | cons x l ih =>
    rw [List.nodup_cons] at nd
    obtain ⟨p, r, e⟩ := List.append_of_mem (h x List.mem_cons_self)
    have := ih (m := p ++ r) nd.2 fun y hy => by
      have hm := h y (List.mem_cons_of_mem _ hy)
      rw [e] at hm
      rcases List.mem_append.mp hm with q | q
      · exact List.mem_append_left _ q
      · rcases List.mem_cons.mp q with rfl | q
        · exact absurd hy nd.1
        · exact List.mem_append_right _ q
    rw [e]
    simp only [List.length_append, List.length_cons] at *
    omega
/-- all that can come within so many puts -/
def reach (n : Nat) : Nat → List D → List D
  | 0, L => L
  | k + 1, L => L ++ reach n k (L.flatMap (sucs n))
theorem flat_len {α β : Type} (g : α → List β) (m : Nat) (hg : ∀ k, (g k).length ≤ m) : ∀ xs : List α, (xs.flatMap g).length ≤ m * xs.length
  | [] => by simp
  | x :: r => by
    have ih := flat_len g m hg r
    have h := hg x
    rw [List.flatMap_cons, List.length_append, List.length_cons]
    have : m * (r.length + 1) = m * r.length + m := Nat.mul_succ _ _
    omega
theorem sucs_27 {n : Nat} (h3 : n ≤ 3) (d : D) : (sucs n d).length ≤ 27 := by
  have h1 := sucs_len n d
  have h2 : n * n * n ≤ 3 * 3 * 3 := Nat.mul_le_mul (Nat.mul_le_mul h3 h3) h3
  omega
end Dn
/-! DnH0: boards of up to three rows hash apart. -/
namespace Dn
open PySem L2
inductive Tr where
  | lf
  | nd (l : Tr) (k : Nat) (r : Tr)
namespace Tr
def find (j : Nat) : Tr → Bool
  | lf => false
  | nd l x r => bif Nat.blt j x then find j l else bif Nat.blt x j then find j r else true
def ins (k : Nat) : Tr → Option Tr
  | lf => some (nd lf k lf)
  | nd l x r => bif Nat.blt k x then (match ins k l with | some l' => some (nd l' x r) | none => none) else bif Nat.blt x k then (match ins k r with | some r' => some (nd l x r') | none => none) else none
theorem blt_t {a b : Nat} (h : Nat.blt a b = true) : a < b := Nat.le_of_ble_eq_true h
theorem blt_f {a b : Nat} (h : Nat.blt a b = false) : ¬ a < b := fun q => by rw [show Nat.blt a b = true from Nat.ble_eq_true_of_le q] at h; cases h
theorem ins_find {k : Nat} : ∀ {t t' : Tr}, ins k t = some t' → find k t = false ∧ ∀ j, find j t' = (decide (j = k) || find j t)
  | lf, t', h => by
    cases h
    refine ⟨rfl, fun j => ?_⟩
    show (bif Nat.blt j k then false else bif Nat.blt k j then false else true) = _
    rw [show find j lf = false from rfl, Bool.or_false]
    cases h1 : Nat.blt j k with
    | true => have := blt_t h1; rw [decide_eq_false (by omega)]; rfl
    | false =>
      cases h2 : Nat.blt k j with
      | true => have := blt_t h2; rw [decide_eq_false (by omega)]; rfl
      | false => have := blt_f h1; have := blt_f h2; rw [decide_eq_true (by omega)]; rfl
  | nd l x r, t', h => by
    unfold ins at h
    cases h1 : Nat.blt k x with
    | true =>
      rw [h1, cond_true] at h
      split at h
      · rename_i l' hl
        cases h
        obtain ⟨a, b⟩ := ins_find hl
        refine ⟨by unfold find; rw [h1, cond_true]; exact a, fun j => ?_⟩
        have hk := blt_t h1
        unfold find
        cases h3 : Nat.blt j x with
        | true => rw [cond_true, cond_true]; exact b j
        | false =>
          have := blt_f h3
          rw [cond_false, cond_false, decide_eq_false (by omega), Bool.false_or]
      · cases h
    | false =>
      rw [h1, cond_false] at h
      cases h2 : Nat.blt x k with
      | true =>
        rw [h2, cond_true] at h
        split at h
        · rename_i r' hr
          cases h
          obtain ⟨a, b⟩ := ins_find hr
          refine ⟨by unfold find; rw [h1, cond_false, h2, cond_true]; exact a, fun j => ?_⟩
          have hk := blt_t h2
          unfold find
          cases h3 : Nat.blt j x with
          | true =>
            have := blt_t h3
            rw [cond_true, cond_true, decide_eq_false (by omega), Bool.false_or]
          | false =>
            rw [cond_false, cond_false]
            cases h4 : Nat.blt x j with
            | true => rw [cond_true, cond_true]; exact b j
            | false =>
              have := blt_f h4
              rw [cond_false, cond_false, decide_eq_false (by omega), Bool.false_or]
        · cases h
      | false => rw [h2, cond_false] at h; cases h
def insAll : List Nat → Tr → Option Tr
  | [], t => some t
  | k :: ks, t => match ins k t with
    | some t' => insAll ks t'
    | none => none
theorem insAll_nodup : ∀ {ks : List Nat} {t t' : Tr}, insAll ks t = some t' → ks.Nodup ∧ ∀ k ∈ ks, find k t = false
  | [], _, _, _ => ⟨List.nodup_nil, fun _ h => nomatch h⟩
  | k :: ks, t, t', h => by
    unfold insAll at h
    split at h
    · rename_i t1 h1
      obtain ⟨a, b⟩ := ins_find h1
      obtain ⟨c, d⟩ := insAll_nodup h
      refine ⟨List.nodup_cons.mpr ⟨fun m => ?_, c⟩, fun j hj => ?_⟩
      · have := d k m
        rw [b k] at this
        simp at this
      · rcases List.mem_cons.mp hj with rfl | hj
        · exact a
        · have := d j hj
          rw [b j] at this
          simp at this
          exact this.2
    · cases h
end Tr
def cellH (a : Option Int) : Int := match a with
  | none => reduceHash 0xFCA86420
  | some i => hashInt i
def tupH (hs : List Int) : Int := reduceHash (Builtin.Tuple.tupleHashOf hs)
/-- all lines of n cells without a sign twice -/
def lines : Nat → Nat → List (List (Option Int))
  | _, 0 => [[]]
  | n, k + 1 => (lines n k).flatMap fun l => (none :: (((List.range n).filter fun (s : Nat) => !l.any fun c => c == some (s : Int)).map fun (s : Nat) => some (s : Int))).map fun c => l ++ [c]
/-- evaluated first -/
def frc {α : Type} (k : Nat) (f : Nat → α) : α := Nat.rec (f 0) (fun n _ => f (Nat.succ n)) k
theorem frc_eq {α : Type} (k : Nat) (f : Nat → α) : frc k f = f k := by cases k <;> rfl
def lane (h : Int) : Nat := (h % 18446744073709551616).toNat * 14029467366897019727
def stepN (acc l : Nat) : Nat := frc (Nat.mod (Nat.add acc l) 18446744073709551616) fun x => Nat.mod (Nat.mul (Nat.add (Nat.mod (Nat.mul x 2147483648) 18446744073709551616) (Nat.div x 8589934592)) 11400714785074694791) 18446744073709551616
def finN (n acc : Nat) : Nat := frc (Nat.mod (Nat.add acc (Nat.xor n (Nat.xor 2870177450012600261 3527539))) 18446744073709551616) fun x => bif Nat.beq x 18446744073709551615 then 1546275796 else x
noncomputable def ins' (k : Nat) (t : Tr) : Option Tr := Tr.rec (motive := fun _ => Option Tr) (some (.nd .lf k .lf)) (fun l x r il ir => Bool.rec (Bool.rec none (Option.rec none (fun r' => some (.nd l x r')) ir) (Nat.blt x k)) (Option.rec none (fun l' => some (.nd l' x r)) il) (Nat.blt k x)) t
noncomputable def goD (n : Nat) (ls : List Nat) (d : Nat) : Nat → Tr → Option Tr := Nat.rec (motive := fun _ => Nat → Tr → Option Tr) (fun acc t => frc (finN n acc) fun k => ins' k t)
  (fun _ ih acc => List.rec (motive := fun _ => Tr → Option Tr) (fun t => some t) (fun l _ ihl t => frc (stepN acc l) fun acc' => Option.rec none (fun t' => ihl t') (ih acc' t)) ls) d
def lanes (n : Nat) : List Nat := (lines n n).map fun l => lane (tupH (l.map cellH))
def frcL {α : Type} : List Nat → (List Nat → α) → α
  | [], f => f []
  | k :: ks, f => frc k fun k' => frcL ks fun ks' => f (k' :: ks')
theorem frcL_eq {α : Type} : ∀ (ks : List Nat) (f : List Nat → α), frcL ks f = f ks
  | [], _ => rfl
  | k :: ks, f => by unfold frcL; rw [frc_eq, frcL_eq ks]
theorem ok1 : (frcL (lanes 1) fun ls => (goD 1 ls 1 2870177450012600261 .lf).isSome) = true := by decide +kernel
theorem ok2 : (frcL (lanes 2) fun ls => (goD 2 ls 2 2870177450012600261 .lf).isSome) = true := by decide +kernel
theorem ok3 : (frcL (lanes 3) fun ls => (goD 3 ls 3 2870177450012600261 .lf).isSome) = true := by decide +kernel
end Dn
/-! DnH: no two boards hash alike. -/
namespace Dn
open PySem L2
theorem ins'_eq (k : Nat) : ∀ t : Tr, ins' k t = Tr.ins k t
  | .lf => rfl
  | .nd l x r => by
    have h1 := ins'_eq k l
    have h2 := ins'_eq k r
    show Bool.rec (motive := fun _ => Option Tr) (Bool.rec (motive := fun _ => Option Tr) none (Option.rec (motive := fun _ => Option Tr) none (fun r' => some (.nd l x r')) (ins' k r)) (Nat.blt x k)) (Option.rec (motive := fun _ => Option Tr) none (fun l' => some (.nd l' x r)) (ins' k l)) (Nat.blt k x) = _
    rw [h1, h2, Tr.ins]
    generalize Tr.ins k l = a
    generalize Tr.ins k r = b
    cases Nat.blt k x <;> cases Nat.blt x k <;> cases a <;> cases b <;> rfl
def keysN (n : Nat) (ls : List Nat) : Nat → Nat → List Nat
  | 0, acc => [finN n acc]
  | d + 1, acc => ls.flatMap fun l => keysN n ls d (stepN acc l)
theorem insAll_app : ∀ (xs ys : List Nat) (t : Tr), Tr.insAll (xs ++ ys) t = (Tr.insAll xs t).bind (Tr.insAll ys)
  | [], ys, t => rfl
  | x :: xs, ys, t => by
    rw [List.cons_append]
    unfold Tr.insAll
    cases Tr.ins x t with
    | none => rfl
    | some t' => exact insAll_app xs ys t'
theorem goD_eq (n : Nat) (ls : List Nat) : ∀ (d acc : Nat) (t : Tr), goD n ls d acc t = Tr.insAll (keysN n ls d acc) t
  | 0, acc, t => by
    show frc (finN n acc) (fun k => ins' k t) = _
    rw [frc_eq, ins'_eq]
    unfold keysN Tr.insAll
    cases Tr.ins (finN n acc) t <;> rfl
  | d + 1, acc, t => by
    have ih := goD_eq n ls d
    have key : ∀ (ms : List Nat) (t : Tr), List.rec (motive := fun _ => Tr → Option Tr) (fun t => some t) (fun l _ ihl t => frc (stepN acc l) fun acc' => Option.rec none (fun t' => ihl t') (goD n ls d acc' t)) ms t = Tr.insAll (ms.flatMap fun l => keysN n ls d (stepN acc l)) t := fun ms => by
      induction ms with
      | nil => intro t; rfl
      | cons m ms im =>
        intro t
        rw [List.flatMap_cons, insAll_app, ← ih]
        show frc (stepN acc m) _ = _
        rw [frc_eq]
        cases goD n ls d (stepN acc m) t with
        | none => rfl
        | some t' => exact im t'
    exact key ls t
theorem keys_nodup {n : Nat} (h : (frcL (lanes n) fun ls => (goD n ls n 2870177450012600261 .lf).isSome) = true) : (keysN n (lanes n) n 2870177450012600261).Nodup := by
  rw [frcL_eq, goD_eq] at h
  obtain ⟨t, ht⟩ := Option.isSome_iff_exists.mp h
  exact (Tr.insAll_nodup ht).1
theorem flat_inj {α β : Type} {F : α → List β} : ∀ {xs : List α}, (xs.flatMap F).Nodup → ∀ {x y : α} {v : β}, x ∈ xs → y ∈ xs → v ∈ F x → v ∈ F y → x = y
  | [], _, _, _, _, h, _, _, _ => nomatch h
  | z :: xs, nd, x, y, v, hx, hy, vx, vy => by
    rw [List.flatMap_cons, List.nodup_append] at nd
    obtain ⟨n1, n2, n3⟩ := nd
    rcases List.mem_cons.mp hx with ex | hx'
    · rcases List.mem_cons.mp hy with ey | hy'
      · rw [ex, ey]
      · subst ex
        exact absurd rfl (n3 v vx v (List.mem_flatMap.mpr ⟨y, hy', vy⟩))
    · rcases List.mem_cons.mp hy with ey | hy'
      · subst ey
        exact absurd rfl (n3 v vy v (List.mem_flatMap.mpr ⟨x, hx', vx⟩))
      · exact flat_inj n2 hx' hy' vx vy
theorem flat_nd {α β : Type} {F : α → List β} : ∀ {xs : List α}, (xs.flatMap F).Nodup → ∀ x ∈ xs, (F x).Nodup
  | [], _, _, h => nomatch h
  | z :: xs, nd, x, hx => by
    rw [List.flatMap_cons, List.nodup_append] at nd
    rcases List.mem_cons.mp hx with rfl | hx
    · exact nd.1
    · exact flat_nd nd.2.1 x hx
/-- from all lanes the one key -/
theorem mem_keys {n : Nat} {ls : List Nat} : ∀ {d : Nat} {acc : Nat} {v : List Nat}, v.length = d → (∀ x ∈ v, x ∈ ls) → finN n (v.foldl stepN acc) ∈ keysN n ls d acc
  | 0, acc, [], _, _ => List.mem_singleton.mpr rfl
  | d + 1, acc, x :: v, hl, hm => List.mem_flatMap.mpr ⟨x, hm x List.mem_cons_self, mem_keys (v := v) (Nat.succ.inj hl) fun y hy => hm y (List.mem_cons_of_mem _ hy)⟩
theorem keys_inj {n : Nat} {ls : List Nat} : ∀ {d : Nat} {acc : Nat}, (keysN n ls d acc).Nodup → ∀ {v u : List Nat}, v.length = d → u.length = d → (∀ x ∈ v, x ∈ ls) → (∀ x ∈ u, x ∈ ls) → finN n (v.foldl stepN acc) = finN n (u.foldl stepN acc) → v = u
  | 0, _, _, [], [], _, _, _, _, _ => rfl
  | d + 1, acc, nd, x :: v, y :: u, hv, hu, mv, mu, e => by
    have m1 : finN n (v.foldl stepN (stepN acc x)) ∈ keysN n ls d (stepN acc x) := mem_keys (Nat.succ.inj hv) fun z hz => mv z (List.mem_cons_of_mem _ hz)
    have m2 : finN n (u.foldl stepN (stepN acc y)) ∈ keysN n ls d (stepN acc y) := mem_keys (Nat.succ.inj hu) fun z hz => mu z (List.mem_cons_of_mem _ hz)
    have e' : finN n (v.foldl stepN (stepN acc x)) = finN n (u.foldl stepN (stepN acc y)) := e
    rw [← e'] at m2
    obtain rfl := flat_inj nd (mv x List.mem_cons_self) (mu y List.mem_cons_self) m1 m2
    congr 1
    exact keys_inj (flat_nd nd x (mv x List.mem_cons_self)) (Nat.succ.inj hv) (Nat.succ.inj hu) (fun z hz => mv z (List.mem_cons_of_mem _ hz)) (fun z hz => mu z (List.mem_cons_of_mem _ hz)) e'
theorem stepN_eq (acc : Nat) (h : Int) : stepN acc (lane h) = (let a := (acc + (h % (2 ^ 64 : Nat)).toNat * 14029467366897019727) % 2 ^ 64; let a := (a * 2 ^ 31) % 2 ^ 64 + a / 2 ^ 33; (a * 11400714785074694791) % 2 ^ 64) := by
  unfold stepN lane
  rw [frc_eq]
  rfl
theorem red_fin (x : Nat) (h : x < 18446744073709551616) : (reduceHash (if (x == 2 ^ 64 - 1) = true then 1546275796 else if x < 2 ^ 63 then (x : Int) else (x : Int) - (2 ^ 64 : Nat)) % 18446744073709551616).toNat = bif Nat.beq x 18446744073709551615 then 1546275796 else x := by
  by_cases e : x = 18446744073709551615
  · subst e
    decide +kernel
  · have e1 : (x == 2 ^ 64 - 1) = false := by
      rw [beq_eq_false_iff_ne]
      exact e
    have e2 : Nat.beq x 18446744073709551615 = false := by
      cases q : Nat.beq x 18446744073709551615 with
      | false => rfl
      | true => exact absurd (Nat.eq_of_beq_eq_true q) e
    rw [e1, e2, if_neg Bool.false_ne_true, cond_false]
    by_cases l : x < 2 ^ 63
    · rw [if_pos l]
      unfold reduceHash
      have c : (decide (-(2 ^ 63 : Int) ≤ (x : Int)) && decide ((x : Int) < 2 ^ 63)) = true := by simp; omega
      rw [if_pos c]
      have d : ((x : Int) == -1) = false := by rw [beq_eq_false_iff_ne]; omega
      rw [d, if_neg Bool.false_ne_true]
      omega
    · rw [if_neg l]
      unfold reduceHash
      have c : (decide (-(2 ^ 63 : Int) ≤ (x : Int) - ((2 ^ 64 : Nat) : Int)) && decide ((x : Int) - ((2 ^ 64 : Nat) : Int) < 2 ^ 63)) = true := by simp; omega
      rw [if_pos c]
      have d : ((x : Int) - ((2 ^ 64 : Nat) : Int) == -1) = false := by rw [beq_eq_false_iff_ne]; omega
      rw [d, if_neg Bool.false_ne_true]
      omega
theorem tupH_key (hs : List Int) : (tupH hs % 18446744073709551616).toNat = finN hs.length ((hs.map lane).foldl stepN 2870177450012600261) := by
  have key : ∀ (hs : List Int) (acc : Nat), (hs.map lane).foldl stepN acc = hs.foldl (fun acc h => (let a := (acc + (h % ((2 ^ 64 : Nat) : Int)).toNat * 14029467366897019727) % 2 ^ 64; let a := (a * 2 ^ 31) % 2 ^ 64 + a / 2 ^ 33; (a * 11400714785074694791) % 2 ^ 64)) acc := fun hs => by
    induction hs with
    | nil => intro acc; rfl
    | cons h hs ih => intro acc; rw [List.map_cons, List.foldl_cons, List.foldl_cons, ih, stepN_eq]
  rw [key hs]
  unfold finN
  rw [frc_eq]
  exact red_fin _ (Nat.mod_lt _ (by decide))
/-! ### boards -/
theorem hash_cell (w : World) (a : Option Int) : NestedKey.hash w (keyC a) = cellH a := by cases a <;> rfl
theorem hashes_map {α : Type} (w : World) (g : α → NestedKey) (h : α → Int) : ∀ xs : List α, (∀ x, NestedKey.hash w (g x) = h x) → NestedKey.hashes w (xs.map g) = xs.map h
  | [], _ => rfl
  | x :: xs, e => by
    rw [List.map_cons, List.map_cons]
    simp only [NestedKey.hashes]
    rw [e, hashes_map w g h xs e]
def rowH (n : Nat) (l : Nat → Option Int) : Int := tupH ((List.range n).map fun c => cellH (l c))
theorem hash_g (w : World) (n : Nat) (f : Gr) : hashD w (gD n f) = tupH ((List.range n).map fun r => rowH n (f r)) := by
  unfold hashD
  rw [key_g]
  show NestedKey.hash w (keyG n f) = _
  unfold keyG
  simp only [NestedKey.hash]
  rw [hashes_map w (fun r => NestedKey.tup ((List.range n).map fun c => keyC (f r c))) (fun r => rowH n (f r)) _ fun r => ?_]
  · rfl
  · simp only [NestedKey.hash]
    rw [hashes_map w (fun c => keyC (f r c)) (fun c => cellH (f r c)) _ fun c => hash_cell w _]
    rfl
theorem mem_lines {n : Nat} {l : Nat → Option Int} (hr : ∀ c s, c < n → l c = some s → 0 ≤ s ∧ s < n) (fr : lnFree n l = true) : ∀ k, k ≤ n → (List.range k).map l ∈ lines n k
  | 0, _ => List.mem_singleton.mpr rfl
  | k + 1, hk => by
    have ih := mem_lines hr fr k (by omega)
    rw [List.range_succ, List.map_append]
    refine List.mem_flatMap.mpr ⟨_, ih, List.mem_map.mpr ⟨l k, ?_, rfl⟩⟩
    cases e : l k with
    | none => exact List.mem_cons_self
    | some s =>
      obtain ⟨s0, s1⟩ := hr k s (by omega) e
      refine List.mem_cons_of_mem _ (List.mem_map.mpr ⟨s.toNat, ?_, by rw [Int.toNat_of_nonneg s0]⟩)
      refine List.mem_filter.mpr ⟨List.mem_range.mpr (by omega), ?_⟩
      rw [Int.toNat_of_nonneg s0, Bool.not_eq_true', List.any_eq_false]
      intro c hc q
      obtain ⟨j, hj, rfl⟩ := List.mem_map.mp hc
      have hj := List.mem_range.mp hj
      have q : l j = some s := by simpa using q
      have := lnFree_iff.mp fr k j (by omega) (by omega) (by rw [e]; exact fun z => nomatch z) (q.trans e.symm)
      omega
theorem lane_inj {h h' : Int} (e : tupH [h] = tupH [h']) : True := trivial
theorem lanes_nodup {n : Nat} (hn : 0 < n) (h : (keysN n (lanes n) n 2870177450012600261).Nodup) : (lanes n).Nodup := by
  cases n with
  | zero => cases hn
  | succ n =>
    have key : ∀ (xs : List Nat) (F : Nat → List Nat), (∀ x, F x ≠ []) → (xs.flatMap F).Nodup → xs.Nodup := fun xs F ne => by
      induction xs with
      | nil => intro _; exact List.nodup_nil
      | cons x xs ih =>
        intro nd
        rw [List.flatMap_cons, List.nodup_append] at nd
        refine List.nodup_cons.mpr ⟨fun m => ?_, ih nd.2.1⟩
        obtain ⟨v, vs, e⟩ := List.exists_cons_of_ne_nil (ne x)
        have hv : v ∈ F x := by rw [e]; exact List.mem_cons_self
        exact nd.2.2 v hv v (List.mem_flatMap.mpr ⟨x, m, hv⟩) rfl
    have ne : ∀ (ls : List Nat) (d acc : Nat), ls ≠ [] → keysN (n + 1) ls d acc ≠ [] := fun ls d => by
      induction d with
      | zero => intro acc _ z; cases z
      | succ d ih =>
        intro acc hl z
        obtain ⟨v, vs, e⟩ := List.exists_cons_of_ne_nil hl
        unfold keysN at z
        rw [List.flatMap_eq_nil_iff] at z
        exact ih _ hl (z v (by rw [e]; exact List.mem_cons_self))
    by_cases hl : lanes (n + 1) = []
    · rw [hl]; exact List.nodup_nil
    · exact key _ _ (fun x => ne _ _ _ hl) h
theorem map_inj_nodup {α β : Type} {f : α → β} : ∀ {xs : List α}, (xs.map f).Nodup → ∀ {x y : α}, x ∈ xs → y ∈ xs → f x = f y → x = y
  | [], _, _, _, h, _, _ => nomatch h
  | z :: xs, nd, x, y, hx, hy, e => by
    rw [List.map_cons, List.nodup_cons] at nd
    rcases List.mem_cons.mp hx with ex | hx'
    · rcases List.mem_cons.mp hy with ey | hy'
      · rw [ex, ey]
      · subst ex
        exact absurd (List.mem_map.mpr ⟨y, hy', e.symm⟩) nd.1
    · rcases List.mem_cons.mp hy with ey | hy'
      · subst ey
        exact absurd (List.mem_map.mpr ⟨x, hx', e⟩) nd.1
      · exact map_inj_nodup nd.2 hx' hy' e
theorem keysN_1 : (keysN 1 (lanes 1) 1 2870177450012600261).Nodup := keys_nodup (n := 1) ok1
theorem keysN_2 : (keysN 2 (lanes 2) 2 2870177450012600261).Nodup := keys_nodup (n := 2) ok2
theorem keysN_3 : (keysN 3 (lanes 3) 3 2870177450012600261).Nodup := keys_nodup (n := 3) ok3
theorem keysN_a {n : Nat} (h : n = 1) : (keysN n (lanes n) n 2870177450012600261).Nodup := by subst h; exact keysN_1
theorem keysN_b {n : Nat} (h : n = 2) : (keysN n (lanes n) n 2870177450012600261).Nodup := by subst h; exact keysN_2
theorem keysN_c {n : Nat} (h : n = 3) : (keysN n (lanes n) n 2870177450012600261).Nodup := by subst h; exact keysN_3
theorem keysN_ok {n : Nat} (h1 : 1 ≤ n) (h3 : n ≤ 3) : (keysN n (lanes n) n 2870177450012600261).Nodup :=
  if a : n = 1 then keysN_a a else if b : n = 2 then keysN_b b else keysN_c (by omega)
theorem tupH_same {n : Nat} {hs ks : List Int} (h1 : hs.length = n) (h2 : ks.length = n) (e : tupH hs = tupH ks) : finN n ((hs.map lane).foldl stepN 2870177450012600261) = finN n ((ks.map lane).foldl stepN 2870177450012600261) := by
  have e1 := tupH_key hs
  have e2 := tupH_key ks
  rw [h1] at e1
  rw [h2] at e2
  exact e1.symm.trans ((congrArg (fun i : Int => (i % 18446744073709551616).toNat) e).trans e2)
theorem row_lane {n : Nat} (l : Nat → Option Int) : lane (rowH n l) = lane (tupH (((List.range n).map l).map cellH)) := by
  unfold rowH
  simp only [List.map_map, Function.comp_def]
theorem hash_inj (w : World) {n : Nat} {f g : Gr} (bf : Bd n f) (bg : Bd n g) (e : hashD w (gD n f) = hashD w (gD n g)) : gD n f = gD n g := by
  have nd := keysN_ok bf.lo bf.hi
  rw [hash_g, hash_g] at e
  have e1 := tupH_same (n := n) (by rw [List.length_map, List.length_range]) (by rw [List.length_map, List.length_range]) e
  have row : ∀ {h : Gr}, Bd n h → ∀ r, r < n → (List.range n).map (h r) ∈ lines n n := fun {h} b r hr => mem_lines (fun c s hc q => b.rng r c s hr hc q) ((grFree_iff.mp b.fre r hr).1) n (Nat.le_refl _)
  have lan : ∀ {h : Gr}, Bd n h → ∀ r, r < n → lane (rowH n (h r)) ∈ lanes n := fun {h} b r hr => List.mem_map.mpr ⟨_, row b r hr, (row_lane _).symm⟩
  have mem : ∀ {h : Gr}, Bd n h → ∀ x ∈ ((List.range n).map fun r => rowH n (h r)).map lane, x ∈ lanes n := fun {h} b x hx => by
    obtain ⟨y, hy, rfl⟩ := List.mem_map.mp hx
    obtain ⟨r, hr, rfl⟩ := List.mem_map.mp hy
    exact lan b r (List.mem_range.mp hr)
  have ev := keys_inj nd (by rw [List.length_map, List.length_map, List.length_range]) (by rw [List.length_map, List.length_map, List.length_range]) (mem bf) (mem bg) e1
  refine gD_congr fun r c hr hc => ?_
  simp only [List.map_map, Function.comp_def] at ev
  have er := map_range_inj ev r hr
  rw [row_lane, row_lane] at er
  have el := map_inj_nodup (lanes_nodup bf.lo nd) (row bf r hr) (row bg r hr) er
  exact map_range_inj el c hc
end Dn
/-! DnG2: the order of all boards that can come, by layers and by a queue. -/
namespace Dn
open PySem L2
/-- no key twice -/
def KN (es : List (D × D)) : Prop := (es.map fun e => keyD e.1).Nodup
theorem putK_keys (es : List (D × D)) (k v : D) : (putK es k v).map (fun e => keyD e.1) = if (getK es k).isSome then es.map (fun e => keyD e.1) else es.map (fun e => keyD e.1) ++ [keyD k] := by
  unfold putK
  split
  · rw [List.map_map]
    refine List.map_congr_left fun e _ => ?_
    simp only [Function.comp]
    split <;> rfl
  · rw [List.map_append]
    rfl
theorem getK_keys {es : List (D × D)} {k : D} : (getK es k).isSome = true ↔ keyD k ∈ es.map fun e => keyD e.1 := by
  induction es with
  | nil => simp [getK_nil]
  | cons e es ih =>
    rw [getK_cons, List.map_cons, List.mem_cons]
    by_cases h : keyD e.1 = keyD k
    · simp [h]
    · rw [if_neg h, ih]
      constructor
      · exact .inr
      · rintro (q | q)
        · exact absurd q.symm h
        · exact q
theorem KN.put {es : List (D × D)} (h : KN es) (k v : D) : KN (putK es k v) := by
  unfold KN
  rw [putK_keys]
  split
  · exact h
  · rename_i q
    refine List.nodup_append.mpr ⟨h, by simp, fun a ha b hb => ?_⟩
    rw [List.mem_singleton] at hb
    subst hb
    intro e
    subst e
    exact q (getK_keys.mpr ha)
theorem KN.putAll {ps : List (D × D)} : ∀ {es : List (D × D)}, KN es → KN (putAll es ps) := by
  induction ps with
  | nil => exact fun h => h
  | cons p ps ih => exact fun h => ih (h.put p.1 p.2)
theorem KN.nil : KN [] := List.nodup_nil
/-- the keys of what is put -/
theorem mem_putAll {ps : List (D × D)} : ∀ {es : List (D × D)} {x : D}, x ∈ (putAll es ps).map (·.1) → x ∈ es.map (·.1) ∨ x ∈ ps.map (·.1) := by
  induction ps with
  | nil => exact fun h => .inl h
  | cons p ps ih =>
    intro es x h
    rcases ih h with h | h
    · rcases keys_put _ _ _ _ h with h | h
      · exact .inl h
      · exact .inr (by rw [h, List.map_cons]; exact List.mem_cons_self)
    · exact .inr (by rw [List.map_cons]; exact List.mem_cons_of_mem _ h)
theorem putAll_old {ps : List (D × D)} : ∀ {es : List (D × D)} {x : D}, x ∈ es.map (·.1) → x ∈ (putAll es ps).map (·.1) := by
  induction ps with
  | nil => exact fun h => h
  | cons p ps ih => exact fun h => ih (keys_put_old _ _ _ _ h)
/-- keys that their data tell apart -/
def Inj (S : D → Prop) : Prop := ∀ a b, S a → S b → keyD a = keyD b → a = b
theorem putK_new {S : D → Prop} (inj : Inj S) {es : List (D × D)} (hs : ∀ x ∈ es.map (·.1), S x) {k v : D} (hk : S k) : k ∈ (putK es k v).map (·.1) := by
  unfold putK
  split
  · rename_i q
    obtain ⟨e, he, ek⟩ := getK_some q
    have := inj _ _ (hs _ (List.mem_map.mpr ⟨e, he, rfl⟩)) hk ek
    rw [List.map_map]
    refine List.mem_map.mpr ⟨e, he, ?_⟩
    simp only [Function.comp]
    split <;> exact this
  · rw [List.map_append]
    exact List.mem_append_right _ (by simp)
theorem putAll_new {S : D → Prop} (inj : Inj S) {ps : List (D × D)} : ∀ {es : List (D × D)}, (∀ x ∈ es.map (·.1), S x) → (∀ x ∈ ps.map (·.1), S x) → ∀ x ∈ ps.map (·.1), x ∈ (putAll es ps).map (·.1) := by
  induction ps with
  | nil => exact fun _ _ x h => nomatch h
  | cons p ps ih =>
    intro es h1 h2 x hx
    have hp : S p.1 := h2 _ (by rw [List.map_cons]; exact List.mem_cons_self)
    have h1' : ∀ x ∈ (putK es p.1 p.2).map (·.1), S x := fun y hy => by
      rcases keys_put _ _ _ _ hy with z | z
      · exact h1 y z
      · rw [z]; exact hp
    rw [List.map_cons] at hx
    rcases List.mem_cons.mp hx with e | hx
    · rw [e]
      show p.1 ∈ (putAll (putK es p.1 p.2) ps).map (·.1)
      exact putAll_old (putK_new inj h1 hp)
    · exact ih h1' (fun y hy => h2 y (by rw [List.map_cons]; exact List.mem_cons_of_mem _ hy)) x hx
theorem can_inj (n : Nat) : Inj (Can n) := fun a b ha hb e => by
  rw [ha.e, hb.e] at e
  have := key_g_inj e
  rw [← ha.e, ← hb.e] at this
  exact this
theorem can_hash {n : Nat} {es : List (D × D)} (k : KN es) (h : ∀ x ∈ es.map (·.1), Can n x) : HashOk es := fun w => by
  induction es with
  | nil => exact List.nodup_nil
  | cons e es ih =>
    unfold KN at k
    rw [List.map_cons, List.nodup_cons] at k
    rw [List.map_cons, List.nodup_cons]
    refine ⟨fun m => ?_, ih k.2 fun x hx => h x (by rw [List.map_cons]; exact List.mem_cons_of_mem _ hx)⟩
    obtain ⟨e2, he2, q⟩ := List.mem_map.mp m
    have c1 := h e.1 (by rw [List.map_cons]; exact List.mem_cons_self)
    have c2 := h e2.1 (by rw [List.map_cons]; exact List.mem_cons_of_mem _ (List.mem_map.mpr ⟨e2, he2, rfl⟩))
    rw [c1.e, c2.e] at q
    have := hash_inj w c2.b c1.b q
    rw [← c1.e, ← c2.e] at this
    exact k.1 (List.mem_map.mpr ⟨e2, he2, by rw [this]⟩)
theorem can_tup {n : Nat} {es : List (D × D)} (h : ∀ x ∈ es.map (·.1), Can n x) : tupK es = true := by
  unfold tupK
  rw [List.all_eq_true]
  intro e he
  rw [(h e.1 (List.mem_map.mpr ⟨e, he, rfl⟩)).e]
  rfl
theorem can_keysOk {n : Nat} {es : List (D × D)} (h : ∀ x ∈ es.map (·.1), Can n x) : keysOk es = true := by
  unfold keysOk
  rw [List.all_eq_true]
  intro e he
  rw [(h e.1 (List.mem_map.mpr ⟨e, he, rfl⟩)).e]
  exact fit_g rfl _ _
/-! ### by layers -/
/-- what one board adds -/
def addL (n : Nat) (d : D) : List (D × D) := putAll [] ((sucs n d).map fun x => (x, .bool true))
def nextL (n : Nat) (ks : List D) : List (D × D) := ks.foldl (fun acc d => putAll acc (addL n d)) []
theorem addL_mem {n : Nat} {d x : D} (h : x ∈ (addL n d).map (·.1)) : x ∈ sucs n d := by
  rcases mem_putAll h with z | z
  · cases z
  · rw [List.map_map] at z
    obtain ⟨y, hy, rfl⟩ := List.mem_map.mp z
    exact hy
theorem addL_can {n : Nat} {d : D} (c : Can n d) : ∀ x ∈ (addL n d).map (·.1), Can n x := fun x hx => (sucs_can c (addL_mem hx)).1
theorem addL_all {n : Nat} {d x : D} (c : Can n d) (h : x ∈ sucs n d) : x ∈ (addL n d).map (·.1) := by
  refine putAll_new (can_inj n) (fun _ z => by cases z) (fun y hy => ?_) x ?_
  · rw [List.map_map] at hy
    obtain ⟨z, hz, rfl⟩ := List.mem_map.mp hy
    exact (sucs_can c hz).1
  · rw [List.map_map]
    exact List.mem_map.mpr ⟨x, h, rfl⟩
theorem addL_hash {n : Nat} {d : D} (c : Can n d) : HashOk (addL n d) := can_hash (KN.putAll KN.nil) (addL_can c)
theorem addL_len {n : Nat} (h3 : n ≤ 3) (d : D) : (addL n d).length ≤ (sucs n d).length := by
  have := putAll_len ((sucs n d).map fun x => (x, PyData.bool true)) []
  rw [List.length_map] at this
  unfold addL
  simpa using this
theorem next_mem {n : Nat} : ∀ {ks : List D} {acc : List (D × D)} {x : D}, x ∈ (ks.foldl (fun acc d => putAll acc (addL n d)) acc).map (·.1) → x ∈ acc.map (·.1) ∨ ∃ d ∈ ks, x ∈ sucs n d
  | [], acc, x, h => .inl h
  | d :: ks, acc, x, h => by
    rcases next_mem (ks := ks) h with z | ⟨e, he, z⟩
    · rcases mem_putAll z with z | z
      · exact .inl z
      · exact .inr ⟨d, List.mem_cons_self, addL_mem z⟩
    · exact .inr ⟨e, List.mem_cons_of_mem _ he, z⟩
theorem next_old {n : Nat} : ∀ {ks : List D} {acc : List (D × D)} {x : D}, x ∈ acc.map (·.1) → x ∈ (ks.foldl (fun acc d => putAll acc (addL n d)) acc).map (·.1)
  | [], _, _, h => h
  | d :: ks, acc, x, h => next_old (ks := ks) (putAll_old h)
theorem next_all {n : Nat} : ∀ {ks : List D} {acc : List (D × D)}, (∀ d ∈ ks, Can n d) → (∀ x ∈ acc.map (·.1), Can n x) → ∀ d ∈ ks, ∀ x ∈ sucs n d, x ∈ (ks.foldl (fun acc d => putAll acc (addL n d)) acc).map (·.1)
  | [], _, _, _, _, h, _, _ => nomatch h
  | e :: ks, acc, hk, ha, d, hd, x, hx => by
    have ce := hk e List.mem_cons_self
    have ha' : ∀ x ∈ (putAll acc (addL n e)).map (·.1), Can n x := fun y hy => by
      rcases mem_putAll hy with z | z
      · exact ha y z
      · exact addL_can ce y z
    rcases List.mem_cons.mp hd with rfl | hd
    · show x ∈ (ks.foldl (fun acc d => putAll acc (addL n d)) (putAll acc (addL n d))).map (·.1)
      exact next_old (putAll_new (can_inj n) ha (addL_can ce) x (addL_all ce hx))
    · exact next_all (ks := ks) (fun d hd => hk d (List.mem_cons_of_mem _ hd)) ha' d hd x hx
theorem next_len {n : Nat} {m : Nat} (h3 : n ≤ 3) : ∀ {ks : List D} {acc : List (D × D)}, (∀ d ∈ ks, Can n d ∧ (sucs n d).length ≤ m) → (ks.foldl (fun acc d => putAll acc (addL n d)) acc).length ≤ acc.length + m * ks.length
  | [], acc, _ => by simp
  | d :: ks, acc, h => by
    have ih := next_len h3 (ks := ks) (acc := putAll acc (addL n d)) fun d hd => h d (List.mem_cons_of_mem _ hd)
    have h1 := putAll_len (addL n d) acc
    have h2 := addL_len h3 d
    have h4 := (h d List.mem_cons_self).2
    rw [List.foldl_cons, List.length_cons]
    have : m * (ks.length + 1) = m * ks.length + m := Nat.mul_succ _ _
    omega
/-- the layers -/
def lay (n : Nat) (d0 : D) : Nat → List (D × D)
  | 0 => [(d0, .bool true)]
  | k + 1 => nextL n ((lay n d0 k).map (·.1))
section
variable {n : Nat} {d0 : D} (c0 : Can n d0)
include c0
theorem lay_can : ∀ (k : Nat), ∀ x ∈ (lay n d0 k).map (·.1), Can n x ∧ opD n x + k ≤ opD n d0
  | 0, x, h => by
    have : x = d0 := by simpa [lay] using h
    rw [this]
    exact ⟨c0, Nat.le_refl _⟩
  | k + 1, x, h => by
    rcases next_mem h with z | ⟨d, hd, z⟩
    · cases z
    · obtain ⟨c, o⟩ := lay_can k d hd
      obtain ⟨c2, o2⟩ := sucs_can c z
      exact ⟨c2, by omega⟩
theorem lay_suc (k : Nat) : ∀ d ∈ (lay n d0 k).map (·.1), ∀ x ∈ sucs n d, x ∈ (lay n d0 (k + 1)).map (·.1) := fun d hd x hx => next_all (fun e he => (lay_can c0 k e he).1) (fun _ z => by cases z) d hd x hx
theorem lay_end (k : Nat) (h : opD n d0 < k) : lay n d0 k = [] := by
  cases q : lay n d0 k with
  | nil => rfl
  | cons e r =>
    have := (lay_can c0 k e.1 (by rw [q, List.map_cons]; exact List.mem_cons_self)).2
    omega
theorem lay_len (k : Nat) : (lay n d0 k).length ≤ 27 ^ k := by
  induction k with
  | zero => exact Nat.le_refl _
  | succ k ih =>
    have h3 := c0.b.hi
    have := next_len (n := n) (m := 27) h3 (ks := (lay n d0 k).map (·.1)) (acc := []) fun d hd => ⟨(lay_can c0 k d hd).1, sucs_27 h3 d⟩
    rw [List.length_map] at this
    show (nextL n ((lay n d0 k).map (·.1))).length ≤ 27 ^ k * 27
    unfold nextL
    have h2 : 27 * (lay n d0 k).length ≤ 27 * 27 ^ k := Nat.mul_le_mul_left _ ih
    rw [Nat.mul_comm (27 ^ k)]
    simpa using Nat.le_trans this (by simpa using h2)
end
/-- first the layers with fewer open cells -/
def ordL (n : Nat) (d0 : D) (m : Nat) : List D := ((List.range m).map fun k => (lay n d0 k).map (·.1)).reverse.flatten
theorem ordL_succ (n : Nat) (d0 : D) (m : Nat) : ordL n d0 (m + 1) = (lay n d0 m).map (·.1) ++ ordL n d0 m := by
  unfold ordL
  rw [List.range_succ, List.map_append, List.reverse_append]
  rfl
theorem ordL_mem {n : Nat} {d0 x : D} : ∀ {m : Nat}, x ∈ ordL n d0 m ↔ ∃ k, k < m ∧ x ∈ (lay n d0 k).map (·.1) := by
  intro m
  induction m with
  | zero => constructor <;> intro h <;> first | (obtain ⟨k, h, _⟩ := h; omega) | cases h
  | succ m ih =>
    rw [ordL_succ, List.mem_append, ih]
    constructor
    · rintro (h | ⟨k, h1, h2⟩)
      · exact ⟨m, by omega, h⟩
      · exact ⟨k, by omega, h2⟩
    · rintro ⟨k, h1, h2⟩
      by_cases e : k = m
      · subst e
        exact .inl h2
      · exact .inr ⟨k, by omega, h2⟩
theorem ordL_ord {n : Nat} {d0 : D} (c0 : Can n d0) {m : Nat} (hm : 0 < m) (he : lay n d0 m = []) : Ord n d0 (ordL n d0 m) := by
  refine ⟨ordL_mem.mpr ⟨0, hm, by simp [lay]⟩, fun d hd => ?_, fun d hd => ?_, ?_⟩
  · obtain ⟨k, _, h⟩ := ordL_mem.mp hd
    exact (lay_can c0 k d h).1
  · obtain ⟨k, _, h⟩ := ordL_mem.mp hd
    have := (lay_can c0 k d h).2
    omega
  · have key : ∀ (j : Nat), j ≤ m → ∀ (ahead : List D), (∀ x ∈ (lay n d0 j).map (·.1), x ∈ ahead) → ∀ p d r, ordL n d0 j = p ++ d :: r → ∀ x ∈ sucs n d, x ∈ ahead ++ p := fun j => by
      induction j with
      | zero => intro _ _ _ p d r e; cases p <;> cases e
      | succ j ih =>
        intro hj ah hah p d r e x hx
        rw [ordL_succ] at e
        rcases List.append_eq_append_iff.mp e with ⟨q, e1, e2⟩ | ⟨q, e1, e2⟩
        · -- the split stands behind the first layer
          have := ih (by omega) (ah ++ (lay n d0 j).map (·.1)) (fun y hy => List.mem_append_right _ hy) q d r e2 x hx
          rw [e1, ← List.append_assoc]
          exact this
        · cases q with
          | nil =>
            rw [List.append_nil] at e1
            have := ih (by omega) (ah ++ p) (fun y hy => List.mem_append_right _ (by rw [← e1]; exact hy)) [] d r (by simpa using e2.symm) x hx
            simpa using this
          | cons y q =>
            rw [List.cons_append] at e2
            injection e2 with e3 e4
            subst e3
            have hd : d ∈ (lay n d0 j).map (·.1) := by rw [e1]; simp
            exact List.mem_append_left _ (hah x (lay_suc c0 j d hd x hx))
    intro p d r e x hx
    have := key m (Nat.le_refl _) [] (fun y hy => by rw [he] at hy; cases hy) p d r e x hx
    simpa using this
theorem ordL_len {n : Nat} {d0 : D} (c0 : Can n d0) : ∀ m, m ≤ 6 → (ordL n d0 m).length ≤ 14900788 := fun m hm => by
  have key : ∀ m, (ordL n d0 m).length ≤ ((List.range m).map fun k => 27 ^ k).sum := fun m => by
    induction m with
    | zero => exact Nat.le_refl _
    | succ m ih =>
      rw [ordL_succ, List.length_append, List.length_map, List.range_succ, List.map_append, List.sum_append]
      have := lay_len c0 m
      simp
      omega
  have h := key m
  have : ∀ m, m ≤ 6 → ((List.range m).map fun k => 27 ^ k).sum ≤ 14900788 := by decide
  exact Nat.le_trans h (this m hm)
/-! ### the least number missing -/
def mex (l : List Nat) : Nat := ((List.range (l.length + 1)).find? fun k => !l.contains k).getD 0
theorem mex_spec (l : List Nat) : mex l ∉ l ∧ ∀ k, k < mex l → k ∈ l := by
  unfold mex
  cases q : (List.range (l.length + 1)).find? fun k => !l.contains k with
  | none =>
    exfalso
    have h : ∀ k ∈ List.range (l.length + 1), k ∈ l := fun k hk => by
      have := List.find?_eq_none.mp q k hk
      simpa using this
    have := nodup_len List.nodup_range h
    rw [List.length_range] at this
    omega
  | some m =>
    rw [List.find?_range_eq_some] at q
    simp at q
    exact ⟨q.1, fun k hk => q.2.2 k hk⟩
/-- a dict of values -/
def valsD (v : D → D) (p : List D) : List (D × D) := p.foldl (fun es d => putK es d (v d)) []
theorem valsD_snoc (v : D → D) (p : List D) (x : D) : valsD v (p ++ [x]) = putK (valsD v p) x (v x) := by
  unfold valsD
  rw [List.foldl_append]
  rfl
theorem valsD_len (v : D → D) (p : List D) : (valsD v p).length ≤ p.length := by
  have key : ∀ (p : List D) (es : List (D × D)), (p.foldl (fun es d => putK es d (v d)) es).length ≤ es.length + p.length := fun p => by
    induction p with
    | nil => exact fun es => Nat.le_refl _
    | cons x p ih =>
      intro es
      have h1 := ih (putK es x (v x))
      have h2 : (putK es x (v x)).length ≤ es.length + 1 := by
        unfold putK
        split <;> simp
      rw [List.foldl_cons, List.length_cons]
      omega
  simpa [valsD] using key p []
theorem valsD_keys {v : D → D} {x : D} : ∀ {p : List D}, x ∈ (valsD v p).map (·.1) → x ∈ p := by
  have key : ∀ (p : List D) (es : List (D × D)), x ∈ (p.foldl (fun es d => putK es d (v d)) es).map (·.1) → x ∈ es.map (·.1) ∨ x ∈ p := fun p => by
    induction p with
    | nil => exact fun es h => .inl h
    | cons y p ih =>
      intro es h
      rcases ih _ h with h | h
      · rcases keys_put _ _ _ _ h with h | h
        · exact .inl h
        · exact .inr (by rw [h]; exact List.mem_cons_self)
      · exact .inr (List.mem_cons_of_mem _ h)
  intro p h
  rcases key p [] h with h | h
  · cases h
  · exact h
theorem valsD_get {v : D → D} {S : D → Prop} (inj : Inj S) {x : D} (sx : S x) : ∀ {p : List D}, (∀ y ∈ p, S y) → x ∈ p → getK (valsD v p) x = some (v x) := by
  have key : ∀ (p : List D) (es : List (D × D)), (∀ y ∈ p, S y) → (x ∈ p ∨ getK es x = some (v x)) → getK (p.foldl (fun es d => putK es d (v d)) es) x = some (v x) := fun p => by
    induction p with
    | nil =>
      intro es _ h
      rcases h with h | h
      · cases h
      · exact h
    | cons y p ih =>
      intro es hs h
      refine ih _ (fun z hz => hs z (List.mem_cons_of_mem _ hz)) ?_
      by_cases e : keyD y = keyD x
      · have := inj y x (hs y List.mem_cons_self) sx e
        subst this
        right
        rw [getK_put, if_pos rfl]
      · rw [getK_put, if_neg e]
        rcases h with h | h
        · rcases List.mem_cons.mp h with h | h
          · exact absurd (by rw [h]) e
          · exact .inl h
        · exact .inr h
  intro p hp hx
  exact key p [] hp (.inl hx)
/-- the heap of a board -/
def hv (n : Nat) : D → Nat := val n fun _ hs => mex hs
theorem hv_eq {n : Nat} {d : D} (c : Can n d) : hv n d = mex ((sucs n d).map (hv n)) := val_eq n _ c
theorem any_nat (l : List Nat) (k : Nat) : ((l.map fun (h : Nat) => PyData.int (h : Int)).any fun z => PyData.eqv z (.int k)) = l.contains k := by
  rw [List.any_map, List.contains_eq_any_beq]
  congr 1
  funext h
  show ((h : Int) == (k : Int)) = (k == h)
  by_cases e : h = k
  · subst e; simp
  · have : ¬ (h : Int) = k := by omega
    have e2 : ¬ k = h := fun z => e z.symm
    rw [beq_eq_false_iff_ne.mpr this, beq_eq_false_iff_ne.mpr e2]
theorem Ord.mem {n : Nat} {d0 : D} {L : List D} (o : Ord n d0 L) : ∀ x ∈ sucs n d0, x ∈ L := fun x hx => by
  obtain ⟨p, r, e⟩ := List.append_of_mem o.top
  have := o.ahead p d0 r e x hx
  rw [e]
  exact List.mem_append_left _ this
end Dn
/-! DnG3: all boards that can come, by a queue. -/
namespace Dn
open PySem L2
theorem sum_le1 {g h : Nat → Nat} {r : Nat} (hr : g r ≤ h r + 1) (hk : ∀ k, k ≠ r → g k ≤ h k) : ∀ {xs : List Nat}, xs.Nodup → (xs.map g).sum ≤ (xs.map h).sum + (if r ∈ xs then 1 else 0) := by
  intro xs
  induction xs with
  | nil => intro _; simp
  | cons x t ih =>
    intro nd
    rw [List.nodup_cons] at nd
    have ih := ih nd.2
    rw [List.map_cons, List.map_cons, List.sum_cons, List.sum_cons]
    by_cases e : x = r
    · subst e
      rw [if_neg nd.1] at ih
      rw [if_pos List.mem_cons_self]
      omega
    · have := hk x e
      by_cases m : r ∈ t
      · rw [if_pos m] at ih
        rw [if_pos (List.mem_cons_of_mem _ m)]
        omega
      · rw [if_neg m] at ih
        rw [if_neg (by rw [List.mem_cons]; rintro (q | q); exact e q.symm; exact m q)]
        omega
theorem opn_put1 {n r c : Nat} {f : Gr} {s : Int} : opn n f ≤ opn n (put3 f r c s) + 1 := by
  unfold opn
  have := sum_le1 (g := fun k => opr n (f k)) (h := fun k => opr n (put3 f r c s k)) (r := r) ?_ (fun k hk => ?_) (List.nodup_range (n := n))
  · refine Nat.le_trans this ?_
    split <;> omega
  · have : (c :: (List.range n).filter fun k => decide (put3 f r c s r k = none)).length = opr n (put3 f r c s r) + 1 := rfl
    rw [← this]
    refine nodup_len (List.Pairwise.filter _ List.nodup_range) fun k hk => ?_
    rw [List.mem_filter] at hk
    by_cases e : k = c
    · rw [e]; exact List.mem_cons_self
    · refine List.mem_cons_of_mem _ (List.mem_filter.mpr ⟨hk.1, ?_⟩)
      have := of_decide_eq_true hk.2
      exact decide_eq_true (by rw [put3_ne _ _ (fun z => e z.2)]; exact this)
  · rw [put3_row, if_neg hk]
    exact Nat.le_refl _
theorem sucs_op {n : Nat} {d d' : D} (m : d' ∈ sucs n d) : opD n d ≤ opD n d' + 1 := by
  obtain ⟨t, ht, rfl⟩ := List.mem_map.mp m
  obtain ⟨r, c, s, hr, hc, hs, e, ft, rfl⟩ := mem_puts.mp ht
  rw [aft_tr, opD_g]
  exact opn_put1
/-- has it been met -/
def metD (v : D) (L : List D) (y : D) : Bool := (getK (valsD (fun _ => v) L) y).isSome
def addQ (v : D) (L ys : List D) : List D := ys.foldl (fun L y => if metD v L y then L else L ++ [y]) L
theorem metD_iff {n : Nat} {v : D} {L : List D} {y : D} (hL : ∀ x ∈ L, Can n x) (cy : Can n y) : metD v L y = true ↔ y ∈ L := by
  unfold metD
  constructor
  · intro h
    obtain ⟨e, he, ek⟩ := getK_some h
    have m : e.1 ∈ L := valsD_keys (List.mem_map.mpr ⟨e, he, rfl⟩)
    have := can_inj n _ _ (hL _ m) cy ek
    rw [← this]
    exact m
  · intro h
    rw [valsD_get (can_inj n) cy hL h]
    rfl
theorem addQ_cons (v : D) (L : List D) (y : D) (ys : List D) : addQ v L (y :: ys) = addQ v (if metD v L y then L else L ++ [y]) ys := rfl
theorem addQ_snoc (v : D) (L : List D) (y : D) (ys : List D) : addQ v L (ys ++ [y]) = if metD v (addQ v L ys) y then addQ v L ys else addQ v L ys ++ [y] := by
  unfold addQ
  rw [List.foldl_append]
  rfl
theorem addQ_len (v : D) : ∀ (ys L : List D), (addQ v L ys).length ≤ L.length + ys.length
  | [], L => Nat.le_refl _
  | y :: ys, L => by
    rw [addQ_cons, List.length_cons]
    split
    · have := addQ_len v ys L
      omega
    · have := addQ_len v ys (L ++ [y])
      rw [List.length_append, List.length_singleton] at this
      omega
/-- what a step of the queue gives -/
structure AddOk (n : Nat) (L ys M : List D) : Prop where
  pre : ∃ t, M = L ++ t ∧ ∀ x ∈ t, x ∈ ys
  all : ∀ y ∈ ys, y ∈ M
  nd : L.Nodup → M.Nodup
theorem addQ_ok {n : Nat} {v : D} : ∀ {ys L : List D}, (∀ x ∈ L, Can n x) → (∀ y ∈ ys, Can n y) → AddOk n L ys (addQ v L ys) := by
  intro ys
  induction ys with
  | nil => exact fun {L} _ _ => ⟨⟨[], by simp [addQ], fun _ h => (nomatch h)⟩, fun _ h => (nomatch h), fun h => h⟩
  | cons y ys ih =>
    intro L hL hy
    have cy := hy y List.mem_cons_self
    have hy' := fun z hz => hy z (List.mem_cons_of_mem _ hz)
    rw [addQ_cons]
    by_cases m : metD v L y = true
    · rw [if_pos m]
      have q := ih hL hy'
      obtain ⟨t, e, ht⟩ := q.pre
      refine ⟨⟨t, e, fun x hx => List.mem_cons_of_mem _ (ht x hx)⟩, fun z hz => ?_, q.nd⟩
      rcases List.mem_cons.mp hz with rfl | hz
      · rw [e]
        exact List.mem_append_left _ ((metD_iff hL cy).mp m)
      · exact q.all z hz
    · rw [if_neg m]
      have q := ih (L := L ++ [y]) (fun x hx => by
        rcases List.mem_append.mp hx with hx | hx
        · exact hL x hx
        · rw [List.mem_singleton.mp hx]; exact cy) hy'
      obtain ⟨t, e, ht⟩ := q.pre
      refine ⟨⟨y :: t, by rw [e]; simp, fun x hx => ?_⟩, fun z hz => ?_, fun nd => q.nd ?_⟩
      · rcases List.mem_cons.mp hx with rfl | hx
        · exact List.mem_cons_self
        · exact List.mem_cons_of_mem _ (ht x hx)
      · rcases List.mem_cons.mp hz with rfl | hz
        · rw [e]
          simp
        · exact q.all z hz
      · refine List.nodup_append.mpr ⟨nd, by simp, fun a ha b hb => ?_⟩
        rw [List.mem_singleton.mp hb]
        rintro rfl
        exact m ((metD_iff hL cy).mpr ha)
def qF (v : D) (n : Nat) (d0 : D) : Nat → List D
  | 0 => [d0]
  | k + 1 => match (qF v n d0 k)[k]? with
    | some x => addQ v (qF v n d0 k) (sucs n x)
    | none => qF v n d0 k
/-- what can come in so many puts -/
def From (n : Nat) (d0 : D) : Nat → List D
  | 0 => [d0]
  | k + 1 => From n d0 k ++ (From n d0 k).flatMap (sucs n)
structure QI (n : Nat) (d0 : D) (k : Nat) (L : List D) : Prop where
  top : d0 ∈ L
  nd : L.Nodup
  can : ∀ x ∈ L, Can n x
  op : ∀ x ∈ L, opD n x ≤ opD n d0
  reach : ∀ x ∈ L, x ∈ ordL n d0 (opD n d0 + 1) ∧ x ∈ (lay n d0 (opD n d0 - opD n x)).map (·.1)
  fall : L.Pairwise fun a b => opD n b ≤ opD n a
  done : ∀ i x, i < k → L[i]? = some x → ∀ y ∈ sucs n x, y ∈ L
  low : ∀ x, L[k]? = some x → ∀ y ∈ L, opD n x ≤ opD n y + 1
theorem QI.start {n : Nat} {d0 : D} (c : Can n d0) : QI n d0 0 [d0] := by
  refine ⟨List.mem_singleton.mpr rfl, by simp, fun x hx => ?_, fun x hx => ?_, fun x hx => ?_, List.pairwise_singleton _ _, fun _ _ h => by omega, fun x hx y hy => ?_⟩
  · rw [List.mem_singleton.mp hx]; exact c
  · rw [List.mem_singleton.mp hx]; exact Nat.le_refl _
  · rw [List.mem_singleton.mp hx]
    exact ⟨ordL_mem.mpr ⟨0, by omega, by simp [lay]⟩, by simp [lay]⟩
  · rw [List.mem_singleton.mp hy]
    simp at hx
    rw [hx]
    omega
theorem QI.step {v : D} {n : Nat} {d0 x : D} {k : Nat} {L : List D} (c0 : Can n d0) (q : QI n d0 k L) (e : L[k]? = some x) : QI n d0 (k + 1) (addQ v L (sucs n x)) := by
  have mx : x ∈ L := List.mem_of_getElem? e
  have cx := q.can x mx
  have cs : ∀ y ∈ sucs n x, Can n y := fun y hy => (sucs_can cx hy).1
  obtain ⟨⟨t, et, ht⟩, al, nd⟩ := addQ_ok (v := v) q.can cs
  have os : ∀ y ∈ sucs n x, opD n y + 1 = opD n x := fun y hy => by
    have h1 := (sucs_can cx hy).2
    have h2 := sucs_op hy
    omega
  have kl : k < L.length := by
    rcases Nat.lt_or_ge k L.length with h | h
    · exact h
    · rw [List.getElem?_eq_none h] at e; cases e
  have ox := q.op x mx
  rw [et] at al nd ⊢
  have mm : ∀ y, y ∈ L ++ t → y ∈ L ∨ y ∈ sucs n x := fun y hy => by
    rcases List.mem_append.mp hy with h | h
    · exact .inl h
    · exact .inr (ht y h)
  refine ⟨List.mem_append_left _ q.top, nd q.nd, fun y hy => ?_, fun y hy => ?_, fun y hy => ?_, ?_, fun i z hi hz y hy => ?_, fun z hz y hy => ?_⟩
  · rcases mm y hy with h | h
    · exact q.can y h
    · exact cs y h
  · rcases mm y hy with h | h
    · exact q.op y h
    · have := os y h
      omega
  · rcases mm y hy with h | h
    · exact q.reach y h
    · have o1 := os y h
      have := lay_suc c0 _ x (q.reach x mx).2 y h
      have e2 : opD n d0 - opD n x + 1 = opD n d0 - opD n y := by omega
      rw [e2] at this
      exact ⟨ordL_mem.mpr ⟨_, by omega, this⟩, this⟩
  · rw [List.pairwise_append]
    refine ⟨q.fall, ?_, fun a ha b hb => ?_⟩
    · refine List.Pairwise.imp_of_mem (R := fun _ _ => True) (fun {a b} ha hb _ => ?_) (by simp [List.pairwise_iff_forall_sublist])
      have h1 := os a (ht a ha)
      have h2 := os b (ht b hb)
      omega
    · have h1 := os b (ht b hb)
      have h2 := q.low x e a ha
      omega
  · rcases Nat.lt_or_ge i k with h | h
    · rw [List.getElem?_append_left (by omega)] at hz
      exact List.mem_append_left _ (q.done i z h hz y hy)
    · have : i = k := by omega
      subst this
      rw [List.getElem?_append_left kl, e] at hz
      cases hz
      exact al y hy
  · have zx : opD n z ≤ opD n x := by
      rcases Nat.lt_or_ge (k + 1) L.length with h | h
      · rw [List.getElem?_append_left h] at hz
        have := List.pairwise_iff_getElem.mp q.fall k (k + 1) kl h (by omega)
        rw [List.getElem?_eq_getElem kl] at e
        rw [List.getElem?_eq_getElem h] at hz
        cases e
        cases hz
        exact this
      · rw [List.getElem?_append_right h] at hz
        have := os z (ht z (List.mem_of_getElem? hz))
        omega
    rcases mm y hy with h | h
    · have := q.low x e y h
      omega
    · have := os y h
      omega
theorem qF_ok (v : D) {n : Nat} {d0 : D} (c0 : Can n d0) : ∀ k, k ≤ (qF v n d0 k).length → QI n d0 k (qF v n d0 k) := fun k => by
  induction k with
  | zero => exact fun _ => QI.start c0
  | succ k ih =>
    intro h
    unfold qF at h ⊢
    cases e : (qF v n d0 k)[k]? with
    | none =>
      rw [e] at h
      have := List.getElem?_eq_none_iff.mp e
      simp at h
      omega
    | some x =>
      have kl : k < (qF v n d0 k).length := by
        rcases Nat.lt_or_ge k (qF v n d0 k).length with h | h
        · exact h
        · rw [List.getElem?_eq_none h] at e; cases e
      exact (ih (by omega)).step c0 e
theorem qF_le (v : D) {n : Nat} {d0 : D} (c0 : Can n d0) (k : Nat) (h : k < (qF v n d0 k).length) : k + 1 ≤ (qF v n d0 (k + 1)).length := by
  show k + 1 ≤ (match (qF v n d0 k)[k]? with
    | some x => addQ v (qF v n d0 k) (sucs n x)
    | none => qF v n d0 k).length
  rw [List.getElem?_eq_getElem h]
  have q := qF_ok v c0 k (by omega)
  have cx := q.can _ (List.getElem_mem h)
  obtain ⟨⟨t, et, ht⟩, al, nd⟩ := addQ_ok (v := v) q.can fun y hy => (sucs_can cx hy).1
  simp only [et, List.length_append]
  omega
theorem QI.len {n : Nat} {d0 : D} {k : Nat} {L : List D} (c0 : Can n d0) (o : opD n d0 ≤ 5) (q : QI n d0 k L) : L.length ≤ 14900788 :=
  Nat.le_trans (nodup_len q.nd fun x hx => (q.reach x hx).1) (ordL_len c0 _ (by omega))
theorem QI.ord {n : Nat} {d0 : D} {L : List D} (q : QI n d0 L.length L) : Ord n d0 L.reverse := by
  refine ⟨List.mem_reverse.mpr q.top, fun x hx => q.can x (List.mem_reverse.mp hx), fun x hx => q.op x (List.mem_reverse.mp hx), fun p x r e y hy => ?_⟩
  have mx : x ∈ L := List.mem_reverse.mp (by rw [e]; simp)
  have my : y ∈ L := by
    obtain ⟨i, hi, ei⟩ := List.getElem_of_mem mx
    exact q.done i x hi (by rw [List.getElem?_eq_getElem hi, ei]) y hy
  have o1 := (sucs_can (q.can x mx) hy).2
  have m2 : y ∈ p ++ x :: r := by rw [← e]; exact List.mem_reverse.mpr my
  rcases List.mem_append.mp m2 with h | h
  · exact h
  · rcases List.mem_cons.mp h with h | h
    · rw [h] at o1; omega
    · exfalso
      have f := (List.pairwise_reverse (R := fun a b => opD n a ≤ opD n b) (l := L)).mpr q.fall
      rw [e, List.pairwise_append] at f
      have := (List.pairwise_cons.mp f.2.1).1 y h
      omega
end Dn
/-! DnG4: loops and lists for games on boards. -/
namespace Dn
open PySem L2
def lays (n : Nat) (d0 : D) (k : Nat) : List D := (List.range (k + 1)).map fun j => .dict (lay n d0 j)
theorem lays_last (n : Nat) (d0 : D) (k : Nat) : lays n d0 k = (List.range k).map (fun j => PyData.dict (lay n d0 j)) ++ [.dict (lay n d0 k)] := by
  unfold lays
  rw [List.range_succ, List.map_append]
  rfl
theorem lays_succ (n : Nat) (d0 : D) (k : Nat) : lays n d0 (k + 1) = lays n d0 k ++ [.dict (lay n d0 (k + 1))] := by
  rw [lays_last]
  rfl
theorem wWhile_lad {c : WT} {b : WS} {ws : List Nat} {P : Post} {env : Dn.Env} (st : Nat → Dn.Env) (m : Nat) (he : wipeE env ws = st 0) (hs : ∀ k, k ≤ m → ∀ N : Dn.Env → Prop, (k < m → N (st (k + 1))) → c (st k) fun x => if x = true then b (st k) { P with nx := fun e => N (wipeE e ws), ct := fun e => N (wipeE e ws), bk := P.nx } else P.nx (st k)) : wWhile c b ws env P := by
  have key : ∀ j k, k + j = m → whileW c b ws P (j + 1) (st k) := fun j => by
    induction j with
    | zero => exact fun k e => hs k (by omega) _ fun h => by omega
    | succ j ih => exact fun k e => hs k (by omega) _ fun h => ih (k + 1) (by omega)
  refine ⟨m + 1, ?_⟩
  rw [he]
  exact key m 0 (by omega)
theorem wWhile_ladI {c : WT} {b : WS} {ws : List Nat} {P : Post} {env : Dn.Env} (st : Nat → Dn.Env) (I : Nat → Prop) (m : Nat) (he : wipeE env ws = st 0) (i0 : I 0) (hs : ∀ k, k ≤ m → I k → ∀ N : Dn.Env → Prop, (k < m → I (k + 1) → N (st (k + 1))) → c (st k) fun x => if x = true then b (st k) { P with nx := fun e => N (wipeE e ws), ct := fun e => N (wipeE e ws), bk := P.nx } else P.nx (st k)) : wWhile c b ws env P := by
  have key : ∀ j k, k + j = m → I k → whileW c b ws P (j + 1) (st k) := fun j => by
    induction j with
    | zero => exact fun k e ik => hs k (by omega) ik _ fun h => by omega
    | succ j ih => exact fun k e ik => hs k (by omega) ik _ fun h i1 => ih (k + 1) (by omega) i1
  refine ⟨m + 1, ?_⟩
  rw [he]
  exact key m 0 (by omega) i0
theorem forW_invK {g : WG} {b : WS} {ws : List Nat} {P : Post} (I : Nat → Dn.Env → Prop) : ∀ (ds : List D) (env : Dn.Env), (∀ k env, I (k + 1) env → ∀ d ∈ ds, ∀ N : Dn.Env → Prop, (∀ e, I k e → N e) → g d env fun e2 => b e2 { P with nx := fun e3 => N (wipeE e3 ws), ct := fun e3 => N (wipeE e3 ws), bk := P.nx }) → I ds.length env → (∀ e, I 0 e → P.nx e) → forW g b ws P ds env
  | [], env, _, i, q => q env i
  | d :: ds, env, h, i, q => h ds.length env i d List.mem_cons_self _ fun e ie => forW_invK I ds e (fun k env i d hd => h k env i d (List.mem_cons_of_mem _ hd)) ie q
theorem lay_ne_opq {n : Nat} {d0 : D} (c0 : Can n d0) (k : Nat) : lay n d0 k ≠ opqE := fun e => by
  have := (lay_can c0 k (.dict []) (by rw [e]; exact List.mem_cons_self)).1.e
  cases this
theorem atI_end (xs : List D) (x : D) : atI (xs ++ [x]) (-1) = some x := by
  unfold atI ixN
  have e : (-1 + ((xs.length : Int) + 1)).toNat = xs.length := by omega
  have e2 : (1 : Int) ≤ (xs.length : Int) + 1 := by omega
  simp [e, e2]
theorem atI_nat (xs : List D) {k : Nat} (h : k < xs.length) : atI xs (k : Int) = some xs[k] := by
  unfold atI ixN
  have e : (k : Int) < xs.length := by omega
  simp [e, h]
def nxt (n : Nat) (p : List D) : List (D × D) := p.foldl (fun acc d => putAll acc (addL n d)) []
theorem fitC {n : Nat} {es : List (D × D)} {x : D} (h : tupK es = true) (cx : Can n x) : keyFit es x = true := by rw [cx.e]; exact fit_g h _ _
theorem shp_nats (l : List Nat) : Shp 2 (.list (l.map fun (h : Nat) => PyData.int (h : Int))) := Shp.list fun x hx => by
  obtain ⟨h, _, rfl⟩ := List.mem_map.mp hx
  exact shp_int' _
/-! ### few open cells -/
theorem flat_sum {α β : Type} (g : α → List β) (h : α → Nat) (m : Nat) : ∀ xs : List α, (∀ x ∈ xs, (g x).length ≤ m * h x) → (xs.flatMap g).length ≤ m * (xs.map h).sum
  | [], _ => by simp
  | x :: r, e => by
    have ih := flat_sum g h m r fun y hy => e y (List.mem_cons_of_mem _ hy)
    have := e x List.mem_cons_self
    rw [List.flatMap_cons, List.length_append, List.map_cons, List.sum_cons, Nat.mul_add]
    omega
theorem filter_sum {α : Type} (p : α → Bool) : ∀ xs : List α, (xs.filter p).length = (xs.map fun x => if p x = true then 1 else 0).sum
  | [] => rfl
  | x :: r => by
    have ih := filter_sum p r
    rw [List.filter_cons, List.map_cons, List.sum_cons]
    split
    · rw [List.length_cons, ih]; omega
    · rw [ih]; omega
theorem puts_opn (n : Nat) (f : Gr) : (puts n f).length ≤ n * opn n f := by
  unfold puts opn
  refine flat_sum _ _ n _ fun r hr => ?_
  unfold opr
  rw [filter_sum]
  refine flat_sum _ _ n _ fun c hc => ?_
  by_cases e : f r c = none
  · rw [if_pos (decide_eq_true e)]
    simpa using putsAt_len n f r c
  · unfold putsAt
    rw [if_neg e]
    exact Nat.zero_le _
theorem sucs_15 {n : Nat} {d : D} (c : Can n d) (o : opD n d ≤ 5) : (sucs n d).length ≤ 15 := by
  have h1 := puts_opn n (grOf d)
  have h2 : n * opn n (grOf d) ≤ 3 * 5 := Nat.mul_le_mul c.b.hi o
  unfold sucs
  rw [List.length_map]
  omega
theorem lay_len5 {n : Nat} {d0 : D} (c0 : Can n d0) (o : opD n d0 ≤ 5) (k : Nat) : (lay n d0 k).length ≤ 15 ^ k := by
  induction k with
  | zero => exact Nat.le_refl _
  | succ k ih =>
    have := next_len (n := n) (m := 15) c0.b.hi (ks := (lay n d0 k).map (·.1)) (acc := []) fun d hd => ⟨(lay_can c0 k d hd).1, sucs_15 (lay_can c0 k d hd).1 (by have := (lay_can c0 k d hd).2; omega)⟩
    rw [List.length_map] at this
    show (nextL n ((lay n d0 k).map (·.1))).length ≤ 15 ^ k * 15
    unfold nextL
    have h2 : 15 * (lay n d0 k).length ≤ 15 * 15 ^ k := Nat.mul_le_mul_left _ ih
    rw [Nat.mul_comm (15 ^ k)]
    simpa using Nat.le_trans this (by simpa using h2)
theorem ordL_len5 {n : Nat} {d0 : D} (c0 : Can n d0) (o : opD n d0 ≤ 5) : ∀ m, m ≤ 6 → (ordL n d0 m).length ≤ 813616 := fun m hm => by
  have key : ∀ m, (ordL n d0 m).length ≤ ((List.range m).map fun k => 15 ^ k).sum := fun m => by
    induction m with
    | zero => exact Nat.le_refl _
    | succ m ih =>
      rw [ordL_succ, List.length_append, List.length_map, List.range_succ, List.map_append, List.sum_append]
      have := lay_len5 c0 o m
      simp
      omega
  have h := key m
  have : ∀ m, m ≤ 6 → ((List.range m).map fun k => 15 ^ k).sum ≤ 813616 := by decide
  exact Nat.le_trans h (this m hm)
theorem QI.len5 {n : Nat} {d0 : D} {k : Nat} {L : List D} (c0 : Can n d0) (o : opD n d0 ≤ 5) (q : QI n d0 k L) : L.length ≤ 813616 :=
  Nat.le_trans (nodup_len q.nd fun x hx => (q.reach x hx).1) (ordL_len5 c0 o _ (by omega))
theorem lay_nil {n : Nat} {d0 : D} {k : Nat} (h : lay n d0 k = []) : ∀ j, lay n d0 (k + j) = []
  | 0 => h
  | j + 1 => by
    show nextL n ((lay n d0 (k + j)).map (·.1)) = []
    rw [lay_nil h j]
    rfl
theorem ordL_stop {n : Nat} {d0 : D} {k : Nat} (h : lay n d0 k = []) : ∀ j, ordL n d0 (k + j) = ordL n d0 k
  | 0 => rfl
  | j + 1 => by
    rw [← Nat.add_assoc, ordL_succ, lay_nil h j, ordL_stop h j]
    rfl
/-- the order of all boards that can come -/
def ordB (n : Nat) (d : D) : List D := ordL n d 6
theorem ordB_stop {n : Nat} {d0 : D} {k : Nat} (h : lay n d0 k = []) (hk : k ≤ 6) : ordL n d0 k = ordB n d0 := by
  have := ordL_stop h (6 - k)
  rw [show k + (6 - k) = 6 by omega] at this
  exact this.symm
theorem ordB_ord {n : Nat} {d0 : D} (c0 : Can n d0) (o : opD n d0 ≤ 5) : Ord n d0 (ordB n d0) := ordL_ord c0 (by decide) (lay_end c0 6 (by omega))
theorem ordB_len {n : Nat} {d0 : D} (c0 : Can n d0) (o : opD n d0 ≤ 5) : (ordB n d0).length ≤ 813616 := ordL_len5 c0 o 6 (Nat.le_refl _)
end Dn
/-! DnG5: games on boards in which it counts who is to put. -/
namespace Dn
open PySem L2
/-! ### keys -/
def pk (d : D) (t : Bool) : D := .tuple [d, .bool t]
def PK (n : Nat) (k : D) : Prop := ∃ d t, Can n d ∧ k = pk d t
theorem key_pk {n : Nat} {d : D} (c : Can n d) (t : Bool) : keyD (pk d t) = some (.tup [keyG n (grOf d), .num (if t then 1 else 0)]) := by
  unfold pk
  simp only [keyD, keyDs]
  rw [c.e, key_g, ← c.e]
  rfl
theorem pk_inj (n : Nat) : Inj (PK n) := by
  rintro a b ⟨d, t, c, rfl⟩ ⟨e, u, c2, rfl⟩ h
  rw [key_pk c, key_pk c2] at h
  injection h with h
  injection h with h
  injection h with h1 h2
  have h3 : keyD d = keyD e := by rw [c.e, c2.e, key_g, key_g, h1]
  rw [can_inj n _ _ c c2 h3]
  injection h2 with h2
  injection h2 with h2
  cases t <;> cases u <;> first | rfl | (simp at h2)
theorem fit_pk {es : List (D × D)} (h : tupK es = true) {n : Nat} {d : D} (c : Can n d) (t : Bool) : keyFit es (pk d t) = true := by
  unfold keyFit
  rw [key_pk c]
  have := keyG_depth n (grOf d)
  have h2 : (NestedKey.tup [keyG n (grOf d), .num (if t then 1 else 0)]).depth ≤ 3 := by
    simp only [NestedKey.depth, NestedKey.depthAll]
    omega
  have h3 : isTup (pk d t) = true := rfl
  simp [h, h3]
  omega
theorem pk_tup {n : Nat} {es : List (D × D)} (h : ∀ x ∈ es.map (·.1), PK n x) : tupK es = true := by
  unfold tupK
  rw [List.all_eq_true]
  intro e he
  obtain ⟨d, t, c, e2⟩ := h e.1 (List.mem_map.mpr ⟨e, he, rfl⟩)
  rw [e2]
  rfl
/-- both turns of the boards -/
def both (p : List D) : List D := p.flatMap fun d => [pk d true, pk d false]
theorem both_snoc (p : List D) (d : D) : both (p ++ [d]) = both p ++ [pk d true, pk d false] := by
  unfold both
  rw [List.flatMap_append]
  simp
theorem both_mem {p : List D} {d : D} (t : Bool) (h : d ∈ p) : pk d t ∈ both p := List.mem_flatMap.mpr ⟨d, h, by cases t <;> simp⟩
theorem both_pk {n : Nat} {p : List D} (h : ∀ d ∈ p, Can n d) : ∀ k ∈ both p, PK n k := fun k hk => by
  obtain ⟨d, hd, hk⟩ := List.mem_flatMap.mp hk
  simp at hk
  rcases hk with rfl | rfl
  · exact ⟨d, true, h d hd, rfl⟩
  · exact ⟨d, false, h d hd, rfl⟩
theorem both_len (p : List D) : (both p).length = 2 * p.length := by
  induction p with
  | nil => rfl
  | cons d p ih =>
    have : both (d :: p) = pk d true :: pk d false :: both p := rfl
    rw [this]
    simp
    omega
/-- a value of a board and a turn, at a key -/
def atK (f : D → Bool → D) (k : D) : D := match k with
  | .tuple [d, .bool t] => f d t
  | _ => .none
theorem atK_pk (f : D → Bool → D) (d : D) (t : Bool) : atK f (pk d t) = f d t := rfl
theorem atK_get {n : Nat} {f : D → Bool → D} {p : List D} (h : ∀ k ∈ p, PK n k) {d : D} {t : Bool} (m : pk d t ∈ p) : getK (valsD (atK f) p) (pk d t) = some (f d t) := by
  rw [valsD_get (pk_inj n) (h _ m) h m, atK_pk]
theorem atK_tup {n : Nat} {f : D → Bool → D} {p : List D} (h : ∀ k ∈ p, PK n k) : tupK (valsD (atK f) p) = true := pk_tup fun x hx => h x (valsD_keys hx)
/-! ### who wins -/
def stW (n : Nat) (d : D) (vs : List (Bool → Bool)) (t : Bool) : Bool := if vs.length = 0 then opD n d == 0 else if t then vs.any (· (!t)) else vs.all (· (!t))
def winV (n : Nat) : D → Bool → Bool := val n (stW n)
theorem winV_eq {n : Nat} {d : D} (c : Can n d) (t : Bool) : winV n d t = if (sucs n d).length = 0 then opD n d == 0 else if t then (sucs n d).any (fun y => winV n y (!t)) else (sucs n d).all (fun y => winV n y (!t)) := by
  have := val_eq n (stW n) c
  unfold winV
  rw [this]
  show (if ((sucs n d).map (val n (stW n))).length = 0 then _ else _) = _
  rw [List.length_map, List.any_map, List.all_map]
  rfl
/-! ### how long it takes -/
def lo (l : List Nat) : Nat := l.min?.getD 0
def hi (l : List Nat) : Nat := l.max?.getD 0
theorem lo_is {l : List Nat} {m : Nat} (h : m ∈ l) (h2 : ∀ y ∈ l, m ≤ y) : lo l = m := by
  unfold lo
  rw [List.min?_eq_some_iff.mpr ⟨h, h2⟩]
  rfl
theorem hi_is {l : List Nat} {m : Nat} (h : m ∈ l) (h2 : ∀ y ∈ l, y ≤ m) : hi l = m := by
  unfold hi
  rw [List.max?_eq_some_iff.mpr ⟨h, h2⟩]
  rfl
theorem lo_mem {l : List Nat} (h : 0 < l.length) : lo l ∈ l ∧ ∀ y ∈ l, lo l ≤ y := by
  cases e : l.min? with
  | none => rw [List.min?_eq_none_iff.mp e] at h; exact absurd h (by simp)
  | some m =>
    have := List.min?_eq_some_iff.mp e
    rw [lo_is this.1 this.2]
    exact this
theorem hi_mem {l : List Nat} (h : 0 < l.length) : hi l ∈ l ∧ ∀ y ∈ l, y ≤ hi l := by
  cases e : l.max? with
  | none => rw [List.max?_eq_none_iff.mp e] at h; exact absurd h (by simp)
  | some m =>
    have := List.max?_eq_some_iff.mp e
    rw [hi_is this.1 this.2]
    exact this
theorem can_ind {n : Nat} {M : D → Prop} (h : ∀ d, Can n d → (∀ y ∈ sucs n d, M y) → M d) : ∀ {d : D}, Can n d → M d := by
  have key : ∀ k d, Can n d → opD n d ≤ k → M d := fun k => by
    induction k with
    | zero => exact fun d c o => h d c fun y hy => by rw [sucs_none c (by omega)] at hy; cases hy
    | succ k ih => exact fun d c o => h d c fun y hy => ih y (sucs_can c hy).1 (by have := (sucs_can c hy).2; omega)
  exact fun {d} c => key _ d c (Nat.le_refl _)
theorem any_congr' {l : List D} {f g : D → Bool} (h : ∀ x ∈ l, f x = g x) : l.any f = l.any g := by
  rw [Bool.eq_iff_iff, List.any_eq_true, List.any_eq_true]
  constructor
  · rintro ⟨x, hx, e⟩
    exact ⟨x, hx, by rw [← h x hx]; exact e⟩
  · rintro ⟨x, hx, e⟩
    exact ⟨x, hx, by rw [h x hx]; exact e⟩
theorem all_congr' {l : List D} {f g : D → Bool} (h : ∀ x ∈ l, f x = g x) : l.all f = l.all g := by
  rw [Bool.eq_iff_iff, List.all_eq_true, List.all_eq_true]
  constructor
  · exact fun z x hx => by rw [← h x hx]; exact z x hx
  · exact fun z x hx => by rw [h x hx]; exact z x hx
/-- the law's number of puts -/
def stL (n : Nat) (d : D) (vs : List (Bool → Bool × Nat)) (t : Bool) : Bool × Nat :=
  (winV n d t, if vs.length = 0 then 0 else if winV n d t = t then 1 + lo ((vs.filter fun v => (v (!t)).1 == winV n d t).map fun v => (v (!t)).2) else 1 + hi (vs.map fun v => (v (!t)).2))
def lenV (n : Nat) : D → Bool → Bool × Nat := val n (stL n)
def lenN (n : Nat) (d : D) (t : Bool) : Nat := (lenV n d t).2
theorem lenV_at {n : Nat} {d : D} (c : Can n d) (t : Bool) : lenV n d t = stL n d ((sucs n d).map (lenV n)) t := by
  have := val_eq n (stL n) c
  unfold lenV
  rw [this]
theorem lenN_eq {n : Nat} {d : D} (c : Can n d) (t : Bool) : lenN n d t = if (sucs n d).length = 0 then 0 else if winV n d t = t then 1 + lo (((sucs n d).filter fun y => winV n y (!t) == winV n d t).map fun y => lenN n y (!t)) else 1 + hi ((sucs n d).map fun y => lenN n y (!t)) := by
  have hf : ∀ y ∈ sucs n d, (lenV n y (!t)).1 = winV n y (!t) := fun y hy => by
    rw [lenV_at (sucs_can c hy).1]
    rfl
  unfold lenN
  rw [lenV_at c]
  unfold stL
  dsimp only
  have e2 : (((sucs n d).map (lenV n)).filter fun v => (v (!t)).1 == winV n d t) = ((sucs n d).filter fun y => winV n y (!t) == winV n d t).map (lenV n) := by
    rw [List.filter_map]
    congr 1
  rw [e2, List.map_map, List.map_map, List.length_map]
  rfl
/-- the program's, of the winner F -/
def stP (n : Nat) (F : Bool) (d : D) (vs : List (Bool → Bool × Nat)) (t : Bool) : Bool × Nat :=
  (winV n d t,
    if t = F then (let l := vs.filter fun v => (v (!t)).1 == F; if 0 < l.length then 1 + lo (l.map fun v => (v (!t)).2) else 0)
    else if 0 < vs.length then 1 + hi (vs.map fun v => (v (!t)).2) else 0)
def plV (n : Nat) (F : Bool) : D → Bool → Bool × Nat := val n (stP n F)
def plN (n : Nat) (F : Bool) (d : D) (t : Bool) : Nat := (plV n F d t).2
theorem plV_at {n : Nat} {F : Bool} {d : D} (c : Can n d) (t : Bool) : plV n F d t = stP n F d ((sucs n d).map (plV n F)) t := by
  have := val_eq n (stP n F) c
  unfold plV
  rw [this]
theorem plN_eq {n : Nat} {F : Bool} {d : D} (c : Can n d) (t : Bool) : plN n F d t = if t = F then (if 0 < ((sucs n d).filter fun y => winV n y (!t) == F).length then 1 + lo (((sucs n d).filter fun y => winV n y (!t) == F).map fun y => plN n F y (!t)) else 0)
    else if 0 < (sucs n d).length then 1 + hi ((sucs n d).map fun y => plN n F y (!t)) else 0 := by
  have hf : ∀ y ∈ sucs n d, (plV n F y (!t)).1 = winV n y (!t) := fun y hy => by
    rw [plV_at (sucs_can c hy).1]
    rfl
  unfold plN
  rw [plV_at c]
  unfold stP
  dsimp only
  have e2 : (((sucs n d).map (plV n F)).filter fun v => (v (!t)).1 == F) = ((sucs n d).filter fun y => winV n y (!t) == F).map (plV n F) := by
    rw [List.filter_map]
    congr 1
  rw [e2, List.map_map, List.map_map, List.length_map, List.length_map]
  rfl
/-- where who wins is told, both say the same -/
theorem pl_len {n : Nat} {F : Bool} {d : D} (c : Can n d) : ∀ t, winV n d t = F → plN n F d t = lenN n d t := by
  refine can_ind (M := fun d => ∀ t, winV n d t = F → plN n F d t = lenN n d t) (fun d c ih t hw => ?_) c
  rw [plN_eq c, lenN_eq c, hw]
  by_cases h0 : (sucs n d).length = 0
  · have e : sucs n d = [] := List.eq_nil_of_length_eq_zero h0
    rw [e]
    simp
  · rw [if_neg h0]
    by_cases h1 : t = F
    · rw [if_pos h1, if_pos h1.symm]
      have e2 : (((sucs n d).filter fun y => winV n y (!t) == F).map fun y => plN n F y (!t)) = (((sucs n d).filter fun y => winV n y (!t) == F).map fun y => lenN n y (!t)) := List.map_congr_left fun y hy => by
        obtain ⟨m, e⟩ := List.mem_filter.mp hy
        exact ih y m _ (by simpa using e)
      rw [e2, if_pos]
      rw [winV_eq c, if_neg h0] at hw
      subst h1
      cases t with
      | true =>
        rw [if_pos rfl, List.any_eq_true] at hw
        obtain ⟨y, hy, e⟩ := hw
        exact List.length_pos_of_mem (List.mem_filter.mpr ⟨hy, by rw [e]; rfl⟩)
      | false =>
        rw [if_neg (by simp)] at hw
        rw [List.all_eq_false] at hw
        obtain ⟨y, hy, e⟩ := hw
        exact List.length_pos_of_mem (List.mem_filter.mpr ⟨hy, by simp at e; rw [show (!false) = true from rfl, e]; rfl⟩)
    · rw [if_neg h1, if_pos (show 0 < (sucs n d).length by omega), if_neg (fun z : F = t => h1 z.symm)]
      have e2 : ((sucs n d).map fun y => plN n F y (!t)) = ((sucs n d).map fun y => lenN n y (!t)) := List.map_congr_left fun y hy => by
        refine ih y hy _ ?_
        rw [winV_eq c, if_neg h0] at hw
        cases t with
        | true =>
          have : F = false := by cases F <;> simp at h1 ⊢
          subst this
          rw [if_pos rfl, List.any_eq_false] at hw
          simpa using hw y hy
        | false =>
          have : F = true := by cases F <;> simp at h1 ⊢
          subst this
          rw [if_neg (by simp), List.all_eq_true] at hw
          exact hw y hy
      rw [e2]
/-- never more puts than open cells -/
theorem len_open {n : Nat} {d : D} (c : Can n d) : ∀ t, lenN n d t ≤ opD n d ∧ (winV n d t = true → lenN n d t = opD n d) := by
  refine can_ind (M := fun d => ∀ t, lenN n d t ≤ opD n d ∧ (winV n d t = true → lenN n d t = opD n d)) (fun d c ih t => ?_) c
  rw [lenN_eq c]
  by_cases h0 : (sucs n d).length = 0
  · rw [if_pos h0]
    refine ⟨Nat.zero_le _, fun w => ?_⟩
    rw [winV_eq c, if_pos h0] at w
    simp at w
    exact w.symm
  · rw [if_neg h0]
    have os : ∀ y ∈ sucs n d, opD n y + 1 = opD n d := fun y hy => by
      have h1 := (sucs_can c hy).2
      have h2 := sucs_op hy
      omega
    have hw := winV_eq c t
    rw [if_neg h0] at hw
    by_cases h1 : winV n d t = t
    · rw [if_pos h1]
      have pos : 0 < ((sucs n d).filter fun y => winV n y (!t) == winV n d t).length := by
        rw [h1] at hw ⊢
        cases t with
        | true =>
          rw [if_pos rfl] at hw
          obtain ⟨y, hy, e⟩ := List.any_eq_true.mp hw.symm
          exact List.length_pos_of_mem (List.mem_filter.mpr ⟨hy, by rw [e]; rfl⟩)
        | false =>
          rw [if_neg (by simp)] at hw
          obtain ⟨y, hy, e⟩ := List.all_eq_false.mp hw.symm
          exact List.length_pos_of_mem (List.mem_filter.mpr ⟨hy, by simp at e; rw [show (!false) = true from rfl, e]; rfl⟩)
      have := (lo_mem (l := ((sucs n d).filter fun y => winV n y (!t) == winV n d t).map fun y => lenN n y (!t)) (by rw [List.length_map]; exact pos)).1
      obtain ⟨y, hy, e⟩ := List.mem_map.mp this
      obtain ⟨m, e2⟩ := List.mem_filter.mp hy
      rw [← e]
      have o := os y m
      obtain ⟨i1, i2⟩ := ih y m (!t)
      refine ⟨by omega, fun w => ?_⟩
      have := i2 (by simp at e2; rw [e2, w])
      omega
    · rw [if_neg h1]
      have := (hi_mem (l := (sucs n d).map fun y => lenN n y (!t)) (by rw [List.length_map]; omega)).1
      obtain ⟨y, hy, e⟩ := List.mem_map.mp this
      rw [← e]
      have o := os y hy
      obtain ⟨i1, i2⟩ := ih y hy (!t)
      refine ⟨by omega, fun w => ?_⟩
      rw [w] at h1 hw
      have tf : t = false := by cases t <;> simp at h1 ⊢
      subst tf
      rw [if_neg (by simp)] at hw
      have := i2 (List.all_eq_true.mp hw.symm y hy)
      omega
end Dn
/-! DnG6: books: by which puts the winner wins. -/
namespace Dn
open PySem L2
def goodP (n : Nat) (F : Bool) (d : D) (t : Bool) : List D := (puts n (grOf d)).filter fun tr => winV n (aft n (grOf d) tr) (!t) == F
def bookV (n : Nat) (F : Bool) (d : D) : D := (goodP n F d F).headD .none
def mine (n : Nat) (F : Bool) (x : D × Bool) : Bool := x.2 == F && decide (0 < (puts n (grOf x.1)).length)
def stepP (n : Nat) (F : Bool) (x : D × Bool) : List D := if mine n F x = true then (goodP n F x.1 x.2).take 1 else puts n (grOf x.1)
def nextB (n : Nat) (F : Bool) (x : D × Bool) : List (D × Bool) := (stepP n F x).map fun tr => (aft n (grOf x.1) tr, !x.2)
def Wt : Nat → Nat
  | 0 => 1
  | o + 1 => 1 + 15 * Wt o
def weight (n : Nat) (ws : List (D × Bool)) : Nat := (ws.map fun x => Wt (opD n x.1)).sum
theorem Wt_pos : ∀ o, 1 ≤ Wt o
  | 0 => Nat.le_refl _
  | o + 1 => Nat.le_add_right _ _
theorem weight_app (n : Nat) (a b : List (D × Bool)) : weight n (a ++ b) = weight n a + weight n b := by
  unfold weight
  rw [List.map_append, List.sum_append]
theorem weight_len (n : Nat) : ∀ ws : List (D × Bool), ws.length ≤ weight n ws
  | [] => Nat.zero_le _
  | x :: ws => by
    have ih := weight_len n ws
    have := Wt_pos (opD n x.1)
    unfold weight at ih ⊢
    rw [List.map_cons, List.sum_cons, List.length_cons]
    omega
structure BP (n : Nat) (F : Bool) (x : D × Bool) : Prop where
  can : Can n x.1
  op : opD n x.1 ≤ 5
  win : winV n x.1 x.2 = F
theorem stepP_puts {n : Nat} {F : Bool} {x : D × Bool} {tr : D} (h : tr ∈ stepP n F x) : tr ∈ puts n (grOf x.1) := by
  unfold stepP at h
  split at h
  · exact (List.mem_filter.mp (List.mem_of_mem_take h)).1
  · exact h
theorem winV_step {n : Nat} {F : Bool} {x : D × Bool} (b : BP n F x) (p : 0 < (puts n (grOf x.1)).length) : (x.2 = F → ∃ tr ∈ puts n (grOf x.1), winV n (aft n (grOf x.1) tr) (!x.2) = F) ∧ (x.2 ≠ F → ∀ tr ∈ puts n (grOf x.1), winV n (aft n (grOf x.1) tr) (!x.2) = F) := by
  have hw := b.win
  have s0 : ¬ (sucs n x.1).length = 0 := by
    unfold sucs
    rw [List.length_map]
    omega
  rw [winV_eq b.can, if_neg s0] at hw
  unfold sucs at hw
  rw [List.any_map, List.all_map] at hw
  obtain ⟨d, t⟩ := x
  dsimp only at *
  constructor
  · intro e
    subst e
    cases t with
    | true =>
      rw [if_pos rfl] at hw
      exact (List.any_eq_true.mp hw)
    | false =>
      rw [if_neg (by simp)] at hw
      obtain ⟨tr, m, e⟩ := List.all_eq_false.mp hw
      exact ⟨tr, m, by simpa using e⟩
  · intro e tr m
    cases t with
    | true =>
      have : F = false := by cases F <;> simp at e ⊢
      subst this
      rw [if_pos rfl] at hw
      have := List.any_eq_false.mp hw tr m
      simpa using this
    | false =>
      have : F = true := by cases F <;> simp at e ⊢
      subst this
      rw [if_neg (by simp)] at hw
      exact List.all_eq_true.mp hw tr m
theorem good_pos {n : Nat} {F : Bool} {x : D × Bool} (b : BP n F x) (m : mine n F x = true) : 0 < (goodP n F x.1 x.2).length := by
  unfold mine at m
  simp at m
  obtain ⟨tr, h, e⟩ := (winV_step b m.2).1 m.1
  exact List.length_pos_of_mem (List.mem_filter.mpr ⟨h, by rw [e]; exact beq_self_eq_true _⟩)
theorem nextB_ok {n : Nat} {F : Bool} {x : D × Bool} (b : BP n F x) : ∀ y ∈ nextB n F x, BP n F y ∧ opD n y.1 + 1 = opD n x.1 := fun y hy => by
  obtain ⟨tr, h, rfl⟩ := List.mem_map.mp hy
  have hp := stepP_puts h
  have ms : aft n (grOf x.1) tr ∈ sucs n x.1 := List.mem_map.mpr ⟨tr, hp, rfl⟩
  obtain ⟨c2, o2⟩ := sucs_can b.can ms
  have o3 := sucs_op ms
  have o := b.op
  refine ⟨⟨c2, by show opD n (aft n (grOf x.1) tr) ≤ 5; omega, ?_⟩, by show opD n (aft n (grOf x.1) tr) + 1 = _; omega⟩
  show winV n (aft n (grOf x.1) tr) (!x.2) = F
  unfold stepP at h
  split at h
  · have := (List.mem_filter.mp (List.mem_of_mem_take h)).2
    simpa using this
  · rename_i nm
    have pl : 0 < (puts n (grOf x.1)).length := List.length_pos_of_mem hp
    unfold mine at nm
    simp [pl] at nm
    exact (winV_step b pl).2 (by intro e; rw [e] at nm; cases F <;> simp at nm) tr hp
theorem nextB_weight {n : Nat} {F : Bool} {x : D × Bool} (b : BP n F x) : weight n (nextB n F x) + 1 ≤ Wt (opD n x.1) := by
  have hl : (nextB n F x).length ≤ 15 := by
    have := sucs_15 b.can b.op
    unfold sucs at this
    rw [List.length_map] at this
    unfold nextB stepP
    rw [List.length_map]
    split
    · rw [List.length_take]; omega
    · exact this
  cases q : opD n x.1 with
  | zero =>
    have : nextB n F x = [] := by
      cases e : nextB n F x with
      | nil => rfl
      | cons y r =>
        have := (nextB_ok b y (by rw [e]; exact List.mem_cons_self)).2
        omega
    rw [this]
    exact Nat.le_refl _
  | succ o =>
    have key : ∀ ys : List (D × Bool), (∀ y ∈ ys, opD n y.1 = o) → weight n ys = Wt o * ys.length := fun ys => by
      induction ys with
      | nil => intro _; rfl
      | cons y ys ih =>
        intro h
        have ih := ih fun z hz => h z (List.mem_cons_of_mem _ hz)
        unfold weight at ih ⊢
        rw [List.map_cons, List.sum_cons, ih, h y List.mem_cons_self, List.length_cons, Nat.mul_succ]
        omega
    rw [key _ fun y hy => by have := (nextB_ok b y hy).2; omega]
    have : Wt o * (nextB n F x).length ≤ Wt o * 15 := Nat.mul_le_mul_left _ hl
    show _ + 1 ≤ 1 + 15 * Wt o
    omega
theorem Wt_le {o : Nat} (h : o ≤ 5) : Wt o ≤ 813616 := by
  have : ∀ o, o ≤ 5 → Wt o ≤ 813616 := by decide
  exact this o h
def pkx (x : D × Bool) : D := pk x.1 x.2
def bks (n : Nat) (F : Bool) (ms : List (D × Bool)) : List D := (ms.filter (mine n F)).map (·.1)
structure BI (n : Nat) (F : Bool) (s : D × Bool) (ws ms : List (D × Bool)) : Prop where
  w : ∀ x ∈ ws, BP n F x
  m : ∀ x ∈ ms, BP n F x
  cl : ∀ x ∈ ms, ∀ y ∈ nextB n F x, y ∈ ws ∨ y ∈ ms
  st : s ∈ ws ∨ s ∈ ms
  wt : weight n ws + ms.length ≤ 813616
theorem BI.start {n : Nat} {F : Bool} {s : D × Bool} (b : BP n F s) : BI n F s [s] [] := by
  refine ⟨fun x h => ?_, fun x h => (nomatch h), fun x h => (nomatch h), .inl (List.mem_singleton.mpr rfl), ?_⟩
  · rw [List.mem_singleton.mp h]; exact b
  · have := Wt_le b.op
    simpa [weight] using this
theorem BI.old {n : Nat} {F : Bool} {s x : D × Bool} {ws ms : List (D × Bool)} (i : BI n F s (ws ++ [x]) ms) (h : x ∈ ms) : BI n F s ws ms ∧ weight n ws < weight n (ws ++ [x]) := by
  have hw := i.wt
  have : weight n (ws ++ [x]) = weight n ws + Wt (opD n x.1) := by rw [weight_app]; simp [weight]
  have p := Wt_pos (opD n x.1)
  refine ⟨⟨fun y hy => i.w y (List.mem_append_left _ hy), i.m, fun y hy z hz => ?_, ?_, by omega⟩, by omega⟩
  · rcases i.cl y hy z hz with q | q
    · rcases List.mem_append.mp q with q | q
      · exact .inl q
      · rw [List.mem_singleton.mp q]; exact .inr h
    · exact .inr q
  · rcases i.st with q | q
    · rcases List.mem_append.mp q with q | q
      · exact .inl q
      · rw [List.mem_singleton.mp q]; exact .inr h
    · exact .inr q
theorem BI.new {n : Nat} {F : Bool} {s x : D × Bool} {ws ms : List (D × Bool)} (i : BI n F s (ws ++ [x]) ms) : BI n F s (ws ++ nextB n F x) (ms ++ [x]) ∧ weight n (ws ++ nextB n F x) < weight n (ws ++ [x]) := by
  have hw := i.wt
  have : weight n (ws ++ [x]) = weight n ws + Wt (opD n x.1) := by rw [weight_app]; simp [weight]
  have bx := i.w x (by simp)
  have p := nextB_weight bx
  have e2 := weight_app n ws (nextB n F x)
  refine ⟨⟨fun y hy => ?_, fun y hy => ?_, fun y hy z hz => ?_, ?_, by rw [List.length_append, List.length_singleton]; omega⟩, by omega⟩
  · rcases List.mem_append.mp hy with q | q
    · exact i.w y (List.mem_append_left _ q)
    · exact (nextB_ok bx y q).1
  · rcases List.mem_append.mp hy with q | q
    · exact i.m y q
    · rw [List.mem_singleton.mp q]; exact bx
  · rcases List.mem_append.mp hy with q | q
    · rcases i.cl y q z hz with q | q
      · rcases List.mem_append.mp q with q | q
        · exact .inl (List.mem_append_left _ q)
        · exact .inr (List.mem_append_right _ q)
      · exact .inr (List.mem_append_left _ q)
    · rw [List.mem_singleton.mp q] at hz
      exact .inl (List.mem_append_right _ hz)
  · rcases i.st with q | q
    · rcases List.mem_append.mp q with q | q
      · exact .inl (List.mem_append_left _ q)
      · exact .inr (List.mem_append_right _ q)
    · exact .inr (List.mem_append_left _ q)
theorem pkx_pk {n : Nat} {F : Bool} {ms : List (D × Bool)} (h : ∀ x ∈ ms, BP n F x) : ∀ k ∈ ms.map pkx, PK n k := fun k hk => by
  obtain ⟨x, hx, rfl⟩ := List.mem_map.mp hk
  exact ⟨x.1, x.2, (h x hx).can, rfl⟩
theorem pkx_inj {x y : D × Bool} (h : pkx x = pkx y) : x = y := by
  obtain ⟨a, b⟩ := x
  obtain ⟨c, d⟩ := y
  unfold pkx pk at h
  injection h with h
  injection h with h1 h2
  injection h2 with h2
  injection h2 with h2
  dsimp only at *
  rw [h1, h2]
theorem met_iff {n : Nat} {F : Bool} {v : D} {ms : List (D × Bool)} {x : D × Bool} (h : ∀ x ∈ ms, BP n F x) (c : Can n x.1) : (getK (valsD (fun _ => v) (ms.map pkx)) (pkx x)).isSome = true ↔ x ∈ ms := by
  constructor
  · intro q
    obtain ⟨e, he, ek⟩ := getK_some q
    have m : e.1 ∈ ms.map pkx := valsD_keys (List.mem_map.mpr ⟨e, he, rfl⟩)
    have := pk_inj n _ _ (pkx_pk h _ m) ⟨x.1, x.2, c, rfl⟩ ek
    rw [this] at m
    obtain ⟨y, hy, e⟩ := List.mem_map.mp m
    rw [← pkx_inj e]
    exact hy
  · intro q
    show (getK (valsD (fun _ => v) (ms.map pkx)) (pk x.1 x.2)).isSome = true
    rw [valsD_get (pk_inj n) ⟨x.1, x.2, c, rfl⟩ (pkx_pk h) (List.mem_map.mpr ⟨x, q, rfl⟩)]
    rfl
theorem bks_can {n : Nat} {F : Bool} {ms : List (D × Bool)} (h : ∀ x ∈ ms, BP n F x) : ∀ d ∈ bks n F ms, Can n d := fun d hd => by
  obtain ⟨x, hx, rfl⟩ := List.mem_map.mp hd
  exact (h x (List.mem_filter.mp hx).1).can
theorem bks_snoc (n : Nat) (F : Bool) (ms : List (D × Bool)) (x : D × Bool) : bks n F (ms ++ [x]) = if mine n F x = true then bks n F ms ++ [x.1] else bks n F ms := by
  unfold bks
  rw [List.filter_append, List.map_append]
  by_cases h : mine n F x = true
  · rw [if_pos h]; simp [h]
  · rw [if_neg h]; simp [h]
theorem bks_len (n : Nat) (F : Bool) (ms : List (D × Bool)) : (bks n F ms).length ≤ ms.length := by
  unfold bks
  rw [List.length_map]
  exact List.length_filter_le _ _
theorem wWhile_fuel {c : WT} {b : WS} {ws : List Nat} {P : Post} {env : Dn.Env} (I : Nat → Dn.Env → Prop) (m : Nat) (i0 : I m (wipeE env ws)) (hs : ∀ k e, I k e → ∀ N : Dn.Env → Prop, (∀ k' e', k' < k → I k' e' → N e') → c e fun x => if x = true then b e { P with nx := fun e => N (wipeE e ws), ct := fun e => N (wipeE e ws), bk := P.nx } else P.nx e) : wWhile c b ws env P := by
  have key : ∀ j k e, k ≤ j → I k e → whileW c b ws P (j + 1) e := fun j => by
    induction j with
    | zero => exact fun k e h ik => hs k e ik _ fun k' e' lt => by omega
    | succ j ih => exact fun k e h ik => hs k e ik _ fun k' e' lt i => ih k' e' (by omega) i
  exact ⟨m + 1, key m m _ (Nat.le_refl _) i0⟩
end Dn
/-! DnG7: does a book hold. -/
namespace Dn
open PySem L2
/-- going through all that comes: ws wait, ms are met -/
structure MI (n : Nat) (R G : D × Bool → Prop) (nx : D × Bool → List (D × Bool)) (s : D × Bool) (ws ms : List (D × Bool)) : Prop where
  w : ∀ x ∈ ws, R x
  m : ∀ x ∈ ms, R x ∧ G x
  cl : ∀ x ∈ ms, ∀ y ∈ nx x, y ∈ ws ∨ y ∈ ms
  st : s ∈ ws ∨ s ∈ ms
  wt : weight n ws + ms.length ≤ 813616
section
variable {n : Nat} {R G : D × Bool → Prop} {nx : D × Bool → List (D × Bool)} {s x : D × Bool} {ws ms : List (D × Bool)}
theorem MI.start (o : opD n s.1 ≤ 5) (h : R s) : MI n R G nx s [s] [] := by
  refine ⟨fun x q => by rw [List.mem_singleton.mp q]; exact h, fun x h => (nomatch h), fun x h => (nomatch h), .inl (List.mem_singleton.mpr rfl), ?_⟩
  have := Wt_le o
  simpa [weight] using this
theorem MI.old (i : MI n R G nx s (ws ++ [x]) ms) (h : x ∈ ms) : MI n R G nx s ws ms ∧ weight n ws < weight n (ws ++ [x]) := by
  have hw := i.wt
  have : weight n (ws ++ [x]) = weight n ws + Wt (opD n x.1) := by rw [weight_app]; simp [weight]
  have p := Wt_pos (opD n x.1)
  refine ⟨⟨fun y hy => i.w y (List.mem_append_left _ hy), i.m, fun y hy z hz => ?_, ?_, by omega⟩, by omega⟩
  · rcases i.cl y hy z hz with q | q
    · rcases List.mem_append.mp q with q | q
      · exact .inl q
      · rw [List.mem_singleton.mp q]; exact .inr h
    · exact .inr q
  · rcases i.st with q | q
    · rcases List.mem_append.mp q with q | q
      · exact .inl q
      · rw [List.mem_singleton.mp q]; exact .inr h
    · exact .inr q
theorem MI.new (i : MI n R G nx s (ws ++ [x]) ms) (g : G x) (hn : ∀ y ∈ nx x, R y) (hl : weight n (nx x) + 1 ≤ Wt (opD n x.1)) : MI n R G nx s (ws ++ nx x) (ms ++ [x]) ∧ weight n (ws ++ nx x) < weight n (ws ++ [x]) := by
  have hw := i.wt
  have : weight n (ws ++ [x]) = weight n ws + Wt (opD n x.1) := by rw [weight_app]; simp [weight]
  have rx := i.w x (by simp)
  have e2 := weight_app n ws (nx x)
  refine ⟨⟨fun y hy => ?_, fun y hy => ?_, fun y hy z hz => ?_, ?_, by rw [List.length_append, List.length_singleton]; omega⟩, by omega⟩
  · rcases List.mem_append.mp hy with q | q
    · exact i.w y (List.mem_append_left _ q)
    · exact hn y q
  · rcases List.mem_append.mp hy with q | q
    · exact i.m y q
    · rw [List.mem_singleton.mp q]; exact ⟨rx, g⟩
  · rcases List.mem_append.mp hy with q | q
    · rcases i.cl y q z hz with q | q
      · rcases List.mem_append.mp q with q | q
        · exact .inl (List.mem_append_left _ q)
        · exact .inr (List.mem_append_right _ q)
      · exact .inr (List.mem_append_left _ q)
    · rw [List.mem_singleton.mp q] at hz
      exact .inl (List.mem_append_right _ hz)
  · rcases i.st with q | q
    · rcases List.mem_append.mp q with q | q
      · exact .inl (List.mem_append_left _ q)
      · exact .inr (List.mem_append_right _ q)
    · exact .inr (List.mem_append_left _ q)
end
/-- not more boards than may come -/
theorem next_weight {n : Nat} {d : D} (c : Can n d) (o : opD n d ≤ 5) {ys : List (D × Bool)} (hl : ys.length ≤ 15) (hs : ∀ y ∈ ys, y.1 ∈ sucs n d) : weight n ys + 1 ≤ Wt (opD n d) := by
  have os : ∀ y ∈ ys, opD n y.1 + 1 = opD n d := fun y hy => by
    have h1 := (sucs_can c (hs y hy)).2
    have h2 := sucs_op (hs y hy)
    omega
  cases q : opD n d with
  | zero =>
    have : ys = [] := by
      cases ys with
      | nil => rfl
      | cons y r =>
        have := os y List.mem_cons_self
        omega
    rw [this]
    exact Nat.le_refl _
  | succ k =>
    have key : ∀ ys : List (D × Bool), (∀ y ∈ ys, opD n y.1 = k) → weight n ys = Wt k * ys.length := fun ys => by
      induction ys with
      | nil => intro _; rfl
      | cons y ys ih =>
        intro h
        have ih := ih fun z hz => h z (List.mem_cons_of_mem _ hz)
        unfold weight at ih ⊢
        rw [List.map_cons, List.sum_cons, ih, h y List.mem_cons_self, List.length_cons, Nat.mul_succ]
        omega
    rw [key _ fun y hy => by have := os y hy; omega]
    have : Wt k * ys.length ≤ Wt k * 15 := Nat.mul_le_mul_left _ hl
    show _ + 1 ≤ 1 + 15 * Wt k
    omega
/-! ### the book's own word -/
def bk1 (n : Nat) (F : Bool) (es : List (D × D)) (x : D × Bool) : Bool := x.2 == F && decide (0 < (puts n (grOf x.1)).length)
/-- where a book fails -/
def badH (n : Nat) (F : Bool) (es : List (D × D)) (x : D × Bool) : Bool :=
  if (puts n (grOf x.1)).length = 0 then (opD n x.1 == 0) != F else if x.2 = F then (match getK es x.1 with
    | none => true
    | some v => !((puts n (grOf x.1)).any fun z => PyData.eqv z v)) else false
def nxtH (n : Nat) (F : Bool) (es : List (D × D)) (x : D × Bool) : List (D × Bool) :=
  (if x.2 = F ∧ 0 < (puts n (grOf x.1)).length then [(getK es x.1).getD .none] else puts n (grOf x.1)).map fun tr => (aft n (grOf x.1) tr, !x.2)
/-- a book of triples -/
def Trs (es : List (D × D)) : Prop := ∀ x v, getK es x = some v → ∃ r c s : Nat, v = trD r c (s : Int)
theorem nxtH_ok {n : Nat} {F : Bool} {es : List (D × D)} (tr : Trs es) {x : D × Bool} (c : Can n x.1) (o : opD n x.1 ≤ 5) (b : badH n F es x = false) : (∀ y ∈ nxtH n F es x, y.1 ∈ sucs n x.1 ∧ y.2 = !x.2) ∧ (nxtH n F es x).length ≤ 15 := by
  have l15 := sucs_15 c o
  unfold sucs at l15
  rw [List.length_map] at l15
  unfold nxtH
  by_cases h : x.2 = F ∧ 0 < (puts n (grOf x.1)).length
  · rw [if_pos h]
    refine ⟨fun y hy => ?_, by simp⟩
    rw [List.map_cons, List.map_nil] at hy
    rw [List.mem_singleton.mp hy]
    refine ⟨?_, rfl⟩
    unfold badH at b
    rw [if_neg (by omega), if_pos h.1] at b
    cases q : getK es x.1 with
    | none => rw [q] at b; cases b
    | some v =>
      rw [q] at b
      obtain ⟨r, k, s, rfl⟩ := tr _ _ q
      have m : trD r k (s : Int) ∈ puts n (grOf x.1) := any_puts.mp (by simpa using b)
      exact List.mem_map.mpr ⟨_, m, rfl⟩
  · rw [if_neg h]
    refine ⟨fun y hy => ?_, by rw [List.length_map]; exact l15⟩
    obtain ⟨t, ht, rfl⟩ := List.mem_map.mp hy
    exact ⟨List.mem_map.mpr ⟨t, ht, rfl⟩, rfl⟩
/-- what comes by a book -/
inductive Rch (n : Nat) (F : Bool) (es : List (D × D)) (s : D × Bool) : D × Bool → Prop
  | top : Rch n F es s s
  | nxt {x y : D × Bool} : Rch n F es s x → badH n F es x = false → y ∈ nxtH n F es x → Rch n F es s y
/-- a book that holds is that of who wins -/
theorem hold_win {n : Nat} {F : Bool} {es : List (D × D)} (tr : Trs es) {ms : List (D × Bool)} (hm : ∀ x ∈ ms, (Can n x.1 ∧ opD n x.1 ≤ 5) ∧ badH n F es x = false) (hc : ∀ x ∈ ms, ∀ y ∈ nxtH n F es x, y ∈ ms) {d : D} (c : Can n d) : ∀ t, (d, t) ∈ ms → winV n d t = F := by
  refine can_ind (M := fun d => ∀ t, (d, t) ∈ ms → winV n d t = F) (fun d c ih t ht => ?_) c
  obtain ⟨⟨_, o⟩, hb⟩ := hm _ ht
  have hx := hc _ ht
  have ok := nxtH_ok tr (x := (d, t)) c o hb
  rw [winV_eq c]
  have sl : (sucs n d).length = (puts n (grOf d)).length := by unfold sucs; rw [List.length_map]
  by_cases h0 : (puts n (grOf d)).length = 0
  · rw [if_pos (by omega)]
    unfold badH at hb
    rw [if_pos h0] at hb
    simpa using hb
  · rw [if_neg (by omega)]
    by_cases h1 : t = F
    · have e : nxtH n F es (d, t) = [(aft n (grOf d) ((getK es d).getD .none), !t)] := by
        unfold nxtH
        rw [if_pos ⟨h1, by show 0 < (puts n (grOf d)).length; omega⟩]
        rfl
      have m := hx (aft n (grOf d) ((getK es d).getD .none), !t) (by rw [e]; exact List.mem_singleton.mpr rfl)
      have ms2 := (ok.1 _ (by rw [e]; exact List.mem_singleton.mpr rfl)).1
      have w := ih _ ms2 _ m
      subst h1
      cases t with
      | true =>
        rw [if_pos rfl, List.any_eq_true]
        exact ⟨_, ms2, w⟩
      | false =>
        rw [if_neg (by simp), List.all_eq_false]
        exact ⟨_, ms2, by rw [w]; simp⟩
    · have e : ∀ y ∈ sucs n d, winV n y (!t) = F := fun y hy => by
        obtain ⟨u, hu, rfl⟩ := List.mem_map.mp hy
        refine ih _ hy _ (hx _ ?_)
        unfold nxtH
        rw [if_neg (fun z => h1 z.1)]
        exact List.mem_map.mpr ⟨u, hu, rfl⟩
      cases t with
      | true =>
        have : F = false := by cases F <;> simp at h1 ⊢
        subst this
        rw [if_pos rfl, List.any_eq_false]
        exact fun y hy => by rw [e y hy]; simp
      | false =>
        have : F = true := by cases F <;> simp at h1 ⊢
        subst this
        rw [if_neg (by simp), List.all_eq_true]
        exact fun y hy => e y hy
theorem valsD_vals {v : D → D} : ∀ {p : List D} {e : D × D}, e ∈ valsD v p → ∃ y ∈ p, e.2 = v y := by
  have key : ∀ (p : List D) (es : List (D × D)) (e : D × D), e ∈ p.foldl (fun es d => putK es d (v d)) es → (∃ f ∈ es, e.2 = f.2) ∨ ∃ y ∈ p, e.2 = v y := fun p => by
    induction p with
    | nil => exact fun es e h => .inl ⟨e, h, rfl⟩
    | cons y p ih =>
      intro es e h
      rcases ih _ _ h with ⟨f, hf, ef⟩ | ⟨z, hz, ez⟩
      · unfold putK at hf
        dsimp only at hf
        split at hf
        · obtain ⟨g, hg, rfl⟩ := List.mem_map.mp hf
          split at ef
          · exact .inr ⟨y, List.mem_cons_self, ef⟩
          · exact .inl ⟨g, hg, ef⟩
        · rcases List.mem_append.mp hf with hf | hf
          · exact .inl ⟨f, hf, ef⟩
          · rw [List.mem_singleton.mp hf] at ef
            exact .inr ⟨y, List.mem_cons_self, ef⟩
      · exact .inr ⟨z, List.mem_cons_of_mem _ hz, ez⟩
  intro p e h
  rcases key p [] e h with ⟨f, hf, _⟩ | h
  · cases hf
  · exact h
theorem getK_val {es : List (D × D)} {x v : D} (h : getK es x = some v) : ∃ e ∈ es, e.2 = v := by
  unfold getK at h
  obtain ⟨e, he, ev⟩ := Option.map_eq_some_iff.mp h
  exact ⟨e, List.mem_of_find?_eq_some he, ev⟩
theorem book_head {n : Nat} {F : Bool} {x : D × Bool} (b : BP n F x) (m : mine n F x = true) : bookV n F x.1 ∈ puts n (grOf x.1) ∧ (goodP n F x.1 x.2).take 1 = [bookV n F x.1] := by
  have gp := good_pos b m
  have e : x.2 = F := by
    unfold mine at m
    simp at m
    exact m.1
  unfold bookV
  rw [e] at gp ⊢
  cases q : goodP n F x.1 F with
  | nil => rw [q] at gp; exact absurd gp (by simp)
  | cons y r =>
    refine ⟨?_, rfl⟩
    have : y ∈ goodP n F x.1 F := by rw [q]; exact List.mem_cons_self
    exact (List.mem_filter.mp this).1
theorem book_trs {n : Nat} {F : Bool} {ms : List (D × Bool)} (h : ∀ x ∈ ms, BP n F x) : Trs (valsD (bookV n F) (bks n F ms)) := fun x v hv => by
  obtain ⟨e, he, rfl⟩ := getK_val hv
  obtain ⟨y, hy, ey⟩ := valsD_vals he
  obtain ⟨z, hz, rfl⟩ := List.mem_map.mp hy
  obtain ⟨z1, z2⟩ := List.mem_filter.mp hz
  obtain ⟨r, c, s, _, _, _, _, _, e2⟩ := mem_puts.mp (book_head (h z z1) z2).1
  exact ⟨r, c, s, by rw [ey, e2]⟩
theorem book_get {n : Nat} {F : Bool} {ms : List (D × Bool)} (h : ∀ x ∈ ms, BP n F x) {x : D × Bool} (hx : x ∈ ms) (m : mine n F x = true) : getK (valsD (bookV n F) (bks n F ms)) x.1 = some (bookV n F x.1) :=
  valsD_get (can_inj n) (h x hx).can (bks_can h) (List.mem_map.mpr ⟨x, List.mem_filter.mpr ⟨hx, m⟩, rfl⟩)
theorem book_step {n : Nat} {F : Bool} {ms : List (D × Bool)} (h : ∀ x ∈ ms, BP n F x) {x : D × Bool} (hx : x ∈ ms) : badH n F (valsD (bookV n F) (bks n F ms)) x = false ∧ nxtH n F (valsD (bookV n F) (bks n F ms)) x = nextB n F x := by
  have b := h x hx
  have sl : (sucs n x.1).length = (puts n (grOf x.1)).length := by unfold sucs; rw [List.length_map]
  unfold badH nxtH nextB stepP
  by_cases h0 : (puts n (grOf x.1)).length = 0
  · have mf : mine n F x = false := by
      unfold mine
      rw [decide_eq_false (by omega)]
      simp
    rw [if_pos h0, if_neg (fun z => by omega), if_neg (by rw [mf]; simp)]
    refine ⟨?_, rfl⟩
    have w := b.win
    rw [winV_eq b.can, if_pos (by omega)] at w
    rw [w]
    simp
  · rw [if_neg h0]
    by_cases h1 : x.2 = F
    · have m : mine n F x = true := by
        unfold mine
        rw [h1, decide_eq_true (show 0 < (puts n (grOf x.1)).length by omega)]
        simp
      obtain ⟨p1, p2⟩ := book_head b m
      rw [if_pos h1, if_pos ⟨h1, by omega⟩, if_pos m, book_get h hx m, p2]
      refine ⟨?_, rfl⟩
      obtain ⟨r, c, s, _, _, _, _, _, e2⟩ := mem_puts.mp p1
      dsimp only
      rw [e2] at p1 ⊢
      rw [any_puts.mpr p1]
      rfl
    · have mf : mine n F x = false := by
        unfold mine
        rw [beq_eq_false_iff_ne.mpr h1]
        rfl
      rw [if_neg h1, if_neg (fun z => h1 z.1), if_neg (by rw [mf]; simp)]
      exact ⟨rfl, rfl⟩
/-- the told book never fails -/
theorem book_rch {n : Nat} {F : Bool} {s : D × Bool} {ms : List (D × Bool)} (i : BI n F s [] ms) {x : D × Bool} (r : Rch n F (valsD (bookV n F) (bks n F ms)) s x) : x ∈ ms ∧ badH n F (valsD (bookV n F) (bks n F ms)) x = false := by
  induction r with
  | top =>
    have m : s ∈ ms := by
      rcases i.st with h | h
      · cases h
      · exact h
    exact ⟨m, (book_step i.m m).1⟩
  | nxt _ _ hy ih =>
    rw [(book_step i.m ih.1).2] at hy
    rcases i.cl _ ih.1 _ hy with h | h
    · cases h
    · exact ⟨h, (book_step i.m h).1⟩
theorem getK_nd {es : List (D × D)} (k : KN es) {e : D × D} (h : e ∈ es) : getK es e.1 = some e.2 := by
  induction es with
  | nil => cases h
  | cons f es ih =>
    unfold KN at k
    rw [List.map_cons, List.nodup_cons] at k
    rw [getK_cons]
    rcases List.mem_cons.mp h with rfl | h
    · rw [if_pos rfl]
    · rw [if_neg (fun z => k.1 (by rw [z]; exact List.mem_map.mpr ⟨e, h, rfl⟩))]
      exact ih k.2 h
theorem valsD_kn (v : D → D) (p : List D) : KN (valsD v p) := by
  have key : ∀ (p : List D) (es : List (D × D)), KN es → KN (p.foldl (fun es d => putK es d (v d)) es) := fun p => by
    induction p with
    | nil => exact fun _ h => h
    | cons x p ih => exact fun es h => ih _ (h.put x (v x))
  exact key p [] KN.nil
theorem putAll_nd : ∀ {ps acc : List (D × D)}, KN (acc ++ ps) → putAll acc ps = acc ++ ps := by
  intro ps
  induction ps with
  | nil => intro acc _; rw [List.append_nil]; rfl
  | cons p ps ih =>
    intro acc h
    have e : putK acc p.1 p.2 = acc ++ [p] := by
      unfold putK
      rw [if_neg]
      intro q
      have m := getK_keys.mp q
      unfold KN at h
      rw [List.map_append, List.nodup_append] at h
      exact h.2.2 _ m _ (by rw [List.map_cons]; exact List.mem_cons_self) rfl
    show putAll (putK acc p.1 p.2) ps = _
    rw [e, ih (by rw [List.append_assoc]; exact h), List.append_assoc]
    rfl
theorem putAll_id {es : List (D × D)} (h : KN es) : putAll [] es = es := putAll_nd (acc := []) h
/-- keys that are there -/
theorem getK_in {n : Nat} {es : List (D × D)} (hk : ∀ x ∈ es.map (·.1), Can n x) {d : D} (c : Can n d) (h : (getK es d).isSome = true) : d ∈ es.map (·.1) := by
  obtain ⟨e, he, ek⟩ := getK_some h
  have m : e.1 ∈ es.map (·.1) := List.mem_map.mpr ⟨e, he, rfl⟩
  rw [← can_inj n _ _ (hk _ m) c ek]
  exact m
/-- the book less one board -/
def lessP (es : List (D × D)) (d : D) : List (D × D) := ((es.map (·.1)).filter fun k => !PyData.eqv k d).map fun k => (k, (getK es k).getD .none)
theorem less_keys {es : List (D × D)} {d x : D} (h : x ∈ (putAll [] (lessP es d)).map (·.1)) : x ∈ es.map (·.1) ∧ PyData.eqv x d = false := by
  rcases mem_putAll h with h | h
  · cases h
  · unfold lessP at h
    rw [List.map_map] at h
    obtain ⟨k, hk, rfl⟩ := List.mem_map.mp h
    obtain ⟨k1, k2⟩ := List.mem_filter.mp hk
    exact ⟨k1, by simpa using k2⟩
theorem less_kn {es : List (D × D)} (h : KN es) (d : D) : KN (lessP es d) := by
  unfold KN lessP
  rw [List.map_map]
  have e : ((fun e : D × D => keyD e.1) ∘ fun k => (k, (getK es k).getD .none)) = keyD := rfl
  rw [e]
  have s : (((es.map (·.1)).filter fun k => !PyData.eqv k d).map keyD).Sublist ((es.map (·.1)).map keyD) := List.Sublist.map _ List.filter_sublist
  refine s.nodup ?_
  rw [List.map_map]
  exact h
end Dn
/-! printed by gen.py for k79: readings and derivations -/
namespace K79
open PySem PySem.Spec PyProof.Rows L2 Dn
def topS (i : Nat) : Stmt := PySem.Challenge.pw_squarehouse_k79_whole_fillers_and_spoile.main.body.getD i (.Pass ⟨0, 0, 0, 0⟩)
/-! is_integer -/
abbrev s_is_integer : Stmt := topS 1
/-! is_within -/
abbrev s_is_within : Stmt := topS 2
/-! is_sized -/
abbrev s_is_sized : Stmt := topS 3
/-! is_line_free -/
abbrev s_is_line_free : Stmt := topS 12
/-! is_board -/
abbrev s_is_board : Stmt := topS 13
/-! check_board -/
abbrev s_check_board : Stmt := topS 14
/-! puts_of -/
abbrev s_puts_of : Stmt := topS 15
/-! behind -/
abbrev s_behind : Stmt := topS 16
/-! is_full -/
abbrev s_is_full : Stmt := topS 17
/-! order_from -/
abbrev s_order_from : Stmt := topS 18
/-! wins_from -/
abbrev s_wins_from : Stmt := topS 19
/-! check_turn -/
abbrev s_check_turn : Stmt := topS 20
/-! book_from -/
abbrev s_book_from : Stmt := topS 21
/-! filler_wins -/
abbrev s_filler_wins : Stmt := topS 22
/-! are_small -/
abbrev s_are_small : Stmt := topS 24
/-! is_book -/
abbrev s_is_book : Stmt := topS 23
/-! holds_by -/
abbrev s_holds_by : Stmt := topS 25
/-! is_filler_wins -/
abbrev s_is_filler_wins : Stmt := topS 26
/-! _law_draw -/
abbrev s_law_draw : Stmt := topS 29
/-! _law_some -/
abbrev s_law_some : Stmt := topS 30
/-! _law_puts -/
abbrev s_law_puts : Stmt := topS 31
/-! _law_after -/
abbrev s_law_after : Stmt := topS 32
/-! _law_open -/
abbrev s_law_open : Stmt := topS 33
/-! _law_board -/
abbrev s_law_board : Stmt := topS 34
/-! _law_all -/
abbrev s_law_all : Stmt := topS 35
/-! _law_deep -/
abbrev s_law_deep : Stmt := topS 36
/-! _law_odd -/
abbrev s_law_odd : Stmt := topS 37
/-! _law_is -/
abbrev s_law_is : Stmt := topS 38
/-! _law_wins -/
abbrev s_law_wins : Stmt := topS 39
/-! _law_leads -/
abbrev s_law_leads : Stmt := topS 40
/-! law -/
abbrev s_law : Stmt := topS 41
abbrev s_law_hand : Stmt := topS 28
structure Tx (K : KT) (mg : Str → Option Value) where
  a_is_integer : Addr
  d_is_integer : FuncData
  f_is_integer : Fun K "is_integer" "is_integer" s_is_integer a_is_integer d_is_integer
  n_is_integer : Binds K d_is_integer ["thing"] []
  m_is_integer : mg "is_integer" = some (.ref a_is_integer)
  a_is_within : Addr
  d_is_within : FuncData
  f_is_within : Fun K "is_within" "is_within" s_is_within a_is_within d_is_within
  n_is_within : Binds K d_is_within ["thing", "low", "high"] []
  m_is_within : mg "is_within" = some (.ref a_is_within)
  a_is_sized : Addr
  d_is_sized : FuncData
  f_is_sized : Fun K "is_sized" "is_sized" s_is_sized a_is_sized d_is_sized
  n_is_sized : Binds K d_is_sized ["thing", "low", "high"] []
  m_is_sized : mg "is_sized" = some (.ref a_is_sized)
  a_is_line_free : Addr
  d_is_line_free : FuncData
  f_is_line_free : Fun K "is_line_free" "is_line_free" s_is_line_free a_is_line_free d_is_line_free
  n_is_line_free : Binds K d_is_line_free ["cells"] []
  m_is_line_free : mg "is_line_free" = some (.ref a_is_line_free)
  a_is_board : Addr
  d_is_board : FuncData
  f_is_board : Fun K "is_board" "is_board" s_is_board a_is_board d_is_board
  n_is_board : Binds K d_is_board ["thing"] []
  m_is_board : mg "is_board" = some (.ref a_is_board)
  a_check_board : Addr
  d_check_board : FuncData
  f_check_board : Fun K "check_board" "check_board" s_check_board a_check_board d_check_board
  n_check_board : Binds K d_check_board ["board"] []
  m_check_board : mg "check_board" = some (.ref a_check_board)
  a_puts_of : Addr
  d_puts_of : FuncData
  f_puts_of : Fun K "puts_of" "puts_of" s_puts_of a_puts_of d_puts_of
  n_puts_of : Binds K d_puts_of ["board"] []
  m_puts_of : mg "puts_of" = some (.ref a_puts_of)
  a_behind : Addr
  d_behind : FuncData
  f_behind : Fun K "behind" "behind" s_behind a_behind d_behind
  n_behind : Binds K d_behind ["board", "triple"] []
  m_behind : mg "behind" = some (.ref a_behind)
  a_is_full : Addr
  d_is_full : FuncData
  f_is_full : Fun K "is_full" "is_full" s_is_full a_is_full d_is_full
  n_is_full : Binds K d_is_full ["board"] []
  m_is_full : mg "is_full" = some (.ref a_is_full)
  a_order_from : Addr
  d_order_from : FuncData
  f_order_from : Fun K "order_from" "order_from" s_order_from a_order_from d_order_from
  n_order_from : Binds K d_order_from ["board"] []
  m_order_from : mg "order_from" = some (.ref a_order_from)
  a_wins_from : Addr
  d_wins_from : FuncData
  f_wins_from : Fun K "wins_from" "wins_from" s_wins_from a_wins_from d_wins_from
  n_wins_from : Binds K d_wins_from ["board"] []
  m_wins_from : mg "wins_from" = some (.ref a_wins_from)
  a_check_turn : Addr
  d_check_turn : FuncData
  f_check_turn : Fun K "check_turn" "check_turn" s_check_turn a_check_turn d_check_turn
  n_check_turn : Binds K d_check_turn ["board", "is_first"] []
  m_check_turn : mg "check_turn" = some (.ref a_check_turn)
  a_book_from : Addr
  d_book_from : FuncData
  f_book_from : Fun K "book_from" "book_from" s_book_from a_book_from d_book_from
  n_book_from : Binds K d_book_from ["board", "is_first", "wins"] []
  m_book_from : mg "book_from" = some (.ref a_book_from)
  a_filler_wins : Addr
  d_filler_wins : FuncData
  f_filler_wins : Fun K "filler_wins" "filler_wins" s_filler_wins a_filler_wins d_filler_wins
  n_filler_wins : Binds K d_filler_wins ["board", "is_first"] []
  m_filler_wins : mg "filler_wins" = some (.ref a_filler_wins)
  a_are_small : Addr
  d_are_small : FuncData
  f_are_small : Fun K "are_small" "are_small" s_are_small a_are_small d_are_small
  n_are_small : Binds K d_are_small ["numbers"] []
  m_are_small : mg "are_small" = some (.ref a_are_small)
  a_is_book : Addr
  d_is_book : FuncData
  f_is_book : Fun K "is_book" "is_book" s_is_book a_is_book d_is_book
  n_is_book : Binds K d_is_book ["thing"] []
  m_is_book : mg "is_book" = some (.ref a_is_book)
  a_holds_by : Addr
  d_holds_by : FuncData
  f_holds_by : Fun K "holds_by" "holds_by" s_holds_by a_holds_by d_holds_by
  n_holds_by : Binds K d_holds_by ["board", "is_first", "is_filler", "book"] []
  m_holds_by : mg "holds_by" = some (.ref a_holds_by)
  a_is_filler_wins : Addr
  d_is_filler_wins : FuncData
  f_is_filler_wins : Fun K "is_filler_wins" "is_filler_wins" s_is_filler_wins a_is_filler_wins d_is_filler_wins
  n_is_filler_wins : Binds K d_is_filler_wins ["board", "is_first", "thing"] []
  m_is_filler_wins : mg "is_filler_wins" = some (.ref a_is_filler_wins)
  a_law_hand : Addr
  d_law_hand : FuncData
  f_law_hand : Fun K "_law_hand" "_law_hand" s_law_hand a_law_hand d_law_hand
  n_law_hand : Binds K d_law_hand ["script"] []
  m_law_hand : mg "_law_hand" = some (.ref a_law_hand)
  a_law_draw : Addr
  d_law_draw : FuncData
  f_law_draw : Fun K "_law_draw" "_law_draw" s_law_draw a_law_draw d_law_draw
  n_law_draw : Binds K d_law_draw ["hand", "many"] []
  m_law_draw : mg "_law_draw" = some (.ref a_law_draw)
  a_law_some : Addr
  d_law_some : FuncData
  f_law_some : Fun K "_law_some" "_law_some" s_law_some a_law_some d_law_some
  n_law_some : Binds K d_law_some ["hand", "things"] []
  m_law_some : mg "_law_some" = some (.ref a_law_some)
  a_law_puts : Addr
  d_law_puts : FuncData
  f_law_puts : Fun K "_law_puts" "_law_puts" s_law_puts a_law_puts d_law_puts
  n_law_puts : Binds K d_law_puts ["board"] []
  m_law_puts : mg "_law_puts" = some (.ref a_law_puts)
  a_law_after : Addr
  d_law_after : FuncData
  f_law_after : Fun K "_law_after" "_law_after" s_law_after a_law_after d_law_after
  n_law_after : Binds K d_law_after ["board", "told"] []
  m_law_after : mg "_law_after" = some (.ref a_law_after)
  a_law_open : Addr
  d_law_open : FuncData
  f_law_open : Fun K "_law_open" "_law_open" s_law_open a_law_open d_law_open
  n_law_open : Binds K d_law_open ["board"] []
  m_law_open : mg "_law_open" = some (.ref a_law_open)
  a_law_board : Addr
  d_law_board : FuncData
  f_law_board : Fun K "_law_board" "_law_board" s_law_board a_law_board d_law_board
  n_law_board : Binds K d_law_board ["hand", "most"] []
  m_law_board : mg "_law_board" = some (.ref a_law_board)
  a_law_all : Addr
  d_law_all : FuncData
  f_law_all : Fun K "_law_all" "_law_all" s_law_all a_law_all d_law_all
  n_law_all : Binds K d_law_all ["board"] []
  m_law_all : mg "_law_all" = some (.ref a_law_all)
  a_law_deep : Addr
  d_law_deep : FuncData
  f_law_deep : Fun K "_law_deep" "_law_deep" s_law_deep a_law_deep d_law_deep
  n_law_deep : Binds K d_law_deep ["hand"] []
  m_law_deep : mg "_law_deep" = some (.ref a_law_deep)
  a_law_odd : Addr
  d_law_odd : FuncData
  f_law_odd : Fun K "_law_odd" "_law_odd" s_law_odd a_law_odd d_law_odd
  n_law_odd : Binds K d_law_odd ["hand"] []
  m_law_odd : mg "_law_odd" = some (.ref a_law_odd)
  a_law_is : Addr
  d_law_is : FuncData
  f_law_is : Fun K "_law_is" "_law_is" s_law_is a_law_is d_law_is
  n_law_is : Binds K d_law_is ["told", "due"] []
  m_law_is : mg "_law_is" = some (.ref a_law_is)
  a_law_wins : Addr
  d_law_wins : FuncData
  f_law_wins : Fun K "_law_wins" "_law_wins" s_law_wins a_law_wins d_law_wins
  n_law_wins : Binds K d_law_wins ["board"] []
  m_law_wins : mg "_law_wins" = some (.ref a_law_wins)
  a_law_leads : Addr
  d_law_leads : FuncData
  f_law_leads : Fun K "_law_leads" "_law_leads" s_law_leads a_law_leads d_law_leads
  n_law_leads : Binds K d_law_leads ["board", "is_first", "is_filler", "book"] []
  m_law_leads : mg "_law_leads" = some (.ref a_law_leads)
  a_law : Addr
  d_law : FuncData
  f_law : Fun K "law" "law" s_law a_law d_law
  n_law : Binds K d_law ["script"] []
  m_law : mg "law" = some (.ref a_law)
  b_abs : mg "abs" = none
  b_all : mg "all" = none
  b_any : mg "any" = none
  b_bool : mg "bool" = none
  b_dict : mg "dict" = none
  b_enumerate : mg "enumerate" = none
  b_int : mg "int" = none
  b_isinstance : mg "isinstance" = none
  b_len : mg "len" = none
  b_list : mg "list" = none
  b_range : mg "range" = none
  b_str : mg "str" = none
  b_sum : mg "sum" = none
  b_tuple : mg "tuple" = none
  b_zip : mg "zip" = none
  t_FILLER : Tok
  k_FILLER : mg "FILLER" = some (.str "filler" t_FILLER)
  t_MOST_N : Tok
  k_MOST_N : mg "MOST_N" = some (.int 3 t_MOST_N)
  t_SPOILER : Tok
  k_SPOILER : mg "SPOILER" = some (.str "spoiler" t_SPOILER)
  c_NoBoard : Addr
  g_NoBoard : mg "NoBoard" = some (.ref c_NoBoard)
  x_NoBoard : PySem.W.excIn K c_NoBoard [.type "ValueError", .type "Exception", .type "BaseException", .type "object"] "ValueError.__new__" = true
  q_NoBoard : PySem.W.keepIn K (.ref c_NoBoard) = true
  s_NoBoard : PySem.W.subIn K (.ref c_NoBoard) (.type "BaseException") = some true
  t_NoBoard : PySem.W.typeIn K (.ref c_NoBoard) = some (.type "type")
  c_NoFlag : Addr
  g_NoFlag : mg "NoFlag" = some (.ref c_NoFlag)
  x_NoFlag : PySem.W.excIn K c_NoFlag [.type "ValueError", .type "Exception", .type "BaseException", .type "object"] "ValueError.__new__" = true
  q_NoFlag : PySem.W.keepIn K (.ref c_NoFlag) = true
  s_NoFlag : PySem.W.subIn K (.ref c_NoFlag) (.type "BaseException") = some true
  t_NoFlag : PySem.W.typeIn K (.ref c_NoFlag) = some (.type "type")
section
variable {P : Program} {w : World} {K : KT} {mg : Str → Option Value} {base : Heap}
theorem sc_is_integer : FnScope ["thing"] ["thing"] (defScope s_is_integer) := ⟨rfl, rfl, rfl, by decide +kernel, rfl, by decide +kernel, by decide +kernel⟩
def b_is_integer : WS := (wRet (wAndV (wIsi (wV 0) ["int"]) (wNotV (wIsi (wV 0) ["bool"]))))
def w_is_integer : WF := fnW 1 b_is_integer
theorem ok_is_integer (T : Tx K mg) : FnOk P w K mg base CX0 1 T.a_is_integer T.d_is_integer ["thing"] (spW K 1 w_is_integer) :=
  fn_ok (wb := b_is_integer) T.f_is_integer sc_is_integer fun cdv A outer s H E hr => by
    have hu0 := room65 hr
    exact (ss_one (s_ret (e_and (e_isi (hm := fun _ => T.b_isinstance) (hv := boot_isinstance) (hm2 := fun _ => T.b_int) (hv2 := boot_int) (h := (b_of (e_var (i := 0))))) (e_one (e_not (e_isi (hm := fun _ => T.b_isinstance) (hv := boot_isinstance) (hm2 := fun _ => T.b_bool) (hv2 := boot_bool) (h := (b_of (e_var (i := 0))))))))))
theorem sc_is_within : FnScope ["thing", "low", "high"] ["thing", "low", "high"] (defScope s_is_within) := ⟨rfl, rfl, rfl, by decide +kernel, rfl, by decide +kernel, by decide +kernel⟩
def b_is_within : WS := (wRet (wAndV (wCl w_is_integer (wACons (wV 0) wANil)) (wChain dLe dLe (wV 1) (wV 0) (wV 2))))
def w_is_within : WF := fnW 3 b_is_within
theorem ok_is_within (T : Tx K mg) : FnOk P w K mg base CX0 2 T.a_is_within T.d_is_within ["thing", "low", "high"] (spW K 3 w_is_within) :=
  fn_ok (wb := b_is_within) T.f_is_within sc_is_within fun cdv A outer s H E hr => by
    have hu0 := room65 hr
    exact (ss_one (s_ret (e_and (e_call (hF := fun _ => (ok_is_integer T)) (hr := fun _ => hr.mono (by decide)) (hm := fun _ => T.m_is_integer) (hk := fun _ => T.f_is_integer.kp) (hb := fun _ => T.n_is_integer) (hx := fun _ => pass0) (ha := (a_cons (e_var (i := 0)) a_nil)) (hn := rfl)) (e_one (e_chain o_le o_le (b_of (e_var (i := 1))) (b_of (e_var (i := 0))) (b_of (e_var (i := 2))))))))
theorem sc_is_sized : FnScope ["thing", "low", "high"] ["thing", "low", "high"] (defScope s_is_sized) := ⟨rfl, rfl, rfl, by decide +kernel, rfl, by decide +kernel, by decide +kernel⟩
def b_is_sized : WS := (wRet (wAndV (wIsi (wV 0) ["tuple"]) (wChain dLe dLe (wV 1) (wCall cLen (wCons (wV 0) wNil)) (wV 2))))
def w_is_sized : WF := fnW 3 b_is_sized
theorem ok_is_sized (T : Tx K mg) : FnOk P w K mg base CX0 1 T.a_is_sized T.d_is_sized ["thing", "low", "high"] (spW K 3 w_is_sized) :=
  fn_ok (wb := b_is_sized) T.f_is_sized sc_is_sized fun cdv A outer s H E hr => by
    have hu0 := room65 hr
    exact (ss_one (s_ret (e_and (e_isi (hm := fun _ => T.b_isinstance) (hv := boot_isinstance) (hm2 := fun _ => T.b_tuple) (hv2 := boot_tuple) (h := (b_of (e_var (i := 0))))) (e_one (e_chain o_le o_le (b_of (e_var (i := 1))) (b_of (e_callB (ho := c_len) (hm := fun _ => T.b_len) (hv := PySem.boot_len) (ha := (l_cons (b_of (e_var (i := 0))) l_nil)))) (b_of (e_var (i := 2))))))))
theorem sc_is_line_free : FnScope ["cells", "signs", "cell", "sign"] ["cells"] (defScope s_is_line_free) := ⟨rfl, rfl, rfl, by decide +kernel, rfl, by decide +kernel, by decide +kernel⟩
def b_is_line_free : WS := (wSeq (wSet 1 (wLc (wSq (wV 0)) (gN 2) (wTest (wNotN (wV 2))) (wV 2) [2]))
  (wRet (wCall cAll (wCons (wLc (wSq (wV 1)) (gN 3) wYes (wOp dEq (wCount (wV 1) (wV 3)) (wC (.int 1))) [3]) wNil))))
def w_is_line_free : WF := fnW 4 b_is_line_free
theorem ok_is_line_free (T : Tx K mg) : FnOk P w K mg base CX0 1 T.a_is_line_free T.d_is_line_free ["cells"] (spW K 1 w_is_line_free) :=
  fn_ok (wb := b_is_line_free) T.f_is_line_free sc_is_line_free fun cdv A outer s H E hr => by
    have hu0 := room65 hr
    exact (ss_cons (s_set (i := 1) (hN := fun _ => sc_is_line_free.nd) (h := (e_lc (hc := (fun _ => rfl)) (hN := fun _ => sc_is_line_free.nd) (hi := (i_sq (e_var (i := 0)))) (own := [("cell", 2)]) (hg := (g_name (i := 2) (hN := fun _ => sc_is_line_free.nd))) (ht := (ts_one (t_notN (b_of (e_var (i := 2)))))) (he := (e_var (i := 2))))))
  (ss_one (s_ret (e_callB (ho := (c_all (fun _ => rfl))) (hm := fun _ => T.b_all) (hv := boot_all) (ha := (l_cons (b_of (e_lc (hc := (fun _ => rfl)) (hN := fun _ => sc_is_line_free.nd) (hi := (i_sq (e_var (i := 1)))) (own := [("sign", 3)]) (hg := (g_name (i := 3) (hN := fun _ => sc_is_line_free.nd))) (ht := ts_nil) (he := (e_cmp (o_eq (fun _ => hu0)) (b_of (e_count (b_of (e_var (i := 1))) (e_var (i := 3)))) (b_of e_int) (nomark _))))) l_nil))))))
theorem sc_is_board : FnScope ["thing", "n", "columns", "row", "cell", "j", "column"] ["thing"] (defScope s_is_board) := ⟨rfl, rfl, rfl, by decide +kernel, rfl, by decide +kernel, by decide +kernel⟩
def b_is_board : WS := (wSeq (wIfS (wOr (wNot (wTest (wCl w_is_sized (wACons (wV 0) (wACons (wC (.int 1)) (wACons (wC (.int 3)) wANil)))))) (wNot (wTest (wCall cAll (wCons (wLc (wSq (wV 0)) (gN 3) wYes (wCl w_is_sized (wACons (wV 3) (wACons (wCall cLen (wCons (wV 0) wNil)) (wACons (wCall cLen (wCons (wV 0) wNil)) wANil)))) [3]) wNil))))) (wRet (wC (.bool false))) wNext)
  (wSeq (wSet 1 (wCall cLen (wCons (wV 0) wNil)))
  (wSeq (wIfS (wNot (wTest (wCall cAll (wCons (wLc (wSq (wV 0)) (gN 3) wYes (wCall cAll (wCons (wLc (wSq (wV 3)) (gN 4) wYes (wOrV (wIsN (wV 4)) (wCl w_is_within (wACons (wV 4) (wACons (wC (.int 0)) (wACons (wOp dSub (wV 1) (wC (.int 1))) wANil))))) [4]) wNil)) [3]) wNil)))) (wRet (wC (.bool false))) wNext)
  (wSeq (wSet 2 (wLc (wRng1 (wCons (wV 1) wNil)) (gN 5) wYes (wLc (wSq (wV 0)) (gN 3) wYes (wOp dIx (wV 3) (wV 5)) [3]) [5]))
  (wRet (wAndV (wCall cAll (wCons (wLc (wSq (wV 0)) (gN 3) wYes (wCl w_is_line_free (wACons (wV 3) wANil)) [3]) wNil)) (wCall cAll (wCons (wLc (wSq (wV 2)) (gN 6) wYes (wCl w_is_line_free (wACons (wV 6) wANil)) [6]) wNil))))))))
def w_is_board : WF := fnW 7 b_is_board
theorem ok_is_board (T : Tx K mg) : FnOk P w K mg base CX0 3 T.a_is_board T.d_is_board ["thing"] (spW K 1 w_is_board) :=
  fn_ok (wb := b_is_board) T.f_is_board sc_is_board fun cdv A outer s H E hr => by
    have hu0 := room65 hr
    exact (ss_cons (s_if (t_of (tw_or (t_not (t_val (e_call (hF := fun _ => (ok_is_sized T)) (hr := fun _ => hr.mono (by decide)) (hm := fun _ => T.m_is_sized) (hk := fun _ => T.f_is_sized.kp) (hb := fun _ => T.n_is_sized) (hx := fun _ => pass0) (ha := (a_cons (e_var (i := 0)) (a_cons e_int (a_cons (e_globI (hm := fun _ => T.k_MOST_N)) a_nil)))) (hn := rfl)))) (tw_or1 (t_not (t_val (e_callB (ho := (c_all (fun _ => rfl))) (hm := fun _ => T.b_all) (hv := boot_all) (ha := (l_cons (b_of (e_lc (hc := (fun _ => rfl)) (hN := fun _ => sc_is_board.nd) (hi := (i_sq (e_var (i := 0)))) (own := [("row", 3)]) (hg := (g_name (i := 3) (hN := fun _ => sc_is_board.nd))) (ht := ts_nil) (he := (e_call (hF := fun _ => (ok_is_sized T)) (hr := fun _ => hr.mono (by decide)) (hm := fun _ => T.m_is_sized) (hk := fun _ => T.f_is_sized.kp) (hb := fun _ => T.n_is_sized) (hx := fun _ => pass0) (ha := (a_cons (e_var (i := 3)) (a_cons (e_callB (ho := c_len) (hm := fun _ => T.b_len) (hv := PySem.boot_len) (ha := (l_cons (b_of (e_var (i := 0))) l_nil))) (a_cons (e_callB (ho := c_len) (hm := fun _ => T.b_len) (hv := PySem.boot_len) (ha := (l_cons (b_of (e_var (i := 0))) l_nil))) a_nil)))) (hn := rfl))))) l_nil)))))))) (ss_one (s_ret e_bl)) ss_nil)
  (ss_cons (s_set (i := 1) (hN := fun _ => sc_is_board.nd) (h := (e_callB (ho := c_len) (hm := fun _ => T.b_len) (hv := PySem.boot_len) (ha := (l_cons (b_of (e_var (i := 0))) l_nil)))))
  (ss_cons (s_if (t_not (t_val (e_callB (ho := (c_all (fun _ => rfl))) (hm := fun _ => T.b_all) (hv := boot_all) (ha := (l_cons (b_of (e_lc (hc := (fun _ => rfl)) (hN := fun _ => sc_is_board.nd) (hi := (i_sq (e_var (i := 0)))) (own := [("row", 3)]) (hg := (g_name (i := 3) (hN := fun _ => sc_is_board.nd))) (ht := ts_nil) (he := (e_callB (ho := (c_all (fun _ => rfl))) (hm := fun _ => T.b_all) (hv := boot_all) (ha := (l_cons (b_of (e_lc (hc := (fun _ => rfl)) (hN := fun _ => sc_is_board.nd) (hi := (i_sq (e_var (i := 3)))) (own := [("cell", 4)]) (hg := (g_name (i := 4) (hN := fun _ => sc_is_board.nd))) (ht := ts_nil) (he := (e_or (e_isN (b_of (e_var (i := 4)))) (e_one (e_call (hF := fun _ => (ok_is_within T)) (hr := fun _ => hr.mono (by decide)) (hm := fun _ => T.m_is_within) (hk := fun _ => T.f_is_within.kp) (hb := fun _ => T.n_is_within) (hx := fun _ => pass0) (ha := (a_cons (e_var (i := 4)) (a_cons e_int (a_cons (e_op o_sub (b_of (e_var (i := 1))) (b_of e_int)) a_nil)))) (hn := rfl))))))) l_nil)))))) l_nil))))) (ss_one (s_ret e_bl)) ss_nil)
  (ss_cons (s_setLc (i := 2) (hc := (fun _ => rfl)) (hN := fun _ => sc_is_board.nd) (hi := (i_rng1 (hm := fun _ => T.b_range) (ha := (l_cons (b_of (e_var (i := 1))) l_nil)))) (own := [("j", 5)]) (hg := (g_name (i := 5) (hN := fun _ => sc_is_board.nd))) (ht := ts_nil) (he := (e_lc (hc := (fun _ => rfl)) (hN := fun _ => sc_is_board.nd) (hi := (i_sq (e_var (i := 0)))) (own := [("row", 3)]) (hg := (g_name (i := 3) (hN := fun _ => sc_is_board.nd))) (ht := ts_nil) (he := (e_ix (b_of (e_var (i := 3))) (b_of (e_var (i := 5))))))))
  (ss_one (s_ret (e_and (e_callB (ho := (c_all (fun _ => rfl))) (hm := fun _ => T.b_all) (hv := boot_all) (ha := (l_cons (b_of (e_lc (hc := (fun _ => rfl)) (hN := fun _ => sc_is_board.nd) (hi := (i_sq (e_var (i := 0)))) (own := [("row", 3)]) (hg := (g_name (i := 3) (hN := fun _ => sc_is_board.nd))) (ht := ts_nil) (he := (e_call (hF := fun _ => (ok_is_line_free T)) (hr := fun _ => hr.mono (by decide)) (hm := fun _ => T.m_is_line_free) (hk := fun _ => T.f_is_line_free.kp) (hb := fun _ => T.n_is_line_free) (hx := fun _ => pass0) (ha := (a_cons (e_var (i := 3)) a_nil)) (hn := rfl))))) l_nil))) (e_one (e_callB (ho := (c_all (fun _ => rfl))) (hm := fun _ => T.b_all) (hv := boot_all) (ha := (l_cons (b_of (e_lc (hc := (fun _ => rfl)) (hN := fun _ => sc_is_board.nd) (hi := (i_sq (e_var (i := 2)))) (own := [("column", 6)]) (hg := (g_name (i := 6) (hN := fun _ => sc_is_board.nd))) (ht := ts_nil) (he := (e_call (hF := fun _ => (ok_is_line_free T)) (hr := fun _ => hr.mono (by decide)) (hm := fun _ => T.m_is_line_free) (hk := fun _ => T.f_is_line_free.kp) (hb := fun _ => T.n_is_line_free) (hx := fun _ => pass0) (ha := (a_cons (e_var (i := 6)) a_nil)) (hn := rfl))))) l_nil)))))))))))
theorem sc_check_board : FnScope ["board"] ["board"] (defScope s_check_board) := ⟨rfl, rfl, rfl, by decide +kernel, rfl, by decide +kernel, by decide +kernel⟩
def b_check_board (T : Tx K mg) : WS := (wIfS (wNot (wTest (wCl w_is_board (wACons (wV 0) wANil)))) (wRaise T.c_NoBoard) wNext)
def w_check_board (T : Tx K mg) : WF := fnWX 1 (b_check_board T)
theorem ok_check_board (T : Tx K mg) : FnOk P w K mg base (L2.CX P w) 4 T.a_check_board T.d_check_board ["board"] (spW K 1 (w_check_board T)) :=
  fn_okX (wb := b_check_board T) T.f_check_board sc_check_board fun cdv A outer s H E hr => by
    have hu0 := room65 hr
    have tk : Takes (cxOf (L2.CX P w) P w K mg base ["board"] "check_board" (defScope s_check_board) T.a_check_board cdv A outer s H E) (fun cls d _ H' => E cls d H') := takes_of rfl rfl rfl rfl
    exact (ss_one (s_if (t_not (t_val (e_call (hF := fun _ => (ok_is_board T)) (hr := fun _ => hr.mono (by decide)) (hm := fun _ => T.m_is_board) (hk := fun _ => T.f_is_board.kp) (hb := fun _ => T.n_is_board) (hx := fun _ => pass0) (ha := (a_cons (e_var (i := 0)) a_nil)) (hn := rfl)))) (ss_one (s_raise0 (hc := (fun _ => rfl)) (tk := (fun _ => tk)) (F := PySem.F.excBase_ValueError) (q := fun _ => T.x_NoBoard) (gC := fun _ => T.g_NoBoard) (kC := fun _ => T.q_NoBoard) (r := fun _ => raises_own T.s_NoBoard T.t_NoBoard))) ss_nil))
theorem sc_puts_of : FnScope ["board", "found", "i", "row", "j", "cell", "column", "line", "sign"] ["board"] (defScope s_puts_of) := ⟨rfl, rfl, rfl, by decide +kernel, rfl, by decide +kernel, by decide +kernel⟩
def b_puts_of : WS := (wSeq (wSetN 1 (wLstN wANil))
  (wSeq (wFor (wEnum (wV 0)) (gT (gCons (gN 2) (gCons (gN 3) gNil))) (wFor (wEnum (wV 3)) (gT (gCons (gN 4) (gCons (gN 5) gNil))) (wIfS (wTest (wIsN (wV 5))) (wSeq (wSet 6 (wLc (wSq (wV 0)) (gN 7) wYes (wOp dIx (wV 7) (wV 4)) [7]))
  (wExt 1 (wLc (wRng1 (wCons (wCall cLen (wCons (wV 0) wNil)) wNil)) (gN 8) (wAnd (wTest (wOp dNotIn (wV 8) (wV 3))) (wTest (wOp dNotIn (wV 8) (wV 6)))) (wTup (wACons (wV 2) (wACons (wV 4) (wACons (wV 8) wANil)))) [8]))) wNext) [4, 5, 6]) [2, 3, 4, 5, 6])
  (wRetOw 1)))
def w_puts_of : WF := fnW 9 b_puts_of
theorem ok_puts_of (T : Tx K mg) : FnOk P w K mg base CX0 1 T.a_puts_of T.d_puts_of ["board"] (spW K 1 w_puts_of) :=
  fn_ok (wb := b_puts_of) T.f_puts_of sc_puts_of fun cdv A outer s H E hr => by
    have hu0 := room65 hr
    exact (ss_cons (s_setN (i := 1) (hN := fun _ => sc_puts_of.nd) (h := (n_lst a_nil)))
  (ss_cons (s_for [2, 3, 4, 5, 6] (hp := fun _ => PassesOwn.never) (hc := (fun _ => rfl)) (hi := (i_enum (hm := fun _ => T.b_enumerate) (h := (e_var (i := 0))))) (hg := (g_tup 2 (hc := (fun _ => rfl)) (h := (gs_cons (g_name (i := 2) (hN := fun _ => sc_puts_of.nd)) (gs_cons (g_name (i := 3) (hN := fun _ => sc_puts_of.nd)) gs_nil))) (hn := fun _ => rfl) (hl := (gCons_len (gCons_len gNil_len))))) (hb := (ss_one (s_for [4, 5, 6] (hp := fun _ => PassesOwn.never) (hc := (fun _ => rfl)) (hi := (i_enum (hm := fun _ => T.b_enumerate) (h := (e_var (i := 3))))) (hg := (g_tup 2 (hc := (fun _ => rfl)) (h := (gs_cons (g_name (i := 4) (hN := fun _ => sc_puts_of.nd)) (gs_cons (g_name (i := 5) (hN := fun _ => sc_puts_of.nd)) gs_nil))) (hn := fun _ => rfl) (hl := (gCons_len (gCons_len gNil_len))))) (hb := (ss_one (s_if (t_isN (b_of (e_var (i := 5)))) (ss_cons (s_set (i := 6) (hN := fun _ => sc_puts_of.nd) (h := (e_lc (hc := (fun _ => rfl)) (hN := fun _ => sc_puts_of.nd) (hi := (i_sq (e_var (i := 0)))) (own := [("line", 7)]) (hg := (g_name (i := 7) (hN := fun _ => sc_puts_of.nd))) (ht := ts_nil) (he := (e_ix (b_of (e_var (i := 7))) (b_of (e_var (i := 4))))))))
  (ss_one (s_ext (i := 1) (h := (b_of (e_lc (hc := (fun _ => rfl)) (hN := fun _ => sc_puts_of.nd) (hi := (i_rng1 (hm := fun _ => T.b_range) (ha := (l_cons (b_of (e_callB (ho := c_len) (hm := fun _ => T.b_len) (hv := PySem.boot_len) (ha := (l_cons (b_of (e_var (i := 0))) l_nil)))) l_nil)))) (own := [("sign", 8)]) (hg := (g_name (i := 8) (hN := fun _ => sc_puts_of.nd))) (ht := (ts_one (t_of (tw_and (t_cmp (o_notIn (fun _ => hu0)) (b_of (e_var (i := 8))) (b_of (e_var (i := 3))) rfl) (tw_and1 (t_cmp (o_notIn (fun _ => hu0)) (b_of (e_var (i := 8))) (b_of (e_var (i := 6))) rfl)))))) (he := (e_tup (a_cons (e_var (i := 2)) (a_cons (e_var (i := 4)) (a_cons (e_var (i := 8)) a_nil))))))))))) ss_nil)))))))
  (ss_one (s_retOw (j := 1)))))
theorem sc_behind : FnScope ["board", "triple", "i", "j", "sign"] ["board", "triple"] (defScope s_behind) := ⟨rfl, rfl, rfl, by decide +kernel, rfl, by decide +kernel, by decide +kernel⟩
def b_behind : WS := (wSeq (wAsgG (wV 1) (gT (gCons (gN 2) (gCons (gN 3) (gCons (gN 4) gNil)))))
  (wRet (wOp dAdd (wOp dAdd (wSl (wV 0) wNoP (wSomeP (wV 2))) (wTup (wACons (wOp dAdd (wOp dAdd (wSl (wOp dIx (wV 0) (wV 2)) wNoP (wSomeP (wV 3))) (wTup (wACons (wV 4) wANil))) (wSl (wOp dIx (wV 0) (wV 2)) (wSomeP (wOp dAdd (wV 3) (wC (.int 1)))) wNoP)) wANil))) (wSl (wV 0) (wSomeP (wOp dAdd (wV 2) (wC (.int 1)))) wNoP))))
def w_behind : WF := fnW 5 b_behind
theorem ok_behind (T : Tx K mg) : FnOk P w K mg base CX0 1 T.a_behind T.d_behind ["board", "triple"] (spW K 2 w_behind) :=
  fn_ok (wb := b_behind) T.f_behind sc_behind fun cdv A outer s H E hr => by
    have hu0 := room65 hr
    exact (ss_cons (s_asg (e_var (i := 1)) (g_tup 3 (hc := (fun _ => rfl)) (h := (gs_cons (g_name (i := 2) (hN := fun _ => sc_behind.nd)) (gs_cons (g_name (i := 3) (hN := fun _ => sc_behind.nd)) (gs_cons (g_name (i := 4) (hN := fun _ => sc_behind.nd)) gs_nil)))) (hn := fun _ => rfl) (hl := (gCons_len (gCons_len (gCons_len gNil_len))))))
  (ss_one (s_ret (e_op o_add (b_of (e_op o_add (b_of (e_sl (b_of (e_var (i := 0))) p_none (p_some (e_var (i := 2))))) (b_of (e_tup (a_cons (e_op o_add (b_of (e_op o_add (b_of (e_sl (b_of (e_ix (b_of (e_var (i := 0))) (b_of (e_var (i := 2))))) p_none (p_some (e_var (i := 3))))) (b_of (e_tup (a_cons (e_var (i := 4)) a_nil))))) (b_of (e_sl (b_of (e_ix (b_of (e_var (i := 0))) (b_of (e_var (i := 2))))) (p_some (e_op o_add (b_of (e_var (i := 3))) (b_of e_int))) p_none))) a_nil))))) (b_of (e_sl (b_of (e_var (i := 0))) (p_some (e_op o_add (b_of (e_var (i := 2))) (b_of e_int))) p_none))))))
theorem sc_is_full : FnScope ["board", "row"] ["board"] (defScope s_is_full) := ⟨rfl, rfl, rfl, by decide +kernel, rfl, by decide +kernel, by decide +kernel⟩
def b_is_full : WS := (wRet (wNotV (wCall cAny (wCons (wLc (wSq (wV 0)) (gN 1) wYes (wOp dIn (wC .none) (wV 1)) [1]) wNil))))
def w_is_full : WF := fnW 2 b_is_full
theorem ok_is_full (T : Tx K mg) : FnOk P w K mg base CX0 1 T.a_is_full T.d_is_full ["board"] (spW K 1 w_is_full) :=
  fn_ok (wb := b_is_full) T.f_is_full sc_is_full fun cdv A outer s H E hr => by
    have hu0 := room65 hr
    exact (ss_one (s_ret (e_not (e_callB (ho := (c_any (fun _ => rfl))) (hm := fun _ => T.b_any) (hv := boot_any) (ha := (l_cons (b_of (e_lc (hc := (fun _ => rfl)) (hN := fun _ => sc_is_full.nd) (hi := (i_sq (e_var (i := 0)))) (own := [("row", 1)]) (hg := (g_name (i := 1) (hN := fun _ => sc_is_full.nd))) (ht := ts_nil) (he := (e_cmp (o_in (fun _ => hu0)) (b_of e_non) (b_of (e_var (i := 1))) rfl)))) l_nil))))))
theorem sc_order_from : FnScope ["board", "layers", "later", "here", "found", "layer", "triple"] ["board"] (defScope s_order_from) := ⟨rfl, rfl, rfl, by decide +kernel, rfl, by decide +kernel, by decide +kernel⟩
def b_order_from : WS := (wSeq (wSetN 1 (wLstN (wACons (wNwE (wNwD1 (wV 0) (wC (.bool true)))) wANil)))
  (wSeq (wWhile (wTest (wOp dGt (wCall cLenX (wCons (wOp dIxX (wVB 1) (wNeg (wC (.int 1)))) wNil)) (wC (.int 0)))) (wSeq (wSetNw 2 wNwD)
  (wSeq (wFor (wSqX (wOp dIxX (wVB 1) (wNeg (wC (.int 1))))) (gN 3) (wUpd 2 (wNwE (wNwDL (wLc (wSqX (wCl w_puts_of (wACons (wV 3) wANil))) (gN 6) wYes (wTup (wACons (wCl w_behind (wACons (wV 3) (wACons (wV 6) wANil))) (wACons (wC (.bool true)) wANil))) [6])))) [3])
  (wFrz 2 (wApp 1 (wV 2))))) [2, 3])
  (wSeq (wSetN 4 (wLstN wANil))
  (wSeq (wFor (wSqX (wRev (wVB 1))) (gN 5) (wExt 4 (wCall cListX (wCons (wV 5) wNil))) [5])
  (wRetOw 4)))))
def w_order_from : WF := fnW 7 b_order_from
theorem ok_order_from (T : Tx K mg) : FnOk P w K mg base CX0 2 T.a_order_from T.d_order_from ["board"] (spW K 1 w_order_from) :=
  fn_ok (wb := b_order_from) T.f_order_from sc_order_from fun cdv A outer s H E hr => by
    have hu0 := room65 hr
    exact (ss_cons (s_setN (i := 1) (hN := fun _ => sc_order_from.nd) (h := (n_lst (a_cons (e_nw (nw_dict1 (fun _ => hu0) (e_var (i := 0)) e_bl)) a_nil))))
  (ss_cons (s_while [2, 3] (hp := fun _ => PassesOwn.never) (hc := (t_cmp o_gt (b_of (e_callB (ho := c_lenX) (hm := fun _ => T.b_len) (hv := PySem.boot_len) (ha := (l_cons (b_of (e_ixX (fun _ => hu0) (b_var (i := 1)) (b_of (e_neg e_int)))) l_nil)))) (b_of e_int) (nomark _))) (hb := (ss_cons (s_setNw (i := 2) (hN := fun _ => sc_order_from.nd) (h := nw_dict0))
  (ss_cons (s_for [3] (hp := fun _ => PassesOwn.never) (hc := (fun _ => rfl)) (hi := (i_sqX (e_ixX (fun _ => hu0) (b_var (i := 1)) (b_of (e_neg e_int))))) (hg := (g_name (i := 3) (hN := fun _ => sc_order_from.nd))) (hb := (ss_one (s_upd (i := 2) (hu := (fun _ => hu0)) (h := (e_nw (nw_dictL (hc := (fun _ => rfl)) (hu := (fun _ => hu0)) (hm := fun _ => T.b_dict) (hv := boot_dict) (ha := (e_lc (hc := (fun _ => rfl)) (hN := fun _ => sc_order_from.nd) (hi := (i_sqX (e_call (hF := fun _ => (ok_puts_of T)) (hr := fun _ => hr.mono (by decide)) (hm := fun _ => T.m_puts_of) (hk := fun _ => T.f_puts_of.kp) (hb := fun _ => T.n_puts_of) (hx := fun _ => pass0) (ha := (a_cons (e_var (i := 3)) a_nil)) (hn := rfl)))) (own := [("triple", 6)]) (hg := (g_name (i := 6) (hN := fun _ => sc_order_from.nd))) (ht := ts_nil) (he := (e_tup (a_cons (e_call (hF := fun _ => (ok_behind T)) (hr := fun _ => hr.mono (by decide)) (hm := fun _ => T.m_behind) (hk := fun _ => T.f_behind.kp) (hb := fun _ => T.n_behind) (hx := fun _ => pass0) (ha := (a_cons (e_var (i := 3)) (a_cons (e_var (i := 6)) a_nil))) (hn := rfl)) (a_cons e_bl a_nil)))))))))))))
  (ss_one (s_frz 2 (s_app (i := 1) (h := (e_var (i := 2))))))))))
  (ss_cons (s_setN (i := 4) (hN := fun _ => sc_order_from.nd) (h := (n_lst a_nil)))
  (ss_cons (s_for [5] (hp := fun _ => PassesOwn.never) (hc := (fun _ => rfl)) (hi := (i_sqX (e_rev (b_var (i := 1))))) (hg := (g_name (i := 5) (hN := fun _ => sc_order_from.nd))) (hb := (ss_one (s_ext (i := 4) (h := (b_of (e_callTy (ho := (c_listX (fun _ => rfl))) (hm := fun _ => T.b_list) (hv := boot_list) (ha := (l_cons (b_of (e_var (i := 5))) l_nil)))))))))
  (ss_one (s_retOw (j := 4)))))))
theorem sc_wins_from : FnScope ["board", "found", "here", "puts", "is_fillers", "told", "triple"] ["board"] (defScope s_wins_from) := ⟨rfl, rfl, rfl, by decide +kernel, rfl, by decide +kernel, by decide +kernel⟩
def b_wins_from : WS := (wSeq (wSetNw 1 wNwD)
  (wSeq (wFor (wSqX (wCl w_order_from (wACons (wV 0) wANil))) (gN 2) (wSeq (wSet 3 (wCl w_puts_of (wACons (wV 2) wANil)))
  (wFor (wSqX (wTup (wACons (wC (.bool true)) (wACons (wC (.bool false)) wANil)))) (gN 4) (wIfS (wTest (wOp dEq (wCall cLenX (wCons (wV 3) wNil)) (wC (.int 0)))) (wSetK 1 (wTup (wACons (wV 2) (wACons (wV 4) wANil))) (wCl w_is_full (wACons (wV 2) wANil))) (wSeq (wSet 5 (wLc (wSqX (wV 3)) (gN 6) wYes (wOp dIxX (wVB 1) (wTup (wACons (wCl w_behind (wACons (wV 2) (wACons (wV 6) wANil))) (wACons (wNotV (wV 4)) wANil)))) [6]))
  (wSetK 1 (wTup (wACons (wV 2) (wACons (wV 4) wANil))) (wIf (wTest (wV 4)) (wCall cAny (wCons (wV 5) wNil)) (wCall cAll (wCons (wV 5) wNil)))))) [4, 5])) [2, 3, 4, 5])
  (wRetEn 1)))
def w_wins_from : WF := fnW 7 b_wins_from
theorem ok_wins_from (T : Tx K mg) : FnOk P w K mg base CX0 3 T.a_wins_from T.d_wins_from ["board"] (spW K 1 w_wins_from) :=
  fn_ok (wb := b_wins_from) T.f_wins_from sc_wins_from fun cdv A outer s H E hr => by
    have hu0 := room65 hr
    exact (ss_cons (s_setNw (i := 1) (hN := fun _ => sc_wins_from.nd) (h := nw_dict0))
  (ss_cons (s_for [2, 3, 4, 5] (hp := fun _ => PassesOwn.never) (hc := (fun _ => rfl)) (hi := (i_sqX (e_call (hF := fun _ => (ok_order_from T)) (hr := fun _ => hr.mono (by decide)) (hm := fun _ => T.m_order_from) (hk := fun _ => T.f_order_from.kp) (hb := fun _ => T.n_order_from) (hx := fun _ => pass0) (ha := (a_cons (e_var (i := 0)) a_nil)) (hn := rfl)))) (hg := (g_name (i := 2) (hN := fun _ => sc_wins_from.nd))) (hb := (ss_cons (s_set (i := 3) (hN := fun _ => sc_wins_from.nd) (h := (e_call (hF := fun _ => (ok_puts_of T)) (hr := fun _ => hr.mono (by decide)) (hm := fun _ => T.m_puts_of) (hk := fun _ => T.f_puts_of.kp) (hb := fun _ => T.n_puts_of) (hx := fun _ => pass0) (ha := (a_cons (e_var (i := 2)) a_nil)) (hn := rfl))))
  (ss_one (s_for [4, 5] (hp := fun _ => PassesOwn.never) (hc := (fun _ => rfl)) (hi := (i_sqX (e_tup (a_cons e_bl (a_cons e_bl a_nil))))) (hg := (g_name (i := 4) (hN := fun _ => sc_wins_from.nd))) (hb := (ss_one (s_if (t_cmp (o_eq (fun _ => hu0)) (b_of (e_callB (ho := c_lenX) (hm := fun _ => T.b_len) (hv := PySem.boot_len) (ha := (l_cons (b_of (e_var (i := 3))) l_nil)))) (b_of e_int) (nomark _)) (ss_one (s_setK (i := 1) (hu := (fun _ => hu0)) (hk := (e_tup (a_cons (e_var (i := 2)) (a_cons (e_var (i := 4)) a_nil)))) (h := (e_call (hF := fun _ => (ok_is_full T)) (hr := fun _ => hr.mono (by decide)) (hm := fun _ => T.m_is_full) (hk := fun _ => T.f_is_full.kp) (hb := fun _ => T.n_is_full) (hx := fun _ => pass0) (ha := (a_cons (e_var (i := 2)) a_nil)) (hn := rfl))))) (ss_cons (s_setLc (i := 5) (hc := (fun _ => rfl)) (hN := fun _ => sc_wins_from.nd) (hi := (i_sqX (e_var (i := 3)))) (own := [("triple", 6)]) (hg := (g_name (i := 6) (hN := fun _ => sc_wins_from.nd))) (ht := ts_nil) (he := (e_ixX (fun _ => hu0) (b_var (i := 1)) (b_of (e_tup (a_cons (e_call (hF := fun _ => (ok_behind T)) (hr := fun _ => hr.mono (by decide)) (hm := fun _ => T.m_behind) (hk := fun _ => T.f_behind.kp) (hb := fun _ => T.n_behind) (hx := fun _ => pass0) (ha := (a_cons (e_var (i := 2)) (a_cons (e_var (i := 6)) a_nil))) (hn := rfl)) (a_cons (e_not (e_var (i := 4))) a_nil)))))))
  (ss_one (s_setK (i := 1) (hu := (fun _ => hu0)) (hk := (e_tup (a_cons (e_var (i := 2)) (a_cons (e_var (i := 4)) a_nil)))) (h := (e_if (t_val (e_var (i := 4))) (e_callB (ho := (c_any (fun _ => rfl))) (hm := fun _ => T.b_any) (hv := boot_any) (ha := (l_cons (b_of (e_var (i := 5))) l_nil))) (e_callB (ho := (c_all (fun _ => rfl))) (hm := fun _ => T.b_all) (hv := boot_all) (ha := (l_cons (b_of (e_var (i := 5))) l_nil))))))))))))))))
  (ss_one (s_retEn (j := 1)))))
theorem sc_check_turn : FnScope ["board", "is_first"] ["board", "is_first"] (defScope s_check_turn) := ⟨rfl, rfl, rfl, by decide +kernel, rfl, by decide +kernel, by decide +kernel⟩
def b_check_turn (T : Tx K mg) : WS := (wSeq (wDropX (wClX (w_check_board T) (wACons (wV 0) wANil)))
  (wIfS (wNot (wTest (wIsi (wV 1) ["bool"]))) (wRaise T.c_NoFlag) wNext))
def w_check_turn (T : Tx K mg) : WF := fnWX 2 (b_check_turn T)
theorem ok_check_turn (T : Tx K mg) : FnOk P w K mg base (L2.CX P w) 5 T.a_check_turn T.d_check_turn ["board", "is_first"] (spW K 2 (w_check_turn T)) :=
  fn_okX (wb := b_check_turn T) T.f_check_turn sc_check_turn fun cdv A outer s H E hr => by
    have hu0 := room65 hr
    have tk : Takes (cxOf (L2.CX P w) P w K mg base ["board", "is_first"] "check_turn" (defScope s_check_turn) T.a_check_turn cdv A outer s H E) (fun cls d _ H' => E cls d H') := takes_of rfl rfl rfl rfl
    exact (ss_cons (s_exprX (x_call (hF := fun _ => (ok_check_board T)) (hr := fun _ => hr.mono (by decide)) (hm := fun _ => T.m_check_board) (hk := fun _ => T.f_check_board.kp) (hb := fun _ => T.n_check_board) (tk := (fun _ => tk)) (ha := (a_cons (e_var (i := 0)) a_nil)) (hn := rfl)))
  (ss_one (s_if (t_not (t_val (e_isi (hm := fun _ => T.b_isinstance) (hv := boot_isinstance) (hm2 := fun _ => T.b_bool) (hv2 := boot_bool) (h := (b_of (e_var (i := 1))))))) (ss_one (s_raise0 (hc := (fun _ => rfl)) (tk := (fun _ => tk)) (F := PySem.F.excBase_ValueError) (q := fun _ => T.x_NoFlag) (gC := fun _ => T.g_NoFlag) (kC := fun _ => T.q_NoFlag) (r := fun _ => raises_own T.s_NoFlag T.t_NoFlag))) ss_nil)))
theorem sc_book_from : FnScope ["board", "is_first", "wins", "is_filler", "book", "met", "waiting", "here", "is_fillers", "puts", "good", "triple"] ["board", "is_first", "wins"] (defScope s_book_from) := ⟨rfl, rfl, rfl, by decide +kernel, rfl, by decide +kernel, by decide +kernel⟩
def b_book_from : WS := (wSeq (wSet 3 (wOp dIxX (wV 2) (wTup (wACons (wV 0) (wACons (wV 1) wANil)))))
  (wSeq (wParX [4, 5, 6] (wNNw wNwD (wNNw wNwD (wNNw (wNwL (wACons (wTup (wACons (wV 0) (wACons (wV 1) wANil))) wANil)) wNNil))))
  (wSeq (wWhile (wTest (wOp dGt (wCall cLenX (wCons (wVB 6) wNil)) (wC (.int 0)))) (wSeq (wAsgM (wPop 6) (gT (gCons (gN 7) (gCons (gN 8) gNil))))
  (wSeq (wIfS (wTest (wOp dInX (wTup (wACons (wV 7) (wACons (wV 8) wANil))) (wVB 5))) wCont wNext)
  (wSeq (wSetK 5 (wTup (wACons (wV 7) (wACons (wV 8) wANil))) (wC (.bool true)))
  (wSeq (wSet 9 (wCl w_puts_of (wACons (wV 7) wANil)))
  (wSeq (wIfS (wAnd (wTest (wOp dEq (wV 8) (wV 3))) (wTest (wOp dGt (wCall cLenX (wCons (wV 9) wNil)) (wC (.int 0))))) (wSeq (wSet 10 (wLc (wSqX (wV 9)) (gN 11) (wTest (wOp dEq (wOp dIxX (wV 2) (wTup (wACons (wCl w_behind (wACons (wV 7) (wACons (wV 11) wANil))) (wACons (wNotV (wV 8)) wANil)))) (wV 3))) (wV 11) [11]))
  (wSeq (wSetK 4 (wV 7) (wOp dIxX (wV 10) (wC (.int 0))))
  (wSet 9 (wSl (wV 10) wNoP (wSomeP (wC (.int 1))))))) wNext)
  (wExt 6 (wLc (wSqX (wV 9)) (gN 11) wYes (wTup (wACons (wCl w_behind (wACons (wV 7) (wACons (wV 11) wANil))) (wACons (wNotV (wV 8)) wANil))) [11]))))))) [7, 8, 9, 10])
  (wRetEn 4))))
def w_book_from : WF := fnW 12 b_book_from
theorem ok_book_from (T : Tx K mg) : FnOk P w K mg base CX0 2 T.a_book_from T.d_book_from ["board", "is_first", "wins"] (spW K 3 w_book_from) :=
  fn_ok (wb := b_book_from) T.f_book_from sc_book_from fun cdv A outer s H E hr => by
    have hu0 := room65 hr
    exact (ss_cons (s_set (i := 3) (hN := fun _ => sc_book_from.nd) (h := (e_ixX (fun _ => hu0) (b_of (e_var (i := 2))) (b_of (e_tup (a_cons (e_var (i := 0)) (a_cons (e_var (i := 1)) a_nil)))))))
  (ss_cons (s_par3X (i := 4) (j := 5) (l := 6) (hil := by decide) (hjl := by decide) (hc := (fun _ => rfl)) (hN := fun _ => sc_book_from.nd) (hij := by decide) (h := (n_nw nw_dict0 (n_nw nw_dict0 (n_nw (nw_lst (a_cons (e_tup (a_cons (e_var (i := 0)) (a_cons (e_var (i := 1)) a_nil))) a_nil)) n_nil)))))
  (ss_cons (s_while [7, 8, 9, 10] (hp := fun _ => PassesOwn.never) (hc := (t_cmp o_gt (b_of (e_callB (ho := c_lenX) (hm := fun _ => T.b_len) (hv := PySem.boot_len) (ha := (l_cons (b_var (i := 6)) l_nil)))) (b_of e_int) (nomark _))) (hb := (ss_cons (s_asgM (m_pop (i := 6)) (g_tup 2 (hc := (fun _ => rfl)) (h := (gs_cons (g_name (i := 7) (hN := fun _ => sc_book_from.nd)) (gs_cons (g_name (i := 8) (hN := fun _ => sc_book_from.nd)) gs_nil))) (hn := fun _ => rfl) (hl := (gCons_len (gCons_len gNil_len)))))
  (ss_cons (s_if (t_cmp (o_inX (fun _ => hu0)) (b_of (e_tup (a_cons (e_var (i := 7)) (a_cons (e_var (i := 8)) a_nil)))) (b_var (i := 5)) rfl) (ss_one s_cont) ss_nil)
  (ss_cons (s_setK (i := 5) (hu := (fun _ => hu0)) (hk := (e_tup (a_cons (e_var (i := 7)) (a_cons (e_var (i := 8)) a_nil)))) (h := e_bl))
  (ss_cons (s_set (i := 9) (hN := fun _ => sc_book_from.nd) (h := (e_call (hF := fun _ => (ok_puts_of T)) (hr := fun _ => hr.mono (by decide)) (hm := fun _ => T.m_puts_of) (hk := fun _ => T.f_puts_of.kp) (hb := fun _ => T.n_puts_of) (hx := fun _ => pass0) (ha := (a_cons (e_var (i := 7)) a_nil)) (hn := rfl))))
  (ss_cons (s_if (t_of (tw_and (t_cmp (o_eq (fun _ => hu0)) (b_of (e_var (i := 8))) (b_of (e_var (i := 3))) (nomark _)) (tw_and1 (t_cmp o_gt (b_of (e_callB (ho := c_lenX) (hm := fun _ => T.b_len) (hv := PySem.boot_len) (ha := (l_cons (b_of (e_var (i := 9))) l_nil)))) (b_of e_int) (nomark _))))) (ss_cons (s_setLc (i := 10) (hc := (fun _ => rfl)) (hN := fun _ => sc_book_from.nd) (hi := (i_sqX (e_var (i := 9)))) (own := [("triple", 11)]) (hg := (g_name (i := 11) (hN := fun _ => sc_book_from.nd))) (ht := (ts_one (t_cmp (o_eq (fun _ => hu0)) (b_of (e_ixX (fun _ => hu0) (b_of (e_var (i := 2))) (b_of (e_tup (a_cons (e_call (hF := fun _ => (ok_behind T)) (hr := fun _ => hr.mono (by decide)) (hm := fun _ => T.m_behind) (hk := fun _ => T.f_behind.kp) (hb := fun _ => T.n_behind) (hx := fun _ => pass0) (ha := (a_cons (e_var (i := 7)) (a_cons (e_var (i := 11)) a_nil))) (hn := rfl)) (a_cons (e_not (e_var (i := 8))) a_nil)))))) (b_of (e_var (i := 3))) (nomark _)))) (he := (e_var (i := 11))))
  (ss_cons (s_setK (i := 4) (hu := (fun _ => hu0)) (hk := (e_var (i := 7))) (h := (e_ixX (fun _ => hu0) (b_of (e_var (i := 10))) (b_of e_int))))
  (ss_one (s_set (i := 9) (hN := fun _ => sc_book_from.nd) (h := (e_sl (b_of (e_var (i := 10))) p_none (p_some e_int))))))) ss_nil)
  (ss_one (s_ext (i := 6) (h := (b_of (e_lc (hc := (fun _ => rfl)) (hN := fun _ => sc_book_from.nd) (hi := (i_sqX (e_var (i := 9)))) (own := [("triple", 11)]) (hg := (g_name (i := 11) (hN := fun _ => sc_book_from.nd))) (ht := ts_nil) (he := (e_tup (a_cons (e_call (hF := fun _ => (ok_behind T)) (hr := fun _ => hr.mono (by decide)) (hm := fun _ => T.m_behind) (hk := fun _ => T.f_behind.kp) (hb := fun _ => T.n_behind) (hx := fun _ => pass0) (ha := (a_cons (e_var (i := 7)) (a_cons (e_var (i := 11)) a_nil))) (hn := rfl)) (a_cons (e_not (e_var (i := 8))) a_nil))))))))))))))))
  (ss_one (s_retEn (j := 4))))))
theorem sc_filler_wins : FnScope ["board", "is_first", "wins"] ["board", "is_first"] (defScope s_filler_wins) := ⟨rfl, rfl, rfl, by decide +kernel, rfl, by decide +kernel, by decide +kernel⟩
def b_filler_wins (T : Tx K mg) : WS := (wSeq (wDropX (wClX (w_check_turn T) (wACons (wV 0) (wACons (wV 1) wANil))))
  (wSeq (wSet 2 (wCl w_wins_from (wACons (wV 0) wANil)))
  (wRet (wTup (wACons (wIf (wTest (wOp dIxX (wV 2) (wTup (wACons (wV 0) (wACons (wV 1) wANil))))) (wC (.str "filler")) (wC (.str "spoiler"))) (wACons (wCl w_book_from (wACons (wV 0) (wACons (wV 1) (wACons (wV 2) wANil)))) wANil))))))
def w_filler_wins (T : Tx K mg) : WF := fnWX 3 (b_filler_wins T)
theorem ok_filler_wins (T : Tx K mg) : FnOk P w K mg base (L2.CX P w) 6 T.a_filler_wins T.d_filler_wins ["board", "is_first"] (spW K 2 (w_filler_wins T)) :=
  fn_okX (wb := b_filler_wins T) T.f_filler_wins sc_filler_wins fun cdv A outer s H E hr => by
    have hu0 := room65 hr
    have tk : Takes (cxOf (L2.CX P w) P w K mg base ["board", "is_first", "wins"] "filler_wins" (defScope s_filler_wins) T.a_filler_wins cdv A outer s H E) (fun cls d _ H' => E cls d H') := takes_of rfl rfl rfl rfl
    exact (ss_cons (s_exprX (x_call (hF := fun _ => (ok_check_turn T)) (hr := fun _ => hr.mono (by decide)) (hm := fun _ => T.m_check_turn) (hk := fun _ => T.f_check_turn.kp) (hb := fun _ => T.n_check_turn) (tk := (fun _ => tk)) (ha := (a_cons (e_var (i := 0)) (a_cons (e_var (i := 1)) a_nil))) (hn := rfl)))
  (ss_cons (s_set (i := 2) (hN := fun _ => sc_filler_wins.nd) (h := (e_call (hF := fun _ => (ok_wins_from T)) (hr := fun _ => hr.mono (by decide)) (hm := fun _ => T.m_wins_from) (hk := fun _ => T.f_wins_from.kp) (hb := fun _ => T.n_wins_from) (hx := fun _ => pass0) (ha := (a_cons (e_var (i := 0)) a_nil)) (hn := rfl))))
  (ss_one (s_ret (e_tup (a_cons (e_if (t_val (e_ixX (fun _ => hu0) (b_of (e_var (i := 2))) (b_of (e_tup (a_cons (e_var (i := 0)) (a_cons (e_var (i := 1)) a_nil)))))) (e_globS (hm := fun _ => T.k_FILLER)) (e_globS (hm := fun _ => T.k_SPOILER))) (a_cons (e_call (hF := fun _ => (ok_book_from T)) (hr := fun _ => hr.mono (by decide)) (hm := fun _ => T.m_book_from) (hk := fun _ => T.f_book_from.kp) (hb := fun _ => T.n_book_from) (hx := fun _ => pass0) (ha := (a_cons (e_var (i := 0)) (a_cons (e_var (i := 1)) (a_cons (e_var (i := 2)) a_nil)))) (hn := rfl)) a_nil)))))))
theorem sc_are_small : FnScope ["numbers", "one"] ["numbers"] (defScope s_are_small) := ⟨rfl, rfl, rfl, by decide +kernel, rfl, by decide +kernel, by decide +kernel⟩
def b_are_small : WS := (wRet (wCall cAll (wCons (wLc (wSq (wV 0)) (gN 1) wYes (wCl w_is_within (wACons (wV 1) (wACons (wC (.int 0)) (wACons (wOp dSub (wC (.int 3)) (wC (.int 1))) wANil)))) [1]) wNil)))
def w_are_small : WF := fnW 2 b_are_small
theorem ok_are_small (T : Tx K mg) : FnOk P w K mg base CX0 3 T.a_are_small T.d_are_small ["numbers"] (spW K 1 w_are_small) :=
  fn_ok (wb := b_are_small) T.f_are_small sc_are_small fun cdv A outer s H E hr => by
    have hu0 := room65 hr
    exact (ss_one (s_ret (e_callB (ho := (c_all (fun _ => rfl))) (hm := fun _ => T.b_all) (hv := boot_all) (ha := (l_cons (b_of (e_lc (hc := (fun _ => rfl)) (hN := fun _ => sc_are_small.nd) (hi := (i_sq (e_var (i := 0)))) (own := [("one", 1)]) (hg := (g_name (i := 1) (hN := fun _ => sc_are_small.nd))) (ht := ts_nil) (he := (e_call (hF := fun _ => (ok_is_within T)) (hr := fun _ => hr.mono (by decide)) (hm := fun _ => T.m_is_within) (hk := fun _ => T.f_is_within.kp) (hb := fun _ => T.n_is_within) (hx := fun _ => pass0) (ha := (a_cons (e_var (i := 1)) (a_cons e_int (a_cons (e_op o_sub (b_of (e_globI (hm := fun _ => T.k_MOST_N))) (b_of e_int)) a_nil)))) (hn := rfl))))) l_nil)))))
theorem sc_is_book : FnScope ["thing", "board"] ["thing"] (defScope s_is_book) := ⟨rfl, rfl, rfl, by decide +kernel, rfl, by decide +kernel, by decide +kernel⟩
def b_is_book : WS := (wSeq (wIfS (wOr (wNot (wTest (wIsi (wV 0) ["dict"]))) (wNot (wTest (wCall cAll (wCons (wLc (wSqX (wV 0)) (gN 1) wYes (wCl w_is_board (wACons (wV 1) wANil)) [1]) wNil))))) (wRet (wC (.bool false))) wNext)
  (wRet (wCall cAll (wCons (wLc (wSqX (wV 0)) (gN 1) wYes (wAndV (wCl w_is_sized (wACons (wOp dIxX (wV 0) (wV 1)) (wACons (wC (.int 3)) (wACons (wC (.int 3)) wANil)))) (wCl w_are_small (wACons (wOp dIxX (wV 0) (wV 1)) wANil))) [1]) wNil))))
def w_is_book : WF := fnW 2 b_is_book
theorem ok_is_book (T : Tx K mg) : FnOk P w K mg base CX0 4 T.a_is_book T.d_is_book ["thing"] (spW K 1 w_is_book) :=
  fn_ok (wb := b_is_book) T.f_is_book sc_is_book fun cdv A outer s H E hr => by
    have hu0 := room65 hr
    exact (ss_cons (s_if (t_of (tw_or (t_not (t_val (e_isi (hm := fun _ => T.b_isinstance) (hv := boot_isinstance) (hm2 := fun _ => T.b_dict) (hv2 := boot_dict) (h := (b_of (e_var (i := 0))))))) (tw_or1 (t_not (t_val (e_callB (ho := (c_all (fun _ => rfl))) (hm := fun _ => T.b_all) (hv := boot_all) (ha := (l_cons (b_of (e_lc (hc := (fun _ => rfl)) (hN := fun _ => sc_is_book.nd) (hi := (i_sqX (e_var (i := 0)))) (own := [("board", 1)]) (hg := (g_name (i := 1) (hN := fun _ => sc_is_book.nd))) (ht := ts_nil) (he := (e_call (hF := fun _ => (ok_is_board T)) (hr := fun _ => hr.mono (by decide)) (hm := fun _ => T.m_is_board) (hk := fun _ => T.f_is_board.kp) (hb := fun _ => T.n_is_board) (hx := fun _ => pass0) (ha := (a_cons (e_var (i := 1)) a_nil)) (hn := rfl))))) l_nil)))))))) (ss_one (s_ret e_bl)) ss_nil)
  (ss_one (s_ret (e_callB (ho := (c_all (fun _ => rfl))) (hm := fun _ => T.b_all) (hv := boot_all) (ha := (l_cons (b_of (e_lc (hc := (fun _ => rfl)) (hN := fun _ => sc_is_book.nd) (hi := (i_sqX (e_var (i := 0)))) (own := [("board", 1)]) (hg := (g_name (i := 1) (hN := fun _ => sc_is_book.nd))) (ht := ts_nil) (he := (e_and (e_call (hF := fun _ => (ok_is_sized T)) (hr := fun _ => hr.mono (by decide)) (hm := fun _ => T.m_is_sized) (hk := fun _ => T.f_is_sized.kp) (hb := fun _ => T.n_is_sized) (hx := fun _ => pass0) (ha := (a_cons (e_ixX (fun _ => hu0) (b_of (e_var (i := 0))) (b_of (e_var (i := 1)))) (a_cons e_int (a_cons e_int a_nil)))) (hn := rfl)) (e_one (e_call (hF := fun _ => (ok_are_small T)) (hr := fun _ => hr.mono (by decide)) (hm := fun _ => T.m_are_small) (hk := fun _ => T.f_are_small.kp) (hb := fun _ => T.n_are_small) (hx := fun _ => pass0) (ha := (a_cons (e_ixX (fun _ => hu0) (b_of (e_var (i := 0))) (b_of (e_var (i := 1)))) a_nil)) (hn := rfl))))))) l_nil))))))
theorem sc_holds_by : FnScope ["board", "is_first", "is_filler", "book", "met", "waiting", "here", "is_fillers", "puts", "triple"] ["board", "is_first", "is_filler", "book"] (defScope s_holds_by) := ⟨rfl, rfl, rfl, by decide +kernel, rfl, by decide +kernel, by decide +kernel⟩
def c1_holds_by : WS := (wSet 8 (wLst (wACons (wOp dIxX (wV 3) (wV 6)) wANil)))
def c2_holds_by : WS := (wExt 5 (wLc (wSqX (wV 8)) (gN 9) wYes (wTup (wACons (wCl w_behind (wACons (wV 6) (wACons (wV 9) wANil))) (wACons (wNotV (wV 7)) wANil))) [9]))
def c3_holds_by : WS := (wSeq (wIfS (wAnd (wTest (wOp dEq (wV 7) (wV 2))) (wTest (wOp dGt (wCall cLenX (wCons (wV 8) wNil)) (wC (.int 0))))) (wSeq (wIfS (wOr (wTest (wOp dNotInX (wV 6) (wV 3))) (wTest (wOp dNotInX (wOp dIxX (wV 3) (wV 6)) (wV 8)))) (wRet (wC (.bool false))) wNext)
  c1_holds_by) wNext)
  c2_holds_by)
def c4_holds_by : WS := (wSeq (wIfS (wAnd (wTest (wOp dEq (wCall cLenX (wCons (wV 8) wNil)) (wC (.int 0)))) (wTest (wOp dNe (wCl w_is_full (wACons (wV 6) wANil)) (wV 2)))) (wRet (wC (.bool false))) wNext)
  c3_holds_by)
def c5_holds_by : WS := (wSeq (wSet 8 (wCl w_puts_of (wACons (wV 6) wANil)))
  c4_holds_by)
def c6_holds_by : WS := (wSeq (wSetK 4 (wTup (wACons (wV 6) (wACons (wV 7) wANil))) (wC (.bool true)))
  c5_holds_by)
def c7_holds_by : WS := (wSeq (wIfS (wTest (wOp dInX (wTup (wACons (wV 6) (wACons (wV 7) wANil))) (wVB 4))) wCont wNext)
  c6_holds_by)
def c8_holds_by : WS := (wRet (wC (.bool true)))
def c9_holds_by : WS := (wSeq (wWhile (wTest (wOp dGt (wCall cLenX (wCons (wVB 5) wNil)) (wC (.int 0)))) (wSeq (wAsgM (wPop 5) (gT (gCons (gN 6) (gCons (gN 7) gNil))))
  c7_holds_by) [6, 7, 8])
  c8_holds_by)
def b_holds_by : WS := (wSeq (wParX [4, 5] (wNNw wNwD (wNNw (wNwL (wACons (wTup (wACons (wV 0) (wACons (wV 1) wANil))) wANil)) wNNil)))
  c9_holds_by)
def w_holds_by : WF := fnW 10 b_holds_by
theorem ok_holds_by (T : Tx K mg) : FnOk P w K mg base CX0 2 T.a_holds_by T.d_holds_by ["board", "is_first", "is_filler", "book"] (spW K 4 w_holds_by) :=
  fn_ok (wb := b_holds_by) T.f_holds_by sc_holds_by fun cdv A outer s H E hr => by
    have hu0 := room65 hr
    exact (ss_cons (s_par2X (i := 4) (j := 5) (hc := (fun _ => rfl)) (hN := fun _ => sc_holds_by.nd) (hij := by decide) (h := (n_nw nw_dict0 (n_nw (nw_lst (a_cons (e_tup (a_cons (e_var (i := 0)) (a_cons (e_var (i := 1)) a_nil))) a_nil)) n_nil))))
  (ss_cons (s_while [6, 7, 8] (hp := fun _ => PassesOwn.never) (hc := (t_cmp o_gt (b_of (e_callB (ho := c_lenX) (hm := fun _ => T.b_len) (hv := PySem.boot_len) (ha := (l_cons (b_var (i := 5)) l_nil)))) (b_of e_int) (nomark _))) (hb := (ss_cons (s_asgM (m_pop (i := 5)) (g_tup 2 (hc := (fun _ => rfl)) (h := (gs_cons (g_name (i := 6) (hN := fun _ => sc_holds_by.nd)) (gs_cons (g_name (i := 7) (hN := fun _ => sc_holds_by.nd)) gs_nil))) (hn := fun _ => rfl) (hl := (gCons_len (gCons_len gNil_len)))))
  (ss_cons (s_if (t_cmp (o_inX (fun _ => hu0)) (b_of (e_tup (a_cons (e_var (i := 6)) (a_cons (e_var (i := 7)) a_nil)))) (b_var (i := 4)) rfl) (ss_one s_cont) ss_nil)
  (ss_cons (s_setK (i := 4) (hu := (fun _ => hu0)) (hk := (e_tup (a_cons (e_var (i := 6)) (a_cons (e_var (i := 7)) a_nil)))) (h := e_bl))
  (ss_cons (s_set (i := 8) (hN := fun _ => sc_holds_by.nd) (h := (e_call (hF := fun _ => (ok_puts_of T)) (hr := fun _ => hr.mono (by decide)) (hm := fun _ => T.m_puts_of) (hk := fun _ => T.f_puts_of.kp) (hb := fun _ => T.n_puts_of) (hx := fun _ => pass0) (ha := (a_cons (e_var (i := 6)) a_nil)) (hn := rfl))))
  (ss_cons (s_if (t_of (tw_and (t_cmp (o_eq (fun _ => hu0)) (b_of (e_callB (ho := c_lenX) (hm := fun _ => T.b_len) (hv := PySem.boot_len) (ha := (l_cons (b_of (e_var (i := 8))) l_nil)))) (b_of e_int) (nomark _)) (tw_and1 (t_cmp (o_ne (fun _ => hu0)) (b_of (e_call (hF := fun _ => (ok_is_full T)) (hr := fun _ => hr.mono (by decide)) (hm := fun _ => T.m_is_full) (hk := fun _ => T.f_is_full.kp) (hb := fun _ => T.n_is_full) (hx := fun _ => pass0) (ha := (a_cons (e_var (i := 6)) a_nil)) (hn := rfl))) (b_of (e_var (i := 2))) (nomark _))))) (ss_one (s_ret e_bl)) ss_nil)
  (ss_cons (s_if (t_of (tw_and (t_cmp (o_eq (fun _ => hu0)) (b_of (e_var (i := 7))) (b_of (e_var (i := 2))) (nomark _)) (tw_and1 (t_cmp o_gt (b_of (e_callB (ho := c_lenX) (hm := fun _ => T.b_len) (hv := PySem.boot_len) (ha := (l_cons (b_of (e_var (i := 8))) l_nil)))) (b_of e_int) (nomark _))))) (ss_cons (s_if (t_of (tw_or (t_cmp (o_notInX (fun _ => hu0)) (b_of (e_var (i := 6))) (b_of (e_var (i := 3))) rfl) (tw_or1 (t_cmp (o_notInX (fun _ => hu0)) (b_of (e_ixX (fun _ => hu0) (b_of (e_var (i := 3))) (b_of (e_var (i := 6))))) (b_of (e_var (i := 8))) rfl)))) (ss_one (s_ret e_bl)) ss_nil)
  (ss_one (s_set (i := 8) (hN := fun _ => sc_holds_by.nd) (h := (e_lst (a_cons (e_ixX (fun _ => hu0) (b_of (e_var (i := 3))) (b_of (e_var (i := 6)))) a_nil)))))) ss_nil)
  (ss_one (s_ext (i := 5) (h := (b_of (e_lc (hc := (fun _ => rfl)) (hN := fun _ => sc_holds_by.nd) (hi := (i_sqX (e_var (i := 8)))) (own := [("triple", 9)]) (hg := (g_name (i := 9) (hN := fun _ => sc_holds_by.nd))) (ht := ts_nil) (he := (e_tup (a_cons (e_call (hF := fun _ => (ok_behind T)) (hr := fun _ => hr.mono (by decide)) (hm := fun _ => T.m_behind) (hk := fun _ => T.f_behind.kp) (hb := fun _ => T.n_behind) (hx := fun _ => pass0) (ha := (a_cons (e_var (i := 6)) (a_cons (e_var (i := 9)) a_nil))) (hn := rfl)) (a_cons (e_not (e_var (i := 7))) a_nil)))))))))))))))))
  (ss_one (s_ret e_bl))))
theorem sc_is_filler_wins : FnScope ["board", "is_first", "thing"] ["board", "is_first", "thing"] (defScope s_is_filler_wins) := ⟨rfl, rfl, rfl, by decide +kernel, rfl, by decide +kernel, by decide +kernel⟩
def b_is_filler_wins (T : Tx K mg) : WS := (wSeq (wDropX (wClX (w_check_turn T) (wACons (wV 0) (wACons (wV 1) wANil))))
  (wSeq (wIfS (wOr (wNot (wTest (wCl w_is_sized (wACons (wV 2) (wACons (wC (.int 2)) (wACons (wC (.int 2)) wANil)))))) (wOr (wNot (wTest (wIsi (wOp dIxX (wV 2) (wC (.int 0))) ["str"]))) (wTest (wOp dNotInX (wOp dIxX (wV 2) (wC (.int 0))) (wTup (wACons (wC (.str "filler")) (wACons (wC (.str "spoiler")) wANil))))))) (wRet (wC (.bool false))) wNext)
  (wRet (wAndV (wCl w_is_book (wACons (wOp dIxX (wV 2) (wC (.int 1))) wANil)) (wCl w_holds_by (wACons (wV 0) (wACons (wV 1) (wACons (wOp dEq (wOp dIxX (wV 2) (wC (.int 0))) (wC (.str "filler"))) (wACons (wOp dIxX (wV 2) (wC (.int 1))) wANil)))))))))
def w_is_filler_wins (T : Tx K mg) : WF := fnWX 3 (b_is_filler_wins T)
theorem ok_is_filler_wins (T : Tx K mg) : FnOk P w K mg base (L2.CX P w) 6 T.a_is_filler_wins T.d_is_filler_wins ["board", "is_first", "thing"] (spW K 3 (w_is_filler_wins T)) :=
  fn_okX (wb := b_is_filler_wins T) T.f_is_filler_wins sc_is_filler_wins fun cdv A outer s H E hr => by
    have hu0 := room65 hr
    have tk : Takes (cxOf (L2.CX P w) P w K mg base ["board", "is_first", "thing"] "is_filler_wins" (defScope s_is_filler_wins) T.a_is_filler_wins cdv A outer s H E) (fun cls d _ H' => E cls d H') := takes_of rfl rfl rfl rfl
    exact (ss_cons (s_exprX (x_call (hF := fun _ => (ok_check_turn T)) (hr := fun _ => hr.mono (by decide)) (hm := fun _ => T.m_check_turn) (hk := fun _ => T.f_check_turn.kp) (hb := fun _ => T.n_check_turn) (tk := (fun _ => tk)) (ha := (a_cons (e_var (i := 0)) (a_cons (e_var (i := 1)) a_nil))) (hn := rfl)))
  (ss_cons (s_if (t_of (tw_or (t_not (t_val (e_call (hF := fun _ => (ok_is_sized T)) (hr := fun _ => hr.mono (by decide)) (hm := fun _ => T.m_is_sized) (hk := fun _ => T.f_is_sized.kp) (hb := fun _ => T.n_is_sized) (hx := fun _ => pass0) (ha := (a_cons (e_var (i := 2)) (a_cons e_int (a_cons e_int a_nil)))) (hn := rfl)))) (tw_or (t_not (t_val (e_isi (hm := fun _ => T.b_isinstance) (hv := boot_isinstance) (hm2 := fun _ => T.b_str) (hv2 := boot_str) (h := (b_of (e_ixX (fun _ => hu0) (b_of (e_var (i := 2))) (b_of e_int))))))) (tw_or1 (t_cmp (o_notInX (fun _ => hu0)) (b_of (e_ixX (fun _ => hu0) (b_of (e_var (i := 2))) (b_of e_int))) (b_of (e_tup (a_cons (e_globS (hm := fun _ => T.k_FILLER)) (a_cons (e_globS (hm := fun _ => T.k_SPOILER)) a_nil)))) rfl))))) (ss_one (s_ret e_bl)) ss_nil)
  (ss_one (s_ret (e_and (e_call (hF := fun _ => (ok_is_book T)) (hr := fun _ => hr.mono (by decide)) (hm := fun _ => T.m_is_book) (hk := fun _ => T.f_is_book.kp) (hb := fun _ => T.n_is_book) (hx := fun _ => pass0) (ha := (a_cons (e_ixX (fun _ => hu0) (b_of (e_var (i := 2))) (b_of e_int)) a_nil)) (hn := rfl)) (e_one (e_call (hF := fun _ => (ok_holds_by T)) (hr := fun _ => hr.mono (by decide)) (hm := fun _ => T.m_holds_by) (hk := fun _ => T.f_holds_by.kp) (hb := fun _ => T.n_holds_by) (hx := fun _ => pass0) (ha := (a_cons (e_var (i := 0)) (a_cons (e_var (i := 1)) (a_cons (e_cmp (o_eq (fun _ => hu0)) (b_of (e_ixX (fun _ => hu0) (b_of (e_var (i := 2))) (b_of e_int))) (b_of (e_globS (hm := fun _ => T.k_FILLER))) (nomark _)) (a_cons (e_ixX (fun _ => hu0) (b_of (e_var (i := 2))) (b_of e_int)) a_nil))))) (hn := rfl))))))))
theorem sc_law_hand : FnScope ["script", "cells", "cell"] ["script"] (defScope s_law_hand) := ⟨rfl, rfl, rfl, by decide +kernel, rfl, by decide +kernel, by decide +kernel⟩
theorem ok_law_hand (T : Tx K mg) : FnOk P w K mg base CX0 1 T.a_law_hand T.d_law_hand ["script"] (spHand K) := by
  refine T.f_law_hand.ok sc_law_hand (fun vs H Q E h => ?_) (fun cdv A outer s H vs Q E hr h => ?_)
  · obtain ⟨a, ns, rfl, _⟩ := h
    rfl
  · obtain ⟨a, ns, rfl, hS, hlen, k⟩ := h
    refine ⟨_, pss_cons (ps_setLc (i := 1) (own := [("cell", 2)]) (g := gName 2) (tt := tYes) rfl sc_law_hand.nd rfl rfl (sw_true rfl rfl rfl (by decide +kernel)) (pi_list (pe_slice sl_list (pv 0) po_none (po_some pe_int))) (blkOk_by (by kernel_rfl))
        (fun _ _ _ _ _ => pg_name (i := 2) sc_law_hand.nd rfl (Or.inl rfl) (Or.inr rfl)) (fun _ _ _ _ _ => pts_nil) (fun _ _ _ _ _ => pe_callB call_abs (by rfl) T.b_abs boot_abs (pa_cons (pe_callTy call_int1 (by rfl) T.b_int boot_int (pa_cons (pv 2) pa_nil)) pa_nil)))
      (pss_one (ps_ret (pe_lst (pa_cons (pv 1) (pa_cons pe_int (pa_cons pe_int (pa_cons (pe_op op_add pe_int (pe_op op_mul pe_int (pe_callB call_len_seq (by rfl) T.b_len PySem.boot_len (pa_cons (pv 1) pa_nil)))) (pa_cons pe_int pa_nil)))))))), ?_⟩
    refine ⟨_, rfl, ⟨63, rfl, a, _, rfl, hS, fun p hp => ⟨p, rfl, ⟨_, SqL.of upd_same⟩, fun C hC0 => ?_⟩⟩⟩
    have hcut : cutV (ns.map V.int) none (some 63) = (ns.take 63).map V.int := by
      unfold cutV
      have z : HT.sIx ns.length ns.length (some 63) = min 63 ns.length := HT.sIx_nat _ _ 63
      rw [List.length_map, HT.sIx_none, z, List.drop_zero, Nat.sub_zero, List.map_take]
      rw [show min 63 ns.length = ns.length by omega, List.take_of_length_le (by rw [List.length_map]; exact Nat.le_refl _), List.take_of_length_le (by rw [List.length_map]; omega)]
    have npc : p ≠ C := fun z => by
      rw [← z, upd_same] at hC0
      cases hC0
    refine lc_list (K := K) (a := p) (xs := cutV (ns.map V.int) none (some 63)) (fun i Hc => ∃ out : List Int, Hc C = some (.lst (out.map V.int)) ∧ Hc p = some (.lst (cutV (ns.map V.int) none (some 63))) ∧ out.length = i ∧ (∀ j ∈ out, 0 ≤ j) ∧ Same H Hc) ?_ ?_ ?_ ?_
    · refine ⟨[], upd_same, by rw [upd_ne npc, upd_same], rfl, (fun _ z => nomatch z), fun b o z => ?_⟩
      have h1 : b ≠ p := ne_of_none z hp
      have h2 : b ≠ C := by
        refine ne_of_none (H := upd H p (.lst (cutV (ns.map V.int) none (some 63)))) (o := o) ?_ hC0
        rw [upd_ne h1]
        exact z
      rw [upd_ne h2, upd_ne h1]
      exact z
    · rintro i Hc _ ⟨out, _, q, _⟩
      exact SqL.of q
    · rintro i x Hc hi ⟨out, h1, h2, h3, h4, h5⟩
      rw [hcut] at hi
      obtain ⟨u, rfl⟩ : ∃ u, x = V.int u := by
        rw [List.getElem?_map] at hi
        cases e : (ns.take 63)[i]? with
        | none => rw [e] at hi; cases hi
        | some u => rw [e] at hi; exact ⟨u, (Option.some.inj hi).symm⟩
      have hlt : i < 63 := by
        have q := (List.getElem?_eq_some_iff.mp hi).1
        rw [List.length_map, List.length_take] at q
        omega
      refine ⟨rfl, yes_do ?_⟩
      refine ⟨_, rfl, .inl ⟨u, rfl, _, rfl, out.map V.int, h1, ?_, out ++ [if u < 0 then -u else u], ?_, ?_, ?_, ?_, ?_⟩⟩
      · rw [List.length_map, h3, sizeLine_eq]
        omega
      · rw [upd_same, List.map_append]
        rfl
      · rw [upd_ne npc]
        exact h2
      · rw [List.length_append, h3]
        rfl
      · intro j hj
        rcases List.mem_append.mp hj with q | q
        · exact h4 j q
        · cases (List.mem_singleton.mp q)
          split <;> omega
      · intro b o z
        have h2 : b ≠ C := by
          rintro rfl
          have q := h5 _ _ z
          rw [upd_ne (ne_of_none z hp), z] at hC0
          cases hC0
        rw [upd_ne h2]
        exact h5 b o z
    · rintro Hc ⟨out, hC, h2, h3, h4, h5⟩
      refine ⟨_, rfl, _, rfl, C, _, rfl, .inl (SqL.of hC), _, _, rfl, rfl, .inl ⟨by decide, by decide⟩, _, _, rfl, rfl, by show 5 ≤ sizeLine; decide, fun h hh => ?_⟩
      have hle : out.length ≤ 63 := by
        rw [h3, hcut, List.length_map, List.length_take]
        omega
      refine k _ h C ((97 : Int) + ((5 : Int) * ((out.length : Nat) : Int))) out (h5.trans fun b o z => by rw [upd_ne (ne_of_none z hh)]; exact z) (h5.free hh) ?_ (fun z => ?_) (by rw [upd_same, List.length_map]) ?_ ⟨hle, h4, by omega, by omega, by omega, by omega⟩
      · cases q : H C with
        | none => rfl
        | some o =>
          rw [upd_ne (ne_of_none q hp), q] at hC0
          cases hC0
      · rw [z, hC] at hh
        cases hh
      · rw [upd_ne (fun z => by rw [← z, hC] at hh; cases hh)]
        exact hC
theorem sc_law_draw : FnScope ["hand", "many", "cell", "figure", "number"] ["hand", "many"] (defScope s_law_draw) := ⟨rfl, rfl, rfl, by decide +kernel, rfl, by decide +kernel, by decide +kernel⟩
def b_law_draw : WS := (wSeq (wIfS (wAnd (wTest (wOp dEq (wOp dIx (wVB 0) (wC (.int 2))) (wC (.int 0)))) (wTest (wOp dLt (wOp dIx (wVB 0) (wC (.int 1))) (wCall cLen (wCons (wOp dIx (wVB 0) (wC (.int 0))) wNil))))) (wSeq (wSet 2 (wOp dIx (wOp dIx (wVB 0) (wC (.int 0))) (wOp dIx (wVB 0) (wC (.int 1)))))
  (wSeq (wSetIx 0 (wC (.int 1)) (wOp dAdd (wOp dIx (wVB 0) (wC (.int 1))) (wC (.int 1))))
  (wSeq (wSetIx 0 (wC (.int 3)) (wOp dMod (wCall cInt (wCons (wOp dAdd (wOp dAdd (wOp dMul (wOp dIx (wVB 0) (wC (.int 3))) (wC (.int 48271))) (wV 2)) (wC (.int 31))) wNil)) (wC (.int 2147483647))))
  (wIfS (wTest (wOp dGe (wV 2) (wOp dPow (wC (.int 10)) (wC (.int 18))))) (wSetIx 0 (wC (.int 2)) (wV 2)) wNext)))) wNext)
  (wSeq (wIfS (wTest (wOp dGt (wOp dIx (wVB 0) (wC (.int 2))) (wC (.int 0)))) (wSeq (wSet 3 (wOp dMod (wCall cInt (wCons (wOp dIx (wVB 0) (wC (.int 2))) wNil)) (wV 1)))
  (wSeq (wSetIx 0 (wC (.int 2)) (wOp dDiv (wOp dIx (wVB 0) (wC (.int 2))) (wV 1)))
  (wRet (wV 3)))) wNext)
  (wSeq (wSetIx 0 (wC (.int 4)) (wOp dAdd (wOp dIx (wVB 0) (wC (.int 4))) (wC (.int 1))))
  (wSeq (wSet 4 (wOp dMod (wCall cInt (wCons (wOp dMul (wCall cInt (wCons (wOp dAdd (wOp dIx (wVB 0) (wC (.int 3))) (wOp dMul (wC (.int 6151)) (wOp dIx (wVB 0) (wC (.int 4))))) wNil)) (wC (.int 40692))) wNil)) (wC (.int 2147483399))))
  (wSeq (wSet 4 (wOp dMod (wCall cInt (wCons (wOp dMul (wV 4) (wOp dAdd (wOp dDiv (wV 4) (wC (.int 1223))) (wC (.int 52027)))) wNil)) (wC (.int 2147483629))))
  (wSeq (wSet 4 (wOp dMod (wCall cInt (wCons (wOp dMul (wV 4) (wOp dAdd (wOp dDiv (wV 4) (wC (.int 2671))) (wC (.int 69621)))) wNil)) (wC (.int 2147483647))))
  (wRet (wOp dMod (wCall cInt (wCons (wOp dDiv (wV 4) (wC (.int 32))) wNil)) (wV 1)))))))))
theorem draw_hw (h : Addr) (cs : List Int) (p l x n m : Int) (ok : HandOk cs p l x n) (hm : 0 < m) (hm2 : m < 1073741824) : b_law_draw (some (.ow (some h) (handD cs p l x n)) :: some (.sh (.int m)) :: List.replicate (5 - 2) none)
      ⟨fun _ => False, fun d env => ∃ (k : Int) (cs' : List Int) (p' l' x' n' : Int), d = .int k ∧ (0 ≤ k ∧ k < m) ∧ env[0]? = some (some (.ow (some h) (handD cs' p' l' x' n'))) ∧ HandOk cs' p' l' x' n', fun _ => False, fun _ => False, fun _ _ => False⟩ := by
  unfold b_law_draw
  rw [wSeq]
  generalize hP : (Post.mk (fun _ => False) (fun d env => ∃ (k : Int) (cs' : List Int) (p' l' x' n' : Int), d = .int k ∧ (0 ≤ k ∧ k < m) ∧ env[0]? = some (some (.ow (some h) (handD cs' p' l' x' n'))) ∧ HandOk cs' p' l' x' n') (fun _ => False) (fun _ => False) (fun _ _ => False)) = P
  have hrt : ∀ (k : Int) (cs' : List Int) (p' l' x' n' : Int) (r : Dn.Env), (0 ≤ k ∧ k < m) → HandOk cs' p' l' x' n' → P.rt (.int k) (some (.ow (some h) (handD cs' p' l' x' n')) :: r) := fun k cs' p' l' x' n' r h1 h2 => by
    subst hP
    exact ⟨k, cs', p', l', x', n', rfl, h1, rfl, h2⟩
  clear hP
  generalize hT : (wSeq (wIfS (wTest (wOp dGt (wOp dIx (wVB 0) (wC (.int 2))) (wC (.int 0)))) _ _) _ : WS) = Tl
  have tail : ∀ (p l x n : Int) (c : Option En), HandOk cs p l x n → Tl (some (.ow (some h) (handD cs p l x n)) :: some (.sh (.int m)) :: c :: [none, none]) P := by
    intro p l x n c ok
    obtain ⟨k1, k2, k3, k4, k5, k6⟩ := ok
    subst hT
    have hm0 : m ≠ 0 := by omega
    have hn : m.natAbs < 1073741824 := by omega
    simp only [wSeq, wIfS, wTest, wOp, wVB, wC, handD, List.getElem?_cons_zero]
    simp [hm0, hn, ix52, ix54]
    split
    · refine hrt _ cs p _ x n _ (fmodB _ hm) ⟨k1, k2, k3, Int.fdiv_nonneg k4 (by omega), k5, k6⟩
    · refine ⟨cmul_l _ _ (by omega) (by omega), cmul_r _ _ (by omega) (by omega), cmul_fm _ _ _ (by omega) (by omega), cmul_fm _ _ _ (by omega) (by omega), ?_⟩
      exact hrt _ cs p l x (n + 1) _ (fmodB _ hm) ⟨k1, k2, k3, k4, k5, by omega⟩
  obtain ⟨k1, k2, k3, k4, k5, k6⟩ := ok
  clear hT
  have base := tail p l x n none ⟨k1, k2, k3, k4, k5, k6⟩
  simp only [wSeq, wIfS, wTest, wAnd, wOp, wVB, wC, handD, List.getElem?_cons_zero]
  simp [ix51, ix52, ix53]
  split
  · split
    · rename_i h1 h2
      have hp : p.toNat < cs.length := by omega
      have e : atI (List.map PyData.int cs) p = some (.int cs[p.toNat]) := by
        rw [atI_of _ _ k3]
        simp [hp]
      rw [e]
      have hc := k2 cs[p.toNat] (List.getElem_mem _)
      simp
      refine ⟨cmul_r _ _ (by omega) (by omega), ?_⟩
      split
      · exact tail _ _ _ _ _ ⟨k1, k2, by omega, by omega, (fmodB _ (by omega)).1, k6⟩
      · exact tail _ _ _ _ _ ⟨k1, k2, by omega, by omega, (fmodB _ (by omega)).1, k6⟩
    · exact base
  · exact base
theorem den_law_draw (T : Tx K mg) (cdv : Value) (A : Around) (outer : List PySem.Env) (s : Shared) (H : Hp) (E : XK) (hr : Room 0 (A.deeper (envOfC "_law_draw" (defScope s_law_draw) s.heap.objs.size T.a_law_draw cdv))) : Dens (famOf P w K mg base ["hand", "many", "cell", "figure", "number"] "_law_draw" s_law_draw T.a_law_draw cdv A outer s H E) Wno (defBody s_law_draw) b_law_draw := by
    have hu0 := room65 hr
    exact (ss_cons (s_if (t_of (tw_and (t_cmp (o_eq (fun _ => hu0)) (b_of (e_ix (b_var (i := 0)) (b_of e_int))) (b_of e_int) (nomark _)) (tw_and1 (t_cmp o_lt (b_of (e_ix (b_var (i := 0)) (b_of e_int))) (b_of (e_callB (ho := c_len) (hm := fun _ => T.b_len) (hv := PySem.boot_len) (ha := (l_cons (b_of (e_ix (b_var (i := 0)) (b_of e_int))) l_nil)))) (nomark _))))) (ss_cons (s_set (i := 2) (hN := fun _ => sc_law_draw.nd) (h := (e_ix (b_of (e_ix (b_var (i := 0)) (b_of e_int))) (b_of (e_ix (b_var (i := 0)) (b_of e_int))))))
  (ss_cons (s_setIx (i := 0) (hk := e_int) (h := (e_op o_add (b_of (e_ix (b_var (i := 0)) (b_of e_int))) (b_of e_int))))
  (ss_cons (s_setIx (i := 0) (hk := e_int) (h := (e_op o_mod (b_of (e_callTy (ho := c_int) (hm := fun _ => T.b_int) (hv := boot_int) (ha := (l_cons (b_of (e_op o_add (b_of (e_op o_add (b_of (e_op o_mul (b_of (e_ix (b_var (i := 0)) (b_of e_int))) (b_of e_int))) (b_of (e_var (i := 2))))) (b_of e_int))) l_nil)))) (b_of e_int))))
  (ss_one (s_if (t_cmp o_ge (b_of (e_var (i := 2))) (b_of (e_op o_pow (b_of e_int) (b_of e_int))) (nomark _)) (ss_one (s_setIx (i := 0) (hk := e_int) (h := (e_var (i := 2))))) ss_nil))))) ss_nil)
  (ss_cons (s_if (t_cmp o_gt (b_of (e_ix (b_var (i := 0)) (b_of e_int))) (b_of e_int) (nomark _)) (ss_cons (s_set (i := 3) (hN := fun _ => sc_law_draw.nd) (h := (e_op o_mod (b_of (e_callTy (ho := c_int) (hm := fun _ => T.b_int) (hv := boot_int) (ha := (l_cons (b_of (e_ix (b_var (i := 0)) (b_of e_int))) l_nil)))) (b_of (e_var (i := 1))))))
  (ss_cons (s_setIx (i := 0) (hk := e_int) (h := (e_op o_div (b_of (e_ix (b_var (i := 0)) (b_of e_int))) (b_of (e_var (i := 1))))))
  (ss_one (s_ret (e_var (i := 3)))))) ss_nil)
  (ss_cons (s_setIx (i := 0) (hk := e_int) (h := (e_op o_add (b_of (e_ix (b_var (i := 0)) (b_of e_int))) (b_of e_int))))
  (ss_cons (s_set (i := 4) (hN := fun _ => sc_law_draw.nd) (h := (e_op o_mod (b_of (e_callTy (ho := c_int) (hm := fun _ => T.b_int) (hv := boot_int) (ha := (l_cons (b_of (e_op o_mul (b_of (e_callTy (ho := c_int) (hm := fun _ => T.b_int) (hv := boot_int) (ha := (l_cons (b_of (e_op o_add (b_of (e_ix (b_var (i := 0)) (b_of e_int))) (b_of (e_op o_mul (b_of e_int) (b_of (e_ix (b_var (i := 0)) (b_of e_int))))))) l_nil)))) (b_of e_int))) l_nil)))) (b_of e_int))))
  (ss_cons (s_set (i := 4) (hN := fun _ => sc_law_draw.nd) (h := (e_op o_mod (b_of (e_callTy (ho := c_int) (hm := fun _ => T.b_int) (hv := boot_int) (ha := (l_cons (b_of (e_op o_mul (b_of (e_var (i := 4))) (b_of (e_op o_add (b_of (e_op o_div (b_of (e_var (i := 4))) (b_of e_int))) (b_of e_int))))) l_nil)))) (b_of e_int))))
  (ss_cons (s_set (i := 4) (hN := fun _ => sc_law_draw.nd) (h := (e_op o_mod (b_of (e_callTy (ho := c_int) (hm := fun _ => T.b_int) (hv := boot_int) (ha := (l_cons (b_of (e_op o_mul (b_of (e_var (i := 4))) (b_of (e_op o_add (b_of (e_op o_div (b_of (e_var (i := 4))) (b_of e_int))) (b_of e_int))))) l_nil)))) (b_of e_int))))
  (ss_one (s_ret (e_op o_mod (b_of (e_callTy (ho := c_int) (hm := fun _ => T.b_int) (hv := boot_int) (ha := (l_cons (b_of (e_op o_div (b_of (e_var (i := 4))) (b_of e_int))) l_nil)))) (b_of (e_var (i := 1))))))))))))
theorem ok_law_draw (T : Tx K mg) : FnOk P w K mg base CX0 1 T.a_law_draw T.d_law_draw ["hand", "many"] (spW K 2 wDraw) :=
  draw_ok (wb := b_law_draw) T.f_law_draw sc_law_draw rfl (by decide) (fun cdv A outer s H E hr => den_law_draw T cdv A outer s H E hr) draw_hw
theorem sc_law_some : FnScope ["hand", "things"] ["hand", "things"] (defScope s_law_some) := ⟨rfl, rfl, rfl, by decide +kernel, rfl, by decide +kernel, by decide +kernel⟩
def b_law_some : WS := (wRet (wOp dIx (wV 1) (wCl wDraw (wAOb 0 (wACons (wCall cLen (wCons (wV 1) wNil)) wANil)))))
def w_law_some : WF := fnW 2 b_law_some
theorem ok_law_some (T : Tx K mg) : FnOk P w K mg base CX0 2 T.a_law_some T.d_law_some ["hand", "things"] (spW K 2 w_law_some) :=
  fn_ok (wb := b_law_some) T.f_law_some sc_law_some fun cdv A outer s H E hr => by
    have hu0 := room65 hr
    exact (ss_one (s_ret (e_ix (b_of (e_var (i := 1))) (b_of (e_call (hF := fun _ => (ok_law_draw T)) (hr := fun _ => hr.mono (by decide)) (hm := fun _ => T.m_law_draw) (hk := fun _ => T.f_law_draw.kp) (hb := fun _ => T.n_law_draw) (hx := fun _ => pass0) (ha := (a_ob (i := 0) (hr := (a_cons (e_callB (ho := c_len) (hm := fun _ => T.b_len) (hv := PySem.boot_len) (ha := (l_cons (b_of (e_var (i := 1))) l_nil))) a_nil)))) (hn := rfl))))))
theorem sc_law_puts : FnScope ["board", "many", "found", "r", "c", "taken", "row", "sign"] ["board"] (defScope s_law_puts) := ⟨rfl, rfl, rfl, by decide +kernel, rfl, by decide +kernel, by decide +kernel⟩
def b_law_puts : WS := (wSeq (wPar 1 2 (wCall cLen (wCons (wV 0) wNil)) (wLst wANil))
  (wSeq (wFor (wRng1 (wCons (wV 1) wNil)) (gN 3) (wFor (wRng1 (wCons (wV 1) wNil)) (gN 4) (wIfS (wTest (wIsN (wOp dIx (wOp dIx (wV 0) (wV 3)) (wV 4)))) (wSeq (wSet 5 (wOp dAdd (wCall cList (wCons (wOp dIx (wV 0) (wV 3)) wNil)) (wLc (wSq (wV 0)) (gN 6) wYes (wOp dIx (wV 6) (wV 4)) [6])))
  (wSet 2 (wOp dAdd (wV 2) (wLc (wRng1 (wCons (wV 1) wNil)) (gN 7) (wTest (wOp dNotIn (wV 7) (wV 5))) (wTup (wACons (wV 3) (wACons (wV 4) (wACons (wV 7) wANil)))) [7])))) wNext) [4, 5]) [3, 4, 5])
  (wRet (wV 2))))
def w_law_puts : WF := fnW 8 b_law_puts
theorem ok_law_puts (T : Tx K mg) : FnOk P w K mg base CX0 1 T.a_law_puts T.d_law_puts ["board"] (spW K 1 w_law_puts) :=
  fn_ok (wb := b_law_puts) T.f_law_puts sc_law_puts fun cdv A outer s H E hr => by
    have hu0 := room65 hr
    exact (ss_cons (s_par (i := 1) (j := 2) (hc := (fun _ => rfl)) (hN := fun _ => sc_law_puts.nd) (hij := by decide) (ha := (e_callB (ho := c_len) (hm := fun _ => T.b_len) (hv := PySem.boot_len) (ha := (l_cons (b_of (e_var (i := 0))) l_nil)))) (hb := (e_lst a_nil)))
  (ss_cons (s_for [3, 4, 5] (hp := fun _ => PassesOwn.never) (hc := (fun _ => rfl)) (hi := (i_rng1 (hm := fun _ => T.b_range) (ha := (l_cons (b_of (e_var (i := 1))) l_nil)))) (hg := (g_name (i := 3) (hN := fun _ => sc_law_puts.nd))) (hb := (ss_one (s_for [4, 5] (hp := fun _ => PassesOwn.never) (hc := (fun _ => rfl)) (hi := (i_rng1 (hm := fun _ => T.b_range) (ha := (l_cons (b_of (e_var (i := 1))) l_nil)))) (hg := (g_name (i := 4) (hN := fun _ => sc_law_puts.nd))) (hb := (ss_one (s_if (t_isN (b_of (e_ix (b_of (e_ix (b_of (e_var (i := 0))) (b_of (e_var (i := 3))))) (b_of (e_var (i := 4)))))) (ss_cons (s_set (i := 5) (hN := fun _ => sc_law_puts.nd) (h := (e_op o_add (b_of (e_callTy (ho := c_list) (hm := fun _ => T.b_list) (hv := boot_list) (ha := (l_cons (b_of (e_ix (b_of (e_var (i := 0))) (b_of (e_var (i := 3))))) l_nil)))) (b_of (e_lc (hc := (fun _ => rfl)) (hN := fun _ => sc_law_puts.nd) (hi := (i_sq (e_var (i := 0)))) (own := [("row", 6)]) (hg := (g_name (i := 6) (hN := fun _ => sc_law_puts.nd))) (ht := ts_nil) (he := (e_ix (b_of (e_var (i := 6))) (b_of (e_var (i := 4))))))))))
  (ss_one (s_set (i := 2) (hN := fun _ => sc_law_puts.nd) (h := (e_op o_add (b_of (e_var (i := 2))) (b_of (e_lc (hc := (fun _ => rfl)) (hN := fun _ => sc_law_puts.nd) (hi := (i_rng1 (hm := fun _ => T.b_range) (ha := (l_cons (b_of (e_var (i := 1))) l_nil)))) (own := [("sign", 7)]) (hg := (g_name (i := 7) (hN := fun _ => sc_law_puts.nd))) (ht := (ts_one (t_cmp (o_notIn (fun _ => hu0)) (b_of (e_var (i := 7))) (b_of (e_var (i := 5))) rfl))) (he := (e_tup (a_cons (e_var (i := 3)) (a_cons (e_var (i := 4)) (a_cons (e_var (i := 7)) a_nil)))))))))))) ss_nil)))))))
  (ss_one (s_ret (e_var (i := 2))))))
theorem sc_law_after : FnScope ["board", "told", "r", "c", "sign", "row"] ["board", "told"] (defScope s_law_after) := ⟨rfl, rfl, rfl, by decide +kernel, rfl, by decide +kernel, by decide +kernel⟩
def b_law_after : WS := (wSeq (wAsgG (wV 1) (gT (gCons (gN 2) (gCons (gN 3) (gCons (gN 4) gNil)))))
  (wSeq (wSet 5 (wOp dAdd (wOp dAdd (wSl (wOp dIx (wV 0) (wV 2)) wNoP (wSomeP (wV 3))) (wTup (wACons (wV 4) wANil))) (wSl (wOp dIx (wV 0) (wV 2)) (wSomeP (wOp dAdd (wV 3) (wC (.int 1)))) wNoP)))
  (wRet (wOp dAdd (wOp dAdd (wSl (wV 0) wNoP (wSomeP (wV 2))) (wTup (wACons (wV 5) wANil))) (wSl (wV 0) (wSomeP (wOp dAdd (wV 2) (wC (.int 1)))) wNoP)))))
def w_law_after : WF := fnW 6 b_law_after
theorem ok_law_after (T : Tx K mg) : FnOk P w K mg base CX0 1 T.a_law_after T.d_law_after ["board", "told"] (spW K 2 w_law_after) :=
  fn_ok (wb := b_law_after) T.f_law_after sc_law_after fun cdv A outer s H E hr => by
    have hu0 := room65 hr
    exact (ss_cons (s_asg (e_var (i := 1)) (g_tup 3 (hc := (fun _ => rfl)) (h := (gs_cons (g_name (i := 2) (hN := fun _ => sc_law_after.nd)) (gs_cons (g_name (i := 3) (hN := fun _ => sc_law_after.nd)) (gs_cons (g_name (i := 4) (hN := fun _ => sc_law_after.nd)) gs_nil)))) (hn := fun _ => rfl) (hl := (gCons_len (gCons_len (gCons_len gNil_len))))))
  (ss_cons (s_set (i := 5) (hN := fun _ => sc_law_after.nd) (h := (e_op o_add (b_of (e_op o_add (b_of (e_sl (b_of (e_ix (b_of (e_var (i := 0))) (b_of (e_var (i := 2))))) p_none (p_some (e_var (i := 3))))) (b_of (e_tup (a_cons (e_var (i := 4)) a_nil))))) (b_of (e_sl (b_of (e_ix (b_of (e_var (i := 0))) (b_of (e_var (i := 2))))) (p_some (e_op o_add (b_of (e_var (i := 3))) (b_of e_int))) p_none)))))
  (ss_one (s_ret (e_op o_add (b_of (e_op o_add (b_of (e_sl (b_of (e_var (i := 0))) p_none (p_some (e_var (i := 2))))) (b_of (e_tup (a_cons (e_var (i := 5)) a_nil))))) (b_of (e_sl (b_of (e_var (i := 0))) (p_some (e_op o_add (b_of (e_var (i := 2))) (b_of e_int))) p_none)))))))
theorem sc_law_open : FnScope ["board", "row", "sign"] ["board"] (defScope s_law_open) := ⟨rfl, rfl, rfl, by decide +kernel, rfl, by decide +kernel, by decide +kernel⟩
def b_law_open : WS := (wRet (wCall cSum (wCons (wLc (wSq (wV 0)) (gN 1) wYes (wCall cLen (wCons (wLc (wSq (wV 1)) (gN 2) (wTest (wIsN (wV 2))) (wC (.int 1)) [2]) wNil)) [1]) wNil)))
def w_law_open : WF := fnW 3 b_law_open
theorem ok_law_open (T : Tx K mg) : FnOk P w K mg base CX0 1 T.a_law_open T.d_law_open ["board"] (spW K 1 w_law_open) :=
  fn_ok (wb := b_law_open) T.f_law_open sc_law_open fun cdv A outer s H E hr => by
    have hu0 := room65 hr
    exact (ss_one (s_ret (e_callB (ho := (c_sum (fun _ => rfl))) (hm := fun _ => T.b_sum) (hv := boot_sum) (ha := (l_cons (b_of (e_lc (hc := (fun _ => rfl)) (hN := fun _ => sc_law_open.nd) (hi := (i_sq (e_var (i := 0)))) (own := [("row", 1)]) (hg := (g_name (i := 1) (hN := fun _ => sc_law_open.nd))) (ht := ts_nil) (he := (e_callB (ho := c_len) (hm := fun _ => T.b_len) (hv := PySem.boot_len) (ha := (l_cons (b_of (e_lc (hc := (fun _ => rfl)) (hN := fun _ => sc_law_open.nd) (hi := (i_sq (e_var (i := 1)))) (own := [("sign", 2)]) (hg := (g_name (i := 2) (hN := fun _ => sc_law_open.nd))) (ht := (ts_one (t_isN (b_of (e_var (i := 2)))))) (he := e_int))) l_nil)))))) l_nil)))))
theorem sc_law_board : FnScope ["hand", "most", "many", "board", "puts", "turn"] ["hand", "most"] (defScope s_law_board) := ⟨rfl, rfl, rfl, by decide +kernel, rfl, by decide +kernel, by decide +kernel⟩
def b_law_board : WS := (wSeq (wSet 2 (wOp dAdd (wC (.int 1)) (wCl wDraw (wAOb 0 (wACons (wC (.int 3)) wANil)))))
  (wSeq (wSet 3 (wOp dMul (wTup (wACons (wOp dMul (wTup (wACons (wC .none) wANil)) (wV 2)) wANil)) (wV 2)))
  (wSeq (wWhile (wTest (wOp dGt (wCl w_law_open (wACons (wV 3) wANil)) (wV 1))) (wSeq (wSet 4 (wCl w_law_puts (wACons (wV 3) wANil)))
  (wSeq (wIfS (wTest (wOp dEq (wCall cLen (wCons (wV 4) wNil)) (wC (.int 0)))) (wRet (wTup (wACons (wTup (wACons (wC .none) (wACons (wC (.int 0)) wANil))) (wACons (wTup (wACons (wC (.int 0)) (wACons (wC .none) wANil))) wANil)))) wNext)
  (wSet 3 (wCl w_law_after (wACons (wV 3) (wACons (wCl w_law_some (wAOb 0 (wACons (wV 4) wANil))) wANil)))))) [4])
  (wSeq (wFor (wRng1 (wCons (wCl wDraw (wAOb 0 (wACons (wC (.int 3)) wANil))) wNil)) (gN 5) (wSeq (wSet 4 (wCl w_law_puts (wACons (wV 3) wANil)))
  (wSet 3 (wIf (wTest (wOp dGt (wCall cLen (wCons (wV 4) wNil)) (wC (.int 0)))) (wCl w_law_after (wACons (wV 3) (wACons (wCl w_law_some (wAOb 0 (wACons (wV 4) wANil))) wANil))) (wV 3)))) [4, 5])
  (wRet (wV 3))))))
def w_law_board : WF := fnW 6 b_law_board
theorem ok_law_board (T : Tx K mg) : FnOk P w K mg base CX0 3 T.a_law_board T.d_law_board ["hand", "most"] (spW K 2 w_law_board) :=
  fn_ok (wb := b_law_board) T.f_law_board sc_law_board fun cdv A outer s H E hr => by
    have hu0 := room65 hr
    exact (ss_cons (s_set (i := 2) (hN := fun _ => sc_law_board.nd) (h := (e_op o_add (b_of e_int) (b_of (e_call (hF := fun _ => (ok_law_draw T)) (hr := fun _ => hr.mono (by decide)) (hm := fun _ => T.m_law_draw) (hk := fun _ => T.f_law_draw.kp) (hb := fun _ => T.n_law_draw) (hx := fun _ => pass0) (ha := (a_ob (i := 0) (hr := (a_cons e_int a_nil)))) (hn := rfl))))))
  (ss_cons (s_set (i := 3) (hN := fun _ => sc_law_board.nd) (h := (e_op o_mul (b_of (e_tup (a_cons (e_op o_mul (b_of (e_tup (a_cons e_non a_nil))) (b_of (e_var (i := 2)))) a_nil))) (b_of (e_var (i := 2))))))
  (ss_cons (s_while [4] (hp := fun _ => PassesOwn.never) (hc := (t_cmp o_gt (b_of (e_call (hF := fun _ => (ok_law_open T)) (hr := fun _ => hr.mono (by decide)) (hm := fun _ => T.m_law_open) (hk := fun _ => T.f_law_open.kp) (hb := fun _ => T.n_law_open) (hx := fun _ => pass0) (ha := (a_cons (e_var (i := 3)) a_nil)) (hn := rfl))) (b_of (e_var (i := 1))) (nomark _))) (hb := (ss_cons (s_set (i := 4) (hN := fun _ => sc_law_board.nd) (h := (e_call (hF := fun _ => (ok_law_puts T)) (hr := fun _ => hr.mono (by decide)) (hm := fun _ => T.m_law_puts) (hk := fun _ => T.f_law_puts.kp) (hb := fun _ => T.n_law_puts) (hx := fun _ => pass0) (ha := (a_cons (e_var (i := 3)) a_nil)) (hn := rfl))))
  (ss_cons (s_if (t_cmp (o_eq (fun _ => hu0)) (b_of (e_callB (ho := c_len) (hm := fun _ => T.b_len) (hv := PySem.boot_len) (ha := (l_cons (b_of (e_var (i := 4))) l_nil)))) (b_of e_int) (nomark _)) (ss_one (s_ret (e_tup (a_cons (e_tup (a_cons e_non (a_cons e_int a_nil))) (a_cons (e_tup (a_cons e_int (a_cons e_non a_nil))) a_nil))))) ss_nil)
  (ss_one (s_set (i := 3) (hN := fun _ => sc_law_board.nd) (h := (e_call (hF := fun _ => (ok_law_after T)) (hr := fun _ => hr.mono (by decide)) (hm := fun _ => T.m_law_after) (hk := fun _ => T.f_law_after.kp) (hb := fun _ => T.n_law_after) (hx := fun _ => pass0) (ha := (a_cons (e_var (i := 3)) (a_cons (e_call (hF := fun _ => (ok_law_some T)) (hr := fun _ => hr.mono (by decide)) (hm := fun _ => T.m_law_some) (hk := fun _ => T.f_law_some.kp) (hb := fun _ => T.n_law_some) (hx := fun _ => pass0) (ha := (a_ob (i := 0) (hr := (a_cons (e_var (i := 4)) a_nil)))) (hn := rfl)) a_nil))) (hn := rfl)))))))))
  (ss_cons (s_for [4, 5] (hp := fun _ => PassesOwn.never) (hc := (fun _ => rfl)) (hi := (i_rng1 (hm := fun _ => T.b_range) (ha := (l_cons (b_of (e_call (hF := fun _ => (ok_law_draw T)) (hr := fun _ => hr.mono (by decide)) (hm := fun _ => T.m_law_draw) (hk := fun _ => T.f_law_draw.kp) (hb := fun _ => T.n_law_draw) (hx := fun _ => pass0) (ha := (a_ob (i := 0) (hr := (a_cons e_int a_nil)))) (hn := rfl))) l_nil)))) (hg := (g_name (i := 5) (hN := fun _ => sc_law_board.nd))) (hb := (ss_cons (s_set (i := 4) (hN := fun _ => sc_law_board.nd) (h := (e_call (hF := fun _ => (ok_law_puts T)) (hr := fun _ => hr.mono (by decide)) (hm := fun _ => T.m_law_puts) (hk := fun _ => T.f_law_puts.kp) (hb := fun _ => T.n_law_puts) (hx := fun _ => pass0) (ha := (a_cons (e_var (i := 3)) a_nil)) (hn := rfl))))
  (ss_one (s_set (i := 3) (hN := fun _ => sc_law_board.nd) (h := (e_if (t_cmp o_gt (b_of (e_callB (ho := c_len) (hm := fun _ => T.b_len) (hv := PySem.boot_len) (ha := (l_cons (b_of (e_var (i := 4))) l_nil)))) (b_of e_int) (nomark _)) (e_call (hF := fun _ => (ok_law_after T)) (hr := fun _ => hr.mono (by decide)) (hm := fun _ => T.m_law_after) (hk := fun _ => T.f_law_after.kp) (hb := fun _ => T.n_law_after) (hx := fun _ => pass0) (ha := (a_cons (e_var (i := 3)) (a_cons (e_call (hF := fun _ => (ok_law_some T)) (hr := fun _ => hr.mono (by decide)) (hm := fun _ => T.m_law_some) (hk := fun _ => T.f_law_some.kp) (hb := fun _ => T.n_law_some) (hx := fun _ => pass0) (ha := (a_ob (i := 0) (hr := (a_cons (e_var (i := 4)) a_nil)))) (hn := rfl)) a_nil))) (hn := rfl)) (e_var (i := 3)))))))))
  (ss_one (s_ret (e_var (i := 3))))))))
theorem sc_law_all : FnScope ["board", "found", "at", "met", "told", "there"] ["board"] (defScope s_law_all) := ⟨rfl, rfl, rfl, by decide +kernel, rfl, by decide +kernel, by decide +kernel⟩
def b_law_all : WS := (wSeq (wParX [1, 2] (wNNw (wNwL (wACons (wV 0) wANil)) (wNSh (wC (.int 0)) wNNil)))
  (wSeq (wSetNw 3 (wNwD1 (wV 0) (wC (.int 1))))
  (wSeq (wWhile (wTest (wOp dLt (wV 2) (wCall cLenX (wCons (wVB 1) wNil)))) (wSeq (wFor (wSqX (wCl w_law_puts (wACons (wOp dIxX (wVB 1) (wV 2)) wANil))) (gN 4) (wSeq (wSet 5 (wCl w_law_after (wACons (wOp dIxX (wVB 1) (wV 2)) (wACons (wV 4) wANil))))
  (wIfS (wTest (wOp dNotInX (wV 5) (wVB 3))) (wSeq (wSetK 3 (wV 5) (wC (.int 1)))
  (wApp 1 (wV 5))) wNext)) [4, 5])
  (wAugI 2 (fun m n => m + n) (wC (.int 1)))) [4, 5])
  (wRetOw 1))))
def w_law_all : WF := fnW 6 b_law_all
theorem ok_law_all (T : Tx K mg) : FnOk P w K mg base CX0 2 T.a_law_all T.d_law_all ["board"] (spW K 1 w_law_all) :=
  fn_ok (wb := b_law_all) T.f_law_all sc_law_all fun cdv A outer s H E hr => by
    have hu0 := room65 hr
    exact (ss_cons (s_par2X (i := 1) (j := 2) (hc := (fun _ => rfl)) (hN := fun _ => sc_law_all.nd) (hij := by decide) (h := (n_nw (nw_lst (a_cons (e_var (i := 0)) a_nil)) (n_sh e_int n_nil))))
  (ss_cons (s_setNw (i := 3) (hN := fun _ => sc_law_all.nd) (h := (nw_dict1 (fun _ => hu0) (e_var (i := 0)) e_int)))
  (ss_cons (s_while [4, 5] (hp := fun _ => PassesOwn.never) (hc := (t_cmp o_lt (b_of (e_var (i := 2))) (b_of (e_callB (ho := c_lenX) (hm := fun _ => T.b_len) (hv := PySem.boot_len) (ha := (l_cons (b_var (i := 1)) l_nil)))) (nomark _))) (hb := (ss_cons (s_for [4, 5] (hp := fun _ => PassesOwn.never) (hc := (fun _ => rfl)) (hi := (i_sqX (e_call (hF := fun _ => (ok_law_puts T)) (hr := fun _ => hr.mono (by decide)) (hm := fun _ => T.m_law_puts) (hk := fun _ => T.f_law_puts.kp) (hb := fun _ => T.n_law_puts) (hx := fun _ => pass0) (ha := (a_cons (e_ixX (fun _ => hu0) (b_var (i := 1)) (b_of (e_var (i := 2)))) a_nil)) (hn := rfl)))) (hg := (g_name (i := 4) (hN := fun _ => sc_law_all.nd))) (hb := (ss_cons (s_set (i := 5) (hN := fun _ => sc_law_all.nd) (h := (e_call (hF := fun _ => (ok_law_after T)) (hr := fun _ => hr.mono (by decide)) (hm := fun _ => T.m_law_after) (hk := fun _ => T.f_law_after.kp) (hb := fun _ => T.n_law_after) (hx := fun _ => pass0) (ha := (a_cons (e_ixX (fun _ => hu0) (b_var (i := 1)) (b_of (e_var (i := 2)))) (a_cons (e_var (i := 4)) a_nil))) (hn := rfl))))
  (ss_one (s_if (t_cmp (o_notInX (fun _ => hu0)) (b_of (e_var (i := 5))) (b_var (i := 3)) rfl) (ss_cons (s_setK (i := 3) (hu := (fun _ => hu0)) (hk := (e_var (i := 5))) (h := e_int))
  (ss_one (s_app (i := 1) (h := (e_var (i := 5)))))) ss_nil)))))
  (ss_one (s_augI (i := 2) (hN := fun _ => sc_law_all.nd) (ho := fun _ => ip_add) (h := e_int))))))
  (ss_one (s_retOw (j := 1))))))
theorem sc_law_deep : FnScope ["hand", "found", "turn"] ["hand"] (defScope s_law_deep) := ⟨rfl, rfl, rfl, by decide +kernel, rfl, by decide +kernel, by decide +kernel⟩
def b_law_deep : WS := (wSeq (wSet 1 (wOp dIx (wLst (wACons (wC .none) (wACons (wC (.int 5)) (wACons (wNeg (wC (.int 1))) (wACons (wC (.dict opqE)) (wACons (wC (.bool true)) wANil)))))) (wCl wDraw (wAOb 0 (wACons (wC (.int 5)) wANil)))))
  (wSeq (wFor (wRng1 (wCons (wOp dAdd (wC (.int 1)) (wCl wDraw (wAOb 0 (wACons (wC (.int 28)) wANil)))) wNil)) (gN 2) (wSet 1 (wOp dIx (wLst (wACons (wTup (wACons (wV 1) wANil)) (wACons (wLst (wACons (wV 1) wANil)) (wACons (wDict1 0 (wV 1)) wANil)))) (wCl wDraw (wAOb 0 (wACons (wC (.int 3)) wANil))))) [2])
  (wRet (wV 1))))
def w_law_deep : WF := fnW 3 b_law_deep
theorem ok_law_deep (T : Tx K mg) : FnOk P w K mg base CX0 2 T.a_law_deep T.d_law_deep ["hand"] (spW K 1 w_law_deep) :=
  fn_ok (wb := b_law_deep) T.f_law_deep sc_law_deep fun cdv A outer s H E hr => by
    have hu0 := room65 hr
    exact (ss_cons (s_set (i := 1) (hN := fun _ => sc_law_deep.nd) (h := (e_ix (b_of (e_lst (a_cons e_non (a_cons e_int (a_cons (e_neg e_int) (a_cons e_dict0 (a_cons e_bl a_nil))))))) (b_of (e_call (hF := fun _ => (ok_law_draw T)) (hr := fun _ => hr.mono (by decide)) (hm := fun _ => T.m_law_draw) (hk := fun _ => T.f_law_draw.kp) (hb := fun _ => T.n_law_draw) (hx := fun _ => pass0) (ha := (a_ob (i := 0) (hr := (a_cons e_int a_nil)))) (hn := rfl))))))
  (ss_cons (s_for [2] (hp := fun _ => PassesOwn.never) (hc := (fun _ => rfl)) (hi := (i_rng1 (hm := fun _ => T.b_range) (ha := (l_cons (b_of (e_op o_add (b_of e_int) (b_of (e_call (hF := fun _ => (ok_law_draw T)) (hr := fun _ => hr.mono (by decide)) (hm := fun _ => T.m_law_draw) (hk := fun _ => T.f_law_draw.kp) (hb := fun _ => T.n_law_draw) (hx := fun _ => pass0) (ha := (a_ob (i := 0) (hr := (a_cons e_int a_nil)))) (hn := rfl))))) l_nil)))) (hg := (g_name (i := 2) (hN := fun _ => sc_law_deep.nd))) (hb := (ss_one (s_set (i := 1) (hN := fun _ => sc_law_deep.nd) (h := (e_ix (b_of (e_lst (a_cons (e_tup (a_cons (e_var (i := 1)) a_nil)) (a_cons (e_lst (a_cons (e_var (i := 1)) a_nil)) (a_cons (e_dict1 (e_var (i := 1))) a_nil))))) (b_of (e_call (hF := fun _ => (ok_law_draw T)) (hr := fun _ => hr.mono (by decide)) (hm := fun _ => T.m_law_draw) (hk := fun _ => T.f_law_draw.kp) (hb := fun _ => T.n_law_draw) (hx := fun _ => pass0) (ha := (a_ob (i := 0) (hr := (a_cons e_int a_nil)))) (hn := rfl)))))))))
  (ss_one (s_ret (e_var (i := 1))))))
theorem sc_law_odd : FnScope ["hand"] ["hand"] (defScope s_law_odd) := ⟨rfl, rfl, rfl, by decide +kernel, rfl, by decide +kernel, by decide +kernel⟩
def b_law_odd : WS := (wRet (wCl w_law_some (wAOb 0 (wACons (wLst (wACons (wC .none) (wACons (wC (.bool true)) (wACons (wC (.bool false)) (wACons (wC (.int 0)) (wACons (wNeg (wC (.int 1))) (wACons (wC (.int 999)) (wACons (wOp dShl (wC (.int 1)) (wC (.int 63))) (wACons (wC (.str "p")) (wACons (wC (.str "")) (wACons (wTup wANil) (wACons (wLst wANil) (wACons (wC (.dict opqE)) (wACons (wTup (wACons (wC (.int 1)) wANil)) (wACons (wTup (wACons (wC (.str "a")) wANil)) (wACons (wCl w_law_deep (wAOb 0 wANil)) wANil)))))))))))))))) wANil))))
def w_law_odd : WF := fnW 1 b_law_odd
theorem ok_law_odd (T : Tx K mg) : FnOk P w K mg base CX0 3 T.a_law_odd T.d_law_odd ["hand"] (spW K 1 w_law_odd) :=
  fn_ok (wb := b_law_odd) T.f_law_odd sc_law_odd fun cdv A outer s H E hr => by
    have hu0 := room65 hr
    exact (ss_one (s_ret (e_call (hF := fun _ => (ok_law_some T)) (hr := fun _ => hr.mono (by decide)) (hm := fun _ => T.m_law_some) (hk := fun _ => T.f_law_some.kp) (hb := fun _ => T.n_law_some) (hx := fun _ => pass0) (ha := (a_ob (i := 0) (hr := (a_cons (e_lst (a_cons e_non (a_cons e_bl (a_cons e_bl (a_cons e_int (a_cons (e_neg e_int) (a_cons e_int (a_cons (e_op o_shl (b_of e_int) (b_of e_int)) (a_cons e_str (a_cons e_str (a_cons (e_tup a_nil) (a_cons (e_lst a_nil) (a_cons e_dict0 (a_cons (e_tup (a_cons e_int a_nil)) (a_cons (e_tup (a_cons e_str a_nil)) (a_cons (e_call (hF := fun _ => (ok_law_deep T)) (hr := fun _ => hr.mono (by decide)) (hm := fun _ => T.m_law_deep) (hk := fun _ => T.f_law_deep.kp) (hb := fun _ => T.n_law_deep) (hx := fun _ => pass0) (ha := (a_ob (i := 0) (hr := a_nil))) (hn := rfl)) a_nil)))))))))))))))) a_nil)))) (hn := rfl))))
theorem sc_law_is : FnScope ["told", "due", "one", "two", "key"] ["told", "due"] (defScope s_law_is) := ⟨rfl, rfl, rfl, by decide +kernel, rfl, by decide +kernel, by decide +kernel⟩
def b_law_is (self : WF) : WS := (wSeq (wIfS (wTest (wIsi (wV 1) ["tuple", "list"])) (wSeq (wIfS (wOr (wTest (wOp dNe (wIsi (wV 0) ["tuple"]) (wIsi (wV 1) ["tuple"]))) (wNot (wTest (wIsi (wV 0) ["tuple", "list"])))) (wRet (wC (.bool false))) wNext)
  (wRet (wAndV (wOp dEq (wCall cLen (wCons (wV 0) wNil)) (wCall cLen (wCons (wV 1) wNil))) (wCall cAll (wCons (wLc (wZip (wV 0) (wV 1)) (gT (gCons (gN 2) (gCons (gN 3) gNil))) wYes (wCl self (wACons (wV 2) (wACons (wV 3) wANil))) [2, 3]) wNil))))) wNext)
  (wSeq (wIfS (wTest (wIsi (wV 1) ["dict"])) wNever wNext)
  (wSeq (wIfS (wOr (wTest (wIsi (wV 1) ["str"])) (wTest (wIsN (wV 1)))) (wRet (wAndV (wOp dEq (wIsi (wV 0) ["str"]) (wIsi (wV 1) ["str"])) (wOp dEq (wV 0) (wV 1)))) wNext)
  (wRet (wAndV (wIsi (wV 0) ["int"]) (wAndV (wOp dEq (wIsi (wV 0) ["bool"]) (wIsi (wV 1) ["bool"])) (wOp dEq (wV 0) (wV 1))))))))
def w_law_is : Nat → WF
  | 0 => fun _ _ _ => False
  | n + 1 => fnW 5 (b_law_is (w_law_is n))
theorem ok_law_is {P : Program} {w : World} {K : KT} {mg : Str → Option Value} {base : Heap} (T : Tx K mg) : ∀ n : Nat, FnOk P w K mg base CX0 (0 + n) T.a_law_is T.d_law_is ["told", "due"] (spW K 2 (w_law_is n))
  | 0 => fn_false rfl
  | n + 1 => by
    have ih := ok_law_is (P := P) (w := w) (base := base) T n
    refine fn_ok (wb := b_law_is (w_law_is n)) T.f_law_is sc_law_is fun cdv A outer s H E hr => ?_
    have hu0 := room65 hr
    exact (ss_cons (s_if (t_val (e_isi2 (hm := fun _ => T.b_isinstance) (hv := boot_isinstance) (hm2 := fun _ => T.b_tuple) (hv2 := boot_tuple) (hm3 := fun _ => T.b_list) (hv3 := boot_list) (h := (b_of (e_var (i := 1)))))) (ss_cons (s_if (t_of (tw_or (t_cmp (o_ne (fun _ => hu0)) (b_of (e_isi (hm := fun _ => T.b_isinstance) (hv := boot_isinstance) (hm2 := fun _ => T.b_tuple) (hv2 := boot_tuple) (h := (b_of (e_var (i := 0)))))) (b_of (e_isi (hm := fun _ => T.b_isinstance) (hv := boot_isinstance) (hm2 := fun _ => T.b_tuple) (hv2 := boot_tuple) (h := (b_of (e_var (i := 1)))))) (nomark _)) (tw_or1 (t_not (t_val (e_isi2 (hm := fun _ => T.b_isinstance) (hv := boot_isinstance) (hm2 := fun _ => T.b_tuple) (hv2 := boot_tuple) (hm3 := fun _ => T.b_list) (hv3 := boot_list) (h := (b_of (e_var (i := 0)))))))))) (ss_one (s_ret e_bl)) ss_nil)
  (ss_one (s_ret (e_and (e_cmp (o_eq (fun _ => hu0)) (b_of (e_callB (ho := c_len) (hm := fun _ => T.b_len) (hv := PySem.boot_len) (ha := (l_cons (b_of (e_var (i := 0))) l_nil)))) (b_of (e_callB (ho := c_len) (hm := fun _ => T.b_len) (hv := PySem.boot_len) (ha := (l_cons (b_of (e_var (i := 1))) l_nil)))) (nomark _)) (e_one (e_callB (ho := (c_all (fun _ => rfl))) (hm := fun _ => T.b_all) (hv := boot_all) (ha := (l_cons (b_of (e_lc (hc := (fun _ => rfl)) (hN := fun _ => sc_law_is.nd) (hi := (i_zip (hm := fun _ => T.b_zip) (ha := (e_var (i := 0))) (hb := (e_var (i := 1))))) (own := [("one", 2), ("two", 3)]) (hg := (g_tup 2 (hc := (fun _ => rfl)) (h := (gs_cons (g_name (i := 2) (hN := fun _ => sc_law_is.nd)) (gs_cons (g_name (i := 3) (hN := fun _ => sc_law_is.nd)) gs_nil))) (hn := fun _ => rfl) (hl := (gCons_len (gCons_len gNil_len))))) (ht := ts_nil) (he := (e_call (hF := fun _ => ih) (hr := fun _ => hr) (hm := fun _ => T.m_law_is) (hk := fun _ => T.f_law_is.kp) (hb := fun _ => T.n_law_is) (hx := fun _ => pass0) (ha := (a_cons (e_var (i := 2)) (a_cons (e_var (i := 3)) a_nil))) (hn := rfl))))) l_nil)))))))) ss_nil)
  (ss_cons (s_if (t_val (e_isi (hm := fun _ => T.b_isinstance) (hv := boot_isinstance) (hm2 := fun _ => T.b_dict) (hv2 := boot_dict) (h := (b_of (e_var (i := 1)))))) ss_never ss_nil)
  (ss_cons (s_if (t_of (tw_or (t_val (e_isi (hm := fun _ => T.b_isinstance) (hv := boot_isinstance) (hm2 := fun _ => T.b_str) (hv2 := boot_str) (h := (b_of (e_var (i := 1)))))) (tw_or1 (t_isN (b_of (e_var (i := 1))))))) (ss_one (s_ret (e_and (e_cmp (o_eq (fun _ => hu0)) (b_of (e_isi (hm := fun _ => T.b_isinstance) (hv := boot_isinstance) (hm2 := fun _ => T.b_str) (hv2 := boot_str) (h := (b_of (e_var (i := 0)))))) (b_of (e_isi (hm := fun _ => T.b_isinstance) (hv := boot_isinstance) (hm2 := fun _ => T.b_str) (hv2 := boot_str) (h := (b_of (e_var (i := 1)))))) (nomark _)) (e_one (e_cmp (o_eq (fun _ => hu0)) (b_of (e_var (i := 0))) (b_of (e_var (i := 1))) (nomark _)))))) ss_nil)
  (ss_one (s_ret (e_and (e_isi (hm := fun _ => T.b_isinstance) (hv := boot_isinstance) (hm2 := fun _ => T.b_int) (hv2 := boot_int) (h := (b_of (e_var (i := 0))))) (e_and (e_cmp (o_eq (fun _ => hu0)) (b_of (e_isi (hm := fun _ => T.b_isinstance) (hv := boot_isinstance) (hm2 := fun _ => T.b_bool) (hv2 := boot_bool) (h := (b_of (e_var (i := 0)))))) (b_of (e_isi (hm := fun _ => T.b_isinstance) (hv := boot_isinstance) (hm2 := fun _ => T.b_bool) (hv2 := boot_bool) (h := (b_of (e_var (i := 1)))))) (nomark _)) (e_one (e_cmp (o_eq (fun _ => hu0)) (b_of (e_var (i := 0))) (b_of (e_var (i := 1))) (nomark _))))))))))
theorem sc_law_wins : FnScope ["board", "found", "here", "puts", "is_filler", "later", "told"] ["board"] (defScope s_law_wins) := ⟨rfl, rfl, rfl, by decide +kernel, rfl, by decide +kernel, by decide +kernel⟩
def b_law_wins : WS := (wSeq (wSetNw 1 wNwD)
  (wSeq (wFor (wSqX (wRev (wCl w_law_all (wACons (wV 0) wANil)))) (gN 2) (wSeq (wSet 3 (wCl w_law_puts (wACons (wV 2) wANil)))
  (wFor (wSqX (wTup (wACons (wC (.bool true)) (wACons (wC (.bool false)) wANil)))) (gN 4) (wIfS (wTest (wOp dEq (wCall cLenX (wCons (wV 3) wNil)) (wC (.int 0)))) (wSetK 1 (wTup (wACons (wV 2) (wACons (wV 4) wANil))) (wOp dEq (wCl w_law_open (wACons (wV 2) wANil)) (wC (.int 0)))) (wSeq (wSet 5 (wLc (wSqX (wV 3)) (gN 6) wYes (wOp dIxX (wVB 1) (wTup (wACons (wCl w_law_after (wACons (wV 2) (wACons (wV 6) wANil))) (wACons (wNotV (wV 4)) wANil)))) [6]))
  (wSetK 1 (wTup (wACons (wV 2) (wACons (wV 4) wANil))) (wIf (wTest (wV 4)) (wCall cAny (wCons (wV 5) wNil)) (wCall cAll (wCons (wV 5) wNil)))))) [4, 5])) [2, 3, 4, 5])
  (wRetEn 1)))
def w_law_wins : WF := fnW 7 b_law_wins
theorem ok_law_wins (T : Tx K mg) : FnOk P w K mg base CX0 3 T.a_law_wins T.d_law_wins ["board"] (spW K 1 w_law_wins) :=
  fn_ok (wb := b_law_wins) T.f_law_wins sc_law_wins fun cdv A outer s H E hr => by
    have hu0 := room65 hr
    exact (ss_cons (s_setNw (i := 1) (hN := fun _ => sc_law_wins.nd) (h := nw_dict0))
  (ss_cons (s_for [2, 3, 4, 5] (hp := fun _ => PassesOwn.never) (hc := (fun _ => rfl)) (hi := (i_sqX (e_rev (b_of (e_call (hF := fun _ => (ok_law_all T)) (hr := fun _ => hr.mono (by decide)) (hm := fun _ => T.m_law_all) (hk := fun _ => T.f_law_all.kp) (hb := fun _ => T.n_law_all) (hx := fun _ => pass0) (ha := (a_cons (e_var (i := 0)) a_nil)) (hn := rfl)))))) (hg := (g_name (i := 2) (hN := fun _ => sc_law_wins.nd))) (hb := (ss_cons (s_set (i := 3) (hN := fun _ => sc_law_wins.nd) (h := (e_call (hF := fun _ => (ok_law_puts T)) (hr := fun _ => hr.mono (by decide)) (hm := fun _ => T.m_law_puts) (hk := fun _ => T.f_law_puts.kp) (hb := fun _ => T.n_law_puts) (hx := fun _ => pass0) (ha := (a_cons (e_var (i := 2)) a_nil)) (hn := rfl))))
  (ss_one (s_for [4, 5] (hp := fun _ => PassesOwn.never) (hc := (fun _ => rfl)) (hi := (i_sqX (e_tup (a_cons e_bl (a_cons e_bl a_nil))))) (hg := (g_name (i := 4) (hN := fun _ => sc_law_wins.nd))) (hb := (ss_one (s_if (t_cmp (o_eq (fun _ => hu0)) (b_of (e_callB (ho := c_lenX) (hm := fun _ => T.b_len) (hv := PySem.boot_len) (ha := (l_cons (b_of (e_var (i := 3))) l_nil)))) (b_of e_int) (nomark _)) (ss_one (s_setK (i := 1) (hu := (fun _ => hu0)) (hk := (e_tup (a_cons (e_var (i := 2)) (a_cons (e_var (i := 4)) a_nil)))) (h := (e_cmp (o_eq (fun _ => hu0)) (b_of (e_call (hF := fun _ => (ok_law_open T)) (hr := fun _ => hr.mono (by decide)) (hm := fun _ => T.m_law_open) (hk := fun _ => T.f_law_open.kp) (hb := fun _ => T.n_law_open) (hx := fun _ => pass0) (ha := (a_cons (e_var (i := 2)) a_nil)) (hn := rfl))) (b_of e_int) (nomark _))))) (ss_cons (s_setLc (i := 5) (hc := (fun _ => rfl)) (hN := fun _ => sc_law_wins.nd) (hi := (i_sqX (e_var (i := 3)))) (own := [("told", 6)]) (hg := (g_name (i := 6) (hN := fun _ => sc_law_wins.nd))) (ht := ts_nil) (he := (e_ixX (fun _ => hu0) (b_var (i := 1)) (b_of (e_tup (a_cons (e_call (hF := fun _ => (ok_law_after T)) (hr := fun _ => hr.mono (by decide)) (hm := fun _ => T.m_law_after) (hk := fun _ => T.f_law_after.kp) (hb := fun _ => T.n_law_after) (hx := fun _ => pass0) (ha := (a_cons (e_var (i := 2)) (a_cons (e_var (i := 6)) a_nil))) (hn := rfl)) (a_cons (e_not (e_var (i := 4))) a_nil)))))))
  (ss_one (s_setK (i := 1) (hu := (fun _ => hu0)) (hk := (e_tup (a_cons (e_var (i := 2)) (a_cons (e_var (i := 4)) a_nil)))) (h := (e_if (t_val (e_var (i := 4))) (e_callB (ho := (c_any (fun _ => rfl))) (hm := fun _ => T.b_any) (hv := boot_any) (ha := (l_cons (b_of (e_var (i := 5))) l_nil))) (e_callB (ho := (c_all (fun _ => rfl))) (hm := fun _ => T.b_all) (hv := boot_all) (ha := (l_cons (b_of (e_var (i := 5))) l_nil))))))))))))))))
  (ss_one (s_retEn (j := 1)))))
theorem sc_law_leads : FnScope ["board", "is_first", "is_filler", "book", "waiting", "met", "here", "is_mine", "puts", "told"] ["board", "is_first", "is_filler", "book"] (defScope s_law_leads) := ⟨rfl, rfl, rfl, by decide +kernel, rfl, by decide +kernel, by decide +kernel⟩
def c1_law_leads : WS := (wApp 4 (wTup (wACons (wCl w_law_after (wACons (wV 6) (wACons (wOp dIxX (wV 3) (wV 6)) wANil))) (wACons (wC (.bool false)) wANil))))
def c2_law_leads : WS := (wIfS (wTest (wOp dEq (wCall cLenX (wCons (wV 8) wNil)) (wC (.int 0)))) (wIfS (wTest (wOp dNe (wOp dEq (wCl w_law_open (wACons (wV 6) wANil)) (wC (.int 0))) (wV 2))) (wRet (wC (.bool false))) wNext) (wIfS (wTest (wV 7)) (wSeq (wIfS (wOr (wTest (wOp dNotInX (wV 6) (wV 3))) (wNot (wTest (wCall cAny (wCons (wLc (wSqX (wV 8)) (gN 9) wYes (wCl (w_law_is 3) (wACons (wOp dIxX (wV 3) (wV 6)) (wACons (wV 9) wANil))) [9]) wNil))))) (wRet (wC (.bool false))) wNext)
  c1_law_leads) (wSetNw 4 (wNwCat (wVB 4) (wLc (wSqX (wV 8)) (gN 9) wYes (wTup (wACons (wCl w_law_after (wACons (wV 6) (wACons (wV 9) wANil))) (wACons (wC (.bool true)) wANil))) [9])))))
def c3_law_leads : WS := (wSeq (wSet 8 (wCl w_law_puts (wACons (wV 6) wANil)))
  c2_law_leads)
def c4_law_leads : WS := (wSeq (wSetK 5 (wTup (wACons (wV 6) (wACons (wV 7) wANil))) (wC (.int 1)))
  c3_law_leads)
def c5_law_leads : WS := (wSeq (wIfS (wTest (wOp dInX (wTup (wACons (wV 6) (wACons (wV 7) wANil))) (wVB 5))) wCont wNext)
  c4_law_leads)
def c6_law_leads : WS := (wRet (wC (.bool true)))
def c7_law_leads : WS := (wSeq (wWhile (wTest (wOp dGt (wCall cLenX (wCons (wVB 4) wNil)) (wC (.int 0)))) (wSeq (wAsgM (wPop 4) (gT (gCons (gN 6) (gCons (gN 7) gNil))))
  c5_law_leads) [6, 7, 8])
  c6_law_leads)
def b_law_leads : WS := (wSeq (wParX [4, 5] (wNNw (wNwL (wACons (wTup (wACons (wV 0) (wACons (wOp dEq (wV 1) (wV 2)) wANil))) wANil)) (wNNw wNwD wNNil)))
  c7_law_leads)
def w_law_leads : WF := fnW 10 b_law_leads
theorem ok_law_leads (T : Tx K mg) : FnOk P w K mg base CX0 4 T.a_law_leads T.d_law_leads ["board", "is_first", "is_filler", "book"] (spW K 4 w_law_leads) :=
  fn_ok (wb := b_law_leads) T.f_law_leads sc_law_leads fun cdv A outer s H E hr => by
    have hu0 := room65 hr
    exact (ss_cons (s_par2X (i := 4) (j := 5) (hc := (fun _ => rfl)) (hN := fun _ => sc_law_leads.nd) (hij := by decide) (h := (n_nw (nw_lst (a_cons (e_tup (a_cons (e_var (i := 0)) (a_cons (e_cmp (o_eq (fun _ => hu0)) (b_of (e_var (i := 1))) (b_of (e_var (i := 2))) (nomark _)) a_nil))) a_nil)) (n_nw nw_dict0 n_nil))))
  (ss_cons (s_while [6, 7, 8] (hp := fun _ => PassesOwn.never) (hc := (t_cmp o_gt (b_of (e_callB (ho := c_lenX) (hm := fun _ => T.b_len) (hv := PySem.boot_len) (ha := (l_cons (b_var (i := 4)) l_nil)))) (b_of e_int) (nomark _))) (hb := (ss_cons (s_asgM (m_pop (i := 4)) (g_tup 2 (hc := (fun _ => rfl)) (h := (gs_cons (g_name (i := 6) (hN := fun _ => sc_law_leads.nd)) (gs_cons (g_name (i := 7) (hN := fun _ => sc_law_leads.nd)) gs_nil))) (hn := fun _ => rfl) (hl := (gCons_len (gCons_len gNil_len)))))
  (ss_cons (s_if (t_cmp (o_inX (fun _ => hu0)) (b_of (e_tup (a_cons (e_var (i := 6)) (a_cons (e_var (i := 7)) a_nil)))) (b_var (i := 5)) rfl) (ss_one s_cont) ss_nil)
  (ss_cons (s_setK (i := 5) (hu := (fun _ => hu0)) (hk := (e_tup (a_cons (e_var (i := 6)) (a_cons (e_var (i := 7)) a_nil)))) (h := e_int))
  (ss_cons (s_set (i := 8) (hN := fun _ => sc_law_leads.nd) (h := (e_call (hF := fun _ => (ok_law_puts T)) (hr := fun _ => hr.mono (by decide)) (hm := fun _ => T.m_law_puts) (hk := fun _ => T.f_law_puts.kp) (hb := fun _ => T.n_law_puts) (hx := fun _ => pass0) (ha := (a_cons (e_var (i := 6)) a_nil)) (hn := rfl))))
  (ss_one (s_if (t_cmp (o_eq (fun _ => hu0)) (b_of (e_callB (ho := c_lenX) (hm := fun _ => T.b_len) (hv := PySem.boot_len) (ha := (l_cons (b_of (e_var (i := 8))) l_nil)))) (b_of e_int) (nomark _)) (ss_one (s_if (t_cmp (o_ne (fun _ => hu0)) (b_of (e_cmp (o_eq (fun _ => hu0)) (b_of (e_call (hF := fun _ => (ok_law_open T)) (hr := fun _ => hr.mono (by decide)) (hm := fun _ => T.m_law_open) (hk := fun _ => T.f_law_open.kp) (hb := fun _ => T.n_law_open) (hx := fun _ => pass0) (ha := (a_cons (e_var (i := 6)) a_nil)) (hn := rfl))) (b_of e_int) (nomark _))) (b_of (e_var (i := 2))) (nomark _)) (ss_one (s_ret e_bl)) ss_nil)) (ss_one (s_if (t_val (e_var (i := 7))) (ss_cons (s_if (t_of (tw_or (t_cmp (o_notInX (fun _ => hu0)) (b_of (e_var (i := 6))) (b_of (e_var (i := 3))) rfl) (tw_or1 (t_not (t_val (e_callB (ho := (c_any (fun _ => rfl))) (hm := fun _ => T.b_any) (hv := boot_any) (ha := (l_cons (b_of (e_lc (hc := (fun _ => rfl)) (hN := fun _ => sc_law_leads.nd) (hi := (i_sqX (e_var (i := 8)))) (own := [("told", 9)]) (hg := (g_name (i := 9) (hN := fun _ => sc_law_leads.nd))) (ht := ts_nil) (he := (e_call (hF := fun _ => (ok_law_is T 3)) (hr := fun _ => hr.mono (by decide)) (hm := fun _ => T.m_law_is) (hk := fun _ => T.f_law_is.kp) (hb := fun _ => T.n_law_is) (hx := fun _ => pass0) (ha := (a_cons (e_ixX (fun _ => hu0) (b_of (e_var (i := 3))) (b_of (e_var (i := 6)))) (a_cons (e_var (i := 9)) a_nil))) (hn := rfl))))) l_nil)))))))) (ss_one (s_ret e_bl)) ss_nil)
  (ss_one (s_app (i := 4) (h := (e_tup (a_cons (e_call (hF := fun _ => (ok_law_after T)) (hr := fun _ => hr.mono (by decide)) (hm := fun _ => T.m_law_after) (hk := fun _ => T.f_law_after.kp) (hb := fun _ => T.n_law_after) (hx := fun _ => pass0) (ha := (a_cons (e_var (i := 6)) (a_cons (e_ixX (fun _ => hu0) (b_of (e_var (i := 3))) (b_of (e_var (i := 6)))) a_nil))) (hn := rfl)) (a_cons e_bl a_nil))))))) (ss_one (s_setNw (i := 4) (hN := fun _ => sc_law_leads.nd) (h := (nw_cat (b_var (i := 4)) (b_of (e_lc (hc := (fun _ => rfl)) (hN := fun _ => sc_law_leads.nd) (hi := (i_sqX (e_var (i := 8)))) (own := [("told", 9)]) (hg := (g_name (i := 9) (hN := fun _ => sc_law_leads.nd))) (ht := ts_nil) (he := (e_tup (a_cons (e_call (hF := fun _ => (ok_law_after T)) (hr := fun _ => hr.mono (by decide)) (hm := fun _ => T.m_law_after) (hk := fun _ => T.f_law_after.kp) (hb := fun _ => T.n_law_after) (hx := fun _ => pass0) (ha := (a_cons (e_var (i := 6)) (a_cons (e_var (i := 9)) a_nil))) (hn := rfl)) (a_cons e_bl a_nil))))))))))))))))))))
  (ss_one (s_ret e_bl))))
theorem sc_law : FnScope ["script", "hand", "turn", "board", "is_first", "due", "told", "other", "thing", "book", "less", "here"] ["script"] (defScope s_law) := ⟨rfl, rfl, rfl, by decide +kernel, rfl, by decide +kernel, by decide +kernel⟩
def c1_law (T : Tx K mg) : WS := (wFor (wSqX (wTup (wACons (wTup (wACons (wOp dIxX (wV 6) (wC (.int 0))) (wACons (wV 9) wANil))) (wACons (wTup (wACons (wOp dIxX (wV 6) (wC (.int 0))) (wACons (wV 10) wANil))) wANil)))) (gN 8) (wIfS (wTest (wOp dIsNotB (wCl (w_is_filler_wins T) (wACons (wV 3) (wACons (wV 4) (wACons (wV 8) wANil)))) (wC (.bool false)))) (wRet (wC (.bool false))) wNext) [8])
def c2_law (T : Tx K mg) : WS := (wSeq (wFrz 9 (wSet 10 (wNwE (wNwDL (wLc (wSqX (wV 9)) (gN 11) (wTest (wOp dNe (wV 11) (wV 3))) (wTup (wACons (wV 11) (wACons (wOp dIxX (wVB 9) (wV 11)) wANil))) [11])))))
  (c1_law T))
def c3_law (T : Tx K mg) : WS := (wSeq (wSetK 9 (wV 3) (wCl w_law_some (wAOb 1 (wACons (wLst (wACons (wTup (wACons (wC (.int 0)) (wACons (wC (.int 0)) (wACons (wC (.int 9)) wANil)))) (wACons (wC .none) (wACons (wTup (wACons (wC (.int 9)) (wACons (wC (.int 0)) (wACons (wC (.int 0)) wANil)))) (wACons (wC (.int 5)) wANil))))) wANil))))
  (c2_law T))
def c4_law (T : Tx K mg) : WS := (wIfS (wTest (wOp dIsNotB (wCl (w_is_filler_wins T) (wACons (wV 3) (wACons (wV 4) (wACons (wCl w_law_odd (wAOb 1 wANil)) wANil)))) (wC (.bool false)))) (wRet (wC (.bool false))) wNext)
def c5_law (T : Tx K mg) : WS := (wSeq (wIfS (wAnd (wTest (wOp dEq (wV 4) (wV 5))) (wTest (wOp dInX (wV 3) (wOp dIxX (wV 6) (wC (.int 1)))))) (wSeq (wSetNw 9 (wNwDX (wOp dIxX (wV 6) (wC (.int 1)))))
  (c3_law T)) wNext)
  (c4_law T))
def c6_law (T : Tx K mg) : WS := (wSeq (wFor (wSqX (wTup (wACons (wV 7) (wACons (wTup (wACons (wOp dIxX (wV 7) (wC (.int 0))) (wACons (wNwE wNwD) wANil))) (wACons (wCall cListX (wCons (wV 6) wNil)) (wACons (wSl (wV 6) wNoP (wSomeP (wC (.int 1)))) (wACons (wTup (wACons (wOp dIxX (wV 6) (wC (.int 0))) (wACons (wC .none) wANil))) (wACons (wC .none) wANil)))))))) (gN 8) (wIfS (wTest (wOp dIsNotB (wCl (w_is_filler_wins T) (wACons (wV 3) (wACons (wV 4) (wACons (wV 8) wANil)))) (wC (.bool false)))) (wRet (wC (.bool false))) wNext) [8])
  (c5_law T))
def c7_law (T : Tx K mg) : WS := (wSeq (wSet 7 (wTup (wACons (wIf (wTest (wV 5)) (wC (.str "spoiler")) (wC (.str "filler"))) (wACons (wOp dIxX (wV 6) (wC (.int 1))) wANil))))
  (c6_law T))
def c8_law (T : Tx K mg) : WS := (wSeq (wIfS (wTest (wOp dIsNotB (wCl (w_is_filler_wins T) (wACons (wV 3) (wACons (wV 4) (wACons (wV 6) wANil)))) (wC (.bool true)))) (wRet (wC (.bool false))) wNext)
  (c7_law T))
def c9_law (T : Tx K mg) : WS := (wSeq (wIfS (wOr (wNot (wTest (wIsi (wOp dIxX (wV 6) (wC (.int 1))) ["dict"]))) (wNot (wTest (wCl w_law_leads (wACons (wV 3) (wACons (wV 4) (wACons (wV 5) (wACons (wOp dIxX (wV 6) (wC (.int 1))) wANil)))))))) (wRet (wC (.bool false))) wNext)
  (c8_law T))
def c10_law (T : Tx K mg) : WS := (wSeq (wIfS (wOr (wNot (wTest (wIsi (wV 6) ["tuple"]))) (wOr (wTest (wOp dNe (wCall cLenX (wCons (wV 6) wNil)) (wC (.int 2)))) (wNot (wTest (wCl (w_law_is 3) (wACons (wOp dIxX (wV 6) (wC (.int 0))) (wACons (wIf (wTest (wV 5)) (wC (.str "filler")) (wC (.str "spoiler"))) wANil))))))) (wRet (wC (.bool false))) wNext)
  (c9_law T))
def c11_law (T : Tx K mg) : WS := (wSeq (wSet 6 (wCl (w_filler_wins T) (wACons (wV 3) (wACons (wV 4) wANil))))
  (c10_law T))
def c12_law (T : Tx K mg) : WS := (wSeq (wSet 5 (wOp dIxX (wCl w_law_wins (wACons (wV 3) wANil)) (wTup (wACons (wV 3) (wACons (wV 4) wANil)))))
  (c11_law T))
def c13_law : WS := (wRet (wC (.bool true)))
def b_law (T : Tx K mg) : WS := (wSeq (wFor (wRng1 (wCons (wC (.int 4)) wNil)) (gN 2) (wSeq (wAsgG (wTup (wACons (wCl w_law_board (wAOb 1 (wACons (wC (.int 5)) wANil))) (wACons (wOp dEq (wCl wDraw (wAOb 1 (wACons (wC (.int 2)) wANil))) (wC (.int 0))) wANil))) (gT (gCons (gN 3) (gCons (gN 4) gNil))))
  (c12_law T)) [2, 3, 4, 5, 6, 7, 8, 9, 10])
  c13_law)
theorem den_law (T : Tx K mg) (cdv : Value) (A : Around) (outer : List PySem.Env) (s : Shared) (H : Hp) (E : XK) (hr : Room 6 (A.deeper (envOfC "law" (defScope s_law) s.heap.objs.size T.a_law cdv))) : Dens (famOf P w K mg base ["script", "hand", "turn", "board", "is_first", "due", "told", "other", "thing", "book", "less", "here"] "law" s_law T.a_law cdv A outer s H E) Wno ((defBody s_law).drop 1) (b_law T) := by
    have hu0 := room65 hr
    exact (ss_cons (s_for [2, 3, 4, 5, 6, 7, 8, 9, 10] (hp := fun _ => PassesOwn.never) (hc := (fun _ => rfl)) (hi := (i_rng1 (hm := fun _ => T.b_range) (ha := (l_cons (b_of e_int) l_nil)))) (hg := (g_name (i := 2) (hN := fun _ => sc_law.nd))) (hb := (ss_cons (s_asg (e_tup (a_cons (e_call (hF := fun _ => (ok_law_board T)) (hr := fun _ => hr.mono (by decide)) (hm := fun _ => T.m_law_board) (hk := fun _ => T.f_law_board.kp) (hb := fun _ => T.n_law_board) (hx := fun _ => pass0) (ha := (a_ob (i := 1) (hr := (a_cons e_int a_nil)))) (hn := rfl)) (a_cons (e_cmp (o_eq (fun _ => hu0)) (b_of (e_call (hF := fun _ => (ok_law_draw T)) (hr := fun _ => hr.mono (by decide)) (hm := fun _ => T.m_law_draw) (hk := fun _ => T.f_law_draw.kp) (hb := fun _ => T.n_law_draw) (hx := fun _ => pass0) (ha := (a_ob (i := 1) (hr := (a_cons e_int a_nil)))) (hn := rfl))) (b_of e_int) (nomark _)) a_nil))) (g_tup 2 (hc := (fun _ => rfl)) (h := (gs_cons (g_name (i := 3) (hN := fun _ => sc_law.nd)) (gs_cons (g_name (i := 4) (hN := fun _ => sc_law.nd)) gs_nil))) (hn := fun _ => rfl) (hl := (gCons_len (gCons_len gNil_len)))))
  (ss_cons (s_set (i := 5) (hN := fun _ => sc_law.nd) (h := (e_ixX (fun _ => hu0) (b_of (e_call (hF := fun _ => (ok_law_wins T)) (hr := fun _ => hr.mono (by decide)) (hm := fun _ => T.m_law_wins) (hk := fun _ => T.f_law_wins.kp) (hb := fun _ => T.n_law_wins) (hx := fun _ => pass0) (ha := (a_cons (e_var (i := 3)) a_nil)) (hn := rfl))) (b_of (e_tup (a_cons (e_var (i := 3)) (a_cons (e_var (i := 4)) a_nil)))))))
  (ss_cons (s_set (i := 6) (hN := fun _ => sc_law.nd) (h := (e_call (hF := fun _ => (ok_filler_wins T)) (hr := fun _ => hr.mono (by decide)) (hm := fun _ => T.m_filler_wins) (hk := fun _ => T.f_filler_wins.kp) (hb := fun _ => T.n_filler_wins) (hx := fun _ => passL) (ha := (a_cons (e_var (i := 3)) (a_cons (e_var (i := 4)) a_nil))) (hn := rfl))))
  (ss_cons (s_if (t_of (tw_or (t_not (t_val (e_isi (hm := fun _ => T.b_isinstance) (hv := boot_isinstance) (hm2 := fun _ => T.b_tuple) (hv2 := boot_tuple) (h := (b_of (e_var (i := 6))))))) (tw_or (t_cmp (o_ne (fun _ => hu0)) (b_of (e_callB (ho := c_lenX) (hm := fun _ => T.b_len) (hv := PySem.boot_len) (ha := (l_cons (b_of (e_var (i := 6))) l_nil)))) (b_of e_int) (nomark _)) (tw_or1 (t_not (t_val (e_call (hF := fun _ => (ok_law_is T 3)) (hr := fun _ => hr.mono (by decide)) (hm := fun _ => T.m_law_is) (hk := fun _ => T.f_law_is.kp) (hb := fun _ => T.n_law_is) (hx := fun _ => pass0) (ha := (a_cons (e_ixX (fun _ => hu0) (b_of (e_var (i := 6))) (b_of e_int)) (a_cons (e_if (t_val (e_var (i := 5))) e_str e_str) a_nil))) (hn := rfl)))))))) (ss_one (s_ret e_bl)) ss_nil)
  (ss_cons (s_if (t_of (tw_or (t_not (t_val (e_isi (hm := fun _ => T.b_isinstance) (hv := boot_isinstance) (hm2 := fun _ => T.b_dict) (hv2 := boot_dict) (h := (b_of (e_ixX (fun _ => hu0) (b_of (e_var (i := 6))) (b_of e_int))))))) (tw_or1 (t_not (t_val (e_call (hF := fun _ => (ok_law_leads T)) (hr := fun _ => hr.mono (by decide)) (hm := fun _ => T.m_law_leads) (hk := fun _ => T.f_law_leads.kp) (hb := fun _ => T.n_law_leads) (hx := fun _ => pass0) (ha := (a_cons (e_var (i := 3)) (a_cons (e_var (i := 4)) (a_cons (e_var (i := 5)) (a_cons (e_ixX (fun _ => hu0) (b_of (e_var (i := 6))) (b_of e_int)) a_nil))))) (hn := rfl))))))) (ss_one (s_ret e_bl)) ss_nil)
  (ss_cons (s_if (t_cmp o_isNotB (b_of (e_call (hF := fun _ => (ok_is_filler_wins T)) (hr := fun _ => hr.mono (by decide)) (hm := fun _ => T.m_is_filler_wins) (hk := fun _ => T.f_is_filler_wins.kp) (hb := fun _ => T.n_is_filler_wins) (hx := fun _ => passL) (ha := (a_cons (e_var (i := 3)) (a_cons (e_var (i := 4)) (a_cons (e_var (i := 6)) a_nil)))) (hn := rfl))) (b_of e_bl) (nomark _)) (ss_one (s_ret e_bl)) ss_nil)
  (ss_cons (s_set (i := 7) (hN := fun _ => sc_law.nd) (h := (e_tup (a_cons (e_if (t_val (e_var (i := 5))) e_str e_str) (a_cons (e_ixX (fun _ => hu0) (b_of (e_var (i := 6))) (b_of e_int)) a_nil)))))
  (ss_cons (s_for [8] (hp := fun _ => PassesOwn.never) (hc := (fun _ => rfl)) (hi := (i_sqX (e_tup (a_cons (e_var (i := 7)) (a_cons (e_tup (a_cons (e_ixX (fun _ => hu0) (b_of (e_var (i := 7))) (b_of e_int)) (a_cons (e_nw nw_dict0) a_nil))) (a_cons (e_callTy (ho := (c_listX (fun _ => rfl))) (hm := fun _ => T.b_list) (hv := boot_list) (ha := (l_cons (b_of (e_var (i := 6))) l_nil))) (a_cons (e_sl (b_of (e_var (i := 6))) p_none (p_some e_int)) (a_cons (e_tup (a_cons (e_ixX (fun _ => hu0) (b_of (e_var (i := 6))) (b_of e_int)) (a_cons e_non a_nil))) (a_cons e_non a_nil))))))))) (hg := (g_name (i := 8) (hN := fun _ => sc_law.nd))) (hb := (ss_one (s_if (t_cmp o_isNotB (b_of (e_call (hF := fun _ => (ok_is_filler_wins T)) (hr := fun _ => hr.mono (by decide)) (hm := fun _ => T.m_is_filler_wins) (hk := fun _ => T.f_is_filler_wins.kp) (hb := fun _ => T.n_is_filler_wins) (hx := fun _ => passL) (ha := (a_cons (e_var (i := 3)) (a_cons (e_var (i := 4)) (a_cons (e_var (i := 8)) a_nil)))) (hn := rfl))) (b_of e_bl) (nomark _)) (ss_one (s_ret e_bl)) ss_nil))))
  (ss_cons (s_if (t_of (tw_and (t_cmp (o_eq (fun _ => hu0)) (b_of (e_var (i := 4))) (b_of (e_var (i := 5))) (nomark _)) (tw_and1 (t_cmp (o_inX (fun _ => hu0)) (b_of (e_var (i := 3))) (b_of (e_ixX (fun _ => hu0) (b_of (e_var (i := 6))) (b_of e_int))) rfl)))) (ss_cons (s_setNw (i := 9) (hN := fun _ => sc_law.nd) (h := (nw_dictX (hc := (fun _ => rfl)) (hu := (fun _ => hu0)) (hm := fun _ => T.b_dict) (hv := boot_dict) (ha := (e_ixX (fun _ => hu0) (b_of (e_var (i := 6))) (b_of e_int))))))
  (ss_cons (s_setK (i := 9) (hu := (fun _ => hu0)) (hk := (e_var (i := 3))) (h := (e_call (hF := fun _ => (ok_law_some T)) (hr := fun _ => hr.mono (by decide)) (hm := fun _ => T.m_law_some) (hk := fun _ => T.f_law_some.kp) (hb := fun _ => T.n_law_some) (hx := fun _ => pass0) (ha := (a_ob (i := 1) (hr := (a_cons (e_lst (a_cons (e_tup (a_cons e_int (a_cons e_int (a_cons e_int a_nil)))) (a_cons e_non (a_cons (e_tup (a_cons e_int (a_cons e_int (a_cons e_int a_nil)))) (a_cons e_int a_nil))))) a_nil)))) (hn := rfl))))
  (ss_cons (s_frz 9 (s_set (i := 10) (hN := fun _ => sc_law.nd) (h := (e_nw (nw_dictL (hc := (fun _ => rfl)) (hu := (fun _ => hu0)) (hm := fun _ => T.b_dict) (hv := boot_dict) (ha := (e_lc (hc := (fun _ => rfl)) (hN := fun _ => sc_law.nd) (hi := (i_sqX (e_var (i := 9)))) (own := [("here", 11)]) (hg := (g_name (i := 11) (hN := fun _ => sc_law.nd))) (ht := (ts_one (t_cmp (o_ne (fun _ => hu0)) (b_of (e_var (i := 11))) (b_of (e_var (i := 3))) (nomark _)))) (he := (e_tup (a_cons (e_var (i := 11)) (a_cons (e_ixX (fun _ => hu0) (b_var (i := 9)) (b_of (e_var (i := 11)))) a_nil)))))))))))
  (ss_one (s_for [8] (hp := fun _ => PassesOwn.never) (hc := (fun _ => rfl)) (hi := (i_sqX (e_tup (a_cons (e_tup (a_cons (e_ixX (fun _ => hu0) (b_of (e_var (i := 6))) (b_of e_int)) (a_cons (e_var (i := 9)) a_nil))) (a_cons (e_tup (a_cons (e_ixX (fun _ => hu0) (b_of (e_var (i := 6))) (b_of e_int)) (a_cons (e_var (i := 10)) a_nil))) a_nil))))) (hg := (g_name (i := 8) (hN := fun _ => sc_law.nd))) (hb := (ss_one (s_if (t_cmp o_isNotB (b_of (e_call (hF := fun _ => (ok_is_filler_wins T)) (hr := fun _ => hr.mono (by decide)) (hm := fun _ => T.m_is_filler_wins) (hk := fun _ => T.f_is_filler_wins.kp) (hb := fun _ => T.n_is_filler_wins) (hx := fun _ => passL) (ha := (a_cons (e_var (i := 3)) (a_cons (e_var (i := 4)) (a_cons (e_var (i := 8)) a_nil)))) (hn := rfl))) (b_of e_bl) (nomark _)) (ss_one (s_ret e_bl)) ss_nil)))))))) ss_nil)
  (ss_one (s_if (t_cmp o_isNotB (b_of (e_call (hF := fun _ => (ok_is_filler_wins T)) (hr := fun _ => hr.mono (by decide)) (hm := fun _ => T.m_is_filler_wins) (hk := fun _ => T.f_is_filler_wins.kp) (hb := fun _ => T.n_is_filler_wins) (hx := fun _ => passL) (ha := (a_cons (e_var (i := 3)) (a_cons (e_var (i := 4)) (a_cons (e_call (hF := fun _ => (ok_law_odd T)) (hr := fun _ => hr.mono (by decide)) (hm := fun _ => T.m_law_odd) (hk := fun _ => T.f_law_odd.kp) (hb := fun _ => T.n_law_odd) (hx := fun _ => pass0) (ha := (a_ob (i := 1) (hr := a_nil))) (hn := rfl)) a_nil)))) (hn := rfl))) (b_of e_bl) (nomark _)) (ss_one (s_ret e_bl)) ss_nil)))))))))))))
  (ss_one (s_ret e_bl)))
theorem ok_law (T : Tx K mg) (hw : ∀ h : Addr, (b_law T) (none :: some (.ob h) :: List.replicate 10 none) ⟨fun _ => False, fun d _ => d = .bool true, fun _ => False, fun _ => False, fun _ _ => False⟩) : FnOk P w K mg base CX0 7 T.a_law T.d_law ["script"] (spLaw K) :=
  law_ok (wb := (b_law T)) T.f_law sc_law (by decide) rfl rfl rfl (ok_law_hand T) (by decide) rfl T.m_law_hand T.f_law_hand.kp T.n_law_hand (by decide) rfl (.inl rfl) (fun cdv A outer s H E hr => den_law T cdv A outer s H E hr) hw
end
/-- the plain law -/
def Plain : Prop := ∀ {K : KT} {mg : Str → Option Value} (T : Tx K mg) (h : Addr), (b_law T) (none :: some (.ob h) :: List.replicate 10 none) ⟨fun _ => False, fun d _ => d = .bool true, fun _ => False, fun _ => False, fun _ _ => False⟩
theorem all_mk (pl : Plain) {l : PySem.W.OpenLaw} {w : World} {K : PySem.W.Frag} {h : Heap} {mg : Str → Option Value} {fa : Addr} (X : K.In h) (G : h.Ns mainGlobals mg) (hfa : mg "law" = some (.ref fa))
    {f0 : Addr} {od0 an0 : Option Addr} {sl0 : Array (Option Value)} {oc0 kV0 dc0 pm0 cd0 ct0 : Value} {f1 : Addr} {od1 an1 : Option Addr} {sl1 : Array (Option Value)} {oc1 kV1 dc1 pm1 cd1 ct1 : Value} {f2 : Addr} {od2 an2 : Option Addr} {sl2 : Array (Option Value)} {oc2 kV2 dc2 pm2 cd2 ct2 : Value} {f3 : Addr} {od3 an3 : Option Addr} {sl3 : Array (Option Value)} {oc3 kV3 dc3 pm3 cd3 ct3 : Value} {f4 : Addr} {od4 an4 : Option Addr} {sl4 : Array (Option Value)} {oc4 kV4 dc4 pm4 cd4 ct4 : Value} {f5 : Addr} {od5 an5 : Option Addr} {sl5 : Array (Option Value)} {oc5 kV5 dc5 pm5 cd5 ct5 : Value} {f6 : Addr} {od6 an6 : Option Addr} {sl6 : Array (Option Value)} {oc6 kV6 dc6 pm6 cd6 ct6 : Value} {f7 : Addr} {od7 an7 : Option Addr} {sl7 : Array (Option Value)} {oc7 kV7 dc7 pm7 cd7 ct7 : Value} {f8 : Addr} {od8 an8 : Option Addr} {sl8 : Array (Option Value)} {oc8 kV8 dc8 pm8 cd8 ct8 : Value} {f9 : Addr} {od9 an9 : Option Addr} {sl9 : Array (Option Value)} {oc9 kV9 dc9 pm9 cd9 ct9 : Value} {f10 : Addr} {od10 an10 : Option Addr} {sl10 : Array (Option Value)} {oc10 kV10 dc10 pm10 cd10 ct10 : Value} {f11 : Addr} {od11 an11 : Option Addr} {sl11 : Array (Option Value)} {oc11 kV11 dc11 pm11 cd11 ct11 : Value} {f12 : Addr} {od12 an12 : Option Addr} {sl12 : Array (Option Value)} {oc12 kV12 dc12 pm12 cd12 ct12 : Value} {f13 : Addr} {od13 an13 : Option Addr} {sl13 : Array (Option Value)} {oc13 kV13 dc13 pm13 cd13 ct13 : Value} {f14 : Addr} {od14 an14 : Option Addr} {sl14 : Array (Option Value)} {oc14 kV14 dc14 pm14 cd14 ct14 : Value} {f15 : Addr} {od15 an15 : Option Addr} {sl15 : Array (Option Value)} {oc15 kV15 dc15 pm15 cd15 ct15 : Value} {f16 : Addr} {od16 an16 : Option Addr} {sl16 : Array (Option Value)} {oc16 kV16 dc16 pm16 cd16 ct16 : Value} {f17 : Addr} {od17 an17 : Option Addr} {sl17 : Array (Option Value)} {oc17 kV17 dc17 pm17 cd17 ct17 : Value} {f18 : Addr} {od18 an18 : Option Addr} {sl18 : Array (Option Value)} {oc18 kV18 dc18 pm18 cd18 ct18 : Value} {f19 : Addr} {od19 an19 : Option Addr} {sl19 : Array (Option Value)} {oc19 kV19 dc19 pm19 cd19 ct19 : Value} {f20 : Addr} {od20 an20 : Option Addr} {sl20 : Array (Option Value)} {oc20 kV20 dc20 pm20 cd20 ct20 : Value} {f21 : Addr} {od21 an21 : Option Addr} {sl21 : Array (Option Value)} {oc21 kV21 dc21 pm21 cd21 ct21 : Value} {f22 : Addr} {od22 an22 : Option Addr} {sl22 : Array (Option Value)} {oc22 kV22 dc22 pm22 cd22 ct22 : Value} {f23 : Addr} {od23 an23 : Option Addr} {sl23 : Array (Option Value)} {oc23 kV23 dc23 pm23 cd23 ct23 : Value} {f24 : Addr} {od24 an24 : Option Addr} {sl24 : Array (Option Value)} {oc24 kV24 dc24 pm24 cd24 ct24 : Value} {f25 : Addr} {od25 an25 : Option Addr} {sl25 : Array (Option Value)} {oc25 kV25 dc25 pm25 cd25 ct25 : Value} {f26 : Addr} {od26 an26 : Option Addr} {sl26 : Array (Option Value)} {oc26 kV26 dc26 pm26 cd26 ct26 : Value} {f27 : Addr} {od27 an27 : Option Addr} {sl27 : Array (Option Value)} {oc27 kV27 dc27 pm27 cd27 ct27 : Value} {f28 : Addr} {od28 an28 : Option Addr} {sl28 : Array (Option Value)} {oc28 kV28 dc28 pm28 cd28 ct28 : Value} {f29 : Addr} {od29 an29 : Option Addr} {sl29 : Array (Option Value)} {oc29 kV29 dc29 pm29 cd29 ct29 : Value} {f30 : Addr} {od30 an30 : Option Addr} {sl30 : Array (Option Value)} {oc30 kV30 dc30 pm30 cd30 ct30 : Value} {f31 : Addr} {od31 an31 : Option Addr} {sl31 : Array (Option Value)} {oc31 kV31 dc31 pm31 cd31 ct31 : Value} {tk_FILLER : Tok} {tk_MOST_N : Tok} {tk_SPOILER : Tok} {CNoBoard : Addr} {CNoFlag : Addr}
    (a0 : PySem.W.nsIn K mainGlobals "is_integer" = some (some (.ref f0))) (l0 : K.lookup f0 = some ⟨oc0, od0, .func (PySem.W.fnOf "is_integer" "is_integer" (defArgs s_is_integer) (defBody s_is_integer) (defScope s_is_integer) .none kV0 dc0 pm0 an0 cd0 ct0), sl0⟩) (c0 : PySem.W.codeIn K cd0 "is_integer" = true) (k0 : PySem.W.keepIn K (.ref f0) = true)
    (a1 : PySem.W.nsIn K mainGlobals "is_within" = some (some (.ref f1))) (l1 : K.lookup f1 = some ⟨oc1, od1, .func (PySem.W.fnOf "is_within" "is_within" (defArgs s_is_within) (defBody s_is_within) (defScope s_is_within) .none kV1 dc1 pm1 an1 cd1 ct1), sl1⟩) (c1 : PySem.W.codeIn K cd1 "is_within" = true) (k1 : PySem.W.keepIn K (.ref f1) = true)
    (a2 : PySem.W.nsIn K mainGlobals "is_sized" = some (some (.ref f2))) (l2 : K.lookup f2 = some ⟨oc2, od2, .func (PySem.W.fnOf "is_sized" "is_sized" (defArgs s_is_sized) (defBody s_is_sized) (defScope s_is_sized) .none kV2 dc2 pm2 an2 cd2 ct2), sl2⟩) (c2 : PySem.W.codeIn K cd2 "is_sized" = true) (k2 : PySem.W.keepIn K (.ref f2) = true)
    (a3 : PySem.W.nsIn K mainGlobals "is_line_free" = some (some (.ref f3))) (l3 : K.lookup f3 = some ⟨oc3, od3, .func (PySem.W.fnOf "is_line_free" "is_line_free" (defArgs s_is_line_free) (defBody s_is_line_free) (defScope s_is_line_free) .none kV3 dc3 pm3 an3 cd3 ct3), sl3⟩) (c3 : PySem.W.codeIn K cd3 "is_line_free" = true) (k3 : PySem.W.keepIn K (.ref f3) = true)
    (a4 : PySem.W.nsIn K mainGlobals "is_board" = some (some (.ref f4))) (l4 : K.lookup f4 = some ⟨oc4, od4, .func (PySem.W.fnOf "is_board" "is_board" (defArgs s_is_board) (defBody s_is_board) (defScope s_is_board) .none kV4 dc4 pm4 an4 cd4 ct4), sl4⟩) (c4 : PySem.W.codeIn K cd4 "is_board" = true) (k4 : PySem.W.keepIn K (.ref f4) = true)
    (a5 : PySem.W.nsIn K mainGlobals "check_board" = some (some (.ref f5))) (l5 : K.lookup f5 = some ⟨oc5, od5, .func (PySem.W.fnOf "check_board" "check_board" (defArgs s_check_board) (defBody s_check_board) (defScope s_check_board) .none kV5 dc5 pm5 an5 cd5 ct5), sl5⟩) (c5 : PySem.W.codeIn K cd5 "check_board" = true) (k5 : PySem.W.keepIn K (.ref f5) = true)
    (a6 : PySem.W.nsIn K mainGlobals "puts_of" = some (some (.ref f6))) (l6 : K.lookup f6 = some ⟨oc6, od6, .func (PySem.W.fnOf "puts_of" "puts_of" (defArgs s_puts_of) (defBody s_puts_of) (defScope s_puts_of) .none kV6 dc6 pm6 an6 cd6 ct6), sl6⟩) (c6 : PySem.W.codeIn K cd6 "puts_of" = true) (k6 : PySem.W.keepIn K (.ref f6) = true)
    (a7 : PySem.W.nsIn K mainGlobals "behind" = some (some (.ref f7))) (l7 : K.lookup f7 = some ⟨oc7, od7, .func (PySem.W.fnOf "behind" "behind" (defArgs s_behind) (defBody s_behind) (defScope s_behind) .none kV7 dc7 pm7 an7 cd7 ct7), sl7⟩) (c7 : PySem.W.codeIn K cd7 "behind" = true) (k7 : PySem.W.keepIn K (.ref f7) = true)
    (a8 : PySem.W.nsIn K mainGlobals "is_full" = some (some (.ref f8))) (l8 : K.lookup f8 = some ⟨oc8, od8, .func (PySem.W.fnOf "is_full" "is_full" (defArgs s_is_full) (defBody s_is_full) (defScope s_is_full) .none kV8 dc8 pm8 an8 cd8 ct8), sl8⟩) (c8 : PySem.W.codeIn K cd8 "is_full" = true) (k8 : PySem.W.keepIn K (.ref f8) = true)
    (a9 : PySem.W.nsIn K mainGlobals "order_from" = some (some (.ref f9))) (l9 : K.lookup f9 = some ⟨oc9, od9, .func (PySem.W.fnOf "order_from" "order_from" (defArgs s_order_from) (defBody s_order_from) (defScope s_order_from) .none kV9 dc9 pm9 an9 cd9 ct9), sl9⟩) (c9 : PySem.W.codeIn K cd9 "order_from" = true) (k9 : PySem.W.keepIn K (.ref f9) = true)
    (a10 : PySem.W.nsIn K mainGlobals "wins_from" = some (some (.ref f10))) (l10 : K.lookup f10 = some ⟨oc10, od10, .func (PySem.W.fnOf "wins_from" "wins_from" (defArgs s_wins_from) (defBody s_wins_from) (defScope s_wins_from) .none kV10 dc10 pm10 an10 cd10 ct10), sl10⟩) (c10 : PySem.W.codeIn K cd10 "wins_from" = true) (k10 : PySem.W.keepIn K (.ref f10) = true)
    (a11 : PySem.W.nsIn K mainGlobals "check_turn" = some (some (.ref f11))) (l11 : K.lookup f11 = some ⟨oc11, od11, .func (PySem.W.fnOf "check_turn" "check_turn" (defArgs s_check_turn) (defBody s_check_turn) (defScope s_check_turn) .none kV11 dc11 pm11 an11 cd11 ct11), sl11⟩) (c11 : PySem.W.codeIn K cd11 "check_turn" = true) (k11 : PySem.W.keepIn K (.ref f11) = true)
    (a12 : PySem.W.nsIn K mainGlobals "book_from" = some (some (.ref f12))) (l12 : K.lookup f12 = some ⟨oc12, od12, .func (PySem.W.fnOf "book_from" "book_from" (defArgs s_book_from) (defBody s_book_from) (defScope s_book_from) .none kV12 dc12 pm12 an12 cd12 ct12), sl12⟩) (c12 : PySem.W.codeIn K cd12 "book_from" = true) (k12 : PySem.W.keepIn K (.ref f12) = true)
    (a13 : PySem.W.nsIn K mainGlobals "filler_wins" = some (some (.ref f13))) (l13 : K.lookup f13 = some ⟨oc13, od13, .func (PySem.W.fnOf "filler_wins" "filler_wins" (defArgs s_filler_wins) (defBody s_filler_wins) (defScope s_filler_wins) .none kV13 dc13 pm13 an13 cd13 ct13), sl13⟩) (c13 : PySem.W.codeIn K cd13 "filler_wins" = true) (k13 : PySem.W.keepIn K (.ref f13) = true)
    (a14 : PySem.W.nsIn K mainGlobals "are_small" = some (some (.ref f14))) (l14 : K.lookup f14 = some ⟨oc14, od14, .func (PySem.W.fnOf "are_small" "are_small" (defArgs s_are_small) (defBody s_are_small) (defScope s_are_small) .none kV14 dc14 pm14 an14 cd14 ct14), sl14⟩) (c14 : PySem.W.codeIn K cd14 "are_small" = true) (k14 : PySem.W.keepIn K (.ref f14) = true)
    (a15 : PySem.W.nsIn K mainGlobals "is_book" = some (some (.ref f15))) (l15 : K.lookup f15 = some ⟨oc15, od15, .func (PySem.W.fnOf "is_book" "is_book" (defArgs s_is_book) (defBody s_is_book) (defScope s_is_book) .none kV15 dc15 pm15 an15 cd15 ct15), sl15⟩) (c15 : PySem.W.codeIn K cd15 "is_book" = true) (k15 : PySem.W.keepIn K (.ref f15) = true)
    (a16 : PySem.W.nsIn K mainGlobals "holds_by" = some (some (.ref f16))) (l16 : K.lookup f16 = some ⟨oc16, od16, .func (PySem.W.fnOf "holds_by" "holds_by" (defArgs s_holds_by) (defBody s_holds_by) (defScope s_holds_by) .none kV16 dc16 pm16 an16 cd16 ct16), sl16⟩) (c16 : PySem.W.codeIn K cd16 "holds_by" = true) (k16 : PySem.W.keepIn K (.ref f16) = true)
    (a17 : PySem.W.nsIn K mainGlobals "is_filler_wins" = some (some (.ref f17))) (l17 : K.lookup f17 = some ⟨oc17, od17, .func (PySem.W.fnOf "is_filler_wins" "is_filler_wins" (defArgs s_is_filler_wins) (defBody s_is_filler_wins) (defScope s_is_filler_wins) .none kV17 dc17 pm17 an17 cd17 ct17), sl17⟩) (c17 : PySem.W.codeIn K cd17 "is_filler_wins" = true) (k17 : PySem.W.keepIn K (.ref f17) = true)
    (a18 : PySem.W.nsIn K mainGlobals "_law_hand" = some (some (.ref f18))) (l18 : K.lookup f18 = some ⟨oc18, od18, .func (PySem.W.fnOf "_law_hand" "_law_hand" (defArgs s_law_hand) (defBody s_law_hand) (defScope s_law_hand) .none kV18 dc18 pm18 an18 cd18 ct18), sl18⟩) (c18 : PySem.W.codeIn K cd18 "_law_hand" = true) (k18 : PySem.W.keepIn K (.ref f18) = true)
    (a19 : PySem.W.nsIn K mainGlobals "_law_draw" = some (some (.ref f19))) (l19 : K.lookup f19 = some ⟨oc19, od19, .func (PySem.W.fnOf "_law_draw" "_law_draw" (defArgs s_law_draw) (defBody s_law_draw) (defScope s_law_draw) .none kV19 dc19 pm19 an19 cd19 ct19), sl19⟩) (c19 : PySem.W.codeIn K cd19 "_law_draw" = true) (k19 : PySem.W.keepIn K (.ref f19) = true)
    (a20 : PySem.W.nsIn K mainGlobals "_law_some" = some (some (.ref f20))) (l20 : K.lookup f20 = some ⟨oc20, od20, .func (PySem.W.fnOf "_law_some" "_law_some" (defArgs s_law_some) (defBody s_law_some) (defScope s_law_some) .none kV20 dc20 pm20 an20 cd20 ct20), sl20⟩) (c20 : PySem.W.codeIn K cd20 "_law_some" = true) (k20 : PySem.W.keepIn K (.ref f20) = true)
    (a21 : PySem.W.nsIn K mainGlobals "_law_puts" = some (some (.ref f21))) (l21 : K.lookup f21 = some ⟨oc21, od21, .func (PySem.W.fnOf "_law_puts" "_law_puts" (defArgs s_law_puts) (defBody s_law_puts) (defScope s_law_puts) .none kV21 dc21 pm21 an21 cd21 ct21), sl21⟩) (c21 : PySem.W.codeIn K cd21 "_law_puts" = true) (k21 : PySem.W.keepIn K (.ref f21) = true)
    (a22 : PySem.W.nsIn K mainGlobals "_law_after" = some (some (.ref f22))) (l22 : K.lookup f22 = some ⟨oc22, od22, .func (PySem.W.fnOf "_law_after" "_law_after" (defArgs s_law_after) (defBody s_law_after) (defScope s_law_after) .none kV22 dc22 pm22 an22 cd22 ct22), sl22⟩) (c22 : PySem.W.codeIn K cd22 "_law_after" = true) (k22 : PySem.W.keepIn K (.ref f22) = true)
    (a23 : PySem.W.nsIn K mainGlobals "_law_open" = some (some (.ref f23))) (l23 : K.lookup f23 = some ⟨oc23, od23, .func (PySem.W.fnOf "_law_open" "_law_open" (defArgs s_law_open) (defBody s_law_open) (defScope s_law_open) .none kV23 dc23 pm23 an23 cd23 ct23), sl23⟩) (c23 : PySem.W.codeIn K cd23 "_law_open" = true) (k23 : PySem.W.keepIn K (.ref f23) = true)
    (a24 : PySem.W.nsIn K mainGlobals "_law_board" = some (some (.ref f24))) (l24 : K.lookup f24 = some ⟨oc24, od24, .func (PySem.W.fnOf "_law_board" "_law_board" (defArgs s_law_board) (defBody s_law_board) (defScope s_law_board) .none kV24 dc24 pm24 an24 cd24 ct24), sl24⟩) (c24 : PySem.W.codeIn K cd24 "_law_board" = true) (k24 : PySem.W.keepIn K (.ref f24) = true)
    (a25 : PySem.W.nsIn K mainGlobals "_law_all" = some (some (.ref f25))) (l25 : K.lookup f25 = some ⟨oc25, od25, .func (PySem.W.fnOf "_law_all" "_law_all" (defArgs s_law_all) (defBody s_law_all) (defScope s_law_all) .none kV25 dc25 pm25 an25 cd25 ct25), sl25⟩) (c25 : PySem.W.codeIn K cd25 "_law_all" = true) (k25 : PySem.W.keepIn K (.ref f25) = true)
    (a26 : PySem.W.nsIn K mainGlobals "_law_deep" = some (some (.ref f26))) (l26 : K.lookup f26 = some ⟨oc26, od26, .func (PySem.W.fnOf "_law_deep" "_law_deep" (defArgs s_law_deep) (defBody s_law_deep) (defScope s_law_deep) .none kV26 dc26 pm26 an26 cd26 ct26), sl26⟩) (c26 : PySem.W.codeIn K cd26 "_law_deep" = true) (k26 : PySem.W.keepIn K (.ref f26) = true)
    (a27 : PySem.W.nsIn K mainGlobals "_law_odd" = some (some (.ref f27))) (l27 : K.lookup f27 = some ⟨oc27, od27, .func (PySem.W.fnOf "_law_odd" "_law_odd" (defArgs s_law_odd) (defBody s_law_odd) (defScope s_law_odd) .none kV27 dc27 pm27 an27 cd27 ct27), sl27⟩) (c27 : PySem.W.codeIn K cd27 "_law_odd" = true) (k27 : PySem.W.keepIn K (.ref f27) = true)
    (a28 : PySem.W.nsIn K mainGlobals "_law_is" = some (some (.ref f28))) (l28 : K.lookup f28 = some ⟨oc28, od28, .func (PySem.W.fnOf "_law_is" "_law_is" (defArgs s_law_is) (defBody s_law_is) (defScope s_law_is) .none kV28 dc28 pm28 an28 cd28 ct28), sl28⟩) (c28 : PySem.W.codeIn K cd28 "_law_is" = true) (k28 : PySem.W.keepIn K (.ref f28) = true)
    (a29 : PySem.W.nsIn K mainGlobals "_law_wins" = some (some (.ref f29))) (l29 : K.lookup f29 = some ⟨oc29, od29, .func (PySem.W.fnOf "_law_wins" "_law_wins" (defArgs s_law_wins) (defBody s_law_wins) (defScope s_law_wins) .none kV29 dc29 pm29 an29 cd29 ct29), sl29⟩) (c29 : PySem.W.codeIn K cd29 "_law_wins" = true) (k29 : PySem.W.keepIn K (.ref f29) = true)
    (a30 : PySem.W.nsIn K mainGlobals "_law_leads" = some (some (.ref f30))) (l30 : K.lookup f30 = some ⟨oc30, od30, .func (PySem.W.fnOf "_law_leads" "_law_leads" (defArgs s_law_leads) (defBody s_law_leads) (defScope s_law_leads) .none kV30 dc30 pm30 an30 cd30 ct30), sl30⟩) (c30 : PySem.W.codeIn K cd30 "_law_leads" = true) (k30 : PySem.W.keepIn K (.ref f30) = true)
    (a31 : PySem.W.nsIn K mainGlobals "law" = some (some (.ref f31))) (l31 : K.lookup f31 = some ⟨oc31, od31, .func (PySem.W.fnOf "law" "law" (defArgs s_law) (defBody s_law) (defScope s_law) .none kV31 dc31 pm31 an31 cd31 ct31), sl31⟩) (c31 : PySem.W.codeIn K cd31 "law" = true) (k31 : PySem.W.keepIn K (.ref f31) = true)
    (z_abs : PySem.W.nsIn K mainGlobals "abs" = some none)
    (z_all : PySem.W.nsIn K mainGlobals "all" = some none)
    (z_any : PySem.W.nsIn K mainGlobals "any" = some none)
    (z_bool : PySem.W.nsIn K mainGlobals "bool" = some none)
    (z_dict : PySem.W.nsIn K mainGlobals "dict" = some none)
    (z_enumerate : PySem.W.nsIn K mainGlobals "enumerate" = some none)
    (z_int : PySem.W.nsIn K mainGlobals "int" = some none)
    (z_isinstance : PySem.W.nsIn K mainGlobals "isinstance" = some none)
    (z_len : PySem.W.nsIn K mainGlobals "len" = some none)
    (z_list : PySem.W.nsIn K mainGlobals "list" = some none)
    (z_range : PySem.W.nsIn K mainGlobals "range" = some none)
    (z_str : PySem.W.nsIn K mainGlobals "str" = some none)
    (z_sum : PySem.W.nsIn K mainGlobals "sum" = some none)
    (z_tuple : PySem.W.nsIn K mainGlobals "tuple" = some none)
    (z_zip : PySem.W.nsIn K mainGlobals "zip" = some none)
    (g_FILLER : PySem.W.nsIn K mainGlobals "FILLER" = some (some (.str "filler" tk_FILLER)))
    (g_MOST_N : PySem.W.nsIn K mainGlobals "MOST_N" = some (some (.int 3 tk_MOST_N)))
    (g_SPOILER : PySem.W.nsIn K mainGlobals "SPOILER" = some (some (.str "spoiler" tk_SPOILER)))
    (g_NoBoard : PySem.W.nsIn K mainGlobals "NoBoard" = some (some (.ref CNoBoard)))
    (x_NoBoard : PySem.W.excIn K CNoBoard [.type "ValueError", .type "Exception", .type "BaseException", .type "object"] "ValueError.__new__" = true)
    (q_NoBoard : PySem.W.keepIn K (.ref CNoBoard) = true)
    (s_NoBoard : PySem.W.subIn K (.ref CNoBoard) (.type "BaseException") = some true)
    (t_NoBoard : PySem.W.typeIn K (.ref CNoBoard) = some (.type "type"))
    (g_NoFlag : PySem.W.nsIn K mainGlobals "NoFlag" = some (some (.ref CNoFlag)))
    (x_NoFlag : PySem.W.excIn K CNoFlag [.type "ValueError", .type "Exception", .type "BaseException", .type "object"] "ValueError.__new__" = true)
    (q_NoFlag : PySem.W.keepIn K (.ref CNoFlag) = true)
    (s_NoFlag : PySem.W.subIn K (.ref CNoFlag) (.type "BaseException") = some true)
    (t_NoFlag : PySem.W.typeIn K (.ref CNoFlag) = some (.type "type")) :
    ∃ fd : FuncData, (∀ (s : Shared) (v : Value), BindsTo s fd ⟨[v], []⟩ [("script", v)]) ∧ ∀ base : Heap, K.In base → base.Ns mainGlobals mg → FnOk l.prog w K mg base CX0 7 fa fd ["script"] (spLaw ⟨K, []⟩) := by
  have e := hfa.symm.trans (PySem.W.mg_of X G a31)
  cases e
  exact ⟨PySem.W.fnOf "law" "law" (defArgs s_law) (defBody s_law) (defScope s_law) .none kV31 dc31 pm31 an31 cd31 ct31, fun s v => .of_eq rfl, fun base _ _ =>
    ok_law (K := ⟨K, []⟩) (T := {
      a_is_integer := f0,
      d_is_integer := PySem.W.fnOf "is_integer" "is_integer" (defArgs s_is_integer) (defBody s_is_integer) (defScope s_is_integer) .none kV0 dc0 pm0 an0 cd0 ct0,
      f_is_integer := fun_mk (st := s_is_integer) l0 c0 k0,
      n_is_integer := (fun_mk (x := "is_integer") (qual := "is_integer") (st := s_is_integer) l0 c0 k0).binds (ps := ["thing"]) fun _ _ _ _ _ _ us hl => match us, hl with | [_], _ => rfl,
      m_is_integer := PySem.W.mg_of X G a0,
      a_is_within := f1,
      d_is_within := PySem.W.fnOf "is_within" "is_within" (defArgs s_is_within) (defBody s_is_within) (defScope s_is_within) .none kV1 dc1 pm1 an1 cd1 ct1,
      f_is_within := fun_mk (st := s_is_within) l1 c1 k1,
      n_is_within := (fun_mk (x := "is_within") (qual := "is_within") (st := s_is_within) l1 c1 k1).binds (ps := ["thing", "low", "high"]) fun _ _ _ _ _ _ us hl => match us, hl with | [_, _, _], _ => rfl,
      m_is_within := PySem.W.mg_of X G a1,
      a_is_sized := f2,
      d_is_sized := PySem.W.fnOf "is_sized" "is_sized" (defArgs s_is_sized) (defBody s_is_sized) (defScope s_is_sized) .none kV2 dc2 pm2 an2 cd2 ct2,
      f_is_sized := fun_mk (st := s_is_sized) l2 c2 k2,
      n_is_sized := (fun_mk (x := "is_sized") (qual := "is_sized") (st := s_is_sized) l2 c2 k2).binds (ps := ["thing", "low", "high"]) fun _ _ _ _ _ _ us hl => match us, hl with | [_, _, _], _ => rfl,
      m_is_sized := PySem.W.mg_of X G a2,
      a_is_line_free := f3,
      d_is_line_free := PySem.W.fnOf "is_line_free" "is_line_free" (defArgs s_is_line_free) (defBody s_is_line_free) (defScope s_is_line_free) .none kV3 dc3 pm3 an3 cd3 ct3,
      f_is_line_free := fun_mk (st := s_is_line_free) l3 c3 k3,
      n_is_line_free := (fun_mk (x := "is_line_free") (qual := "is_line_free") (st := s_is_line_free) l3 c3 k3).binds (ps := ["cells"]) fun _ _ _ _ _ _ us hl => match us, hl with | [_], _ => rfl,
      m_is_line_free := PySem.W.mg_of X G a3,
      a_is_board := f4,
      d_is_board := PySem.W.fnOf "is_board" "is_board" (defArgs s_is_board) (defBody s_is_board) (defScope s_is_board) .none kV4 dc4 pm4 an4 cd4 ct4,
      f_is_board := fun_mk (st := s_is_board) l4 c4 k4,
      n_is_board := (fun_mk (x := "is_board") (qual := "is_board") (st := s_is_board) l4 c4 k4).binds (ps := ["thing"]) fun _ _ _ _ _ _ us hl => match us, hl with | [_], _ => rfl,
      m_is_board := PySem.W.mg_of X G a4,
      a_check_board := f5,
      d_check_board := PySem.W.fnOf "check_board" "check_board" (defArgs s_check_board) (defBody s_check_board) (defScope s_check_board) .none kV5 dc5 pm5 an5 cd5 ct5,
      f_check_board := fun_mk (st := s_check_board) l5 c5 k5,
      n_check_board := (fun_mk (x := "check_board") (qual := "check_board") (st := s_check_board) l5 c5 k5).binds (ps := ["board"]) fun _ _ _ _ _ _ us hl => match us, hl with | [_], _ => rfl,
      m_check_board := PySem.W.mg_of X G a5,
      a_puts_of := f6,
      d_puts_of := PySem.W.fnOf "puts_of" "puts_of" (defArgs s_puts_of) (defBody s_puts_of) (defScope s_puts_of) .none kV6 dc6 pm6 an6 cd6 ct6,
      f_puts_of := fun_mk (st := s_puts_of) l6 c6 k6,
      n_puts_of := (fun_mk (x := "puts_of") (qual := "puts_of") (st := s_puts_of) l6 c6 k6).binds (ps := ["board"]) fun _ _ _ _ _ _ us hl => match us, hl with | [_], _ => rfl,
      m_puts_of := PySem.W.mg_of X G a6,
      a_behind := f7,
      d_behind := PySem.W.fnOf "behind" "behind" (defArgs s_behind) (defBody s_behind) (defScope s_behind) .none kV7 dc7 pm7 an7 cd7 ct7,
      f_behind := fun_mk (st := s_behind) l7 c7 k7,
      n_behind := (fun_mk (x := "behind") (qual := "behind") (st := s_behind) l7 c7 k7).binds (ps := ["board", "triple"]) fun _ _ _ _ _ _ us hl => match us, hl with | [_, _], _ => rfl,
      m_behind := PySem.W.mg_of X G a7,
      a_is_full := f8,
      d_is_full := PySem.W.fnOf "is_full" "is_full" (defArgs s_is_full) (defBody s_is_full) (defScope s_is_full) .none kV8 dc8 pm8 an8 cd8 ct8,
      f_is_full := fun_mk (st := s_is_full) l8 c8 k8,
      n_is_full := (fun_mk (x := "is_full") (qual := "is_full") (st := s_is_full) l8 c8 k8).binds (ps := ["board"]) fun _ _ _ _ _ _ us hl => match us, hl with | [_], _ => rfl,
      m_is_full := PySem.W.mg_of X G a8,
      a_order_from := f9,
      d_order_from := PySem.W.fnOf "order_from" "order_from" (defArgs s_order_from) (defBody s_order_from) (defScope s_order_from) .none kV9 dc9 pm9 an9 cd9 ct9,
      f_order_from := fun_mk (st := s_order_from) l9 c9 k9,
      n_order_from := (fun_mk (x := "order_from") (qual := "order_from") (st := s_order_from) l9 c9 k9).binds (ps := ["board"]) fun _ _ _ _ _ _ us hl => match us, hl with | [_], _ => rfl,
      m_order_from := PySem.W.mg_of X G a9,
      a_wins_from := f10,
      d_wins_from := PySem.W.fnOf "wins_from" "wins_from" (defArgs s_wins_from) (defBody s_wins_from) (defScope s_wins_from) .none kV10 dc10 pm10 an10 cd10 ct10,
      f_wins_from := fun_mk (st := s_wins_from) l10 c10 k10,
      n_wins_from := (fun_mk (x := "wins_from") (qual := "wins_from") (st := s_wins_from) l10 c10 k10).binds (ps := ["board"]) fun _ _ _ _ _ _ us hl => match us, hl with | [_], _ => rfl,
      m_wins_from := PySem.W.mg_of X G a10,
      a_check_turn := f11,
      d_check_turn := PySem.W.fnOf "check_turn" "check_turn" (defArgs s_check_turn) (defBody s_check_turn) (defScope s_check_turn) .none kV11 dc11 pm11 an11 cd11 ct11,
      f_check_turn := fun_mk (st := s_check_turn) l11 c11 k11,
      n_check_turn := (fun_mk (x := "check_turn") (qual := "check_turn") (st := s_check_turn) l11 c11 k11).binds (ps := ["board", "is_first"]) fun _ _ _ _ _ _ us hl => match us, hl with | [_, _], _ => rfl,
      m_check_turn := PySem.W.mg_of X G a11,
      a_book_from := f12,
      d_book_from := PySem.W.fnOf "book_from" "book_from" (defArgs s_book_from) (defBody s_book_from) (defScope s_book_from) .none kV12 dc12 pm12 an12 cd12 ct12,
      f_book_from := fun_mk (st := s_book_from) l12 c12 k12,
      n_book_from := (fun_mk (x := "book_from") (qual := "book_from") (st := s_book_from) l12 c12 k12).binds (ps := ["board", "is_first", "wins"]) fun _ _ _ _ _ _ us hl => match us, hl with | [_, _, _], _ => rfl,
      m_book_from := PySem.W.mg_of X G a12,
      a_filler_wins := f13,
      d_filler_wins := PySem.W.fnOf "filler_wins" "filler_wins" (defArgs s_filler_wins) (defBody s_filler_wins) (defScope s_filler_wins) .none kV13 dc13 pm13 an13 cd13 ct13,
      f_filler_wins := fun_mk (st := s_filler_wins) l13 c13 k13,
      n_filler_wins := (fun_mk (x := "filler_wins") (qual := "filler_wins") (st := s_filler_wins) l13 c13 k13).binds (ps := ["board", "is_first"]) fun _ _ _ _ _ _ us hl => match us, hl with | [_, _], _ => rfl,
      m_filler_wins := PySem.W.mg_of X G a13,
      a_are_small := f14,
      d_are_small := PySem.W.fnOf "are_small" "are_small" (defArgs s_are_small) (defBody s_are_small) (defScope s_are_small) .none kV14 dc14 pm14 an14 cd14 ct14,
      f_are_small := fun_mk (st := s_are_small) l14 c14 k14,
      n_are_small := (fun_mk (x := "are_small") (qual := "are_small") (st := s_are_small) l14 c14 k14).binds (ps := ["numbers"]) fun _ _ _ _ _ _ us hl => match us, hl with | [_], _ => rfl,
      m_are_small := PySem.W.mg_of X G a14,
      a_is_book := f15,
      d_is_book := PySem.W.fnOf "is_book" "is_book" (defArgs s_is_book) (defBody s_is_book) (defScope s_is_book) .none kV15 dc15 pm15 an15 cd15 ct15,
      f_is_book := fun_mk (st := s_is_book) l15 c15 k15,
      n_is_book := (fun_mk (x := "is_book") (qual := "is_book") (st := s_is_book) l15 c15 k15).binds (ps := ["thing"]) fun _ _ _ _ _ _ us hl => match us, hl with | [_], _ => rfl,
      m_is_book := PySem.W.mg_of X G a15,
      a_holds_by := f16,
      d_holds_by := PySem.W.fnOf "holds_by" "holds_by" (defArgs s_holds_by) (defBody s_holds_by) (defScope s_holds_by) .none kV16 dc16 pm16 an16 cd16 ct16,
      f_holds_by := fun_mk (st := s_holds_by) l16 c16 k16,
      n_holds_by := (fun_mk (x := "holds_by") (qual := "holds_by") (st := s_holds_by) l16 c16 k16).binds (ps := ["board", "is_first", "is_filler", "book"]) fun _ _ _ _ _ _ us hl => match us, hl with | [_, _, _, _], _ => rfl,
      m_holds_by := PySem.W.mg_of X G a16,
      a_is_filler_wins := f17,
      d_is_filler_wins := PySem.W.fnOf "is_filler_wins" "is_filler_wins" (defArgs s_is_filler_wins) (defBody s_is_filler_wins) (defScope s_is_filler_wins) .none kV17 dc17 pm17 an17 cd17 ct17,
      f_is_filler_wins := fun_mk (st := s_is_filler_wins) l17 c17 k17,
      n_is_filler_wins := (fun_mk (x := "is_filler_wins") (qual := "is_filler_wins") (st := s_is_filler_wins) l17 c17 k17).binds (ps := ["board", "is_first", "thing"]) fun _ _ _ _ _ _ us hl => match us, hl with | [_, _, _], _ => rfl,
      m_is_filler_wins := PySem.W.mg_of X G a17,
      a_law_hand := f18,
      d_law_hand := PySem.W.fnOf "_law_hand" "_law_hand" (defArgs s_law_hand) (defBody s_law_hand) (defScope s_law_hand) .none kV18 dc18 pm18 an18 cd18 ct18,
      f_law_hand := fun_mk (st := s_law_hand) l18 c18 k18,
      n_law_hand := (fun_mk (x := "_law_hand") (qual := "_law_hand") (st := s_law_hand) l18 c18 k18).binds (ps := ["script"]) fun _ _ _ _ _ _ us hl => match us, hl with | [_], _ => rfl,
      m_law_hand := PySem.W.mg_of X G a18,
      a_law_draw := f19,
      d_law_draw := PySem.W.fnOf "_law_draw" "_law_draw" (defArgs s_law_draw) (defBody s_law_draw) (defScope s_law_draw) .none kV19 dc19 pm19 an19 cd19 ct19,
      f_law_draw := fun_mk (st := s_law_draw) l19 c19 k19,
      n_law_draw := (fun_mk (x := "_law_draw") (qual := "_law_draw") (st := s_law_draw) l19 c19 k19).binds (ps := ["hand", "many"]) fun _ _ _ _ _ _ us hl => match us, hl with | [_, _], _ => rfl,
      m_law_draw := PySem.W.mg_of X G a19,
      a_law_some := f20,
      d_law_some := PySem.W.fnOf "_law_some" "_law_some" (defArgs s_law_some) (defBody s_law_some) (defScope s_law_some) .none kV20 dc20 pm20 an20 cd20 ct20,
      f_law_some := fun_mk (st := s_law_some) l20 c20 k20,
      n_law_some := (fun_mk (x := "_law_some") (qual := "_law_some") (st := s_law_some) l20 c20 k20).binds (ps := ["hand", "things"]) fun _ _ _ _ _ _ us hl => match us, hl with | [_, _], _ => rfl,
      m_law_some := PySem.W.mg_of X G a20,
      a_law_puts := f21,
      d_law_puts := PySem.W.fnOf "_law_puts" "_law_puts" (defArgs s_law_puts) (defBody s_law_puts) (defScope s_law_puts) .none kV21 dc21 pm21 an21 cd21 ct21,
      f_law_puts := fun_mk (st := s_law_puts) l21 c21 k21,
      n_law_puts := (fun_mk (x := "_law_puts") (qual := "_law_puts") (st := s_law_puts) l21 c21 k21).binds (ps := ["board"]) fun _ _ _ _ _ _ us hl => match us, hl with | [_], _ => rfl,
      m_law_puts := PySem.W.mg_of X G a21,
      a_law_after := f22,
      d_law_after := PySem.W.fnOf "_law_after" "_law_after" (defArgs s_law_after) (defBody s_law_after) (defScope s_law_after) .none kV22 dc22 pm22 an22 cd22 ct22,
      f_law_after := fun_mk (st := s_law_after) l22 c22 k22,
      n_law_after := (fun_mk (x := "_law_after") (qual := "_law_after") (st := s_law_after) l22 c22 k22).binds (ps := ["board", "told"]) fun _ _ _ _ _ _ us hl => match us, hl with | [_, _], _ => rfl,
      m_law_after := PySem.W.mg_of X G a22,
      a_law_open := f23,
      d_law_open := PySem.W.fnOf "_law_open" "_law_open" (defArgs s_law_open) (defBody s_law_open) (defScope s_law_open) .none kV23 dc23 pm23 an23 cd23 ct23,
      f_law_open := fun_mk (st := s_law_open) l23 c23 k23,
      n_law_open := (fun_mk (x := "_law_open") (qual := "_law_open") (st := s_law_open) l23 c23 k23).binds (ps := ["board"]) fun _ _ _ _ _ _ us hl => match us, hl with | [_], _ => rfl,
      m_law_open := PySem.W.mg_of X G a23,
      a_law_board := f24,
      d_law_board := PySem.W.fnOf "_law_board" "_law_board" (defArgs s_law_board) (defBody s_law_board) (defScope s_law_board) .none kV24 dc24 pm24 an24 cd24 ct24,
      f_law_board := fun_mk (st := s_law_board) l24 c24 k24,
      n_law_board := (fun_mk (x := "_law_board") (qual := "_law_board") (st := s_law_board) l24 c24 k24).binds (ps := ["hand", "most"]) fun _ _ _ _ _ _ us hl => match us, hl with | [_, _], _ => rfl,
      m_law_board := PySem.W.mg_of X G a24,
      a_law_all := f25,
      d_law_all := PySem.W.fnOf "_law_all" "_law_all" (defArgs s_law_all) (defBody s_law_all) (defScope s_law_all) .none kV25 dc25 pm25 an25 cd25 ct25,
      f_law_all := fun_mk (st := s_law_all) l25 c25 k25,
      n_law_all := (fun_mk (x := "_law_all") (qual := "_law_all") (st := s_law_all) l25 c25 k25).binds (ps := ["board"]) fun _ _ _ _ _ _ us hl => match us, hl with | [_], _ => rfl,
      m_law_all := PySem.W.mg_of X G a25,
      a_law_deep := f26,
      d_law_deep := PySem.W.fnOf "_law_deep" "_law_deep" (defArgs s_law_deep) (defBody s_law_deep) (defScope s_law_deep) .none kV26 dc26 pm26 an26 cd26 ct26,
      f_law_deep := fun_mk (st := s_law_deep) l26 c26 k26,
      n_law_deep := (fun_mk (x := "_law_deep") (qual := "_law_deep") (st := s_law_deep) l26 c26 k26).binds (ps := ["hand"]) fun _ _ _ _ _ _ us hl => match us, hl with | [_], _ => rfl,
      m_law_deep := PySem.W.mg_of X G a26,
      a_law_odd := f27,
      d_law_odd := PySem.W.fnOf "_law_odd" "_law_odd" (defArgs s_law_odd) (defBody s_law_odd) (defScope s_law_odd) .none kV27 dc27 pm27 an27 cd27 ct27,
      f_law_odd := fun_mk (st := s_law_odd) l27 c27 k27,
      n_law_odd := (fun_mk (x := "_law_odd") (qual := "_law_odd") (st := s_law_odd) l27 c27 k27).binds (ps := ["hand"]) fun _ _ _ _ _ _ us hl => match us, hl with | [_], _ => rfl,
      m_law_odd := PySem.W.mg_of X G a27,
      a_law_is := f28,
      d_law_is := PySem.W.fnOf "_law_is" "_law_is" (defArgs s_law_is) (defBody s_law_is) (defScope s_law_is) .none kV28 dc28 pm28 an28 cd28 ct28,
      f_law_is := fun_mk (st := s_law_is) l28 c28 k28,
      n_law_is := (fun_mk (x := "_law_is") (qual := "_law_is") (st := s_law_is) l28 c28 k28).binds (ps := ["told", "due"]) fun _ _ _ _ _ _ us hl => match us, hl with | [_, _], _ => rfl,
      m_law_is := PySem.W.mg_of X G a28,
      a_law_wins := f29,
      d_law_wins := PySem.W.fnOf "_law_wins" "_law_wins" (defArgs s_law_wins) (defBody s_law_wins) (defScope s_law_wins) .none kV29 dc29 pm29 an29 cd29 ct29,
      f_law_wins := fun_mk (st := s_law_wins) l29 c29 k29,
      n_law_wins := (fun_mk (x := "_law_wins") (qual := "_law_wins") (st := s_law_wins) l29 c29 k29).binds (ps := ["board"]) fun _ _ _ _ _ _ us hl => match us, hl with | [_], _ => rfl,
      m_law_wins := PySem.W.mg_of X G a29,
      a_law_leads := f30,
      d_law_leads := PySem.W.fnOf "_law_leads" "_law_leads" (defArgs s_law_leads) (defBody s_law_leads) (defScope s_law_leads) .none kV30 dc30 pm30 an30 cd30 ct30,
      f_law_leads := fun_mk (st := s_law_leads) l30 c30 k30,
      n_law_leads := (fun_mk (x := "_law_leads") (qual := "_law_leads") (st := s_law_leads) l30 c30 k30).binds (ps := ["board", "is_first", "is_filler", "book"]) fun _ _ _ _ _ _ us hl => match us, hl with | [_, _, _, _], _ => rfl,
      m_law_leads := PySem.W.mg_of X G a30,
      a_law := fa,
      d_law := PySem.W.fnOf "law" "law" (defArgs s_law) (defBody s_law) (defScope s_law) .none kV31 dc31 pm31 an31 cd31 ct31,
      f_law := fun_mk (st := s_law) l31 c31 k31,
      n_law := (fun_mk (x := "law") (qual := "law") (st := s_law) l31 c31 k31).binds (ps := ["script"]) fun _ _ _ _ _ _ us hl => match us, hl with | [_], _ => rfl,
      m_law := PySem.W.mg_of X G a31,
      b_abs := PySem.W.mg_none_of X G z_abs,
      b_all := PySem.W.mg_none_of X G z_all,
      b_any := PySem.W.mg_none_of X G z_any,
      b_bool := PySem.W.mg_none_of X G z_bool,
      b_dict := PySem.W.mg_none_of X G z_dict,
      b_enumerate := PySem.W.mg_none_of X G z_enumerate,
      b_int := PySem.W.mg_none_of X G z_int,
      b_isinstance := PySem.W.mg_none_of X G z_isinstance,
      b_len := PySem.W.mg_none_of X G z_len,
      b_list := PySem.W.mg_none_of X G z_list,
      b_range := PySem.W.mg_none_of X G z_range,
      b_str := PySem.W.mg_none_of X G z_str,
      b_sum := PySem.W.mg_none_of X G z_sum,
      b_tuple := PySem.W.mg_none_of X G z_tuple,
      b_zip := PySem.W.mg_none_of X G z_zip,
      t_FILLER := tk_FILLER,
      k_FILLER := PySem.W.mg_of X G g_FILLER,
      t_MOST_N := tk_MOST_N,
      k_MOST_N := PySem.W.mg_of X G g_MOST_N,
      t_SPOILER := tk_SPOILER,
      k_SPOILER := PySem.W.mg_of X G g_SPOILER,
      c_NoBoard := CNoBoard,
      g_NoBoard := PySem.W.mg_of X G g_NoBoard,
      x_NoBoard := x_NoBoard,
      q_NoBoard := q_NoBoard,
      s_NoBoard := s_NoBoard,
      t_NoBoard := t_NoBoard,
      c_NoFlag := CNoFlag,
      g_NoFlag := PySem.W.mg_of X G g_NoFlag,
      x_NoFlag := x_NoFlag,
      q_NoFlag := q_NoFlag,
      s_NoFlag := s_NoFlag,
      t_NoFlag := t_NoFlag }) (pl _)⟩
theorem walk {l : PySem.W.OpenLaw} {q : Program} {loose : List Str} {XP : (Str → Option Value) → Heap → Prop} {YP : World → Heap → Prop} {d : DefRec} {K : Params → PySem.W.Frag} (hn : l.most = some 63) (hdf : d.params.defaults = [])
    (hY : ∀ (w : World) (h : Heap), YP w h → (K w.params).In h)
    (F : ∀ (w : World) (mg : Str → Option Value) (fa : Addr) (h : Heap), (K w.params).In h → h.Ns mainGlobals mg → mg d.name = some (.ref fa) →
      ∃ fd : FuncData, (∀ (s : Shared) (u : Value), BindsTo s fd ⟨[u], []⟩ [("script", u)]) ∧ ∀ base : Heap, (K w.params).In base → base.Ns mainGlobals mg → FnOk l.prog w (K w.params) mg base CX0 7 fa fd ["script"] (spLaw ⟨K w.params, []⟩)) :
    PySem.W.WalkO q loose XP YP l.row.toRowW d [] (fun f vs => PySem.call f vs) :=
  L2.walk_of (n := 63) (k := 7) (x := "script") (CX := fun _ => CX0) (sp := fun w => spLaw ⟨K w.params, []⟩) hn (by decide) hdf ⟨rfl, by decide, by decide⟩ hY F (fun _ _ a ns hl _ hS => ⟨a, ns, rfl, hS, hl, (fun _ z => nomatch z), fun _ => rfl⟩) fun _ _ _ _ _ z => z
section
end
end K79
namespace K79
open PySem PySem.Spec PyProof.Rows L2 Dn
section
variable {A : D → Prop} {B : Xn → Prop}
theorem sp_after {n : Nat} {f : Gr} {r c : Nat} {s : Int} (hn : n ≤ 1000) (hr : r < n) (hc : c < n) (q : A (gD n (put3 f r c s))) : cal w_law_after [.sh (gD n f), .sh (trD r c s)] A B := by
  refine cal_of ?_
  have z : sizeLine = 16777216 := sizeLine_eq
  rw [← g_put f s hr hc] at q
  unfold w_law_after b_law_after trD gD
  simp
  rw [atI_map _ _ _ hr]
  simp [cut_take, cut_drop1]
  simp only [List.append_assoc, List.singleton_append] at q
  exact ⟨by omega, by omega, by omega, by omega, by omega, by omega, q⟩
theorem sp_behind {n : Nat} {f : Gr} {r c : Nat} {s : Int} (hn : n ≤ 1000) (hr : r < n) (hc : c < n) (q : A (gD n (put3 f r c s))) : cal w_behind [.sh (gD n f), .sh (trD r c s)] A B := by
  refine cal_of ?_
  have z : sizeLine = 16777216 := sizeLine_eq
  rw [← g_put f s hr hc] at q
  unfold w_behind b_behind trD gD
  simp
  rw [atI_map _ _ _ hr]
  simp [cut_take, cut_drop1]
  simp only [List.append_assoc, List.singleton_append] at q
  first | exact ⟨by omega, by omega, by omega, by omega, by omega, by omega, q⟩ | trace_state
theorem sp_puts_law {n : Nat} {f : Gr} (hn : n ≤ 100) (q : A (.list (puts n f))) : cal w_law_puts [.sh (gD n f)] A B := by
  refine cal_of ?_
  have z : sizeLine = 16777216 := sizeLine_eq
  unfold w_law_puts b_law_puts
  rw [gD]
  simp
  refine ⟨by omega, forW_range (fun k => [some (.sh (PyData.tuple (List.map (fun r => PyData.tuple (lnD n (f r))) (List.range n)))), some (.sh (.int n)), some (.sh (.list ((List.range k).flatMap fun r => (List.range n).flatMap fun c => putsAt n f r c))), none, none, none, none, none]) n (fun r hr N hN => ?_) ?_⟩
  · simp
    refine ⟨by omega, ?_⟩
    have l1 := fm_len (fun r => (List.range n).flatMap fun c => putsAt n f r c) (n * n) (fun r => by have := fm_len (fun c => putsAt n f r c) n (fun c => putsAt_len n f r c) n; simpa using this) r
    have l2 : n * n * r ≤ 100 * 100 * 100 := Nat.mul_le_mul (Nat.mul_le_mul hn hn) (by omega)
    refine forW_rangeE (fun k => [some (.sh (PyData.tuple (List.map (fun r => PyData.tuple (lnD n (f r))) (List.range n)))), some (.sh (.int n)), some (.sh (.list (((List.range r).flatMap fun r => (List.range n).flatMap fun c => putsAt n f r c) ++ (List.range k).flatMap fun c => putsAt n f r c))), some (.sh (.int r)), none, none, none, none]) n (by simp) (fun c hc M hM => ?_) ?_
    · have l3 := fm_len (fun c => putsAt n f r c) n (fun c => putsAt_len n f r c) c
      have l4 : n * c ≤ 100 * 100 := Nat.mul_le_mul hn (by omega)
      simp
      rw [atI_map _ _ _ hr]
      simp
      rw [at_ln _ _ _ hc]
      simp
      rw [fm_succ] at hM
      have e0 : putsAt n f r c = if f r c = none then ((List.range n).filter fun (s : Nat) => fits n f r c s).map fun (s : Nat) => trD r c (s : Int) else [] := rfl
      have e1 := putsAt_len n f r c
      split
      · rename_i e
        rw [if_pos e] at e0
        refine lcW_map (fun k => cD (f k c)) _ _ _ (fun k hk Y y => ?_) ?_
        · simp
          rw [at_ln _ _ _ hc]
          exact y
        · simp
          refine ⟨by omega, by omega, lcW_filter (fun s => fits n f r c s) (fun (s : Nat) => trD r c (s : Int)) _ _ _ (fun s hs Y N' hY hN' => ?_) ?_⟩
          · simp [trD, ln_all] at hY ⊢
            refine ⟨shaped_of (k := 2) (Shp.list fun x hx => ?_) (by decide), ?_⟩
            · rcases List.mem_append.mp hx with h | h
              · exact shp_ln _ _ x h
              · exact shp_ln n (fun k => f k c) x h
            · have ef := @fits_iff n f r c s
              split
              · rename_i h
                exact ⟨by omega, hY (ef.mpr h)⟩
              · rename_i h
                refine hN' ?_
                cases e9 : fits n f r c s with
                | false => rfl
                | true => exact absurd (ef.mp e9) h
          · rw [← e0]
            exact ⟨by simp only [List.length_append]; omega, by rw [List.append_assoc]; exact hM⟩
      · rename_i e
        rw [if_neg e] at e0
        rw [e0, List.append_nil] at hM
        exact hM
    · simp
      rw [fm_succ] at hN
      exact hN
  · simp
    exact q
theorem sp_puts_of {n : Nat} {f : Gr} (hn : n ≤ 100) (q : A (.list (puts n f))) : cal w_puts_of [.sh (gD n f)] A B := by
  refine cal_of ?_
  have z : sizeLine = 16777216 := sizeLine_eq
  unfold w_puts_of b_puts_of
  rw [gD]
  simp [enum_range]
  refine forW_rangeE (fun k => [some (.sh (PyData.tuple (List.map (fun r => PyData.tuple (lnD n (f r))) (List.range n)))), some (.ow none ((List.range k).flatMap fun r => (List.range n).flatMap fun c => putsAt n f r c)), none, none, none, none, none, none, none]) n (by simp) (fun r hr N hN => ?_) ?_
  · simp
    have l1 := fm_len (fun r => (List.range n).flatMap fun c => putsAt n f r c) (n * n) (fun r => by have := fm_len (fun c => putsAt n f r c) n (fun c => putsAt_len n f r c) n; simpa using this) r
    have l2 : n * n * r ≤ 100 * 100 * 100 := Nat.mul_le_mul (Nat.mul_le_mul hn hn) (by omega)
    rw [enum_ln]
    refine forW_rangeE (fun k => [some (.sh (PyData.tuple (List.map (fun r => PyData.tuple (lnD n (f r))) (List.range n)))), some (.ow none (((List.range r).flatMap fun r => (List.range n).flatMap fun c => putsAt n f r c) ++ (List.range k).flatMap fun c => putsAt n f r c)), some (.sh (.int r)), some (.sh (.tuple (lnD n (f r)))), none, none, none, none, none]) n (by simp) (fun c hc M hM => ?_) ?_
    · have l3 := fm_len (fun c => putsAt n f r c) n (fun c => putsAt_len n f r c) c
      have l4 : n * c ≤ 100 * 100 := Nat.mul_le_mul hn (by omega)
      simp [-List.length_flatMap]
      rw [fm_succ] at hM
      have e0 : putsAt n f r c = if f r c = none then ((List.range n).filter fun (s : Nat) => fits n f r c s).map fun (s : Nat) => trD r c (s : Int) else [] := rfl
      have e1 := putsAt_len n f r c
      split
      · rename_i e
        rw [if_pos e] at e0
        refine lcW_map (fun k => cD (f k c)) _ _ _ (fun k hk Y y => ?_) ?_
        · simp
          rw [at_ln _ _ _ hc]
          exact y
        · refine ⟨by omega, lcW_filter (fun s => fits n f r c s) (fun (s : Nat) => trD r c (s : Int)) _ _ _ (fun s hs Y N' hY hN' => ?_) ?_⟩
          · simp [trD, ln_all] at hY ⊢
            have ef := @fits_iff n f r c s
            split
            · rename_i h1
              refine ⟨shaped_of (k := 2) (Shp.list fun x hx => shp_ln n (fun k => f k c) x hx) (by decide), ?_⟩
              split
              · rename_i h2
                exact ⟨by omega, hY (ef.mpr ⟨h1, h2⟩)⟩
              · rename_i h2
                refine hN' ?_
                cases e9 : fits n f r c s with
                | false => rfl
                | true => exact absurd (ef.mp e9).2 h2
            · rename_i h1
              refine hN' ?_
              cases e9 : fits n f r c s with
              | false => rfl
              | true => exact absurd (ef.mp e9).1 h1
          · rw [← e0]
            exact ⟨by omega, hM⟩
      · rename_i e
        rw [if_neg e] at e0
        rw [e0, List.append_nil] at hM
        exact hM
    · simp
      rw [fm_succ] at hN
      exact hN
  · simp
    exact q
theorem sp_integer {d : D} (q : A (.bool (isI d))) : cal w_is_integer [.sh d] A B := by
  refine cal_of ?_
  unfold w_is_integer b_is_integer
  cases d <;> simp [isI] at q ⊢ <;> exact q
theorem natbeq (x y : Nat) : (((x : Nat) : Int) == (y : Int)) = decide (x = y) := by
  by_cases h : x = y
  · simp [h]
  · simp [h]
    omega
theorem natbeq1 (x : Nat) : (((x : Nat) : Int) == 1) = decide (x = 1) := natbeq x 1
theorem sp_within {d : D} {lo hi : Int} (q : A (.bool (wiB d lo hi))) : cal w_is_within [.sh d, .sh (.int lo), .sh (.int hi)] A B := by
  refine cal_of ?_
  unfold w_is_within b_is_within
  simp
  refine sp_integer ?_
  cases d <;> simp [isI, wiB] at q ⊢ <;> first | exact q | skip
  by_cases h : lo ≤ (by assumption : Int) <;> simp [h] at q ⊢ <;> exact q
theorem sp_sized {d : D} {lo hi : Int} (q : A (.bool (szB d lo hi))) : cal w_is_sized [.sh d, .sh (.int lo), .sh (.int hi)] A B := by
  refine cal_of ?_
  unfold w_is_sized b_is_sized
  cases d <;> simp [szB] at q ⊢ <;> first | exact q | skip
  rename_i xs
  by_cases h : lo ≤ (xs.length : Int) <;> simp [h] at q ⊢ <;> exact q
theorem sp_line_free {d : D} {n : Nat} {l : Nat → Option Int} (hd : d = .tuple (lnD n l) ∨ d = .list (lnD n l)) (q : A (.bool (lnFree n l))) : cal w_is_line_free [.sh d] A B := by
  refine cal_of ?_
  unfold w_is_line_free b_is_line_free
  have fl : ∀ x, x ∈ lnD n l → flatD x = true := ln_all.mpr fun k _ => cD_flat _
  rcases hd with rfl | rfl
  all_goals
    simp
    refine lcW_filterL (fun d => !oIsN d) id _ _ (fun x hx Y N hY hN => ?_) ?_
    · simp
      cases h : oIsN x with
      | true => simpa [h] using hN (by rw [h]; rfl)
      | false => simpa [h] using hY (by rw [h]; rfl)
    · rw [List.map_id]
      simp
      refine lcW_mapL (fun x => .bool (decide (((lnD n l).filter fun d => !oIsN d).countP (fun z => PyData.eqv z x) = 1))) _ _ (fun x hx Y hY => ?_) ?_
      · simp
        refine ⟨⟨fl x (List.mem_filter.mp hx).1, fun y hy => .inr (fl y hy)⟩, ?_⟩
        rw [natbeq1]
        exact hY
      · have e := lineB n l
        simp at e
        simp
        rw [e]
        exact q
theorem szB_tuple {x : D} {n : Nat} (h : szB x n n = true) : ∃ cs, x = .tuple cs ∧ cs.length = n := by
  cases x with
  | tuple cs =>
    simp [szB] at h
    exact ⟨cs, rfl, by omega⟩
  | _ => cases h
theorem cell_or {n : Nat} {c : D} : (oIsN c || wiB c 0 ((n : Int) - 1)) = cellOk n c := by
  cases c <;> simp [wiB, cellOk, oIsN]
  rename_i i
  by_cases h : 0 ≤ i
  · by_cases h2 : i < n
    · simp [h, h2]; omega
    · simp [h, h2]; omega
  · simp [h]
theorem szB_ln (n : Nat) (l : Nat → Option Int) : szB (.tuple (lnD n l)) n n = true := by simp [szB]
theorem cellOk_cD {n : Nat} {a : Option Int} (h : ∀ s, a = some s → 0 ≤ s ∧ s < n) : cellOk n (cD a) = true := by
  cases a with
  | none => rfl
  | some i => simpa [cD, cellOk] using h i rfl
theorem not_mem_trues {α : Type} {f : α → Bool} {xs : List α} (h : ∀ x ∈ xs, f x = true) : false ∉ xs.map f := by
  intro m
  obtain ⟨x, hx, e⟩ := List.mem_map.mp m
  rw [h x hx] at e
  cases e
theorem sp_is_board_good {n : Nat} {f : Gr} (h1 : 1 ≤ n) (h3 : n ≤ 3) (hr : InR n f) (q : A (.bool (grFree n f))) : cal w_is_board [.sh (gD n f)] A B := by
  refine cal_of ?_
  unfold w_is_board b_is_board
  rw [gD]
  simp
  refine sp_sized ?_
  have hs : szB (.tuple (List.map (fun r => PyData.tuple (lnD n (f r))) (List.range n))) 1 3 = true := by
    simp [szB]
    omega
  rw [hs]
  simp
  refine lcW_map (fun _ => .bool true) _ _ _ (fun r hr Y y => by simp; refine sp_sized ?_; rw [szB_ln]; exact y) ?_
  simp
  refine lcW_map (fun _ => .bool true) _ _ _ (fun r hrr Y y => ?_) ?_
  · simp
    have hrr := List.mem_range.mp hrr
    refine lcW_mapL (fun c => .bool true) _ _ (fun c hc Y' y' => ?_) ?_
    · simp
      unfold lnD at hc
      obtain ⟨k, hk, rfl⟩ := List.mem_map.mp hc
      have ok : cellOk n (cD (f r k)) = true := cellOk_cD fun s e => hr r k s hrr (List.mem_range.mp hk) e
      have e := @cell_or n (cD (f r k))
      cases hn : oIsN (cD (f r k)) with
      | true => simp at hn; simpa [hn] using y'
      | false =>
        rw [hn, ok] at e
        simp at e hn
        simp [hn]
        refine sp_within ?_
        rw [e]
        exact y'
    · simp
      rw [show ((lnD n (f r)).all fun x => true) = true from List.all_eq_true.mpr fun _ _ => rfl]
      exact y
  · simp
    refine ⟨by omega, lcW_map (fun c => .list (lnD n fun r => f r c)) _ _ _ (fun c hc Y y => ?_) ?_⟩
    · simp
      have hc := List.mem_range.mp hc
      refine lcW_map (fun r => cD (f r c)) _ _ _ (fun r hr Y' y' => ?_) ?_
      · simp
        rw [at_ln _ _ _ hc]
        exact y'
      · exact y
    · simp
      refine lcW_map (fun r => .bool (lnFree n (f r))) _ _ _ (fun r hr Y y => by simp; exact sp_line_free (.inl rfl) y) ?_
      simp
      cases e1 : (List.range n).all fun r => lnFree n (f r) with
      | false =>
        unfold grFree at q
        rw [e1] at q
        exact q
      | true =>
        unfold grFree at q
        rw [e1] at q
        show lcW _ _ _ _ _ _ _
        refine lcW_map (fun c => .bool (lnFree n fun r => f r c)) _ _ _ (fun r hr Y y => by simp; exact sp_line_free (.inr rfl) y) ?_
        simp
        simpa using q
theorem sp_is_bool {k : Nat} {a b : Bool} (q : A (.bool (a == b))) : cal (w_law_is (k + 1)) [.sh (.bool a), .sh (.bool b)] A B := by
  refine cal_of ?_
  unfold w_law_is b_law_is
  simpa using q
theorem sp_is_self : ∀ {k : Nat} {d : D}, OkS k d → ∀ {A : D → Prop} {B : Xn → Prop}, A (.bool true) → cal (w_law_is k) [.sh d, .sh d] A B
  | 0, d, h, _, _, _ => h.elim
  | k + 1, d, h, A, B, q => by
    refine cal_of ?_
    unfold w_law_is b_law_is
    cases d with
    | tuple xs =>
      simp
      rw [zipD_self]
      refine lcW_map (fun _ => .bool true) _ _ _ (fun x hx Y y => ?_) ?_
      · simp
        exact sp_is_self (h x hx) y
      · simp
        rw [show (xs.all fun x => true) = true from List.all_eq_true.mpr fun _ _ => rfl]
        exact q
    | list xs =>
      simp
      rw [zipD_self]
      refine lcW_map (fun _ => .bool true) _ _ _ (fun x hx Y y => ?_) ?_
      · simp
        exact sp_is_self (h x hx) y
      · simp
        rw [show (xs.all fun x => true) = true from List.all_eq_true.mpr fun _ _ => rfl]
        exact q
    | dict es => exact h.elim
    | str z =>
      have h' : SeqAt.shaped (.str z) = true ∧ PyData.eqv (.str z) (.str z) = true := h
      simp [h'.1, h'.2]
      exact q
    | _ => simpa using q
theorem sp_some {a : Addr} {xs : List D} (h : 0 < xs.length) (h2 : xs.length < 1073741824) (q : ∀ x ∈ xs, A x) : cal w_law_some [.ob a, .sh (.list xs)] A B := by
  refine cal_of ?_
  unfold w_law_some b_law_some
  simp
  refine draw_cal (by omega) (by omega) fun k k0 k1 => ?_
  simp
  rw [atI_of _ _ k0, List.getElem?_eq_getElem (by omega)]
  exact q _ (List.getElem_mem _)
theorem sp_open {n : Nat} {f : Gr} (q : A (.int (opn n f : Nat))) : cal w_law_open [.sh (gD n f)] A B := by
  refine cal_of ?_
  have z : sizeLine = 16777216 := sizeLine_eq
  unfold w_law_open b_law_open
  rw [gD]
  simp
  refine lcW_map (fun r => .int (opr n (f r) : Nat)) _ _ _ (fun r hr Y y => ?_) ?_
  · simp
    refine lcW_filter (fun c => decide (f r c = none)) (fun _ => .int 1) _ _ _ (fun c hc Y' N' hY hN => ?_) ?_
    · simp
      split
      · rename_i h
        exact hY (decide_eq_true h)
      · rename_i h
        exact hN (decide_eq_false h)
    · simp
      unfold opr at y
      exact y
  · simp
    unfold opn at q
    rw [sum_cast]
    exact q
theorem sp_board {a : Addr} {most : Int} (q : ∀ n f, Bd n f → ((opn n f : Int) ≤ most ∨ opn n f ≤ 2) → A (gD n f)) : cal w_law_board [.ob a, .sh (.int most)] A B := by
  refine cal_of ?_
  have z : sizeLine = 16777216 := sizeLine_eq
  unfold w_law_board b_law_board
  simp
  refine draw_cal (by decide) (by decide) fun k k0 k1 => ?_
  simp
  obtain ⟨n, hn, h1, h3⟩ : ∃ n : Nat, 1 + k = n ∧ 1 ≤ n ∧ n ≤ 3 := ⟨(1 + k).toNat, by omega, by omega, by omega⟩
  rw [hn]
  simp
  have e0 : PyData.tuple (List.replicate n (PyData.tuple (List.replicate n PyData.none))) = gD n fun _ _ => none := by
    unfold gD lnD
    rw [List.map_const', List.map_const', List.length_range]
    rfl
  rw [e0]
  refine ⟨by omega, ⟨by omega, by omega⟩, by omega, ⟨by omega, by omega⟩, ?_⟩
  have tail : ∀ f, Bd n f → ((opn n f : Int) ≤ most ∨ opn n f ≤ 2) → ∀ m : Nat, m ≤ 3 → forW (gN 5) (wSeq (wSet 4 (wCl w_law_puts (wACons (wV 3) wANil))) (wSet 3 (wIf (wTest (wOp dGt (wCall cLen (wCons (wV 4) wNil)) (wC (PyData.int 0)))) (wCl w_law_after (wACons (wV 3) (wACons (wCl w_law_some (wAOb 0 (wACons (wV 4) wANil))) wANil))) (wV 3)))) [4, 5]
      { nx := fun env' => match env'[3]? with | some (some (En.sh d)) => A d | x => False, rt := fun d x => A d, bk := fun x => False, ct := fun x => False, xe := fun x x_1 => False } (List.map (fun k => PyData.int (k : Nat)) (List.range m)) [some (En.ob a), some (En.sh (PyData.int most)), some (En.sh (PyData.int n)), some (.sh (gD n f)), none, none] := by
    intro f bf hf m hm
    refine forW_inv (fun env => ∃ f, Bd n f ∧ ((opn n f : Int) ≤ most ∨ opn n f ≤ 2) ∧ env = [some (En.ob a), some (En.sh (PyData.int most)), some (En.sh (PyData.int n)), some (.sh (gD n f)), none, none]) _ _ ?_ ⟨f, bf, hf, rfl⟩ ?_
    · rintro env ⟨f, bf, hf, rfl⟩ t ht N hN
      simp
      refine sp_puts_law (by omega) ?_
      simp
      have hl := puts_len n f
      have hl2 : n * n * n ≤ 3 * 3 * 3 := Nat.mul_le_mul (Nat.mul_le_mul h3 h3) h3
      split
      · rename_i h
        refine sp_some (by omega) (by omega) fun x hx => ?_
        obtain ⟨r, c, s, hr, hc, hs, e, ft, rfl⟩ := mem_puts.mp hx
        refine sp_after (by omega) hr hc ?_
        have := opn_put (s := (s : Int)) hr hc e
        exact hN _ ⟨_, bf.put hr hc hs ft, by omega, rfl⟩
      · exact hN _ ⟨f, bf, hf, rfl⟩
    · rintro env ⟨f, bf, hf, rfl⟩
      simp
      exact q n f bf hf
  have hwh : ∀ P : Post, (∀ f, Bd n f → ((opn n f : Int) ≤ most ∨ opn n f ≤ 2) → P.nx [some (En.ob a), some (En.sh (PyData.int most)), some (En.sh (PyData.int n)), some (.sh (gD n f)), none, none]) → (∀ env, P.rt (gD 2 bd2) env) →
      ∀ (fuel : Nat) (f : Gr), Bd n f → opn n f < fuel → whileW (wTest (wOp dGt (wCl w_law_open (wACons (wV 3) wANil)) (wV 1))) (wSeq (wSet 4 (wCl w_law_puts (wACons (wV 3) wANil))) (wSeq (wIfS (wTest (wOp dEq (wCall cLen (wCons (wV 4) wNil)) (wC (PyData.int 0)))) (wRet (wTup (wACons (wTup (wACons (wC PyData.none) (wACons (wC (PyData.int 0)) wANil))) (wACons (wTup (wACons (wC (PyData.int 0)) (wACons (wC PyData.none) wANil))) wANil)))) wNext) (wSet 3 (wCl w_law_after (wACons (wV 3) (wACons (wCl w_law_some (wAOb 0 (wACons (wV 4) wANil))) wANil)))))) [4]
      P fuel [some (En.ob a), some (En.sh (PyData.int most)), some (En.sh (PyData.int n)), some (.sh (gD n f)), none, none] := by
    intro P hnx hrt fuel
    induction fuel with
    | zero => intro f _ h; omega
    | succ fuel ih =>
      intro f bf hf
      unfold whileW
      simp
      refine sp_open ?_
      simp
      split
      · refine sp_puts_law (by omega) ?_
        simp
        have hl := puts_len n f
        have hl2 : n * n * n ≤ 3 * 3 * 3 := Nat.mul_le_mul (Nat.mul_le_mul h3 h3) h3
        split
        · exact ⟨by omega, by have := hrt; rw [bd2_D] at this; exact this _⟩
        · rename_i hne
          refine sp_some (List.length_pos_iff.mpr hne) (by omega) fun x hx => ?_
          obtain ⟨r, c, s, hr, hc, hs, e, ft, rfl⟩ := mem_puts.mp hx
          refine sp_after (by omega) hr hc ?_
          have := opn_put (s := (s : Int)) hr hc e
          exact ih _ (bf.put hr hc hs ft) (by omega)
      · exact hnx f bf (by omega)
  have hop := opn_le n fun _ _ => none
  have hop2 : n * n ≤ 3 * 3 := Nat.mul_le_mul h3 h3
  refine ⟨10, hwh _ (fun f bf hf => ?_) (fun env => ?_) 10 _ (bd_open h1 h3) (by omega)⟩
  · simp
    refine draw_cal (by decide) (by decide) fun m m0 m1 => ?_
    simp
    exact ⟨by omega, tail f bf hf m.toNat (by omega)⟩
  · exact q 2 bd2 bd2_ok (.inr (by rw [bd2_open]; exact Nat.le_refl _))
end
section
variable {K : KT} {mg : Str → Option Value} (T : Tx K mg) {A : D → Prop} {B : Xn → Prop} {n : Nat} {f : Gr}
theorem sp_check (b : Bd n f) (q : A .none) : cal (w_check_board T) [.sh (gD n f)] A B := by
  refine cal_of ?_
  unfold w_check_board b_check_board
  simp
  refine sp_is_board_good b.lo b.hi b.rng ?_
  rw [b.fre]
  simpa using q
end
section
variable {A : D → Prop} {B : Xn → Prop}
theorem sp_putsC {n : Nat} {d : D} (c : Can n d) (q : A (.list (puts n (grOf d)))) : cal w_puts_of [.sh d] A B := by
  have h3 := c.b.hi
  rw [c.e]
  exact sp_puts_of (by omega) q
theorem sp_putsLC {n : Nat} {d : D} (c : Can n d) (q : A (.list (puts n (grOf d)))) : cal w_law_puts [.sh d] A B := by
  have h3 := c.b.hi
  rw [c.e]
  exact sp_puts_law (by omega) q
theorem sp_behindC {n : Nat} {d t : D} (c : Can n d) (m : t ∈ puts n (grOf d)) (q : A (aft n (grOf d) t)) : cal w_behind [.sh d, .sh t] A B := by
  have h3 := c.b.hi
  obtain ⟨r, k, s, hr, hk, hs, e, ft, rfl⟩ := mem_puts.mp m
  rw [aft_tr] at q
  rw [c.e]
  exact sp_behind (by omega) hr hk q
theorem sp_afterC {n : Nat} {d t : D} (c : Can n d) (m : t ∈ puts n (grOf d)) (q : A (aft n (grOf d) t)) : cal w_law_after [.sh d, .sh t] A B := by
  have h3 := c.b.hi
  obtain ⟨r, k, s, hr, hk, hs, e, ft, rfl⟩ := mem_puts.mp m
  rw [aft_tr] at q
  rw [c.e]
  exact sp_after (by omega) hr hk q
theorem sp_order {n : Nat} {d : D} (c : Can n d) (o : opD n d ≤ 5) (q : A (.list (ordB n d))) : cal w_order_from [.sh d] A B := by
  refine cal_of ?_
  have z : sizeLine = 16777216 := sizeLine_eq
  have fit0 : ∀ {es : List (D × D)} {x : D}, tupK es = true → Can n x → keyFit es x = true := fun h cx => by rw [cx.e]; exact fit_g h _ _
  unfold w_order_from b_order_from
  simp
  refine ⟨fit0 rfl c, by omega, wWhile_lad (fun k => [some (.sh d), some (.ow none (lays n d k)), none, none, none, none, none]) 6 rfl fun k hk N hN => ?_⟩
  have tk := can_tup fun x hx => (lay_can c k x hx).1
  have ne := lay_ne_opq c k
  have ln := lay_len c k
  have l6 : 27 ^ k ≤ 27 ^ 6 := Nat.pow_le_pow_right (by decide) hk
  simp
  rw [lays_last, atI_end]
  simp
  refine ⟨ne, ?_⟩
  split
  · rename_i hp
    refine ⟨tk, forW_preE (fun p => [some (.sh d), some (.ow none (lays n d k)), some (.od (nxt n p)), none, none, none, none]) _ (by rw [lays_last]; rfl) (fun p x r e M hM => ?_) ?_⟩
    · have mx : x ∈ (lay n d k).map (·.1) := by rw [e]; simp
      have cx := (lay_can c k x mx).1
      have cp : ∀ y ∈ p, Can n y := fun y hy => (lay_can c k y (by rw [e]; exact List.mem_append_left _ hy)).1
      simp
      refine sp_putsC cx ?_
      refine lcW_mapL (fun t => .tuple [aft n (grOf x) t, .bool true]) _ _ (fun t ht Y y => ?_) ?_
      · simp
        refine sp_behindC cx ht ?_
        exact ⟨by omega, y⟩
      · unfold dictL
        simp only [pairsD_map]
        have ea : Dn.putAll [] ((puts n (grOf x)).map fun t => (aft n (grOf x) t, PyData.bool true)) = addL n x := by
          unfold addL sucs
          rw [List.map_map]
          rfl
        have en : nxt n (p ++ [x]) = Dn.putAll (nxt n p) (addL n x) := by
          unfold nxt
          rw [List.foldl_append]
          rfl
        have cn : ∀ y ∈ (nxt n p).map (·.1), Can n y := fun y hy => by
          rcases next_mem hy with z | ⟨u, hu, z⟩
          · cases z
          · exact (sucs_can (cp u hu) z).1
        rw [ea]
        refine ⟨?_, ⟨can_tup cn, can_tup (addL_can cx), .inr (addL_hash cx), ?_⟩, ?_⟩
        · refine can_keysOk (n := n) fun y hy => ?_
          rw [List.map_map] at hy
          exact (sucs_can cx (by unfold sucs; exact hy)).1
        · have l2 := addL_len c.b.hi x
          have l3 := sucs_27 c.b.hi x
          have l4 : p.length < 27 ^ k := by
            have := congrArg List.length e
            simp at this
            omega
          have ox := (lay_can c k x mx).2
          rcases Nat.lt_or_ge 4 k with k5 | k4
          · have l1 := next_len (n := n) (m := 0) c.b.hi (ks := p) (acc := []) fun y hy => ⟨cp y hy, by
              have := (lay_can c k y (by rw [e]; exact List.mem_append_left _ hy)).2
              rw [sucs_none (cp y hy) (by omega)]
              exact Nat.le_refl _⟩
            unfold nxt
            simp at l1
            rw [l1]
            simp
            omega
          · have l1 := next_len (n := n) (m := 27) c.b.hi (ks := p) (acc := []) fun y hy => ⟨cp y hy, sucs_27 c.b.hi y⟩
            have l5 : 27 ^ k ≤ 27 ^ 4 := Nat.pow_le_pow_right (by decide) k4
            unfold nxt
            simp at l1 l5
            omega
        · rw [← en]
          exact hM
    · have kl : k < 6 := by
        cases q : lay n d k with
        | nil => rw [q] at hp; exact absurd hp (by simp)
        | cons y r =>
          have := (lay_can c k y.1 (by rw [q]; exact List.mem_cons_self)).2
          omega
      simp
      refine ⟨by unfold lays; simp; omega, ?_⟩
      have := hN kl
      rw [lays_succ] at this
      exact this
  · rename_i hp
    have le : lay n d k = [] := List.eq_nil_of_length_eq_zero (by omega)
    refine ⟨ne, ?_, ?_⟩
    · rw [le]; exact Nat.zero_le _
    have k6 : k ≤ 6 := hk
    have k0 : 0 < k := by
      rcases Nat.eq_zero_or_pos k with h | h
      · subst h; cases le
      · exact h
    have fin : ∀ (P : Post) (X : Option En) (j : Nat) (S : List D), (S ++ ordL n d j).length ≤ 813616 → P.nx [some (.sh d), X, none, none, some (.ow none (S ++ ordL n d j)), none, none] → forW (gN 5) (wExt 4 (wCall cListX (wCons (wV 5) wNil))) [5] P (List.map (fun j => PyData.dict (lay n d j)) (List.range j)).reverse [some (En.sh d), X, none, none, some (En.ow none S), none, none] := fun P X j => by
      induction j with
      | zero =>
        intro S h1 h2
        have e0 : ordL n d 0 = [] := rfl
        rw [e0, List.append_nil] at h2
        exact h2
      | succ j ih =>
        intro S h1 h2
        rw [ordL_succ, ← List.append_assoc] at h1 h2
        have := ih _ h1 h2
        rw [List.range_succ, List.map_append, List.reverse_append]
        simp only [List.map_cons, List.map_nil, List.reverse_cons, List.reverse_nil, List.nil_append, List.singleton_append, forW]
        have ne := lay_ne_opq c j
        simp [ne]
        simp at h1 this
        exact ⟨by omega, this⟩
    rw [le]
    refine fin _ _ k [] ?_ ?_
    · exact ordL_len5 c o k k6
    · rw [List.nil_append, ordB_stop le k6]
      exact q
theorem sp_all {n : Nat} {d : D} (c : Can n d) (o : opD n d ≤ 5) (q : ∀ L, Ord n d L.reverse → L.length ≤ 813616 → A (.list L)) : cal w_law_all [.sh d] A B := by
  refine cal_of ?_
  have z : sizeLine = 16777216 := sizeLine_eq
  have fit0 : ∀ {es : List (D × D)} {x : D}, tupK es = true → Can n x → keyFit es x = true := fun h cx => by rw [cx.e]; exact fit_g h _ _
  unfold w_law_all b_law_all
  simp
  let v : D := .int 1
  have vk : ∀ (L : List D), (∀ y ∈ L, Can n y) → tupK (valsD (fun _ => v) L) = true := fun L h => can_tup fun y hy => h y (valsD_keys hy)
  refine ⟨by omega, rfl, fit0 rfl c, wWhile_ladI (fun k => [some (.sh d), some (.ow none (qF v n d k)), some (.sh (.int (k : Nat))), some (.od (valsD (fun _ => v) (qF v n d k))), none, none]) (fun k => k ≤ (qF v n d k).length) 813616 rfl (Nat.zero_le _) fun k hk ik N hN => ?_⟩
  have qi := qF_ok v c k ik
  have ln := qi.len5 c o
  simp
  split
  · rename_i lt
    have cx := qi.can _ (List.getElem_mem lt)
    have hN := hN (by omega) (qF_le v c k lt)
    have eq1 : qF v n d (k + 1) = addQ v (qF v n d k) (sucs n (qF v n d k)[k]) := by
      show (match (qF v n d k)[k]? with
        | some x => addQ v (qF v n d k) (sucs n x)
        | none => qF v n d k) = _
      rw [List.getElem?_eq_getElem lt]
    rw [eq1] at hN
    rw [atI_nat _ lt]
    generalize hX : (qF v n d k)[k] = X at *
    generalize hL : qF v n d k = L at *
    have cL := qi.can
    have cs : ∀ p r, puts n (grOf X) = p ++ r → ∀ y ∈ p.map (aft n (grOf X)), Can n y := fun p r e y hy => (sucs_can cx (by
      unfold sucs
      rw [e, List.map_append]
      exact List.mem_append_left _ hy)).1
    simp
    refine sp_putsLC cx ?_
    refine forW_preE (fun p => [some (.sh d), some (.ow none (addQ v L (p.map (aft n (grOf X))))), some (.sh (.int (k : Nat))), some (.od (valsD (fun _ => v) (addQ v L (p.map (aft n (grOf X)))))), none, none]) _ rfl (fun p t r e M hM => ?_) ?_
    · have mt : t ∈ puts n (grOf X) := by rw [e]; simp
      have ca := cs p (t :: r) e
      obtain ⟨⟨u, eu, hu⟩, _, nd⟩ := addQ_ok (v := v) cL ca
      have cQ : ∀ y ∈ addQ v L (p.map (aft n (grOf X))), Can n y := fun y hy => by
        rw [eu] at hy
        rcases List.mem_append.mp hy with h | h
        · exact cL y h
        · exact ca y (hu y h)
      have at1 : atI (addQ v L (p.map (aft n (grOf X)))) (k : Int) = some X := by
        rw [eu, atI_nat _ (by simp; omega), List.getElem_append_left lt, hX]
      have ms : aft n (grOf X) t ∈ sucs n X := List.mem_map.mpr ⟨t, mt, rfl⟩
      have c2 := (sucs_can cx ms).1
      have lq : (addQ v L (p.map (aft n (grOf X)))).length ≤ L.length + 27 := by
        have h1 := addQ_len v (p.map (aft n (grOf X))) L
        have h2 := sucs_27 c.b.hi X
        unfold sucs at h2
        rw [e] at h2
        simp at h1 h2
        omega
      have lv := valsD_len (fun _ => v) (addQ v L (p.map (aft n (grOf X))))
      rw [List.map_append, List.map_cons, List.map_nil, addQ_snoc] at hM
      simp
      rw [at1]
      refine sp_afterC cx mt ?_
      refine ⟨fit0 (vk _ cQ) c2, ?_⟩
      unfold metD at hM
      split
      · rename_i g
        rw [g] at hM
        refine ⟨⟨fit0 (vk _ cQ) c2, by omega⟩, by omega, ?_⟩
        rw [if_neg (by simp), valsD_snoc] at hM
        exact hM
      · rename_i g
        rw [if_pos (Option.isSome_iff_ne_none.mpr g)] at hM
        exact hM
    · exact hN
  · rename_i lt
    have e2 : k = (qF v n d k).length := by omega
    exact q _ (QI.ord (by rw [← e2]; exact qi)) ln
end
end K79
namespace K79
open PySem PySem.Spec PyProof.Rows L2 Dn
section
variable {A : D → Prop} {B : Xn → Prop}
theorem opr0 (n : Nat) (l : Nat → Option Int) : ((lnD n l).any fun z => PyData.eqv z .none) = !(opr n l == 0) := by
  rw [Bool.eq_iff_iff]
  unfold lnD opr
  rw [List.any_map, List.any_eq_true]
  constructor
  · rintro ⟨c, hc, e⟩
    have hn : l c = none := by
      cases q : l c with
      | none => rfl
      | some i =>
        simp only [Function.comp_def] at e
        rw [q] at e
        cases e
    simp
    exact ⟨c, List.mem_range.mp hc, hn⟩
  · intro h
    simp at h
    obtain ⟨c, hc, e⟩ := h
    refine ⟨c, List.mem_range.mpr hc, ?_⟩
    simp only [Function.comp_def]
    rw [e]
    rfl
theorem sum0 {α : Type} (f : α → Nat) : ∀ xs : List α, ((xs.map f).sum == 0) = !((xs.map fun x => !(f x == 0)).any id)
  | [] => rfl
  | x :: xs => by
    have ih := sum0 f xs
    rw [List.map_cons, List.map_cons, List.sum_cons, List.any_cons, Bool.not_or, ← ih, Bool.eq_iff_iff]
    simp
theorem sp_full {n : Nat} {d : D} (c : Can n d) (q : A (.bool (opD n d == 0))) : cal w_is_full [.sh d] A B := by
  refine cal_of ?_
  have z : sizeLine = 16777216 := sizeLine_eq
  unfold opD at q
  rw [c.e]
  generalize grOf d = f at q
  unfold w_is_full b_is_full
  rw [gD]
  simp
  refine lcW_map (fun r => .bool (!(opr n (f r) == 0))) _ _ _ (fun r hr Y y => ?_) ?_
  · simp
    rw [opr0]
    refine ⟨fun x hx => ?_, y⟩
    obtain ⟨c, _, rfl⟩ := List.mem_map.mp hx
    cases f r c <;> rfl
  · simp
    unfold opn at q
    rw [sum0, List.any_map] at q
    exact q
abbrev wD (n : Nat) (d : D) (t : Bool) : D := .bool (winV n d t)
theorem two_bool {p r : List D} {b : D} (e : [PyData.bool true, PyData.bool false] = p ++ b :: r) : ∃ t, b = .bool t := by
  have m : b ∈ [PyData.bool true, PyData.bool false] := by rw [e]; simp
  simp at m
  rcases m with rfl | rfl
  · exact ⟨true, rfl⟩
  · exact ⟨false, rfl⟩
theorem bools_all {α : Type} (f : α → Bool) (xs : List α) : bools (xs.map fun x => PyData.bool (f x)) = some (xs.map f) := by
  have := bools_map (xs.map f)
  rwa [List.map_map] at this
/-- a loop over both turns -/
def forB (g : WG) (b : WS) (ws : List Nat) (P : Post) (env : Dn.Env) : Prop := forW g b ws P [.bool true, .bool false] env
@[simp ↓ high] theorem wFor_two (g : WG) (b : WS) (ws : List Nat) (env : Dn.Env) (P : Post) : wFor (wSqX (wTup (wACons (wC (.bool true)) (wACons (wC (.bool false)) wANil)))) g b ws env P = (2 ≤ sizeLine ∧ forB g b ws P (wipeE env ws)) := Eq.trans rfl rfl
theorem forB_pre {g : WG} {b : WS} {ws : List Nat} {P : Post} {env : Dn.Env} (st : List D → Dn.Env) (he : env = st []) (hs : ∀ p t r, [PyData.bool true, PyData.bool false] = p ++ .bool t :: r → ∀ N : Dn.Env → Prop, N (st (p ++ [.bool t])) → g (.bool t) (st p) fun e2 => b e2 { P with nx := fun e3 => N (wipeE e3 ws), ct := fun e3 => N (wipeE e3 ws), bk := P.nx }) (q : P.nx (st [.bool true, .bool false])) : forB g b ws P env := forW_preE st _ he (fun p x r e N h => by
  obtain ⟨t, rfl⟩ := two_bool e
  exact hs p t r e N h) q
/-- what stands in the dict while x is under way -/
def Mid (n : Nat) (p : List D) (x : D) (ks : List D) : Prop := (∀ k ∈ ks, PK n k) ∧ ks.length ≤ 2 * p.length + 2 ∧ ∀ y ∈ sucs n x, ∀ t, pk y t ∈ ks
theorem mid_of {n : Nat} {p p2 r2 : List D} {x b : D} (cp : ∀ y ∈ p, Can n y) (cx : Can n x) (hs : ∀ y ∈ sucs n x, y ∈ p) (e : [PyData.bool true, PyData.bool false] = p2 ++ b :: r2) : Mid n p x (both p ++ p2.map fun b => .tuple [x, b]) := by
  refine ⟨fun k hk => ?_, ?_, fun y hy t => List.mem_append_left _ (both_mem t (hs y hy))⟩
  · rcases List.mem_append.mp hk with h | h
    · exact both_pk cp k h
    · obtain ⟨b2, hb, rfl⟩ := List.mem_map.mp h
      have m : b2 ∈ [PyData.bool true, PyData.bool false] := by rw [e]; exact List.mem_append_left _ hb
      simp at m
      rcases m with rfl | rfl
      · exact ⟨x, true, cx, rfl⟩
      · exact ⟨x, false, cx, rfl⟩
  · have := congrArg List.length e
    simp at this
    rw [List.length_append, both_len, List.length_map]
    omega
theorem sp_wins {n : Nat} {d : D} (c : Can n d) (o : opD n d ≤ 5) (q : ∀ es, tupK es = true → (∀ x ∈ ordB n d, ∀ t, getK es (pk x t) = some (wD n x t)) → A (.dict es)) : cal w_wins_from [.sh d] A B := by
  refine cal_of ?_
  have z : sizeLine = 16777216 := sizeLine_eq
  unfold w_wins_from b_wins_from
  simp
  refine sp_order c o ?_
  have oL := ordB_ord c o
  have lL := ordB_len c o
  generalize ordB n d = L at *
  refine forW_preE (fun p => [some (.sh d), some (.od (valsD (atK (wD n)) (both p))), none, none, none, none, none]) _ rfl (fun p x r e N hN => ?_) ?_
  · have cL : ∀ y ∈ p ++ x :: r, Can n y := by rw [← e]; exact oL.can
    have cx := cL x (by simp)
    have cp : ∀ y ∈ p, Can n y := fun y hy => cL y (List.mem_append_left _ hy)
    have hs : ∀ y ∈ sucs n x, y ∈ p := oL.ahead p x r e
    simp
    refine sp_putsC cx ?_
    refine ⟨by omega, forB_pre (fun p2 => [some (.sh d), some (.od (valsD (atK (wD n)) (both p ++ p2.map fun b => .tuple [x, b]))), some (.sh x), some (.sh (.list (puts n (grOf x)))), none, none, none]) (by simp) (fun p2 t r2 e2 M hM => ?_) ?_⟩
    · obtain ⟨m1, m2, m3⟩ := mid_of cp cx hs e2
      generalize hks : (both p ++ p2.map fun b => PyData.tuple [x, b]) = ks at m1 m2 m3
      have hM2 : M [some (.sh d), some (.od (Dn.putK (valsD (atK (wD n)) ks) (pk x t) (wD n x t))), some (.sh x), some (.sh (.list (puts n (grOf x)))), none, none, none] := by
        rw [List.map_append, ← List.append_assoc, hks] at hM
        rw [show List.map (fun b => PyData.tuple [x, b]) [PyData.bool t] = [pk x t] from rfl, valsD_snoc] at hM
        exact hM
      have tk := atK_tup (f := wD n) m1
      have lv := valsD_len (atK (wD n)) ks
      have lp : p.length < L.length := by rw [e]; simp
      have fk := fit_pk tk cx t
      simp
      split
      · rename_i h0
        have s0 : (sucs n x).length = 0 := by unfold sucs; rw [h0]; rfl
        refine sp_full cx ⟨by omega, ⟨fk, by omega⟩, ?_⟩
        rw [show wD n x t = .bool (opD n x == 0) by rw [wD, winV_eq cx, if_pos s0]] at hM2
        exact hM2
      · rename_i h0
        have s0 : ¬ (sucs n x).length = 0 := by
          unfold sucs
          rw [List.length_map]
          exact fun z => h0 (List.eq_nil_of_length_eq_zero z)
        refine lcW_mapL (fun t2 => wD n (aft n (grOf x) t2) (!t)) _ _ (fun t2 ht Y y => ?_) ?_
        · simp
          refine sp_behindC cx ht ?_
          have ms : aft n (grOf x) t2 ∈ sucs n x := List.mem_map.mpr ⟨t2, ht, rfl⟩
          have c2 := (sucs_can cx ms).1
          have g := atK_get (f := wD n) m1 (m3 _ ms (!t))
          have f2 := fit_pk tk c2 (!t)
          unfold pk at g f2
          simp [g, f2]
          exact ⟨by omega, y⟩
        · simp only [bools_all]
          have e3 : (puts n (grOf x)).map (fun t2 => winV n (aft n (grOf x) t2) (!t)) = (sucs n x).map fun y => winV n y (!t) := by
            unfold sucs
            rw [List.map_map]
            rfl
          rw [e3]
          cases t with
          | true =>
            rw [if_pos rfl]
            refine ⟨by omega, ⟨fk, by omega⟩, ?_⟩
            rw [show wD n x true = .bool (((sucs n x).map fun y => winV n y (!true)).any id) by rw [wD, winV_eq cx, if_neg s0, if_pos rfl, List.any_map]; rfl] at hM2
            exact hM2
          | false =>
            rw [if_neg (by simp)]
            refine ⟨by omega, ⟨fk, by omega⟩, ?_⟩
            rw [show wD n x false = .bool (((sucs n x).map fun y => winV n y (!false)).all id) by rw [wD, winV_eq cx, if_neg s0, if_neg (by simp), List.all_map]; rfl] at hM2
            exact hM2
    · rw [both_snoc] at hN
      exact hN
  · simp
    exact q _ (atK_tup (both_pk oL.can)) fun x hx t => atK_get (both_pk oL.can) (both_mem t hx)
theorem ord_sub {n : Nat} {d0 x : D} {L : List D} (o : Ord n d0 L) (hx : x ∈ L) : ∀ y ∈ sucs n x, y ∈ L := fun y hy => by
  obtain ⟨p, r, e⟩ := List.append_of_mem hx
  have := o.ahead p x r e y hy
  rw [e]
  exact List.mem_append_left _ this
theorem sp_book {n : Nat} {d0 d : D} {L : List D} {es : List (D × D)} (oL : Ord n d0 L) (tk : tupK es = true) (hg : ∀ x ∈ L, ∀ t, getK es (pk x t) = some (wD n x t)) (m : d ∈ L) (o : opD n d ≤ 5) (t : Bool) (q : ∀ ms, BI n (winV n d t) (d, t) [] ms → A (.dict (valsD (bookV n (winV n d t)) (bks n (winV n d t) ms)))) : cal w_book_from [.sh d, .sh (.bool t), .sh (.dict es)] A B := by
  refine cal_of ?_
  have z : sizeLine = 16777216 := sizeLine_eq
  have hd := hg d m t
  have fd := fit_pk tk (oL.can d m) t
  have b0 : BP n (winV n d t) (d, t) := ⟨oL.can d m, o, rfl⟩
  generalize hF : winV n d t = F at q hd b0
  unfold w_book_from b_book_from
  simp
  unfold pk at hd fd
  rw [hd]
  simp only [fd, hF]
  simp
  rw [wD, hF]
  let st (ws ms : List (D × Bool)) : Dn.Env := [some (.sh d), some (.sh (.bool t)), some (.sh (.dict es)), some (.sh (.bool F)), some (.od (valsD (bookV n F) (bks n F ms))), some (.od (valsD (fun _ => .bool true) (ms.map pkx))), some (.ow none (ws.map pkx)), none, none, none, none, none]
  refine ⟨by omega, rfl, by omega, by omega, rfl, wWhile_fuel (fun k env => ∃ ws ms, BI n F (d, t) ws ms ∧ weight n ws ≤ k ∧ (∀ x ∈ ws, x.1 ∈ L) ∧ env = st ws ms) 813616 ⟨[(d, t)], [], BI.start b0, by have := (BI.start b0).wt; omega, fun x hx => by rw [List.mem_singleton.mp hx]; exact m, rfl⟩ ?_⟩
  rintro k env ⟨ws, ms, bi, wk, wL, rfl⟩ N hN
  have wl := weight_len n ws
  have wt := bi.wt
  simp [st]
  rcases List.eq_nil_or_concat ws with rfl | ⟨ws, x, rfl⟩
  · rw [if_neg (by simp)]
    exact q ms bi
  · rw [List.concat_eq_append] at *
    rw [if_pos (by simp)]
    obtain ⟨x, u⟩ := x
    have bx := bi.w (x, u) (by simp)
    have xL : x ∈ L := wL (x, u) (by simp)
    have cx : Can n x := bx.can
    have pm : ∀ a b, pkx (a, b) = .tuple [a, .bool b] := fun _ _ => rfl
    have fm : keyFit (valsD (fun _ => PyData.bool true) (ms.map pkx)) (.tuple [x, .bool u]) = true := fit_pk (pk_tup (n := n) fun y hy => pkx_pk bi.m y (valsD_keys hy)) cx u
    have mi := met_iff (v := .bool true) (x := (x, u)) bi.m cx
    rw [pm] at mi
    have lm := valsD_len (fun _ => PyData.bool true) (ms.map pkx)
    have lb := valsD_len (bookV n F) (bks n F ms)
    have lb2 := bks_len n F ms
    rw [List.length_map] at lm
    simp [pm, fm]
    refine ⟨by omega, ?_⟩
    split
    · rename_i hm
      obtain ⟨b1, b2⟩ := bi.old (mi.mp hm)
      exact hN _ _ (Nat.lt_of_lt_of_le b2 wk) ⟨ws, ms, b1, Nat.le_refl _, fun y hy => wL y (List.mem_append_left _ hy), rfl⟩
    · obtain ⟨b1, b2⟩ := bi.new
      have hN := hN _ _ (Nat.lt_of_lt_of_le b2 wk) ⟨ws ++ nextB n F (x, u), ms ++ [(x, u)], b1, Nat.le_refl _, fun y hy => by
        rcases List.mem_append.mp hy with h | h
        · exact wL y (List.mem_append_left _ h)
        · obtain ⟨tr, ht, rfl⟩ := List.mem_map.mp h
          exact ord_sub oL xL _ (List.mem_map.mpr ⟨tr, stepP_puts ht, rfl⟩), rfl⟩
      refine ⟨by omega, by omega, ?_⟩
      refine sp_putsC cx ?_
      have nl : ws.length + (nextB n F (x, u)).length ≤ 813616 := by
        have h1 := weight_len n (ws ++ nextB n F (x, u))
        rw [List.length_append] at h1
        omega
      -- the boards that come next
      have nx : ∀ ts, stepP n F (x, u) = ts → (ts.map fun tr => PyData.tuple [aft n (grOf x) tr, .bool (!u)]) = (nextB n F (x, u)).map pkx := fun ts e => by
        unfold nextB
        rw [List.map_map, e]
        rfl
      have bkf : keyFit (valsD (bookV n F) (bks n F ms)) x = true := fitC (can_tup (n := n) fun y hy => bks_can bi.m y (valsD_keys hy)) cx
      have metE : valsD (fun _ => PyData.bool true) ((ms ++ [(x, u)]).map pkx) = Dn.putK (valsD (fun _ => PyData.bool true) (ms.map pkx)) (.tuple [x, .bool u]) (.bool true) := by
        rw [List.map_append, List.map_cons, List.map_nil, valsD_snoc, pm]
      simp only [st] at hN
      rw [metE, bks_snoc, List.map_append] at hN
      have skip : mine n F (x, u) = false → lcW (gN 11) wYes (wTup (wACons (wCl w_behind (wACons (wV 7) (wACons (wV 11) wANil))) (wACons (wNotV (wV 8)) wANil)))
          [some (.sh d), some (.sh (.bool t)), some (.sh (.dict es)), some (.sh (.bool F)), some (.od (valsD (bookV n F) (bks n F ms))), some (.od (Dn.putK (valsD (fun _ => .bool true) (ms.map pkx)) (.tuple [x, .bool u]) (.bool true))), some (.ow none (ws.map pkx)), some (.sh x), some (.sh (.bool u)), some (.sh (.list (puts n (grOf x)))), none, none]
          (puts n (grOf x)) [] fun d9 => match d9 with
          | .list es_1 => ws.length + es_1.length ≤ sizeLine ∧ N [some (.sh d), some (.sh (.bool t)), some (.sh (.dict es)), some (.sh (.bool F)), some (.od (valsD (bookV n F) (bks n F ms))), some (.od (Dn.putK (valsD (fun _ => .bool true) (ms.map pkx)) (.tuple [x, .bool u]) (.bool true))), some (.ow none (ws.map pkx ++ es_1)), none, none, none, none, none]
          | _ => False := fun mf => by
        have sp : stepP n F (x, u) = puts n (grOf x) := by
          unfold stepP
          rw [if_neg (by rw [mf]; simp)]
        refine lcW_mapL (fun tr => .tuple [aft n (grOf x) tr, .bool (!u)]) _ _ (fun tr ht Y y => ?_) ?_
        · simp
          refine sp_behindC cx ht ?_
          exact ⟨by omega, y⟩
        · rw [nx _ sp]
          rw [if_neg (by rw [mf]; simp)] at hN
          refine ⟨?_, hN⟩
          rw [List.length_map]
          omega
      split
      · rename_i uF
        subst uF
        by_cases hp : 0 < (puts n (grOf x)).length
        · simp only [if_pos hp]
          have mt : mine n u (x, u) = true := by simp [mine, hp]
          have gp := good_pos bx mt
          have sp : stepP n u (x, u) = (goodP n u x u).take 1 := by
            unfold stepP
            rw [if_pos mt]
          rw [if_pos mt, valsD_snoc] at hN
          refine lcW_filterL (fun tr => winV n (aft n (grOf x) tr) (!u) == u) (fun tr => tr) _ _ (fun tr ht Y N y1 y2 => ?_) ?_
          · simp
            refine sp_behindC cx ht ?_
            have ms2 : aft n (grOf x) tr ∈ sucs n x := List.mem_map.mpr ⟨tr, ht, rfl⟩
            have c2 := (sucs_can cx ms2).1
            have g := hg _ (ord_sub oL xL _ ms2) (!u)
            have f2 := fit_pk tk c2 (!u)
            unfold pk at g f2
            simp [g, f2]
            refine ⟨by omega, ?_⟩
            split
            · rename_i h
              exact y1 (by rw [h]; exact beq_self_eq_true _)
            · rename_i h
              exact y2 (by simpa using h)
          · rw [List.map_id']
            have eg : (puts n (grOf x)).filter (fun tr => winV n (aft n (grOf x) tr) (!u) == u) = goodP n u x u := rfl
            rw [eg]
            cases e : goodP n u x u with
            | nil =>
              dsimp only at gp
              rw [e] at gp
              exact absurd gp (by simp)
            | cons g r =>
              have eb : bookV n u x = g := by
                unfold bookV
                rw [e]
                rfl
              rw [e] at sp
              have s1 : stepP n u (x, u) = [g] := sp
              dsimp only at hN
              rw [eb] at hN
              have ca : atI (g :: r) 0 = some g := atI_nat (g :: r) (k := 0) (by simp)
              have cc : cutD (g :: r) none (some 1) = [g] := cut_take (g :: r) 1
              simp only [ca, cc]
              refine ⟨⟨bkf, by omega⟩, ?_⟩
              refine lcW_mapL (fun tr => .tuple [aft n (grOf x) tr, .bool (!u)]) _ _ (fun tr ht Y y => ?_) ?_
              · have hp2 : tr ∈ puts n (grOf x) := stepP_puts (F := u) (x := (x, u)) (by rw [s1]; exact ht)
                simp
                refine sp_behindC cx hp2 ?_
                exact ⟨by omega, y⟩
              · rw [nx _ s1]
                refine ⟨?_, hN⟩
                rw [List.length_map]
                omega
        · simp only [if_neg hp]
          refine skip ?_
          unfold mine
          rw [decide_eq_false hp]
          simp
      · rename_i uF
        exact skip (by simp [mine, uF])
end
section
variable {K : KT} {mg : Str → Option Value} (T : Tx K mg) {A : D → Prop} {B : Xn → Prop}
theorem fitC {n : Nat} {es : List (D × D)} {x : D} (h : tupK es = true) (cx : Can n x) : keyFit es x = true := by rw [cx.e]; exact fit_g h _ _
theorem sp_checkC {n : Nat} {d : D} (c : Can n d) (q : A .none) : cal (w_check_board T) [.sh d] A B := by
  rw [c.e]
  exact sp_check T c.b q
theorem sp_turn {n : Nat} {d : D} (c : Can n d) (t : Bool) (q : A .none) : cal (w_check_turn T) [.sh d, .sh (.bool t)] A B := by
  refine cal_of ?_
  unfold w_check_turn b_check_turn
  simp
  refine sp_checkC T c ?_
  simpa using q
def sideS (F : Bool) : D := .str (if F = true then "filler" else "spoiler")
theorem sp_filler {n : Nat} {d : D} (c : Can n d) (o : opD n d ≤ 5) (t : Bool) (q : ∀ ms, BI n (winV n d t) (d, t) [] ms → A (.tuple [sideS (winV n d t), .dict (valsD (bookV n (winV n d t)) (bks n (winV n d t) ms))])) : cal (w_filler_wins T) [.sh d, .sh (.bool t)] A B := by
  refine cal_of ?_
  have z : sizeLine = 16777216 := sizeLine_eq
  unfold w_filler_wins b_filler_wins
  simp
  refine sp_turn T c t ?_
  refine sp_wins c o fun es tk hg => ?_
  have oL := ordB_ord c o
  have g := hg d oL.top t
  have fk := fit_pk tk c t
  unfold pk at g fk
  simp [g, fk]
  refine ⟨by omega, ?_⟩
  cases hw : winV n d t with
  | true =>
    rw [if_pos rfl]
    refine sp_book oL tk hg oL.top o t fun ms bi => ⟨by omega, ?_⟩
    have := q ms bi
    rw [hw] at this ⊢
    exact this
  | false =>
    rw [if_neg (by simp)]
    refine sp_book oL tk hg oL.top o t fun ms bi => ⟨by omega, ?_⟩
    have := q ms bi
    rw [hw] at this ⊢
    exact this
end
end K79
namespace K79
open PySem PySem.Spec PyProof.Rows L2 Dn
section
variable {A : D → Prop} {B : Xn → Prop}
theorem fitC2 {n : Nat} {es : List (D × D)} {x : D} (h : tupK es = true) (cx : Can n x) : keyFit es x = true := by rw [cx.e]; exact fit_g h _ _
theorem shp_tr (k r c : Nat) (s : Int) : Shp (k + 2) (trD r c s) := Shp.tuple fun x hx => by
  simp at hx
  rcases hx with rfl | rfl | rfl <;> exact ⟨rfl, by simp [PyData.depth]⟩
theorem h_ext {n : Nat} {x : D} (cx : Can n x) (u : Bool) {ts : List D} (sub : ∀ tr ∈ ts, tr ∈ puts n (grOf x)) {e0 e1 e2 e3 e4 : Option En} {ws : List D} (hl : ws.length + ts.length ≤ sizeLine) {P : Post}
    (q : P.nx [e0, e1, e2, e3, e4, some (.ow none (ws ++ ts.map fun tr => .tuple [aft n (grOf x) tr, .bool (!u)])), some (.sh x), some (.sh (.bool u)), some (.sh (.list ts)), none]) :
    c2_holds_by [e0, e1, e2, e3, e4, some (.ow none ws), some (.sh x), some (.sh (.bool u)), some (.sh (.list ts)), none] P := by
  have z : sizeLine = 16777216 := sizeLine_eq
  unfold c2_holds_by
  simp
  refine lcW_mapL (fun tr => .tuple [aft n (grOf x) tr, .bool (!u)]) _ _ (fun tr ht Y y => ?_) ?_
  · simp
    refine sp_behindC cx (sub tr ht) ?_
    exact ⟨by omega, y⟩
  · refine ⟨?_, q⟩
    rw [List.length_map]
    exact hl
theorem sp_holds {n : Nat} {d : D} {es : List (D × D)} (c : Can n d) (o : opD n d ≤ 5) (t F : Bool) (tk : tupK es = true) (tr : Trs es)
    (q : ∀ r : Bool, (r = true → ∃ ms : List (D × Bool), (d, t) ∈ ms ∧ (∀ x ∈ ms, (Can n x.1 ∧ opD n x.1 ≤ 5) ∧ badH n F es x = false) ∧ ∀ x ∈ ms, ∀ y ∈ nxtH n F es x, y ∈ ms) → (r = false → ∃ x, Rch n F es (d, t) x ∧ badH n F es x = true) → A (.bool r)) : cal w_holds_by [.sh d, .sh (.bool t), .sh (.bool F), .sh (.dict es)] A B := by
  refine cal_of ?_
  have z : sizeLine = 16777216 := sizeLine_eq
  unfold w_holds_by b_holds_by
  simp
  let R : D × Bool → Prop := fun x => (Can n x.1 ∧ opD n x.1 ≤ 5) ∧ Rch n F es (d, t) x
  let G : D × Bool → Prop := fun x => badH n F es x = false
  let st (ws ms : List (D × Bool)) : Dn.Env := [some (.sh d), some (.sh (.bool t)), some (.sh (.bool F)), some (.sh (.dict es)), some (.od (valsD (fun _ => .bool true) (ms.map pkx))), some (.ow none (ws.map pkx)), none, none, none, none]
  refine ⟨rfl, by omega, by omega, rfl, ?_⟩
  unfold c9_holds_by
  simp
  refine wWhile_fuel (fun k env => ∃ ws ms, MI n R G (nxtH n F es) (d, t) ws ms ∧ weight n ws ≤ k ∧ env = st ws ms) 813616 ⟨[(d, t)], [], MI.start o ⟨⟨c, o⟩, .top⟩, ?_, rfl⟩ ?_
  · have := Wt_le o
    simpa [weight] using this
  rintro k env ⟨ws, ms, mi, wk, rfl⟩ N hN
  have wl := weight_len n ws
  have wt := mi.wt
  simp [st]
  rcases List.eq_nil_or_concat ws with rfl | ⟨ws, x, rfl⟩
  · rw [if_neg (by simp)]
    unfold c8_holds_by
    simp
    refine q true (fun _ => ⟨ms, ?_, fun x hx => ⟨(mi.m x hx).1.1, (mi.m x hx).2⟩, fun x hx y hy => ?_⟩) (fun h => nomatch h)
    · rcases mi.st with h | h
      · cases h
      · exact h
    · rcases mi.cl x hx y hy with h | h
      · cases h
      · exact h
  · rw [List.concat_eq_append] at *
    rw [if_pos (by simp)]
    have e1 : ((ws ++ [x]).map pkx).getLast? = some (.tuple [x.1, .bool x.2]) := by simp [pkx, pk]
    have e2 : ((ws ++ [x]).map pkx).dropLast = ws.map pkx := by simp
    simp [e1, e2]
    obtain ⟨x, u⟩ := x
    unfold c7_holds_by
    have rx := mi.w (x, u) (by simp)
    have cx : Can n x := rx.1.1
    have pm : ∀ a b, pkx (a, b) = .tuple [a, .bool b] := fun _ _ => rfl
    have mpk : ∀ k ∈ ms.map pkx, PK n k := fun k hk => by
      obtain ⟨y, hy, rfl⟩ := List.mem_map.mp hk
      exact ⟨y.1, y.2, (mi.m y hy).1.1.1, rfl⟩
    have fm : keyFit (valsD (fun _ => PyData.bool true) (ms.map pkx)) (.tuple [x, .bool u]) = true := fit_pk (pk_tup (n := n) fun y hy => mpk y (valsD_keys hy)) cx u
    have lm := valsD_len (fun _ => PyData.bool true) (ms.map pkx)
    rw [List.length_map] at lm
    simp [pm, fm]
    refine ⟨by omega, ?_⟩
    split
    · rename_i hm
      have hm2 : (x, u) ∈ ms := by
        obtain ⟨e, he, ek⟩ := getK_some hm
        have m : e.1 ∈ ms.map pkx := valsD_keys (List.mem_map.mpr ⟨e, he, rfl⟩)
        have := pk_inj n _ _ (mpk _ m) ⟨x, u, cx, rfl⟩ ek
        rw [this] at m
        obtain ⟨y, hy, e⟩ := List.mem_map.mp m
        rw [← pkx_inj (y := (x, u)) e]
        exact hy
      obtain ⟨b1, b2⟩ := mi.old hm2
      exact hN _ _ (Nat.lt_of_lt_of_le b2 wk) ⟨ws, ms, b1, Nat.le_refl _, rfl⟩
    · unfold c6_holds_by
      simp [fm]
      refine ⟨by omega, by omega, ?_⟩
      unfold c5_holds_by
      simp
      refine sp_putsC cx ?_
      have bad : badH n F es (x, u) = true → A (.bool false) := fun b => q false (fun h => nomatch h) fun _ => ⟨_, rx.2, b⟩
      have good : badH n F es (x, u) = false → N (st (ws ++ nxtH n F es (x, u)) (ms ++ [(x, u)])) := fun b => by
        obtain ⟨k1, k2⟩ := nxtH_ok tr cx rx.1.2 b
        obtain ⟨b1, b2⟩ := mi.new b (fun y hy => by
          have h1 := k1 y hy
          obtain ⟨c3, o3⟩ := sucs_can cx h1.1
          exact ⟨⟨c3, by have := rx.1.2; dsimp only at this; omega⟩, .nxt rx.2 b hy⟩) (next_weight cx rx.1.2 k2 fun y hy => (k1 y hy).1)
        exact hN _ _ (Nat.lt_of_lt_of_le b2 wk) ⟨_, _, b1, Nat.le_refl _, rfl⟩
      have nl : badH n F es (x, u) = false → ws.length + (nxtH n F es (x, u)).length ≤ 813616 + 15 := fun b => by
        obtain ⟨k1, k2⟩ := nxtH_ok tr cx rx.1.2 b
        rw [List.length_append] at wl
        omega
      have metE : valsD (fun _ => PyData.bool true) ((ms ++ [(x, u)]).map pkx) = Dn.putK (valsD (fun _ => PyData.bool true) (ms.map pkx)) (.tuple [x, .bool u]) (.bool true) := by
        rw [List.map_append, List.map_cons, List.map_nil, valsD_snoc, pm]
      simp only [st] at good
      rw [metE, List.map_append] at good
      clear hN
      have bd : badH n F es (x, u) = if (puts n (grOf x)).length = 0 then (opD n x == 0) != F else if u = F then (match getK es x with
        | none => true
        | some v => !((puts n (grOf x)).any fun z => PyData.eqv z v)) else false := rfl
      have sub : ∀ b : Bool, nxtH n F es (x, u) = (if u = F ∧ 0 < (puts n (grOf x)).length then [(getK es x).getD .none] else puts n (grOf x)).map fun tr => (aft n (grOf x) tr, !u) := fun _ => rfl
      -- all puts
      have whole : badH n F es (x, u) = false → ¬ (u = F ∧ 0 < (puts n (grOf x)).length) → c2_holds_by [some (.sh d), some (.sh (.bool t)), some (.sh (.bool F)), some (.sh (.dict es)), some (.od (Dn.putK (valsD (fun _ => .bool true) (ms.map pkx)) (.tuple [x, .bool u]) (.bool true))), some (.ow none (ws.map pkx)), some (.sh x), some (.sh (.bool u)), some (.sh (.list (puts n (grOf x)))), none] { nx := fun e => N (((List.set e 8 none).set 7 none).set 6 none), rt := fun d x => A d, bk := fun env' => c8_holds_by env' { nx := fun x => A .none, rt := fun d x => A d, bk := fun x => False, ct := fun x => False, xe := fun x x_1 => False }, ct := fun e => N (((List.set e 8 none).set 7 none).set 6 none), xe := fun x x_1 => False } := fun b nm => by
        have g := good b
        have l := nl b
        rw [sub true, if_neg nm] at g l
        rw [List.length_map] at l
        refine h_ext cx u (fun tr h => h) (by rw [List.length_map]; omega) ?_
        rw [List.map_map] at g
        exact g
      unfold c4_holds_by
      simp
      by_cases hp : puts n (grOf x) = []
      · rw [if_pos hp]
        have h0 : (puts n (grOf x)).length = 0 := by rw [hp]; rfl
        rw [if_pos h0] at bd
        refine sp_full cx ⟨shaped_of (shp_bool' _) (by decide), ?_⟩
        split
        · rename_i h
          have h2 : (opD n x == 0) = F := by simpa using h
          unfold c3_holds_by
          simp [hp]
          have := whole (by rw [bd, h2]; simp) (by omega)
          rw [hp] at this
          exact this
        · rename_i h
          have h2 : ¬ (opD n x == 0) = F := fun e => h (by rw [e]; cases F <;> rfl)
          exact bad (by rw [bd]; simpa using h2)
      · rw [if_neg hp]
        have h0 : ¬ (puts n (grOf x)).length = 0 := fun z => hp (List.eq_nil_of_length_eq_zero z)
        have h1 : 0 < (puts n (grOf x)).length := by omega
        rw [if_neg h0] at bd
        unfold c3_holds_by
        simp [h1]
        split
        · rename_i uF
          subst uF
          rw [if_pos rfl] at bd
          refine ⟨fitC2 tk cx, ?_⟩
          cases g : getK es x with
          | none =>
            rw [if_pos rfl]
            exact bad (by rw [bd, g])
          | some v =>
            obtain ⟨r, k2, s, rfl⟩ := tr _ _ g
            rw [if_neg (by simp)]
            refine ⟨fitC2 tk cx, ⟨shaped_of (shp_tr 0 r k2 s) (by decide), shaped_of (shp_puts n _) (by decide)⟩, ?_⟩
            rw [g] at bd
            dsimp only at bd
            by_cases m : trD r k2 (s : Int) ∈ puts n (grOf x)
            · have a1 := any_puts.mpr m
              rw [a1] at bd
              rw [if_neg (fun z => by
                obtain ⟨y, hy, e⟩ := List.any_eq_true.mp a1
                rw [z y hy] at e
                cases e)]
              unfold c1_holds_by
              simp [g, fitC2 tk cx]
              have gg := good bd
              have ll := nl bd
              rw [sub true, if_pos ⟨rfl, h1⟩, g] at gg ll
              refine ⟨by omega, h_ext cx u (ts := [trD r k2 (s : Int)]) (fun y hy => by rw [List.mem_singleton.mp hy]; exact m) (by simp at ll ⊢; omega) ?_⟩
              exact gg
            · have a1 : ((puts n (grOf x)).any fun z => PyData.eqv z (trD r k2 (s : Int))) = false := by
                rw [Bool.eq_false_iff]
                exact fun z => m (any_puts.mp z)
              rw [a1] at bd
              rw [if_pos (fun y hy => by simpa using List.any_eq_false.mp a1 y hy)]
              exact bad bd
        · rename_i uF
          rw [if_neg uF] at bd
          exact whole bd (fun z => uF z.1)
theorem sp_isboardC {n : Nat} {d : D} (c : Can n d) (q : A (.bool true)) : cal w_is_board [.sh d] A B := by
  rw [c.e]
  refine sp_is_board_good c.b.lo c.b.hi c.b.rng ?_
  rw [c.b.fre]
  exact q
/-- what may stand in a book -/
def smB (xs : List D) : Bool := xs.all fun x => wiB x 0 2
def okV (v : D) : Bool := szB v 3 3 && match v with
  | .tuple xs => smB xs
  | _ => false
theorem sp_small {xs : List D} (q : A (.bool (smB xs))) : cal w_are_small [.sh (.tuple xs)] A B := by
  refine cal_of ?_
  have z : sizeLine = 16777216 := sizeLine_eq
  unfold w_are_small b_are_small
  simp
  refine lcW_mapL (fun x => .bool (wiB x 0 2)) _ _ (fun x hx Y y => ?_) ?_
  · simp
    exact sp_within y
  · simp only [bools_all]
    unfold smB at q
    rw [List.all_map]
    exact q
theorem sp_isbook {n : Nat} {es : List (D × D)} (hk : ∀ x ∈ es.map (·.1), Can n x) (get : ∀ e ∈ es, getK es e.1 = some e.2) (q : A (.bool (es.all fun e => okV e.2))) : cal w_is_book [.sh (.dict es)] A B := by
  refine cal_of ?_
  have z : sizeLine = 16777216 := sizeLine_eq
  have tk := can_tup hk
  unfold w_is_book b_is_book
  simp
  refine ⟨tk, ?_⟩
  refine lcW_map (fun _ => PyData.bool true) (fun e : D × D => e.1) es _ (fun e he Y y => ?_) ?_
  · simp
    exact sp_isboardC (hk _ (List.mem_map.mpr ⟨e, he, rfl⟩)) y
  · simp only [bools_all]
    simp
    refine ⟨tk, ?_⟩
    refine lcW_map (fun e : D × D => .bool (okV e.2)) (fun e : D × D => e.1) es _ (fun e he Y y => ?_) ?_
    · have ce := hk _ (List.mem_map.mpr ⟨e, he, rfl⟩)
      simp [get e he, fitC2 tk ce]
      refine sp_sized ?_
      unfold okV at y
      cases h : szB e.2 3 3 with
      | false =>
        rw [h] at y
        exact y
      | true =>
        obtain ⟨cs, e2, _⟩ := szB_tuple (n := 3) h
        rw [h, e2] at y
        rw [e2]
        exact sp_small y
    · simp only [bools_all]
      rw [List.all_map]
      exact q
end
section
variable {K : KT} {mg : Str → Option Value} (T : Tx K mg) {A : D → Prop} {B : Xn → Prop}
theorem sp_fw_no {n : Nat} {d x : D} (c : Can n d) (t : Bool) (h : szB x 2 2 = false) (q : A (.bool false)) : cal (w_is_filler_wins T) [.sh d, .sh (.bool t), .sh x] A B := by
  refine cal_of ?_
  unfold w_is_filler_wins b_is_filler_wins
  simp
  refine sp_turn T c t ?_
  refine sp_sized ?_
  rw [h]
  simpa using q
theorem sp_fw {n : Nat} {d x : D} (c : Can n d) (t G : Bool) (q : cal w_is_book [.sh x] (fun y => match y with
  | .bool true => cal w_holds_by [.sh d, .sh (.bool t), .sh (.bool G), .sh x] (fun d => A d) (fun _ => False)
  | .bool false => A (.bool false)
  | _ => False) (fun _ => False)) : cal (w_is_filler_wins T) [.sh d, .sh (.bool t), .sh (.tuple [sideS G, x])] A B := by
  refine cal_of ?_
  have z : sizeLine = 16777216 := sizeLine_eq
  unfold w_is_filler_wins b_is_filler_wins
  simp
  refine sp_turn T c t ?_
  refine sp_sized ?_
  rw [show szB (.tuple [sideS G, x]) 2 2 = true from rfl]
  have at0 : atI [sideS G, x] 0 = some (sideS G) := atI_nat [sideS G, x] (k := 0) (by simp)
  have at1 : atI [sideS G, x] 1 = some x := atI_nat [sideS G, x] (k := 1) (by simp)
  simp [at0, at1]
  have e1 : PyData.eqv (sideS G) (.str "filler") = G := by cases G <;> decide +kernel
  have e2 : SeqAt.shaped (sideS G) = true ∧ SeqAt.shaped (.str "filler") = true := by cases G <;> exact ⟨by decide +kernel, by decide +kernel⟩
  have e3 : ¬ (PyData.eqv (.str "filler") (sideS G) = false ∧ PyData.eqv (.str "spoiler") (sideS G) = false) := by cases G <;> decide +kernel
  have e4 : flatD (sideS G) = true := by cases G <;> rfl
  rw [if_pos (by cases G <;> rfl), if_neg e3, e1]
  refine ⟨by omega, e4, ?_⟩
  simp only [e2, and_self, true_and]
  exact q
theorem sp_fw_none {n : Nat} {d : D} (c : Can n d) (t G : Bool) (q : A (.bool false)) : cal (w_is_filler_wins T) [.sh d, .sh (.bool t), .sh (.tuple [sideS G, .none])] A B := by
  refine sp_fw T c t G (cal_of ?_)
  unfold w_is_book b_is_book
  simp
  exact q
theorem sp_fw_dict {n : Nat} {d : D} {es : List (D × D)} (c : Can n d) (o : opD n d ≤ 5) (t G : Bool) (hk : ∀ x ∈ es.map (·.1), Can n x) (kn : KN es) (q1 : es.all (fun e => okV e.2) = false → A (.bool false))
    (q2 : es.all (fun e => okV e.2) = true → Trs es ∧ ∀ r : Bool, (r = true → ∃ ms : List (D × Bool), (d, t) ∈ ms ∧ (∀ x ∈ ms, (Can n x.1 ∧ opD n x.1 ≤ 5) ∧ badH n G es x = false) ∧ ∀ x ∈ ms, ∀ y ∈ nxtH n G es x, y ∈ ms) → (r = false → ∃ x, Rch n G es (d, t) x ∧ badH n G es x = true) → A (.bool r)) : cal (w_is_filler_wins T) [.sh d, .sh (.bool t), .sh (.tuple [sideS G, .dict es])] A B := by
  refine sp_fw T c t G (sp_isbook hk (fun e he => getK_nd kn he) ?_)
  cases h : es.all fun e => okV e.2 with
  | false => exact q1 h
  | true =>
    obtain ⟨tr, q⟩ := q2 h
    exact sp_holds c o t G (can_tup hk) tr q
end
end K79
namespace K79
open PySem PySem.Spec PyProof.Rows L2 Dn
section
variable {A : D → Prop} {B : Xn → Prop}
theorem sp_openC {n : Nat} {d : D} (c : Can n d) (q : A (.int (opD n d : Nat))) : cal w_law_open [.sh d] A B := by
  rw [c.e]
  refine sp_open ?_
  exact q
theorem sp_lwins {n : Nat} {d : D} (c : Can n d) (o : opD n d ≤ 5) (q : ∀ es, tupK es = true → (∀ t, getK es (pk d t) = some (wD n d t)) → A (.dict es)) : cal w_law_wins [.sh d] A B := by
  refine cal_of ?_
  have z : sizeLine = 16777216 := sizeLine_eq
  unfold w_law_wins b_law_wins
  simp
  refine sp_all c o fun L0 oL lL0 => ?_
  have lL : L0.reverse.length ≤ 813616 := by rw [List.length_reverse]; exact lL0
  simp only []
  generalize L0.reverse = L at *
  refine forW_preE (fun p => [some (.sh d), some (.od (valsD (atK (wD n)) (both p))), none, none, none, none, none]) _ rfl (fun p x r e N hN => ?_) ?_
  · have cL : ∀ y ∈ p ++ x :: r, Can n y := by rw [← e]; exact oL.can
    have cx := cL x (by simp)
    have cp : ∀ y ∈ p, Can n y := fun y hy => cL y (List.mem_append_left _ hy)
    have hs : ∀ y ∈ sucs n x, y ∈ p := oL.ahead p x r e
    simp
    refine sp_putsLC cx ?_
    refine ⟨by omega, forB_pre (fun p2 => [some (.sh d), some (.od (valsD (atK (wD n)) (both p ++ p2.map fun b => .tuple [x, b]))), some (.sh x), some (.sh (.list (puts n (grOf x)))), none, none, none]) (by simp) (fun p2 t r2 e2 M hM => ?_) ?_⟩
    · obtain ⟨m1, m2, m3⟩ := mid_of cp cx hs e2
      generalize hks : (both p ++ p2.map fun b => PyData.tuple [x, b]) = ks at m1 m2 m3
      have hM2 : M [some (.sh d), some (.od (Dn.putK (valsD (atK (wD n)) ks) (pk x t) (wD n x t))), some (.sh x), some (.sh (.list (puts n (grOf x)))), none, none, none] := by
        rw [List.map_append, ← List.append_assoc, hks] at hM
        rw [show List.map (fun b => PyData.tuple [x, b]) [PyData.bool t] = [pk x t] from rfl, valsD_snoc] at hM
        exact hM
      have tk := atK_tup (f := wD n) m1
      have lv := valsD_len (atK (wD n)) ks
      have lp : p.length < L.length := by rw [e]; simp
      have fk := fit_pk tk cx t
      simp
      split
      · rename_i h0
        have s0 : (sucs n x).length = 0 := by unfold sucs; rw [h0]; rfl
        refine sp_openC cx ⟨shaped_of (shp_int' _) (by decide), by omega, ⟨fk, by omega⟩, ?_⟩
        rw [show PyData.eqv (.int (opD n x : Nat)) (.int 0) = (opD n x == 0) from natbeq (opD n x) 0]
        rw [show wD n x t = .bool (opD n x == 0) by rw [wD, winV_eq cx, if_pos s0]] at hM2
        exact hM2
      · rename_i h0
        have s0 : ¬ (sucs n x).length = 0 := by
          unfold sucs
          rw [List.length_map]
          exact fun z => h0 (List.eq_nil_of_length_eq_zero z)
        refine lcW_mapL (fun t2 => wD n (aft n (grOf x) t2) (!t)) _ _ (fun t2 ht Y y => ?_) ?_
        · simp
          refine sp_afterC cx ht ?_
          have ms : aft n (grOf x) t2 ∈ sucs n x := List.mem_map.mpr ⟨t2, ht, rfl⟩
          have c2 := (sucs_can cx ms).1
          have g := atK_get (f := wD n) m1 (m3 _ ms (!t))
          have f2 := fit_pk tk c2 (!t)
          unfold pk at g f2
          simp [g, f2]
          exact ⟨by omega, y⟩
        · simp only [bools_all]
          have e3 : (puts n (grOf x)).map (fun t2 => winV n (aft n (grOf x) t2) (!t)) = (sucs n x).map fun y => winV n y (!t) := by
            unfold sucs
            rw [List.map_map]
            rfl
          rw [e3]
          cases t with
          | true =>
            rw [if_pos rfl]
            refine ⟨by omega, ⟨fk, by omega⟩, ?_⟩
            rw [show wD n x true = .bool (((sucs n x).map fun y => winV n y (!true)).any id) by rw [wD, winV_eq cx, if_neg s0, if_pos rfl, List.any_map]; rfl] at hM2
            exact hM2
          | false =>
            rw [if_neg (by simp)]
            refine ⟨by omega, ⟨fk, by omega⟩, ?_⟩
            rw [show wD n x false = .bool (((sucs n x).map fun y => winV n y (!false)).all id) by rw [wD, winV_eq cx, if_neg s0, if_neg (by simp), List.all_map]; rfl] at hM2
            exact hM2
    · rw [both_snoc] at hN
      exact hN
  · simp
    exact q _ (atK_tup (both_pk oL.can)) fun t => atK_get (both_pk oL.can) (both_mem t oL.top)
theorem sp_is_int {k : Nat} {i j : Int} (q : A (.bool (i == j))) : cal (w_law_is (k + 1)) [.sh (.int i), .sh (.int j)] A B := by
  refine cal_of ?_
  unfold w_law_is b_law_is
  simpa using q
theorem sp_is_tr {a b c i j k : Int} (q : A (.bool (a == i && b == j && c == k))) : cal (w_law_is 3) [.sh (.tuple [.int a, .int b, .int c]), .sh (.tuple [.int i, .int j, .int k])] A B := by
  refine cal_of ?_
  unfold w_law_is b_law_is
  simp [zipD]
  refine sp_is_int ?_
  refine sp_is_int ?_
  refine sp_is_int ?_
  show A (.bool (((a == i) && ((b == j) && ((c == k) && true)))))
  rw [Bool.and_true, ← Bool.and_assoc]
  exact q
/-- is z this triple -/
def isv (r k s : Int) (z : D) : Bool := match z with
  | .tuple [.int a, .int b, .int c] => (r == a && k == b && s == c)
  | _ => false
theorem sp_leads {n : Nat} {d : D} {F t : Bool} {ms0 : List (D × Bool)} (c : Can n d) (o : opD n d ≤ 5) (bi : BI n F (d, t) [] ms0) (q : A (.bool true)) : cal w_law_leads [.sh d, .sh (.bool t), .sh (.bool F), .sh (.dict (valsD (bookV n F) (bks n F ms0)))] A B := by
  refine cal_of ?_
  have z : sizeLine = 16777216 := sizeLine_eq
  have bm := bi.m
  have tkb := can_tup (n := n) (es := valsD (bookV n F) (bks n F ms0)) fun y hy => bks_can bm y (valsD_keys hy)
  have bg := fun x hx m => book_get (F := F) (ms := ms0) bm (x := x) hx m
  generalize hes : valsD (bookV n F) (bks n F ms0) = es at *
  let tu : D × Bool → D × Bool := fun x => (x.1, x.2 == F)
  let R : D × Bool → Prop := fun x => tu x ∈ ms0
  let nx : D × Bool → List (D × Bool) := fun x => (nextB n F (tu x)).map tu
  let st (ws ms : List (D × Bool)) : Dn.Env := [some (.sh d), some (.sh (.bool t)), some (.sh (.bool F)), some (.sh (.dict es)), some (.ow none (ws.map pkx)), some (.od (valsD (fun _ => .int 1) (ms.map pkx))), none, none, none, none]
  have s0 : tu (d, t == F) ∈ ms0 := by
    have : tu (d, t == F) = (d, t) := by
      show (d, (t == F) == F) = (d, t)
      cases t <;> cases F <;> rfl
    rw [this]
    rcases bi.st with h | h
    · cases h
    · exact h
  unfold w_law_leads b_law_leads
  simp
  refine ⟨by omega, by omega, rfl, rfl, ?_⟩
  unfold c7_law_leads
  simp
  refine wWhile_fuel (fun k env => ∃ ws ms, MI n R (fun _ => True) nx (d, t == F) ws ms ∧ weight n ws ≤ k ∧ env = st ws ms) 813616 ⟨[(d, t == F)], [], MI.start o s0, ?_, rfl⟩ ?_
  · have := Wt_le o
    simpa [weight] using this
  rintro k env ⟨ws, ms, mi, wk, rfl⟩ N hN
  have wl := weight_len n ws
  have wt := mi.wt
  simp [st]
  rcases List.eq_nil_or_concat ws with rfl | ⟨ws, x, rfl⟩
  · rw [if_neg (by simp)]
    unfold c6_law_leads
    simp
    exact q
  · rw [List.concat_eq_append] at *
    rw [if_pos (by simp)]
    have e1 : ((ws ++ [x]).map pkx).getLast? = some (.tuple [x.1, .bool x.2]) := by simp [pkx, pk]
    have e2 : ((ws ++ [x]).map pkx).dropLast = ws.map pkx := by simp
    simp [e1, e2]
    obtain ⟨x, mn⟩ := x
    have rx : (x, mn == F) ∈ ms0 := mi.w (x, mn) (by simp)
    have bx := bm _ rx
    have cx : Can n x := bx.can
    unfold c5_law_leads
    have pm : ∀ a b, pkx (a, b) = .tuple [a, .bool b] := fun _ _ => rfl
    have mpk : ∀ k ∈ ms.map pkx, PK n k := fun k hk => by
      obtain ⟨y, hy, rfl⟩ := List.mem_map.mp hk
      exact ⟨y.1, y.2, (bm _ (mi.m y hy).1).can, rfl⟩
    have fm : keyFit (valsD (fun _ => PyData.int 1) (ms.map pkx)) (.tuple [x, .bool mn]) = true := fit_pk (pk_tup (n := n) fun y hy => mpk y (valsD_keys hy)) cx mn
    have lm := valsD_len (fun _ => PyData.int 1) (ms.map pkx)
    rw [List.length_map] at lm
    simp [pm, fm]
    refine ⟨by omega, ?_⟩
    split
    · rename_i hm
      have hm2 : (x, mn) ∈ ms := by
        obtain ⟨e, he, ek⟩ := getK_some hm
        have m : e.1 ∈ ms.map pkx := valsD_keys (List.mem_map.mpr ⟨e, he, rfl⟩)
        have := pk_inj n _ _ (mpk _ m) ⟨x, mn, cx, rfl⟩ ek
        rw [this] at m
        obtain ⟨y, hy, e⟩ := List.mem_map.mp m
        rw [← pkx_inj (y := (x, mn)) e]
        exact hy
      obtain ⟨b1, b2⟩ := mi.old hm2
      exact hN _ _ (Nat.lt_of_lt_of_le b2 wk) ⟨ws, ms, b1, Nat.le_refl _, rfl⟩
    · unfold c4_law_leads
      simp [fm]
      refine ⟨by omega, by omega, ?_⟩
      unfold c3_law_leads
      simp
      refine sp_putsLC cx ?_
      have tt : ∀ b : Bool, ((b == F) == F) = b := fun b => by cases b <;> cases F <;> rfl
      have good : N (st (ws ++ nx (x, mn)) (ms ++ [(x, mn)])) := by
        have nb := nextB_ok bx
        obtain ⟨b1, b2⟩ := mi.new (x := (x, mn)) trivial (fun y hy => by
          obtain ⟨y0, h0, rfl⟩ := List.mem_map.mp hy
          show tu (tu y0) ∈ ms0
          have : tu (tu y0) = y0 := by
            show (y0.1, (y0.2 == F) == F) = y0
            rw [tt]
          rw [this]
          rcases bi.cl _ rx _ h0 with h | h
          · cases h
          · exact h) (by
          have := nextB_weight bx
          have e : weight n (nx (x, mn)) = weight n (nextB n F (x, mn == F)) := by
            unfold weight
            show (((nextB n F (x, mn == F)).map tu).map fun x => Wt (opD n x.1)).sum = _
            rw [List.map_map]
            rfl
          rw [e]
          exact this)
        exact hN _ _ (Nat.lt_of_lt_of_le b2 wk) ⟨_, _, b1, Nat.le_refl _, rfl⟩
      have nl : ws.length + (nx (x, mn)).length ≤ 813616 + 15 := by
        have := (sucs_15 cx bx.op)
        unfold sucs at this
        rw [List.length_map] at this
        have h2 : (nx (x, mn)).length ≤ 15 := by
          show ((nextB n F (x, mn == F)).map tu).length ≤ 15
          unfold nextB stepP
          rw [List.length_map, List.length_map]
          split
          · rw [List.length_take]; omega
          · exact this
        rw [List.length_append] at wl
        omega
      have metE : valsD (fun _ => PyData.int 1) ((ms ++ [(x, mn)]).map pkx) = Dn.putK (valsD (fun _ => PyData.int 1) (ms.map pkx)) (.tuple [x, .bool mn]) (.int 1) := by
        rw [List.map_append, List.map_cons, List.map_nil, valsD_snoc, pm]
      simp only [st] at good
      rw [metE, List.map_append] at good
      clear hN
      unfold c2_law_leads
      simp
      by_cases hp : puts n (grOf x) = []
      · rw [if_pos hp]
        have s0 : (sucs n x).length = 0 := by unfold sucs; rw [hp]; rfl
        have w := bx.win
        rw [winV_eq cx, if_pos s0] at w
        have e0 : nx (x, mn) = [] := by
          show (nextB n F (x, mn == F)).map tu = []
          unfold nextB stepP mine
          simp [hp]
        rw [e0, List.map_nil, List.append_nil] at good
        refine sp_openC cx ⟨shaped_of (shp_int' _) (by decide), ?_⟩
        rw [show PyData.eqv (.int (opD n x : Nat)) (.int 0) = (opD n x == 0) from natbeq (opD n x) 0, if_pos w]
        exact good
      · rw [if_neg hp]
        have h1 : 0 < (puts n (grOf x)).length := by
          rcases Nat.eq_zero_or_pos (puts n (grOf x)).length with h | h
          · exact absurd (List.eq_nil_of_length_eq_zero h) hp
          · exact h
        cases mn with
        | true =>
          have uF : (true == F) = F := by cases F <;> rfl
          have m : mine n F (x, F) = true := by simp [mine, h1]
          rw [uF] at rx bx
          have g := bg _ rx m
          obtain ⟨hp1, hp2⟩ := book_head bx m
          dsimp only at g hp1 hp2
          generalize hb : bookV n F x = bv at *
          rw [if_pos rfl]
          refine ⟨fitC2 tkb cx, ?_⟩
          rw [g, if_neg (by simp)]
          obtain ⟨r, k2, s, _, _, _, _, _, eb⟩ := mem_puts.mp hp1
          refine lcW_mapL (fun z => .bool (isv r k2 s z)) _ _ (fun y hy Y yy => ?_) ?_
          · obtain ⟨r', k', s', _, _, _, _, _, rfl⟩ := mem_puts.mp hy
            simp [g, fitC2 tkb cx]
            rw [eb]
            exact sp_is_tr yy
          · simp only [bools_all]
            rw [if_pos (List.mem_map.mpr ⟨bv, hp1, by rw [eb]; simp [isv, trD]⟩)]
            unfold c1_law_leads
            simp [g, fitC2 tkb cx]
            refine sp_afterC cx hp1 ?_
            have e0 : nx (x, true) = [(aft n (grOf x) bv, false)] := by
              show (nextB n F (x, true == F)).map tu = _
              rw [uF]
              unfold nextB stepP
              rw [if_pos m, hp2]
              show [(aft n (grOf x) bv, (!F) == F)] = _
              cases F <;> rfl
            rw [e0] at good
            refine ⟨by omega, ?_, good⟩
            rw [List.length_append] at wl
            omega
        | false =>
          have uF : (false == F) = !F := by cases F <;> rfl
          have m : mine n F (x, !F) = false := by cases F <;> simp [mine]
          rw [if_neg (by simp)]
          have e0 : (nx (x, false)).map pkx = (puts n (grOf x)).map fun tr => .tuple [aft n (grOf x) tr, .bool true] := by
            show ((nextB n F (x, false == F)).map tu).map pkx = _
            rw [uF]
            unfold nextB stepP
            rw [if_neg (by rw [m]; simp), List.map_map, List.map_map]
            refine List.map_congr_left fun tr _ => ?_
            show PyData.tuple [aft n (grOf x) tr, .bool ((!(!F)) == F)] = _
            cases F <;> rfl
          refine lcW_mapL (fun tr => .tuple [aft n (grOf x) tr, .bool true]) _ _ (fun y hy Y yy => ?_) ?_
          · simp
            refine sp_afterC cx hy ?_
            exact ⟨by omega, yy⟩
          · rw [← e0]
            refine ⟨by rw [List.length_map, List.length_map]; omega, good⟩
end
end K79
namespace K79
open PySem PySem.Spec PyProof.Rows L2 Dn
section
variable {A : D → Prop} {B : Xn → Prop}
theorem sp_deep {a : Addr} (q : ∀ d, szB d 2 2 = false → A d) : cal w_law_deep [.ob a] A B := by
  refine cal_of ?_
  have z : sizeLine = 16777216 := sizeLine_eq
  unfold w_law_deep b_law_deep
  simp
  refine ⟨by omega, draw_cal (by decide) (by decide) fun k k0 k1 => ?_⟩
  obtain ⟨x, e, hx⟩ := atI_ex (xs := [PyData.none, PyData.int 5, PyData.int (-1), PyData.dict opqE, PyData.bool true]) k0 k1
  have sx : szB x 2 2 = false := by
    simp at hx
    rcases hx with rfl | rfl | rfl | rfl | rfl <;> rfl
  simp
  rw [e]
  refine draw_cal (by decide) (by decide) fun j j0 j1 => ?_
  simp
  refine ⟨by omega, forW_inv (fun env => ∃ d, szB d 2 2 = false ∧ env = [some (.ob a), some (.sh d), none]) _ _ ?_ ⟨x, sx, rfl⟩ ?_⟩
  · rintro env ⟨d, sd, rfl⟩ t ht N hN
    simp
    refine ⟨by omega, by omega, draw_cal (by decide) (by decide) fun i i0 i1 => ?_⟩
    obtain ⟨y, e, hy⟩ := atI_ex (xs := [PyData.tuple [d], PyData.list [d], PyData.dict opqE]) i0 i1
    have sy : szB y 2 2 = false := by
      simp at hy
      rcases hy with rfl | rfl | rfl <;> rfl
    simp
    rw [e]
    exact hN _ ⟨y, sy, rfl⟩
  · rintro env ⟨d, sd, rfl⟩
    simpa using q d sd
theorem sp_odd {a : Addr} (q : ∀ d, szB d 2 2 = false → A d) : cal w_law_odd [.ob a] A B := by
  refine cal_of ?_
  have z : sizeLine = 16777216 := sizeLine_eq
  unfold w_law_odd b_law_odd
  simp
  refine ⟨by omega, sp_deep fun d sd => ⟨by omega, sp_some (by simp) (by simp) fun x hx => q x ?_⟩⟩
  simp at hx
  rcases hx with rfl | rfl | rfl | rfl | rfl | rfl | rfl | rfl | rfl | rfl | rfl | rfl | rfl | rfl | rfl <;> first | rfl | exact sd
end
theorem side_t : sideS true = .str "filler" := by
  unfold sideS
  rw [if_pos rfl]
theorem side_f : sideS false = .str "spoiler" := by
  unfold sideS
  rw [if_neg (by simp)]
theorem oks_side (k : Nat) (F : Bool) : OkS (k + 1) (sideS F) := by
  cases F <;> exact ⟨by decide +kernel, by decide +kernel⟩
section
variable {K : KT} {mg : Str → Option Value} (T : Tx K mg)
/-- the words for a thing that is no book -/
theorem bad_fw {A : D → Prop} {B : Xn → Prop} {n : Nat} {d x : D} (c : Can n d) (t : Bool) (h : szB x 2 2 = false) (q : A (.bool false)) : cal (w_is_filler_wins T) [.sh d, .sh (.bool t), .sh x] A B := sp_fw_no T c t h q
structure Bk (n : Nat) (d : D) (t : Bool) (ms : List (D × Bool)) : Prop where
  c : Can n d
  o : opD n d ≤ 5
  bi : BI n (winV n d t) (d, t) [] ms
abbrev bkD (n : Nat) (d : D) (t : Bool) (ms : List (D × Bool)) : List (D × D) := valsD (bookV n (winV n d t)) (bks n (winV n d t) ms)
theorem bk_keys {n : Nat} {d : D} {t : Bool} {ms : List (D × Bool)} (b : Bk n d t ms) : ∀ x ∈ (bkD n d t ms).map (·.1), Can n x := fun x hx => bks_can b.bi.m x (valsD_keys hx)
theorem bk_ok {n : Nat} {d : D} {t : Bool} {ms : List (D × Bool)} (b : Bk n d t ms) : (bkD n d t ms).all (fun e => okV e.2) = true := by
  rw [List.all_eq_true]
  intro e he
  obtain ⟨y, hy, ey⟩ := valsD_vals he
  obtain ⟨z, hz, rfl⟩ := List.mem_map.mp hy
  obtain ⟨z1, z2⟩ := List.mem_filter.mp hz
  obtain ⟨r, c, s, hr, hc, hs, _, _, e2⟩ := mem_puts.mp (book_head (b.bi.m z z1) z2).1
  have h3 := b.c.b.hi
  rw [ey, e2]
  unfold okV trD
  simp [szB, smB, wiB]
  omega
/-- the told book is let -/
theorem fw_right {A : D → Prop} {B : Xn → Prop} {n : Nat} {d : D} {t : Bool} {ms : List (D × Bool)} (b : Bk n d t ms) (q : A (.bool true)) : cal (w_is_filler_wins T) [.sh d, .sh (.bool t), .sh (.tuple [sideS (winV n d t), .dict (bkD n d t ms)])] A B := by
  refine sp_fw_dict T b.c b.o t _ (bk_keys b) (valsD_kn _ _) (fun h => by rw [bk_ok b] at h; cases h) fun _ => ⟨book_trs b.bi.m, fun r h1 h2 => ?_⟩
  cases r with
  | true => exact q
  | false =>
    obtain ⟨x, rx, bx⟩ := h2 rfl
    rw [(book_rch b.bi rx).2] at bx
    cases bx
/-- the other one's word is not -/
theorem fw_other {A : D → Prop} {B : Xn → Prop} {n : Nat} {d : D} {t : Bool} (c : Can n d) (o : opD n d ≤ 5) {es : List (D × D)} (hk : ∀ x ∈ es.map (·.1), Can n x) (kn : KN es) (tr : Trs es) (q : A (.bool false)) : cal (w_is_filler_wins T) [.sh d, .sh (.bool t), .sh (.tuple [sideS (!winV n d t), .dict es])] A B := by
  refine sp_fw_dict T c o t _ hk kn (fun _ => q) fun _ => ⟨tr, fun r h1 h2 => ?_⟩
  cases r with
  | false => exact q
  | true =>
    obtain ⟨ms, m1, m2, m3⟩ := h1 rfl
    have := hold_win tr m2 m3 c t m1
    cases h : winV n d t <;> rw [h] at this <;> cases this
/-- a book that says nothing of the board -/
theorem fw_less {A : D → Prop} {B : Xn → Prop} {n : Nat} {d : D} {F : Bool} (c : Can n d) (o : opD n d ≤ 5) {es : List (D × D)} (hk : ∀ x ∈ es.map (·.1), Can n x) (kn : KN es) (tr : Trs es) (g : getK es d = none) (p : 0 < (puts n (grOf d)).length) (q : A (.bool false)) : cal (w_is_filler_wins T) [.sh d, .sh (.bool F), .sh (.tuple [sideS F, .dict es])] A B := by
  refine sp_fw_dict T c o F _ hk kn (fun _ => q) fun _ => ⟨tr, fun r h1 h2 => ?_⟩
  cases r with
  | false => exact q
  | true =>
    obtain ⟨ms, m1, m2, m3⟩ := h1 rfl
    have := (m2 _ m1).2
    unfold badH at this
    rw [if_neg (by show ¬ (puts n (grOf d)).length = 0; omega), if_pos rfl, g] at this
    cases this
end
section
variable {K : KT} {mg : Str → Option Value} (T : Tx K mg)
theorem eqv_can {n : Nat} {d : D} (c : Can n d) : PyData.eqv d d = true := by
  rw [c.e]
  exact SeqAt.eqv_refl _ (shp_g n _).1
theorem shp_can {n : Nat} {d : D} (c : Can n d) : Shp 3 d := by
  rw [c.e]
  exact shp_g n _
theorem less_none {n : Nat} {es : List (D × D)} {d : D} (hk : ∀ x ∈ es.map (·.1), Can n x) (c : Can n d) : getK (putAll [] (lessP es d)) d = none := by
  cases q : getK (putAll [] (lessP es d)) d with
  | none => rfl
  | some v =>
    have m := getK_in (n := n) (fun x hx => hk x (less_keys hx).1) c (by rw [q]; rfl)
    have := (less_keys m).2
    rw [eqv_can c] at this
    cases this
theorem law_c1 {n : Nat} {d t x7 : D} {u : Bool} {ms : List (D × Bool)} {a : Addr} (b : Bk n d u ms) (hu : u = winV n d u) {es : List (D × D)} (hk : ∀ x ∈ es.map (·.1), Can n x) (kn : KN es) (ok : es.all (fun e => okV e.2) = false) (p : 0 < (puts n (grOf d)).length)
    (tr : Trs (putAll [] (lessP es d))) (P : Post) (hP : ∀ x8 x9 x10 : Option En, P.nx [none, some (.ob a), some (.sh t), some (.sh d), some (.sh (.bool u)), some (.sh (wD n d u)), some (.sh (.tuple [sideS (winV n d u), .dict (bkD n d u ms)])), some (.sh x7), x8, x9, x10, none]) :
    c2_law T [none, some (.ob a), some (.sh t), some (.sh d), some (.sh (.bool u)), some (.sh (wD n d u)), some (.sh (.tuple [sideS (winV n d u), .dict (bkD n d u ms)])), some (.sh x7), none, some (.od es), none, none] P := by
  have z : sizeLine = 16777216 := sizeLine_eq
  have c := b.c
  have tk := can_tup hk
  have at0 : ∀ G (x : D), atI [sideS G, x] 0 = some (sideS G) := fun G x => atI_nat [sideS G, x] (k := 0) (by simp)
  unfold c2_law
  simp
  refine ⟨tk, ?_⟩
  refine lcW_filterL (fun k => !PyData.eqv k d) (fun k => .tuple [k, (getK es k).getD .none]) _ _ (fun k hk2 Y N y1 y2 => ?_) ?_
  · have ck := hk k hk2
    obtain ⟨e, he, rfl⟩ := List.mem_map.mp hk2
    have g := getK_nd kn he
    rw [g] at y1
    simp
    refine ⟨⟨shaped_of (shp_can ck) (by decide), shaped_of (shp_can c) (by decide)⟩, ?_⟩
    split
    · rename_i h
      exact y2 (by rw [h]; rfl)
    · rename_i h
      simp [g, fitC2 tk ck]
      exact ⟨by omega, y1 (by simpa using h)⟩
  · unfold dictL
    have e : pairsD (((es.map fun x => x.1).filter fun k => !PyData.eqv k d).map fun k => PyData.tuple [k, (getK es k).getD .none]) = some (lessP es d) := pairsD_map (fun k => k) (fun k => (getK es k).getD .none) _
    simp only [e]
    refine ⟨can_keysOk (n := n) fun x hx => ?_, ?_⟩
    · unfold lessP at hx
      rw [List.map_map] at hx
      obtain ⟨k, hk2, rfl⟩ := List.mem_map.mp hx
      exact hk _ (List.mem_filter.mp hk2).1
    · unfold c1_law
      simp [at0]
      refine ⟨by omega, ?_⟩
      refine sp_fw_dict T c b.o u _ hk kn (fun _ => ?_) (fun h => by rw [ok] at h; cases h)
      simp
      rw [← hu]
      refine fw_less T c b.o (fun x hx => hk x (less_keys hx).1) (KN.putAll KN.nil) tr (less_none hk c) p ?_
      simp
      have hP := hP
      rw [← hu] at hP
      exact hP _ _ _
theorem law_c4 {n : Nat} {d t x5 x6 : D} {u : Bool} {a : Addr} (c : Can n d) {x7 x8 x9 x10 : Option En} (P : Post) (hP : P.nx [none, some (.ob a), some (.sh t), some (.sh d), some (.sh (.bool u)), some (.sh x5), some (.sh x6), x7, x8, x9, x10, none]) :
    c4_law T [none, some (.ob a), some (.sh t), some (.sh d), some (.sh (.bool u)), some (.sh x5), some (.sh x6), x7, x8, x9, x10, none] P := by
  unfold c4_law
  simp
  refine sp_odd fun x hx => ?_
  refine bad_fw T c u hx ?_
  simpa using hP
theorem law_c9 {n : Nat} {d t : D} {u : Bool} {ms : List (D × Bool)} {a : Addr} (b : Bk n d u ms) (P : Post) (hP : ∀ x7 x8 x9 x10 : Option En, P.nx [none, some (.ob a), some (.sh t), some (.sh d), some (.sh (.bool u)), some (.sh (wD n d u)), some (.sh (.tuple [sideS (winV n d u), .dict (bkD n d u ms)])), x7, x8, x9, x10, none]) :
    c9_law T [none, some (.ob a), some (.sh t), some (.sh d), some (.sh (.bool u)), some (.sh (wD n d u)), some (.sh (.tuple [sideS (winV n d u), .dict (bkD n d u ms)])), none, none, none, none, none] P := by
  have z : sizeLine = 16777216 := sizeLine_eq
  have c := b.c
  have o := b.o
  have at0 : ∀ G (x : D), atI [sideS G, x] 0 = some (sideS G) := fun G x => atI_nat [sideS G, x] (k := 0) (by simp)
  have at1 : ∀ G (x : D), atI [sideS G, x] 1 = some x := fun G x => atI_nat [sideS G, x] (k := 1) (by simp)
  unfold c9_law
  simp [at0, at1]
  refine sp_leads c o b.bi ?_
  simp
  unfold c8_law
  simp
  refine fw_right T b ?_
  simp
  unfold c7_law
  simp [at0, at1]
  have go : ∀ w : D, w = sideS (!winV n d u) → c6_law T [none, some (.ob a), some (.sh t), some (.sh d), some (.sh (.bool u)), some (.sh (wD n d u)), some (.sh (.tuple [sideS (winV n d u), .dict (bkD n d u ms)])), some (.sh (.tuple [w, .dict (bkD n d u ms)])), none, none, none, none] P := fun w hw => by
    subst hw
    unfold c6_law
    simp [at0, at1]
    have kb := bk_keys b
    have kn := valsD_kn (bookV n (winV n d u)) (bks n (winV n d u) ms)
    have tr := book_trs b.bi.m
    refine ⟨by omega, by omega, ?_⟩
    refine fw_other T c o kb kn tr ?_
    simp
    refine fw_other T c o (es := []) (fun x hx => nomatch hx) KN.nil (fun x v h => nomatch h) ?_
    simp
    refine bad_fw T c u rfl ?_
    simp
    refine bad_fw T c u rfl ?_
    simp
    refine sp_fw_none T c u _ ?_
    simp
    refine bad_fw T c u rfl ?_
    simp
    unfold c5_law
    simp [at0, at1]
    split
    · rename_i hu
      refine ⟨fitC2 (can_tup kb) c, ?_⟩
      split
      · rename_i hs
        unfold dictX
        refine ⟨⟨can_tup kb, can_hash kn kb⟩, ?_⟩
        rw [putAll_id kn]
        have md := getK_in kb c hs
        have p : 0 < (puts n (grOf d)).length := by
          obtain ⟨x, hx, e⟩ := List.mem_map.mp (valsD_keys md)
          have := (List.mem_filter.mp hx).2
          unfold mine at this
          simp at this
          rw [← e]
          exact this.2
        unfold c3_law
        simp
        refine ⟨by omega, by omega, sp_some (by simp) (by simp) fun v hv => ?_⟩
        have ov : okV v = false := by
          simp at hv
          rcases hv with rfl | rfl | rfl | rfl <;> decide
        have kb2 : ∀ x ∈ (Dn.putK (bkD n d u ms) d v).map (·.1), Can n x := fun x hx => by
          rcases keys_put _ _ _ _ hx with h | h
          · exact kb x h
          · rw [h]; exact c
        have kn2 : KN (Dn.putK (bkD n d u ms) d v) := kn.put d v
        have tk := can_tup kb
        have ll : (bkD n d u ms).length ≤ _ := valsD_len (bookV n (winV n d u)) (bks n (winV n d u) ms)
        have ll2 := bks_len n (winV n d u) ms
        have ll3 := b.bi.wt
        have lw : (bkD n d u ms).length < sizeLine := by omega
        refine ⟨⟨fitC2 tk c, lw⟩, ?_⟩
        have gp := fun k' => getK_put (bkD n d u ms) d v k'
        refine law_c1 T b hu kb2 kn2 ?_ p ?_ _ fun x8 x9 x10 => law_c4 T c P (hP _ _ _ _)
        · rw [List.all_eq_false]
          have g : getK (Dn.putK (bkD n d u ms) d v) d = some v := by rw [gp, if_pos rfl]
          obtain ⟨e, he, ev⟩ := getK_val g
          exact ⟨e, he, by rw [ev, ov]; simp⟩
        · intro x w hw
          rw [putAll_id (less_kn kn2 d)] at hw
          obtain ⟨e, he, rfl⟩ := getK_val hw
          unfold lessP at he
          obtain ⟨k, hk, rfl⟩ := List.mem_map.mp he
          obtain ⟨k1, k2⟩ := List.mem_filter.mp hk
          have kd : k ≠ d := fun z => by rw [z, eqv_can c] at k2; cases k2
          have km : k ∈ (bkD n d u ms).map (·.1) := by
            rcases keys_put _ _ _ _ k1 with h | h
            · exact h
            · exact absurd h kd
          obtain ⟨f, hf, rfl⟩ := List.mem_map.mp km
          have g := getK_nd kn hf
          have : getK (Dn.putK (bkD n d u ms) d v) f.1 = some f.2 := by
            rw [gp, if_neg (fun z => kd (can_inj n _ _ (kb _ km) c z.symm)), g]
          dsimp only
          rw [this]
          exact tr _ _ g
      · exact law_c4 T c P (hP _ _ _ _)
    · exact law_c4 T c P (hP _ _ _ _)
  split
  · rename_i h
    exact ⟨by omega, go _ (by rw [h]; exact side_f.symm)⟩
  · rename_i h
    have h : winV n d u = false := by simpa using h
    exact ⟨by omega, go _ (by rw [h]; exact side_t.symm)⟩
end
theorem plain_law : Plain := by
  intro K mg T a
  have z : sizeLine = 16777216 := sizeLine_eq
  unfold b_law
  simp
  refine forW_same _ (fun t ht N hN => ?_) ?_
  · simp
    refine sp_board fun n f b ob => ?_
    have c := Can.of b
    have o : opD n (gD n f) ≤ 5 := by rw [opD_g]; omega
    generalize gD n f = d at c o ⊢
    refine draw_cal (by decide) (by decide) fun m m0 m1 => ?_
    simp
    generalize hu : (m == 0) = u
    refine ⟨by omega, ?_⟩
    unfold c12_law
    simp
    refine sp_lwins c o fun es tk g => ?_
    have g := g u
    have fk := fit_pk tk c u
    unfold pk at g fk
    simp [g, fk]
    refine ⟨by omega, ?_⟩
    unfold c11_law
    simp
    refine sp_filler T c o u fun ms bi => ?_
    have bk : Bk n d u ms := ⟨c, o, bi⟩
    unfold c10_law
    have at0 : ∀ G (x : D), atI [sideS G, x] 0 = some (sideS G) := fun G x => atI_nat [sideS G, x] (k := 0) (by simp)
    have at1 : ∀ G (x : D), atI [sideS G, x] 1 = some x := fun G x => atI_nat [sideS G, x] (k := 1) (by simp)
    simp [at0, at1]
    have hh : ∀ x7 x8 x9 x10 : Option En, N [none, some (.ob a), none, none, none, none, none, none, none, none, none, none] := fun _ _ _ _ => hN
    split
    · rename_i hw
      rw [show (PyData.str "filler") = sideS (winV n d u) by rw [hw]; exact side_t.symm]
      refine sp_is_self (oks_side 2 _) ⟨rfl, ?_⟩
      refine law_c9 T bk _ fun x7 x8 x9 x10 => ?_
      simp
      exact hN
    · rename_i hw
      have hw : winV n d u = false := by simpa using hw
      rw [show (PyData.str "spoiler") = sideS (winV n d u) by rw [hw]; exact side_f.symm]
      refine sp_is_self (oks_side 2 _) ⟨rfl, ?_⟩
      refine law_c9 T bk _ fun x7 x8 x9 x10 => ?_
      simp
      exact hN
  · unfold c13_law
    simp
end K79
open PySem PySem.W PyProof.Rows in
set_option maxRecDepth 100000 in
set_option maxHeartbeats 0 in
theorem PySem.Challenge.cw_squarehouse_k79_whole_fillers_and_spoile_holds : PySem.Challenge.rw_squarehouse_k79_whole_fillers_and_spoile.Holds := by
  w_on; o_law; k_head; (case hw => w_witness2)
  k_fill
  refine K79.walk (l := PySem.Challenge.rw_squarehouse_k79_whole_fillers_and_spoile) rfl rfl (fun w h Y => PySem.W.kIn_of Y) ?F
  case F =>
    intro w mg fa h KX G hmg
    refine' K79.all_mk K79.plain_law KX G hmg ?a0 ?l0 ?c0 ?k0 ?a1 ?l1 ?c1 ?k1 ?a2 ?l2 ?c2 ?k2 ?a3 ?l3 ?c3 ?k3 ?a4 ?l4 ?c4 ?k4 ?a5 ?l5 ?c5 ?k5 ?a6 ?l6 ?c6 ?k6 ?a7 ?l7 ?c7 ?k7 ?a8 ?l8 ?c8 ?k8 ?a9 ?l9 ?c9 ?k9 ?a10 ?l10 ?c10 ?k10 ?a11 ?l11 ?c11 ?k11 ?a12 ?l12 ?c12 ?k12 ?a13 ?l13 ?c13 ?k13 ?a14 ?l14 ?c14 ?k14 ?a15 ?l15 ?c15 ?k15 ?a16 ?l16 ?c16 ?k16 ?a17 ?l17 ?c17 ?k17 ?a18 ?l18 ?c18 ?k18 ?a19 ?l19 ?c19 ?k19 ?a20 ?l20 ?c20 ?k20 ?a21 ?l21 ?c21 ?k21 ?a22 ?l22 ?c22 ?k22 ?a23 ?l23 ?c23 ?k23 ?a24 ?l24 ?c24 ?k24 ?a25 ?l25 ?c25 ?k25 ?a26 ?l26 ?c26 ?k26 ?a27 ?l27 ?c27 ?k27 ?a28 ?l28 ?c28 ?k28 ?a29 ?l29 ?c29 ?k29 ?a30 ?l30 ?c30 ?k30 ?a31 ?l31 ?c31 ?k31 ?z_abs ?z_all ?z_any ?z_bool ?z_dict ?z_enumerate ?z_int ?z_isinstance ?z_len ?z_list ?z_range ?z_str ?z_sum ?z_tuple ?z_zip ?g_FILLER ?g_MOST_N ?g_SPOILER ?g_NoBoard ?x_NoBoard ?q_NoBoard ?s_NoBoard ?t_NoBoard ?g_NoFlag ?x_NoFlag ?q_NoFlag ?s_NoFlag ?t_NoFlag
    (case a0 => k_is)
    (case l0 => k_is)
    (case c0 => k_is)
    (case k0 => k_is)
    (case a1 => k_is)
    (case l1 => k_is)
    (case c1 => k_is)
    (case k1 => k_is)
    (case a2 => k_is)
    (case l2 => k_is)
    (case c2 => k_is)
    (case k2 => k_is)
    (case a3 => k_is)
    (case l3 => k_is)
    (case c3 => k_is)
    (case k3 => k_is)
    (case a4 => k_is)
    (case l4 => k_is)
    (case c4 => k_is)
    (case k4 => k_is)
    (case a5 => k_is)
    (case l5 => k_is)
    (case c5 => k_is)
    (case k5 => k_is)
    (case a6 => k_is)
    (case l6 => k_is)
    (case c6 => k_is)
    (case k6 => k_is)
    (case a7 => k_is)
    (case l7 => k_is)
    (case c7 => k_is)
    (case k7 => k_is)
    (case a8 => k_is)
    (case l8 => k_is)
    (case c8 => k_is)
    (case k8 => k_is)
    (case a9 => k_is)
    (case l9 => k_is)
    (case c9 => k_is)
    (case k9 => k_is)
    (case a10 => k_is)
    (case l10 => k_is)
    (case c10 => k_is)
    (case k10 => k_is)
    (case a11 => k_is)
    (case l11 => k_is)
    (case c11 => k_is)
    (case k11 => k_is)
    (case a12 => k_is)
    (case l12 => k_is)
    (case c12 => k_is)
    (case k12 => k_is)
    (case a13 => k_is)
    (case l13 => k_is)
    (case c13 => k_is)
    (case k13 => k_is)
    (case a14 => k_is)
    (case l14 => k_is)
    (case c14 => k_is)
    (case k14 => k_is)
    (case a15 => k_is)
    (case l15 => k_is)
    (case c15 => k_is)
    (case k15 => k_is)
    (case a16 => k_is)
    (case l16 => k_is)
    (case c16 => k_is)
    (case k16 => k_is)
    (case a17 => k_is)
    (case l17 => k_is)
    (case c17 => k_is)
    (case k17 => k_is)
    (case a18 => k_is)
    (case l18 => k_is)
    (case c18 => k_is)
    (case k18 => k_is)
    (case a19 => k_is)
    (case l19 => k_is)
    (case c19 => k_is)
    (case k19 => k_is)
    (case a20 => k_is)
    (case l20 => k_is)
    (case c20 => k_is)
    (case k20 => k_is)
    (case a21 => k_is)
    (case l21 => k_is)
    (case c21 => k_is)
    (case k21 => k_is)
    (case a22 => k_is)
    (case l22 => k_is)
    (case c22 => k_is)
    (case k22 => k_is)
    (case a23 => k_is)
    (case l23 => k_is)
    (case c23 => k_is)
    (case k23 => k_is)
    (case a24 => k_is)
    (case l24 => k_is)
    (case c24 => k_is)
    (case k24 => k_is)
    (case a25 => k_is)
    (case l25 => k_is)
    (case c25 => k_is)
    (case k25 => k_is)
    (case a26 => k_is)
    (case l26 => k_is)
    (case c26 => k_is)
    (case k26 => k_is)
    (case a27 => k_is)
    (case l27 => k_is)
    (case c27 => k_is)
    (case k27 => k_is)
    (case a28 => k_is)
    (case l28 => k_is)
    (case c28 => k_is)
    (case k28 => k_is)
    (case a29 => k_is)
    (case l29 => k_is)
    (case c29 => k_is)
    (case k29 => k_is)
    (case a30 => k_is)
    (case l30 => k_is)
    (case c30 => k_is)
    (case k30 => k_is)
    (case a31 => k_is)
    (case l31 => k_is)
    (case c31 => k_is)
    (case k31 => k_is)
    (case z_abs => k_is)
    (case z_all => k_is)
    (case z_any => k_is)
    (case z_bool => k_is)
    (case z_dict => k_is)
    (case z_enumerate => k_is)
    (case z_int => k_is)
    (case z_isinstance => k_is)
    (case z_len => k_is)
    (case z_list => k_is)
    (case z_range => k_is)
    (case z_str => k_is)
    (case z_sum => k_is)
    (case z_tuple => k_is)
    (case z_zip => k_is)
    (case g_FILLER => k_is)
    (case g_MOST_N => k_is)
    (case g_SPOILER => k_is)
    (case g_NoBoard => k_is)
    (case x_NoBoard => k_exc)
    (case q_NoBoard => k_is)
    (case s_NoBoard => k_is)
    (case t_NoBoard => k_is)
    (case g_NoFlag => k_is)
    (case x_NoFlag => k_exc)
    (case q_NoFlag => k_is)
    (case s_NoFlag => k_is)
    (case t_NoFlag => k_is)
