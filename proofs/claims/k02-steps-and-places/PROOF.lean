import PyProof.Rows.All
import Wide.All
import OpenK.AllK
import Wide.FinOn
import HandS.ForMost
import HandS.TupAny
import HandS.Style
import HandS.SetFor
import HandS.IsInst
import HandS.Exc
import HandS.ExcOwn
import HandS.ExcIs
import HandS.WordsExc
import HandS.TryMany
import PyProof.ExcBaseAll.ValueError
import HandS.ListItems
import KE.GoesMore
import KE.GoesEnum
import HandS.HotCalls
import HandS.DeepEq
import HandS.Dict
import PySem.Challenge.RW_forklent_k02_steps_and_places
set_option Elab.async false
set_option linter.all false
set_option maxRecDepth 100000
set_option maxHeartbeats 4000000
/-! Kit: own words over the hand layer: immutable data (D, Rp), heaps that grow (Ext), defs with their contract (Has), one step of a reading (walk_at "s"). -/
namespace Go
open PySem L2

/-! ### immutable data -/
inductive D where
  | non | bl (b : Bool) | int (i : Int) | str (s : Str) | tup (ds : List D)
mutual
inductive Rp (K : PySem.W.Frag) (H : Hp) : V → D → Prop
  | non : Rp K H .non .non
  | bl (b : Bool) : Rp K H (.bl b) (.bl b)
  | int (i : Int) : Rp K H (.int i) (.int i)
  | str (s : Str) : Rp K H (.str s) (.str s)
  | tup {a : Addr} {xs : List V} {ds : List D} : SqT K H a xs → RpAll K H xs ds → Rp K H (.ref a) (.tup ds)
inductive RpAll (K : PySem.W.Frag) (H : Hp) : List V → List D → Prop
  | nil : RpAll K H [] []
  | cons {v : V} {vs : List V} {d : D} {ds : List D} : Rp K H v d → RpAll K H vs ds → RpAll K H (v :: vs) (d :: ds)
end
mutual
def D.py : D → PyData
  | .non => .none
  | .bl b => .bool b
  | .int i => .int i
  | .str s => .str s
  | .tup ds => .tuple (D.pys ds)
def D.pys : List D → List PyData
  | [] => []
  | d :: ds => d.py :: D.pys ds
end
section
variable {K : PySem.W.Frag} {H H' : Hp}
mutual
theorem Rp.dp : ∀ {d : D} {v : V}, Rp K H v d → Dp K H v d.py
  | _, _, .non => .non
  | _, _, .bl b => .bl b
  | _, _, .int i => .int i
  | _, _, .str s => .str s
  | _, _, .tup h a => .tup h (RpAll.dp a)
theorem RpAll.dp : ∀ {ds : List D} {vs : List V}, RpAll K H vs ds → DpAll K H vs (D.pys ds)
  | _, _, .nil => .nil
  | _, _, .cons h t => .cons (Rp.dp h) (RpAll.dp t)
end

/-! ### heaps that grow: all but the lists named in S stands -/
structure Ext (S : List Addr) (H H' : Hp) : Prop where
  keep : ∀ b o, H b = some o → b ∉ S → H' b = some o
  tup : ∀ b xs, H b = some (.tup xs) → H' b = some (.tup xs)
  frz : ∀ b o u, H b = some (.frz o u) → H' b = some (.frz o u)
theorem Ext.refl {S} : Ext S H H := ⟨fun _ _ h _ => h, fun _ _ h => h, fun _ _ _ h => h⟩
theorem Ext.trans {S} {H1 H2 H3 : Hp} (a : Ext S H1 H2) (b : Ext S H2 H3) : Ext S H1 H3 :=
  ⟨fun c o h n => b.keep c o (a.keep c o h n) n, fun c x h => b.tup c x (a.tup c x h), fun c o u h => b.frz c o u (a.frz c o u h)⟩
theorem Ext.wide {S T : List Addr} (a : Ext S H H') (h : ∀ x, x ∈ S → x ∈ T) : Ext T H H' :=
  ⟨fun c o e n => a.keep c o e (fun z => n (h c z)), a.tup, a.frz⟩
theorem Ext.of_same {S} (a : Same H H') : Ext S H H' := ⟨fun c o h _ => a c o h, fun c x h => a c _ h, fun c o u h => a c _ h⟩
theorem Ext.same (a : Ext [] H H') : Same H H' := fun c o h => a.keep c o h (by simp)
theorem Ext.any {S} (a : Ext [] H H') : Ext S H H' := Ext.of_same a.same
theorem Ext.new {S} {p : Addr} {o : HO} (h : H p = none) : Ext S H (upd H p o) :=
  Ext.of_same fun b u e => by rw [upd_ne (ne_of_none e h)]; exact e
theorem Ext.new2 {S} {H0 : Hp} {p : Addr} {o : HO} (a : Ext S H0 H) (h : H p = none) : Ext S H0 (upd H p o) := a.trans (Ext.new h)
/-- a list is changed -/
theorem Ext.put {S} {p : Addr} {xs ys : List V} (h : H p = some (.lst xs)) (hs : p ∈ S) : Ext S H (upd H p (.lst ys)) :=
  ⟨fun b u e n => by rw [upd_ne (fun z => n (by rw [z]; exact hs))]; exact e,
   fun b xs e => by rw [upd_ne (fun z => by rw [z, h] at e; cases e)]; exact e,
   fun b o u e => by rw [upd_ne (fun z => by rw [z, h] at e; cases e)]; exact e⟩
/-- a list that was not there before is changed -/
theorem Ext.putNew {S} {H0 : Hp} {p : Addr} {xs ys : List V} (a : Ext S H0 H) (h0 : H0 p = none) (h : H p = some (.lst xs)) : Ext S H0 (upd H p (.lst ys)) :=
  ⟨fun b u e n => by rw [upd_ne (ne_of_none e h0)]; exact a.keep b u e n,
   fun b xs e => by rw [upd_ne (ne_of_none e h0)]; exact a.tup b xs e,
   fun b o u e => by rw [upd_ne (ne_of_none e h0)]; exact a.frz b o u e⟩
theorem Ext.put2 {S} {H0 : Hp} {p : Addr} {xs ys : List V} (a : Ext S H0 H) (h : H p = some (.lst xs)) (hs : p ∈ S) : Ext S H0 (upd H p (.lst ys)) := a.trans (Ext.put h hs)
theorem Ext.sqt {S} {a : Addr} {xs : List V} (e : Ext S H H') (h : SqT K H a xs) : SqT K H' a xs := by
  rcases h with (h | ⟨o, h⟩) | h
  · exact .inl (.inl (e.tup _ _ h))
  · exact .inl (.inr ⟨o, e.frz _ _ _ h⟩)
  · exact .inr h
theorem Ext.free {S} {p : Addr} (e : Ext S H H') (h : H' p = none) (hs : p ∉ S) : H p = none := by
  cases q : H p with
  | none => rfl
  | some o => rw [e.keep p o q hs] at h; cases h
mutual
theorem Rp.mono {S} (e : Ext S H H') : ∀ {d : D} {v : V}, Rp K H v d → Rp K H' v d
  | _, _, .non => .non
  | _, _, .bl b => .bl b
  | _, _, .int i => .int i
  | _, _, .str s => .str s
  | _, _, .tup h a => .tup (e.sqt h) (RpAll.mono e a)
theorem RpAll.mono {S} (e : Ext S H H') : ∀ {ds : List D} {vs : List V}, RpAll K H vs ds → RpAll K H' vs ds
  | _, _, .nil => .nil
  | _, _, .cons h t => .cons (Rp.mono e h) (RpAll.mono e t)
end
theorem Rp.new {p : Addr} {xs : List V} {ds : List D} (h : RpAll K H xs ds) (hp : H p = none) : Rp K (upd H p (.tup xs)) (.ref p) (.tup ds) :=
  .tup (SqT.of upd_same) (RpAll.mono (Ext.new (S := []) hp) h)
theorem RpAll.length : ∀ {ds : List D} {vs : List V}, RpAll K H vs ds → vs.length = ds.length
  | _, _, .nil => rfl
  | _, _, .cons _ t => congrArg (· + 1) (RpAll.length t)
theorem RpAll.get : ∀ {ds : List D} {vs : List V} {i : Nat} {v : V}, RpAll K H vs ds → vs[i]? = some v → ∃ d, ds[i]? = some d ∧ Rp K H v d
  | _, _, _, _, .nil, e => by simp at e
  | _, _, 0, _, .cons h _, e => by simp at e; subst e; exact ⟨_, rfl, h⟩
  | _, _, i + 1, v, .cons _ t, e => by
    obtain ⟨d, h1, h2⟩ := RpAll.get (i := i) (v := v) t (by simpa using e)
    exact ⟨d, by simpa using h1, h2⟩
theorem RpAll.getD : ∀ {ds : List D} {vs : List V} {i : Nat} {d : D}, RpAll K H vs ds → ds[i]? = some d → ∃ v, vs[i]? = some v ∧ Rp K H v d
  | _, _, _, _, .nil, e => by simp at e
  | _, _, 0, _, .cons h _, e => by simp at e; subst e; exact ⟨_, rfl, h⟩
  | _, _, i + 1, d, .cons _ t, e => by
    obtain ⟨v, h1, h2⟩ := RpAll.getD (i := i) (d := d) t (by simpa using e)
    exact ⟨v, by simpa using h1, h2⟩
theorem RpAll.append : ∀ {ds es : List D} {vs us : List V}, RpAll K H vs ds → RpAll K H us es → RpAll K H (vs ++ us) (ds ++ es)
  | _, _, _, _, .nil, s => s
  | _, _, _, _, .cons h t, s => .cons h (RpAll.append t s)
theorem RpAll.take : ∀ {ds : List D} {vs : List V} (n : Nat), RpAll K H vs ds → RpAll K H (vs.take n) (ds.take n)
  | _, _, 0, _ => .nil
  | _, _, _ + 1, .nil => .nil
  | _, _, n + 1, .cons h t => .cons h (RpAll.take n t)
theorem RpAll.drop : ∀ {ds : List D} {vs : List V} (n : Nat), RpAll K H vs ds → RpAll K H (vs.drop n) (ds.drop n)
  | _, _, 0, h => h
  | _, _, _ + 1, .nil => .nil
  | _, _, n + 1, .cons _ t => RpAll.drop n t
theorem Rp.tupI {v : V} {ds : List D} (h : Rp K H v (.tup ds)) : ∃ a xs, v = .ref a ∧ SqT K H a xs ∧ RpAll K H xs ds := by
  cases h with
  | tup h a => exact ⟨_, _, rfl, h, a⟩
theorem Rp.intI {v : V} {i : Int} (h : Rp K H v (.int i)) : v = .int i := by cases h; rfl
theorem Rp.strI {v : V} {i : Str} (h : Rp K H v (.str i)) : v = .str i := by cases h; rfl
theorem Rp.blI {v : V} {i : Bool} (h : Rp K H v (.bl i)) : v = .bl i := by cases h; rfl
theorem Rp.nonI {v : V} (h : Rp K H v .non) : v = .non := by cases h; rfl
end

/-! ### equality of data: ints, texts, tuples of them -/
mutual
def D.eqv : D → D → Bool
  | .non, .non => true
  | .bl a, .bl b => a == b
  | .bl a, .int j => (if a then 1 else 0) == j
  | .int i, .bl b => i == (if b then 1 else 0)
  | .int i, .int j => i == j
  | .str x, .str y => x == y
  | .tup xs, .tup ys => D.eqvs xs ys
  | .non, .bl _ | .non, .int _ | .non, .str _ | .non, .tup _ => false
  | .bl _, .non | .bl _, .str _ | .bl _, .tup _ => false
  | .int _, .non | .int _, .str _ | .int _, .tup _ => false
  | .str _, .non | .str _, .bl _ | .str _, .int _ | .str _, .tup _ => false
  | .tup _, .non | .tup _, .bl _ | .tup _, .int _ | .tup _, .str _ => false
def D.eqvs : List D → List D → Bool
  | [], [] => true
  | x :: xs, y :: ys => D.eqv x y && D.eqvs xs ys
  | [], _ :: _ => false
  | _ :: _, [] => false
end
mutual
theorem D.eqv_py : ∀ d e : D, PyData.eqv d.py e.py = D.eqv d e
  | .non, e => by cases e <;> rfl
  | .bl _, e => by cases e <;> rfl
  | .int _, e => by cases e <;> rfl
  | .str _, e => by cases e <;> rfl
  | .tup xs, .tup ys => by
    have h := D.eqvs_py xs ys
    simpa [D.py, PyData.eqv, D.eqv] using h
  | .tup _, .non => rfl
  | .tup _, .bl _ => rfl
  | .tup _, .int _ => rfl
  | .tup _, .str _ => rfl
theorem D.eqvs_py : ∀ ds es : List D, PyData.eqvAll (D.pys ds) (D.pys es) = D.eqvs ds es
  | [], [] => rfl
  | [], _ :: _ => rfl
  | _ :: _, [] => rfl
  | d :: ds, e :: es => by
    have h1 := D.eqv_py d e
    have h2 := D.eqvs_py ds es
    simp only [D.pys, PyData.eqvAll, D.eqvs, h1, h2]
end
mutual
/-- no bool within -/
def D.nb : D → Bool
  | .bl _ => false
  | .tup ds => D.nbs ds
  | _ => true
def D.nbs : List D → Bool
  | [] => true
  | d :: ds => d.nb && D.nbs ds
end
mutual
theorem D.eqv_iff : ∀ d e : D, d.nb = true → e.nb = true → (D.eqv d e = true ↔ d = e)
  | .non, e, _, h => by cases e <;> simp [D.eqv]
  | .bl _, e, h, _ => by simp [D.nb] at h
  | .int _, e, _, h => by cases e <;> simp [D.eqv, D.nb] at h ⊢
  | .str _, e, _, h => by cases e <;> simp [D.eqv]
  | .tup xs, .tup ys, h1, h2 => by
    simp only [D.nb] at h1 h2
    have h := D.eqvs_iff xs ys h1 h2
    simp [D.eqv, h]
  | .tup _, .non, _, _ => by simp [D.eqv]
  | .tup _, .bl _, _, h => by simp [D.nb] at h
  | .tup _, .int _, _, _ => by simp [D.eqv]
  | .tup _, .str _, _, _ => by simp [D.eqv]
theorem D.eqvs_iff : ∀ ds es : List D, D.nbs ds = true → D.nbs es = true → (D.eqvs ds es = true ↔ ds = es)
  | [], [], _, _ => by simp [D.eqvs]
  | [], _ :: _, _, _ => by simp [D.eqvs]
  | _ :: _, [], _, _ => by simp [D.eqvs]
  | d :: ds, e :: es, h1, h2 => by
    simp only [D.nbs, Bool.and_eq_true] at h1 h2
    have a := D.eqv_iff d e h1.1 h2.1
    have b := D.eqvs_iff ds es h1.2 h2.2
    simp [D.eqvs, a, b]
end
mutual
theorem D.eqv_symm : ∀ d e : D, D.eqv d e = D.eqv e d
  | .non, e => by cases e <;> rfl
  | .bl a, e => by cases e <;> first | rfl | exact BEq.comm
  | .int a, e => by cases e <;> first | rfl | exact BEq.comm
  | .str a, e => by cases e <;> first | rfl | exact BEq.comm
  | .tup xs, .tup ys => by
    have h := D.eqvs_symm xs ys
    simp [D.eqv, h]
  | .tup _, .non => rfl
  | .tup _, .bl _ => rfl
  | .tup _, .int _ => rfl
  | .tup _, .str _ => rfl
theorem D.eqvs_symm : ∀ ds es : List D, D.eqvs ds es = D.eqvs es ds
  | [], [] => rfl
  | [], _ :: _ => rfl
  | _ :: _, [] => rfl
  | d :: ds, e :: es => by
    have h1 := D.eqv_symm d e
    have h2 := D.eqvs_symm ds es
    simp only [D.eqvs, h1, h2]
end
mutual
def D.dep : D → Nat
  | .tup ds => D.deps ds + 1
  | _ => 0
def D.deps : List D → Nat
  | [] => 0
  | d :: ds => max d.dep (D.deps ds)
end
mutual
theorem D.depth_py : ∀ d : D, d.py.depth = d.dep
  | .non => by simp [D.py, D.dep, PyData.depth]
  | .bl _ => by simp [D.py, D.dep, PyData.depth]
  | .int _ => by simp [D.py, D.dep, PyData.depth]
  | .str _ => by simp [D.py, D.dep, PyData.depth]
  | .tup ds => by
    have h := D.depths_py ds
    simp [D.py, D.dep, PyData.depth, h]
theorem D.depths_py : ∀ ds : List D, PyData.depthAll (D.pys ds) = D.deps ds
  | [] => by simp [D.pys, D.deps, PyData.depthAll]
  | d :: ds => by
    have h1 := D.depth_py d
    have h2 := D.depths_py ds
    simp [D.pys, D.deps, PyData.depthAll, h1, h2]
end
mutual
/-- its texts can be laid -/
def D.sok : D → Bool
  | .str s => PyData.strOk s
  | .tup ds => D.soks ds
  | _ => true
def D.soks : List D → Bool
  | [] => true
  | d :: ds => d.sok && D.soks ds
end
mutual
theorem D.lay_py : ∀ d : D, PyData.canLay0 d.py = d.sok
  | .non => by simp [D.py, PyData.canLay0, D.sok]
  | .bl _ => by simp [D.py, PyData.canLay0, D.sok]
  | .int _ => by simp [D.py, PyData.canLay0, D.sok]
  | .str _ => by simp [D.py, PyData.canLay0, D.sok]
  | .tup ds => by
    have h := D.lays_py ds
    simp [D.py, PyData.canLay0, D.sok, h]
theorem D.lays_py : ∀ ds : List D, PyData.canLayAll0 (D.pys ds) = D.soks ds
  | [] => by simp [D.pys, PyData.canLayAll0, D.soks]
  | d :: ds => by
    have h1 := D.lay_py d
    have h2 := D.lays_py ds
    simp [D.pys, PyData.canLayAll0, D.soks, h1, h2]
end
/-- data that == is asked of: no bool, texts that can be laid, not too deep -/
structure D.Eq (d : D) : Prop where
  nb : d.nb = true
  sok : d.sok = true
  dep : d.dep ≤ 64
theorem D.shaped {d : D} (h1 : d.sok = true) (h : d.dep ≤ 64) : SeqAt.shaped d.py = true := by
  unfold SeqAt.shaped
  rw [D.lay_py, D.depth_py, h1]
  simpa using h

theorem D.soks_take : ∀ {ds : List D} (n : Nat), D.soks ds = true → D.soks (ds.take n) = true
  | _, 0, _ => rfl
  | [], _ + 1, _ => rfl
  | d :: ds, n + 1, h => by
    simp only [D.soks, Bool.and_eq_true, List.take_succ_cons] at h ⊢
    exact ⟨h.1, D.soks_take n h.2⟩
theorem D.deps_take : ∀ (ds : List D) (n : Nat), D.deps (ds.take n) ≤ D.deps ds
  | _, 0 => by simp [D.deps]
  | [], _ + 1 => by simp [D.deps]
  | d :: ds, n + 1 => by
    have h := D.deps_take ds n
    simp only [D.deps, List.take_succ_cons]
    omega
theorem D.soks_append : ∀ {ds es : List D}, D.soks ds = true → D.soks es = true → D.soks (ds ++ es) = true
  | [], _, _, h => h
  | d :: ds, es, h, h' => by
    simp only [D.soks, Bool.and_eq_true, List.cons_append] at h ⊢
    exact ⟨h.1, D.soks_append h.2 h'⟩
theorem D.deps_append : ∀ (ds es : List D), D.deps (ds ++ es) = max (D.deps ds) (D.deps es)
  | [], es => by simp [D.deps]
  | d :: ds, es => by
    have h := D.deps_append ds es
    simp only [D.deps, List.cons_append, h]
    omega

/-! ### tuples and frozen things alone stand -/
structure Tst (H H' : Hp) : Prop where
  tup : ∀ b xs, H b = some (.tup xs) → H' b = some (.tup xs)
  frz : ∀ b o u, H b = some (.frz o u) → H' b = some (.frz o u)
section
variable {K : PySem.W.Frag} {H H' H1 H2 H3 : Hp} {S : List Addr}
theorem Tst.refl : Tst H H := ⟨fun _ _ h => h, fun _ _ _ h => h⟩
theorem Tst.trans (a : Tst H1 H2) (b : Tst H2 H3) : Tst H1 H3 := ⟨fun c x h => b.tup c x (a.tup c x h), fun c o u h => b.frz c o u (a.frz c o u h)⟩
theorem Ext.ts (e : Ext S H H') : Tst H H' := ⟨e.tup, e.frz⟩
theorem Tst.ext (e : Tst H H') : Ext [] H' H' := Ext.refl
theorem Tst.sqt {a : Addr} {xs : List V} (e : Tst H H') (h : SqT K H a xs) : SqT K H' a xs := by
  rcases h with (h | ⟨o, h⟩) | h
  · exact .inl (.inl (e.tup _ _ h))
  · exact .inl (.inr ⟨o, e.frz _ _ _ h⟩)
  · exact .inr h
mutual
theorem Rp.ts (e : Tst H H') : ∀ {d : D} {v : V}, Rp K H v d → Rp K H' v d
  | _, _, .non => .non
  | _, _, .bl b => .bl b
  | _, _, .int i => .int i
  | _, _, .str s => .str s
  | _, _, .tup h a => .tup (e.sqt h) (RpAll.ts e a)
theorem RpAll.ts (e : Tst H H') : ∀ {ds : List D} {vs : List V}, RpAll K H vs ds → RpAll K H' vs ds
  | _, _, .nil => .nil
  | _, _, .cons h t => .cons (Rp.ts e h) (RpAll.ts e t)
end
theorem Ext.out {H0 : Hp} {l : Addr} (a : Ext S H0 H) (h0 : H0 l = none) (e : Ext [l] H H') : Ext S H0 H' :=
  ⟨fun b u q n => e.keep b u (a.keep b u q n) (by simp; exact ne_of_none q h0), fun b xs q => e.tup b xs (a.tup b xs q), fun b o u q => e.frz b o u (a.frz b o u q)⟩
theorem Ext.in1 {H0 : Hp} {l : Addr} (a : Ext S H0 H) (h0 : l ∈ S) (e : Ext [l] H H') : Ext S H0 H' := a.trans (e.wide (by simpa using h0))
theorem Ext.more {H0 : Hp} (a : Ext S H0 H) (e : Ext [] H H') : Ext S H0 H' := a.trans e.any
end

/-! ### one step of a reading, by the head of what stands there -/
section
variable {σ : St} {H : Hp} {Q : VK} {D0 : Ends} {ta tb te : TE} {t1 t2 ts : TS} {i : Nat} {v x y : V} {K : PySem.W.Frag}
theorem w_seq (h : t1 { D0 with nx := t2 D0 } σ H) : tSeq t1 t2 D0 σ H := h
/-- one statement behind another, with a word M between the two where one wants one -/
def tSeqJ (t u : TS) : TS := fun D σ H => ∃ M : St → Hp → Prop, t { D with nx := M } σ H ∧ ∀ σ' H', M σ' H' → u D σ' H'
theorem w_seqJ (h : t1 { D0 with nx := t2 D0 } σ H) : tSeqJ t1 t2 D0 σ H := ⟨_, h, fun _ _ q => q⟩
theorem w_seqA {g : TG} (h : tAsg te g { D0 with nx := t2 D0 } σ H) : tSeqJ (tAsg te g) t2 D0 σ H := w_seqJ h
theorem w_seqD (h : tDrop te { D0 with nx := t2 D0 } σ H) : tSeqJ (tDrop te) t2 D0 σ H := w_seqJ h
theorem w_next (h : D0.nx σ H) : tNext D0 σ H := h
theorem w_break (h : D0.bk σ H) : tBreak D0 σ H := h
theorem w_cont (h : D0.ct σ H) : tCont D0 σ H := h
theorem w_asg {g : TG} (h : te σ H fun x H1 => g x σ H1 D0.nx) : tAsg te g D0 σ H := h
theorem w_name {Q : St → Hp → Prop} (h : Q (σ.set i (some v)) H) : gName i v σ H Q := h
theorem w_drop (h : te σ H fun _ H1 => D0.nx σ H1) : tDrop te D0 σ H := h
theorem w_ret (h : te σ H D0.rt) : tRet te D0 σ H := h
theorem w_retN (h : D0.rt .non H) : tRetN D0 σ H := h
theorem w_ifS {c : TT} (h : c σ H fun b H1 => if b = true then t1 D0 σ H1 else t2 D0 σ H1) : tIfS c t1 t2 D0 σ H := h
theorem w_test {Q : Bool → Hp → Prop} (h : te σ H fun x H' => ∃ k, x = .bl k ∧ Q k H') : tTest te σ H Q := h
theorem w_tB {Q : Bool → Hp → Prop} (h : te σ H fun x H' => ∃ k, x = .bl k ∧ Q k H') : tB te σ H Q := h
theorem w_exbl {A : Bool → Prop} {b : Bool} (h : A b) : ∃ k, V.bl b = .bl k ∧ A k := ⟨b, rfl, h⟩
theorem w_and {c d : TT} {Q : Bool → Hp → Prop} (h : c σ H fun k H1 => if k = true then d σ H1 Q else Q false H1) : tAnd c d σ H Q := h
theorem w_or {c d : TT} {Q : Bool → Hp → Prop} (h : c σ H fun k H1 => if k = true then Q true H1 else d σ H1 Q) : tOr c d σ H Q := h
theorem w_not {c : TT} {Q : Bool → Hp → Prop} (h : c σ H fun k H1 => Q (!k) H1) : tNot c σ H Q := h
theorem w_andV (h : ta σ H fun x H1 => ∃ c, x = .bl c ∧ if c = true then tb σ H1 Q else Q (.bl false) H1) : tAndV ta tb σ H Q := h
theorem w_orV (h : ta σ H fun x H1 => ∃ c, x = .bl c ∧ if c = true then Q (.bl true) H1 else tb σ H1 Q) : tOrV ta tb σ H Q := h
theorem w_notV (h : ta σ H fun x H1 => ∃ c, x = .bl c ∧ Q (.bl (!c)) H1) : tNotV ta σ H Q := h
theorem w_if {c : TT} (h : c σ H fun k H1 => if k = true then ta σ H1 Q else tb σ H1 Q) : tIf c ta tb σ H Q := h
theorem w_var (e : σ[i]? = some (some v)) (h : Q v H) : tVar i σ H Q := ⟨v, e, h⟩
theorem w_c (h : Q v H) : tC v σ H Q := h
theorem w_op {r : R2} (h : ta σ H fun x H1 => tb σ H1 fun y H2 => r x y H2 Q) : tOp r ta tb σ H Q := h
theorem w_un {r : V → Hp → VK → Prop} (h : ta σ H fun x H1 => r x H1 Q) : tUn r ta σ H Q := h
theorem w_cb {r : List V → Hp → VK → Prop} {t : TA} (h : t σ H fun vs H1 => r vs H1 Q) : tCB r t σ H Q := h
theorem w_cons {t : TA} {Q : List V → Hp → Prop} (h : ta σ H fun x H1 => t σ H1 fun xs H2 => Q (x :: xs) H2) : tCons ta t σ H Q := h
theorem w_nil {Q : List V → Hp → Prop} (h : Q [] H) : tNil σ H Q := h
theorem w_call {sp : Sp} {E : XK} {t : TA} (h : t σ H fun vs H1 => sp vs H1 Q E) : tCall sp [] E t σ H Q := by
  show t σ H fun vs H1 => sp (vs ++ []) H1 Q E
  have e : (fun (vs : List V) (H1 : Hp) => sp (vs ++ []) H1 Q E) = fun vs H1 => sp vs H1 Q E := by
    funext vs H1
    rw [List.append_nil]
  rw [e]
  exact h
def NewT (_ : PySem.W.Frag) (xs : List V) (H : Hp) (Q : VK) : Prop := xs.length ≤ sizeLine ∧ ∀ p, H p = none → Q (.ref p) (upd H p (.tup xs))
def NewL (xs : List V) (H : Hp) (Q : VK) : Prop := xs.length ≤ sizeLine ∧ ∀ p, H p = none → Q (.ref p) (upd H p (.lst xs))
def tTupK (_ : PySem.W.Frag) (t : TA) : TE := tTup t
theorem w_tup {t : TA} (h : t σ H fun xs H1 => NewT K xs H1 Q) : tTupK K t σ H Q := h
theorem w_lst {t : TA} (h : t σ H fun xs H1 => NewL xs H1 Q) : tLst t σ H Q := h
theorem w_newT {xs : List V} {ds : List D} (h : RpAll K H xs ds) (hl : ds.length ≤ sizeLine) (q : ∀ v H', Ext [] H H' → Rp K H' v (.tup ds) → Q v H') : NewT K xs H Q :=
  ⟨by rw [h.length]; exact hl, fun p hp => q _ _ (Ext.new hp) (Rp.new h hp)⟩
theorem w_newL {xs : List V} (hl : xs.length ≤ sizeLine) (q : ∀ p H', H p = none → Ext [] H H' → H' p = some (.lst xs) → Q (.ref p) H') : NewL xs H Q :=
  ⟨hl, fun p hp => q p _ hp (Ext.new hp) upd_same⟩
theorem w_sub {to ti : TE} {t : TSet} {Q : St → Hp → Prop} (h : to σ H fun o H1 => ti σ H1 fun i H2 => t o i v H2 fun H3 => Q σ H3) : gSub to ti t v σ H Q := h
theorem w_bm {T : String} {r : V → List V → Hp → VK → Prop} {t : TA} (h : ta σ H fun x H1 => tyV K T x H1 ∧ t σ H1 fun xs H2 => r x xs H2 Q) : tBM K T r ta t σ H Q := h
theorem w_sl {r : V → Option Int → Option Int → Hp → VK → Prop} {tl th : TO} (h : te σ H fun x H1 => tl σ H1 fun l H2 => th σ H2 fun u H3 => r x l u H3 Q) : tSl r te tl th σ H Q := h
theorem w_noPart {Q : Option Int → Hp → Prop} (h : Q none H) : tNoPart σ H Q := h
theorem w_part {Q : Option Int → Hp → Prop} (h : te σ H fun x H1 => ∃ i, x = .int i ∧ Q (some i) H1) : tPart te σ H Q := h
theorem w_exint {A : Int → Prop} {j : Int} (h : A j) : ∃ i, V.int j = .int i ∧ A i := ⟨j, rfl, h⟩

/-! ### branches -/
theorem w_iteT {c : Bool} {A B : Prop} (e : c = true) (h : A) : if c = true then A else B := by rw [if_pos e]; exact h
theorem w_iteF {c : Bool} {A B : Prop} (e : c = false) (h : B) : if c = true then A else B := by rw [if_neg (by rw [e]; exact Bool.false_ne_true)]; exact h
theorem w_ite {c : Bool} {A B : Prop} (h1 : c = true → A) (h2 : c = false → B) : if c = true then A else B := by
  cases c with
  | true => exact h1 rfl
  | false => exact h2 rfl
theorem w_iteD {P : Prop} [Decidable P] {A B : Prop} (h1 : P → A) (h2 : ¬ P → B) : if decide P = true then A else B := by
  by_cases h : P
  · rw [if_pos (decide_eq_true h)]; exact h1 h
  · rw [if_neg (by simpa using h)]; exact h2 h
theorem w_iteND {P : Prop} [Decidable P] {A B : Prop} (h1 : ¬ P → A) (h2 : P → B) : if (!decide P) = true then A else B := by
  by_cases h : P
  · rw [if_neg (by simpa using h)]; exact h2 h
  · rw [if_pos (by simpa using h)]; exact h1 h

/-! ### values: ints -/
theorem r_i0 {g : Int → Int → V} {i j : Int} (h : Q (g i j) H) : rI0 g (.int i) (.int j) H Q := ⟨i, j, rfl, rfl, h⟩
theorem r_iC {C : Int → Int → Prop} {g : Int → Int → V} {i j : Int} (c : C i j) (h : Q (g i j) H) : rI C g (.int i) (.int j) H Q := ⟨i, j, rfl, rfl, c, h⟩
theorem r_u {g : Int → V} {i : Int} (h : Q (g i) H) : rU g (.int i) H Q := ⟨i, rfl, h⟩
def rAddI : R2 := rI0 fun i j => .int (i + j)
def rSubI : R2 := rI0 fun i j => .int (i - j)
def rMulI : R2 := rI CMul fun i j => .int (i * j)
def rDivI : R2 := rI CDiv fun i j => .int (i / j)
def rModI : R2 := rI (fun _ j => 0 < j) fun i j => .int (i % j)
def rLtI : R2 := rI0 fun i j => .bl (decide (i < j))
def rLeI : R2 := rI0 fun i j => .bl (decide (i ≤ j))
def rGtI : R2 := rI0 fun i j => .bl (decide (j < i))
def rGeI : R2 := rI0 fun i j => .bl (decide (j ≤ i))
theorem r_sub {i j : Int} (h : Q (.int (i - j)) H) : rSubI (.int i) (.int j) H Q := r_i0 h
theorem r_mul {i j : Int} (c : CMul i j) (h : Q (.int (i * j)) H) : rMulI (.int i) (.int j) H Q := r_iC c h
theorem r_div {i j : Int} (c : CDiv i j) (h : Q (.int (i / j)) H) : rDivI (.int i) (.int j) H Q := r_iC c h
theorem r_mod {i j : Int} (c : 0 < j) (h : Q (.int (i % j)) H) : rModI (.int i) (.int j) H Q := r_iC c h
theorem r_lt {i j : Int} (h : Q (.bl (decide (i < j))) H) : rLtI (.int i) (.int j) H Q := r_i0 h
theorem r_le {i j : Int} (h : Q (.bl (decide (i ≤ j))) H) : rLeI (.int i) (.int j) H Q := r_i0 h
theorem r_gt {i j : Int} (h : Q (.bl (decide (j < i))) H) : rGtI (.int i) (.int j) H Q := r_i0 h
theorem r_ge {i j : Int} (h : Q (.bl (decide (j ≤ i))) H) : rGeI (.int i) (.int j) H Q := r_i0 h
theorem cmul_r {i j : Int} (h1 : -18446744073709551616 < j) (h2 : j < 18446744073709551616) : CMul i j := .inr ⟨by omega, by omega⟩
theorem cmul_l {i j : Int} (h1 : -18446744073709551616 < i) (h2 : i < 18446744073709551616) : CMul i j := .inl ⟨by omega, by omega⟩

/-! ### + of ints, texts, tuples, lists -/
def rAddS : R2 := fun x y H Q => ∃ i j, x = .str i ∧ y = .str j ∧ i.length + j.length ≤ sizeLine ∧ Q (.str (i ++ j)) H
def rAddG (K : PySem.W.Frag) : R2 := fun x y H Q => rAddI x y H Q ∨ rAddS x y H Q ∨ rCatA K x y H Q ∨ rCat x y H Q
theorem a_int {i j : Int} (h : Q (.int (i + j)) H) : rAddG K (.int i) (.int j) H Q := .inl (r_i0 h)
theorem a_str {i j : Str} (hl : i.length + j.length ≤ sizeLine) (h : Q (.str (i ++ j)) H) : rAddG K (.str i) (.str j) H Q := .inr (.inl ⟨i, j, rfl, rfl, hl, h⟩)
theorem a_tup {ds es : List D} (hx : Rp K H x (.tup ds)) (hy : Rp K H y (.tup es)) (hl : ds.length + es.length ≤ sizeLine) (h : ∀ v H', Ext [] H H' → Rp K H' v (.tup (ds ++ es)) → Q v H') : rAddG K x y H Q := by
  obtain ⟨a, xs, rfl, h1, h2⟩ := hx.tupI
  obtain ⟨b, ys, rfl, h3, h4⟩ := hy.tupI
  refine .inr (.inr (.inl ⟨a, b, xs, ys, rfl, rfl, h1, h3, by rw [h2.length, h4.length]; exact hl, fun e => ?_, fun _ e => ?_, fun _ _ p hp => ?_⟩))
  · subst e
    cases h2
    exact h _ _ Ext.refl (.tup h3 h4)
  · subst e
    cases h4
    refine h _ _ Ext.refl ?_
    rw [List.append_nil]
    exact .tup h1 h2
  · exact h _ _ (Ext.new hp) (Rp.new (h2.append h4) hp)
theorem a_lst {l b : Addr} {xs zs : List V} (h1 : H l = some (.lst xs)) (h2 : H b = some (.lst zs)) (hl : xs.length + zs.length ≤ sizeLine) (h : ∀ p H', H p = none → Ext [] H H' → H' p = some (.lst (xs ++ zs)) → Q (.ref p) H') : rAddG K (.ref l) (.ref b) H Q :=
  .inr (.inr (.inr ⟨l, b, xs, zs, rfl, rfl, h1, h2, hl, fun p hp => h p _ hp (Ext.new hp) upd_same⟩))

/-! ### == -/
def rEqG (K : PySem.W.Frag) : R2 := fun x y H Q => rEq x y H Q ∨ rEqD K x y H Q
def rNeG (K : PySem.W.Frag) : R2 := fun x y H Q => rNe x y H Q ∨ rNeD K x y H Q
theorem e_scal (s : scal x y = true) (h : Q (.bl (decide (x = y))) H) : rEqG K x y H Q := .inl ⟨s, h⟩
theorem n_scal (s : scal x y = true) (h : Q (.bl (!decide (x = y))) H) : rNeG K x y H Q := .inl ⟨s, h⟩
theorem dec_vs {i j : Str} : decide (V.str i = V.str j) = decide (i = j) := by
  rw [Bool.eq_iff_iff]
  simp
theorem dec_vi {i j : Int} : decide (V.int i = V.int j) = decide (i = j) := by
  rw [Bool.eq_iff_iff]
  simp
theorem e_str {i j : Str} (h : Q (.bl (decide (i = j))) H) : rEqG K (.str i) (.str j) H Q := .inl ⟨rfl, by rw [dec_vs]; exact h⟩
theorem e_int {i j : Int} (h : Q (.bl (decide (i = j))) H) : rEqG K (.int i) (.int j) H Q := .inl ⟨rfl, by rw [dec_vi]; exact h⟩
theorem e_is {i : Int} {j : Str} (h : Q (.bl false) H) : rEqG K (.int i) (.str j) H Q := .inl ⟨rfl, by simpa using h⟩
theorem e_si {i : Int} {j : Str} (h : Q (.bl false) H) : rEqG K (.str j) (.int i) H Q := .inl ⟨rfl, by simpa using h⟩
theorem n_str {i j : Str} (h : Q (.bl (!decide (i = j))) H) : rNeG K (.str i) (.str j) H Q := .inl ⟨rfl, by rw [dec_vs]; exact h⟩
theorem n_int {i j : Int} (h : Q (.bl (!decide (i = j))) H) : rNeG K (.int i) (.int j) H Q := .inl ⟨rfl, by rw [dec_vi]; exact h⟩
theorem e_D {d e : D} (hx : Rp K H x d) (hy : Rp K H y e) (h1 : d.sok = true) (h2 : d.dep ≤ 64) (h3 : e.sok = true) (h4 : e.dep ≤ 64) (h : Q (.bl (D.eqv d e)) H) : rEqG K x y H Q :=
  .inr ⟨_, _, hx.dp, hy.dp, D.shaped h1 h2, D.shaped h3 h4, by rw [D.eqv_py]; exact h⟩
theorem n_D {d e : D} (hx : Rp K H x d) (hy : Rp K H y e) (h1 : d.sok = true) (h2 : d.dep ≤ 64) (h3 : e.sok = true) (h4 : e.dep ≤ 64) (h : Q (.bl (!D.eqv d e)) H) : rNeG K x y H Q :=
  .inr ⟨_, _, hx.dp, hy.dp, D.shaped h1 h2, D.shaped h3 h4, by rw [D.eqv_py]; exact h⟩

/-! ### subscripts, slices, len -/
theorem x_D {ds : List D} {i : Int} {d : D} (hx : Rp K H x (.tup ds)) (e : atI ds i = some d) (h : ∀ v, Rp K H v d → Q v H) : rIx K x (.int i) H Q := by
  obtain ⟨a, xs, rfl, h1, h2⟩ := hx.tupI
  unfold atI at e
  obtain ⟨j, hj, hd⟩ := Option.bind_eq_some_iff.mp e
  obtain ⟨v, hv, hr⟩ := h2.getD hd
  refine .inr (.inl ⟨a, xs, i, v, rfl, rfl, h1, ?_, h v hr⟩)
  unfold atI
  rw [h2.length, hj]
  exact hv
theorem x_Ds {ds : List D} {i : Int} {d : Str} (hx : Rp K H x (.tup ds)) (e : atI ds i = some (.str d)) (h : Q (.str d) H) : rIx K x (.int i) H Q := x_D hx e fun v r => by cases r; exact h
theorem x_Di {ds : List D} {i : Int} {d : Int} (hx : Rp K H x (.tup ds)) (e : atI ds i = some (.int d)) (h : Q (.int d) H) : rIx K x (.int i) H Q := x_D hx e fun v r => by cases r; exact h
theorem x_L {p : Addr} {xs : List V} {i : Int} (hx : SqL K H p xs) (e : atI xs i = some v) (h : Q v H) : rIx K (.ref p) (.int i) H Q := .inl ⟨p, xs, i, v, rfl, rfl, hx, e, h⟩
theorem x_l {p : Addr} {xs : List V} {i : Int} (hx : H p = some (.lst xs)) (e : atI xs i = some v) (h : Q v H) : rIx K (.ref p) (.int i) H Q := x_L (SqL.of hx) e h
def rSlG (K : PySem.W.Frag) : V → Option Int → Option Int → Hp → VK → Prop := fun x lo hi H Q => rSlL K x lo hi H Q ∨ rSlA K x lo hi H Q ∨ rSlS x lo hi H Q
def cutD {α : Type} (xs : List α) (lo hi : Option Int) : List α := (xs.drop (HT.sIx xs.length 0 lo)).take (HT.sIx xs.length xs.length hi - HT.sIx xs.length 0 lo)
theorem cutD_all {α : Type} {xs : List α} {lo hi : Option Int} (h : HT.sIx xs.length 0 lo = 0 ∧ HT.sIx xs.length xs.length hi = xs.length) : cutD xs lo hi = xs := by
  unfold cutD
  rw [h.1, h.2]
  simp
theorem cut_to {α : Type} (xs : List α) {n : Int} (h : 0 ≤ n) : cutD xs none (some n) = xs.take n.toNat := by
  obtain ⟨k, rfl⟩ : ∃ k : Nat, n = (k : Int) := ⟨n.toNat, by omega⟩
  unfold cutD
  rw [HT.sIx_none, HT.sIx_nat]
  simp [← List.take_eq_take_min]
theorem cut_from {α : Type} (xs : List α) {n : Int} (h : 0 ≤ n) : cutD xs (some n) none = xs.drop n.toNat := by
  obtain ⟨k, rfl⟩ : ∃ k : Nat, n = (k : Int) := ⟨n.toNat, by omega⟩
  unfold cutD
  rw [HT.sIx_none, HT.sIx_nat]
  by_cases hk : k ≤ xs.length
  · rw [Nat.min_eq_left hk]
    simp
    rw [List.take_of_length_le (by simp)]
  · rw [Nat.min_eq_right (by omega)]
    simp
    omega
theorem s_D {ds : List D} {lo hi : Option Int} (hx : Rp K H x (.tup ds)) (h : ∀ v H', Ext [] H H' → Rp K H' v (.tup (cutD ds lo hi)) → Q v H') : rSlG K x lo hi H Q := by
  obtain ⟨a, xs, rfl, h1, h2⟩ := hx.tupI
  refine .inr (.inl ⟨a, xs, rfl, h1, fun e => ?_, fun _ p hp => ?_⟩)
  · refine h _ _ Ext.refl ?_
    rw [h2.length] at e
    rw [cutD_all e]
    exact hx
  · refine h _ _ (Ext.new hp) (Rp.new ?_ hp)
    unfold cutV cutD
    rw [h2.length]
    exact (h2.drop _).take _
theorem s_L {p : Addr} {xs : List V} {lo hi : Option Int} (hx : SqL K H p xs) (h : ∀ q H', H q = none → Ext [] H H' → H' q = some (.lst (cutD xs lo hi)) → Q (.ref q) H') : rSlG K (.ref p) lo hi H Q :=
  .inl ⟨p, xs, rfl, hx, fun q hq => h q _ hq (Ext.new hq) upd_same⟩
def rLen (K : PySem.W.Frag) : List V → Hp → VK → Prop := fun xs H Q => ∃ x n, xs = [x] ∧ LenV K x H n ∧ Q (.int n) H
theorem l_D {ds : List D} (hx : Rp K H x (.tup ds)) (h : Q (.int ds.length) H) : rLen K [x] H Q := by
  obtain ⟨a, xs, rfl, h1, h2⟩ := hx.tupI
  exact ⟨_, _, rfl, .inr ⟨xs, h1, rfl⟩, by rw [h2.length]; exact h⟩
theorem l_L {p : Addr} {xs : List V} (hx : SqL K H p xs) (h : Q (.int xs.length) H) : rLen K [.ref p] H Q := ⟨_, _, rfl, .inl ⟨xs, hx, rfl⟩, h⟩
theorem l_l {p : Addr} {xs : List V} (hx : H p = some (.lst xs)) (h : Q (.int xs.length) H) : rLen K [.ref p] H Q := l_L (SqL.of hx) h
theorem l_s {s : Str} (hx : s.length ≤ sizeLine) (h : Q (.int s.length) H) : rLen K [.str s] H Q := ⟨_, _, rfl, ⟨hx, rfl⟩, h⟩

/-! ### is -/
def rIsNo : R2 := fun x y H Q => y = .non ∧ Q (.bl (decide (x = .non))) H
def rIsNN : R2 := fun x y H Q => y = .non ∧ Q (.bl (!decide (x = .non))) H
theorem i_n (h : Q (.bl (decide (x = .non))) H) : rIsNo x .non H Q := ⟨rfl, h⟩
theorem i_nn (h : Q (.bl (!decide (x = .non))) H) : rIsNN x .non H Q := ⟨rfl, h⟩
theorem i_b {a b : Bool} (h : Q (.bl (decide (a = b))) H) : rIsB (.bl a) (.bl b) H Q := ⟨a, b, rfl, rfl, h⟩
theorem i_nb {a b : Bool} (h : Q (.bl (!decide (a = b))) H) : rNotB (.bl a) (.bl b) H Q := ⟨a, b, rfl, rfl, h⟩

/-! ### built-ins of ints; tuple(list); list.append; xs[i] = v -/
def rAbs : List V → Hp → VK → Prop := fun xs H Q => ∃ i, xs = [.int i] ∧ Q (.int (if i < 0 then -i else i)) H
def rInt1 : List V → Hp → VK → Prop := fun xs H Q => (∃ i, xs = [.int i] ∧ Q (.int i) H) ∨ ∃ k, xs = [.bl k] ∧ Q (.int (if k then 1 else 0)) H
def rTupOf (K : PySem.W.Frag) : List V → Hp → VK → Prop := fun xs H Q => ∃ p ys, xs = [.ref p] ∧ ((SqL K H p ys ∧ ∀ l, H l = none → Q (.ref l) (upd H l (.tup ys))) ∨ (SqT K H p ys ∧ Q (.ref p) H))
def rLstOf (K : PySem.W.Frag) : List V → Hp → VK → Prop := fun xs H Q => ∃ p ys, xs = [.ref p] ∧ (SqL K H p ys ∨ SqT K H p ys) ∧ ∀ l, H l = none → Q (.ref l) (upd H l (.lst ys))
theorem b_abs {i : Int} (h : Q (.int (if i < 0 then -i else i)) H) : rAbs [.int i] H Q := ⟨i, rfl, h⟩
theorem b_int {i : Int} (h : Q (.int i) H) : rInt1 [.int i] H Q := .inl ⟨i, rfl, h⟩
theorem b_tupl {p : Addr} {xs : List V} {ds : List D} (hx : H p = some (.lst xs)) (ha : RpAll K H xs ds) (h : ∀ v H', Ext [] H H' → Rp K H' v (.tup ds) → Q v H') : rTupOf K [.ref p] H Q :=
  ⟨p, xs, rfl, .inl ⟨SqL.of hx, fun l hl => h _ _ (Ext.new hl) (Rp.new ha hl)⟩⟩
theorem m_app {l : Addr} {xs : List V} (hx : H l = some (.lst xs)) (hl : xs.length < sizeLine) (h : ∀ H', Ext [l] H H' → H' l = some (.lst (xs ++ [y])) → Q .non H') : rAppend (.ref l) [y] H Q :=
  ⟨l, xs, y, rfl, rfl, hx, hl, h _ (Ext.put hx (by simp)) upd_same⟩
theorem ty_l {l : Addr} {xs : List V} (hx : H l = some (.lst xs)) : tyV K "list" (.ref l) H := .inl ⟨rfl, xs, SqL.of hx⟩
theorem t_set {l : Addr} {xs : List V} {k : Int} {j : Nat} {Q : Hp → Prop} (hx : H l = some (.lst xs)) (e : ixN xs.length k = some j) (h : ∀ H', Ext [l] H H' → H' l = some (.lst (xs.set j v)) → Q H') : rSetL (.ref l) (.int k) v H Q :=
  ⟨l, xs, k, j, rfl, rfl, hx, e, h _ (Ext.put hx (by simp)) upd_same⟩

theorem t_set0 {l : Addr} {x0 : V} {r : List V} {Q : Hp → Prop} (hx : H l = some (.lst (x0 :: r))) (h : ∀ H', Ext [l] H H' → H' l = some (.lst (v :: r)) → Q H') : rSetL (.ref l) (.int 0) v H Q :=
  t_set (j := 0) hx (by first | (simp [ixN]; omega) | simp [ixN]) h
theorem t_set1 {l : Addr} {x0 x1 : V} {r : List V} {Q : Hp → Prop} (hx : H l = some (.lst (x0 :: x1 :: r))) (h : ∀ H', Ext [l] H H' → H' l = some (.lst (x0 :: v :: r)) → Q H') : rSetL (.ref l) (.int 1) v H Q :=
  t_set (j := 1) hx (by first | (simp [ixN]; omega) | simp [ixN]) h
theorem t_set2 {l : Addr} {x0 x1 x2 : V} {r : List V} {Q : Hp → Prop} (hx : H l = some (.lst (x0 :: x1 :: x2 :: r))) (h : ∀ H', Ext [l] H H' → H' l = some (.lst (x0 :: x1 :: v :: r)) → Q H') : rSetL (.ref l) (.int 2) v H Q :=
  t_set (j := 2) hx (by first | (simp [ixN]; omega) | simp [ixN]) h
theorem t_set3 {l : Addr} {x0 x1 x2 x3 : V} {r : List V} {Q : Hp → Prop} (hx : H l = some (.lst (x0 :: x1 :: x2 :: x3 :: r))) (h : ∀ H', Ext [l] H H' → H' l = some (.lst (x0 :: x1 :: x2 :: v :: r)) → Q H') : rSetL (.ref l) (.int 3) v H Q :=
  t_set (j := 3) hx (by first | (simp [ixN]; omega) | simp [ixN]) h
theorem atI_int {ns : List Int} {i : Int} (h0 : 0 ≤ i) (h : i < (ns.length : Int)) : ∃ z, ns[i.toNat]? = some z ∧ atI (ns.map V.int) i = some (V.int z) := by
  have hk : i.toNat < ns.length := by omega
  refine ⟨ns[i.toNat], by simp [hk], at_of (j := i.toNat) (by omega) (by rw [List.getElem?_map, List.getElem?_eq_getElem hk]; rfl)⟩

theorem at_nat {α : Type} {xs : List α} {i : Int} {j : Nat} {v : α} (e : i = (j : Int)) (h : xs[j]? = some v) : atI xs i = some v := by
  rw [e]
  exact atI_nat h

/-! ### loops -/
/-- a for's reading once its iterator has come -/
def ForOk (J : It) (g : TG) (tb : TS) (D : Ends) (σ : St) (H : Hp) : Prop := ∃ W : Nat → Nat → St → Hp → Prop, (∃ m, W 0 m σ H) ∧ ∀ i m σ H, W i m σ H →
  (J.stop i H ∧ D.nx σ H) ∨ (J.go i H ∧ ∃ N : St → Hp → Prop, (∀ σ' H', N σ' H' → ∃ m', m' < m ∧ W (i + 1) m' σ' H') ∧ ∀ x H', J.yld i H x H' → g x σ H' fun σ2 H2 => tb { D with nx := N, ct := N, bk := D.nx } σ2 H2)
theorem w_for {wi : TI} {g : TG} {tb : TS} (h : wi σ H fun J H1 => ForOk J g tb D0 σ H1) : tFor wi g tb D0 σ H := h
theorem w_rng1 {ta : TA} {R : It → Hp → Prop} (h : ta σ H fun vs H1 => ∃ j : Int, vs = [.int j] ∧ -(2 ^ 62) ≤ j ∧ j < 2 ^ 62 ∧ R (Itr 0 j.toNat) H1) : iRng1 ta σ H R := h
theorem w_rng2 {ta : TA} {R : It → Hp → Prop} (h : ta σ H fun vs H1 => ∃ i j : Int, vs = [.int i, .int j] ∧ (-(2 ^ 62) ≤ i ∧ i < 2 ^ 62 ∧ -(2 ^ 62) ≤ j ∧ j < 2 ^ 62) ∧ R (Itr i (j - i).toNat) H1) : iRng2 ta σ H R := h
theorem w_exr1 {j : Int} {A : Int → Prop} (h1 : -4611686018427387904 ≤ j ∧ j < 4611686018427387904) (h : A j) : ∃ i : Int, [V.int j] = [.int i] ∧ -(2 ^ 62) ≤ i ∧ i < 2 ^ 62 ∧ A i := ⟨j, rfl, by omega, by omega, h⟩
theorem w_exr2 {j k : Int} {A : Int → Int → Prop} (h1 : -4611686018427387904 ≤ j ∧ j < 4611686018427387904 ∧ -4611686018427387904 ≤ k ∧ k < 4611686018427387904) (h : A j k) :
    ∃ i l : Int, [V.int j, V.int k] = [.int i, .int l] ∧ (-(2 ^ 62) ≤ i ∧ i < 2 ^ 62 ∧ -(2 ^ 62) ≤ l ∧ l < 2 ^ 62) ∧ A i l := ⟨j, k, rfl, by omega, h⟩
theorem w_list {R : It → Hp → Prop} (h : te σ H fun x H1 => ∃ a, x = .ref a ∧ (∃ xs, SqL K H1 a xs) ∧ R (Itl K a) H1) : iList K te σ H R := h
theorem w_tupI {R : It → Hp → Prop} (h : te σ H fun x H1 => ∃ a, x = .ref a ∧ (∃ xs, SqT K H1 a xs) ∧ R (Itt K a) H1) : iTup K te σ H R := h
theorem w_exl {a : Addr} {xs : List V} {A : Addr → Prop} (h1 : SqL K H a xs) (h : A a) : ∃ b, V.ref a = .ref b ∧ (∃ xs, SqL K H b xs) ∧ A b := ⟨a, rfl, ⟨xs, h1⟩, h⟩
theorem w_ext {ds : List D} {A : Addr → Prop} (h1 : Rp K H x (.tup ds)) (h : ∀ a, x = .ref a → A a) : ∃ b, x = .ref b ∧ (∃ xs, SqT K H b xs) ∧ A b := by
  obtain ⟨a, xs, rfl, h2, _⟩ := h1.tupI
  exact ⟨a, rfl, ⟨xs, h2⟩, h a rfl⟩
/-- over a range -/
theorem f_rng {lo : Int} {n g : Nat} {tb : TS} (W : Nat → St → Hp → Prop) (h0 : W 0 σ H)
    (hs : ∀ i σ H, i < n → W i σ H → tb { D0 with nx := W (i + 1), ct := W (i + 1), bk := D0.nx } (σ.set g (some (.int (lo + i)))) H) (hd : ∀ σ H, W n σ H → D0.nx σ H) : ForOk (Itr lo n) (gName g) tb D0 σ H :=
  for_range W h0 hs hd
/-- over a list that stands -/
theorem f_lst {a : Addr} {xs : List V} {g : Nat} {tb : TS} (W : Nat → St → Hp → Prop) (h0 : W 0 σ H) (hl : ∀ i σ H, i ≤ xs.length → W i σ H → SqL K H a xs)
    (hs : ∀ i v σ H, xs[i]? = some v → W i σ H → tb { D0 with nx := W (i + 1), ct := W (i + 1), bk := D0.nx } (σ.set g (some v)) H) (hd : ∀ σ H, W xs.length σ H → D0.nx σ H) : ForOk (Itl K a) (gName g) tb D0 σ H :=
  for_list W h0 hl hs hd
/-- over the items of a tuple; W by the turn -/
theorem f_tup {a : Addr} {g : Nat} {ds : List D} {tb : TS} (W : Nat → St → Hp → Prop) (h0 : W 0 σ H) (hk : ∀ i σ H, i ≤ ds.length → W i σ H → Rp K H (.ref a) (.tup ds))
    (hs : ∀ i d v σ H, ds[i]? = some d → Rp K H v d → W i σ H → tb { D0 with nx := W (i + 1), ct := W (i + 1), bk := D0.nx } (σ.set g (some v)) H) (hd : ∀ σ H, W ds.length σ H → D0.nx σ H) :
    ForOk (Itt K a) (gName g) tb D0 σ H := by
  refine ⟨fun i m σ H => m = ds.length - i ∧ i ≤ ds.length ∧ W i σ H, ⟨ds.length, by simp, Nat.zero_le _, h0⟩, ?_⟩
  rintro i m σ H ⟨rfl, hi, p⟩
  obtain ⟨a', xs', e, k1, k2⟩ := (hk i σ H hi p).tupI
  cases e
  have hl := k2.length
  by_cases hlt : i < ds.length
  · refine .inr ⟨⟨xs', xs'[i]'(by omega), k1, by simp [show i < xs'.length by omega]⟩, W (i + 1), fun σ' H' p' => ⟨ds.length - (i + 1), by omega, rfl, hlt, p'⟩, fun x H' y => ?_⟩
    obtain ⟨e, y⟩ := y
    subst e
    obtain ⟨d, hd1, hr⟩ := k2.get (y xs' k1)
    exact hs i d x σ _ hd1 hr p
  · have e : i = ds.length := by omega
    subst e
    exact .inl ⟨⟨xs', k1, by omega⟩, hd σ H p⟩
/-! ### comprehensions -/
def LcOk (J : It) (g : TG) (tt : TT) (te : TE) (vs : List Nat) (σ : St) (D : Addr) (H1 : Hp) (Q : VK) : Prop := ∃ W : Nat → Nat → Hp → Prop, (∃ m, W 0 m (upd H1 D (.lst []))) ∧ ∀ i m H, W i m H →
  (J.stop i H ∧ Q (.ref D) H) ∨ (J.go i H ∧ ∃ Nx : Hp → Prop, (∀ H', Nx H' → ∃ m', m' < m ∧ W (i + 1) m' H') ∧ ∀ x H', J.yld i H x H' → g x (wipe σ vs) H' fun σ2 H2 => wipe σ2 vs = wipe σ vs ∧ tt σ2 H2 fun b H3 =>
    if b = true then te σ2 H3 fun y H4 => ∃ acc, H4 D = some (.lst acc) ∧ acc.length < sizeLine ∧ Nx (upd H4 D (.lst (acc ++ [y]))) else Nx H3)
theorem w_lc {wi : TI} {g : TG} {tt : TT} {vs : List Nat} (h : wi σ H fun J H1 => ∀ D, H1 D = none → LcOk J g tt te vs σ D H1 Q) : tLc wi g tt te vs σ H Q := h
/-- what a turn of a comprehension is to reach: the list so far is acc at D -/
def LcN (D : Addr) (W : Nat → Hp → List V → Prop) (i : Nat) (H : Hp) : Prop := ∃ acc, H D = some (.lst acc) ∧ acc.length ≤ i ∧ W i H acc
def LcT (D : Addr) (W : Nat → Hp → List V → Prop) (i : Nat) (y : V) (H : Hp) : Prop := ∃ acc, H D = some (.lst acc) ∧ acc.length < sizeLine ∧ LcN D W (i + 1) (upd H D (.lst (acc ++ [y])))
theorem turn1 {D : Addr} {W : Nat → Hp → List V → Prop} {i : Nat} {acc : List V} (h1 : H D = some (.lst acc)) (h2 : acc.length ≤ i) (h3 : i < sizeLine) (h : ∀ H', Ext [D] H H' → H' D = some (.lst (acc ++ [y])) → W (i + 1) H' (acc ++ [y])) : LcT D W i y H :=
  ⟨acc, h1, by omega, acc ++ [y], upd_same, by rw [List.length_append]; simp; omega, h _ (Ext.put h1 (by simp)) upd_same⟩
theorem turn0 {D : Addr} {W : Nat → Hp → List V → Prop} {i : Nat} {acc : List V} (h1 : H D = some (.lst acc)) (h2 : acc.length ≤ i) (h : W (i + 1) H acc) : LcN D W (i + 1) H := ⟨acc, h1, by omega, h⟩
theorem c_gen {J : It} {n g : Nat} {tt : TT} {D : Addr} (R : Nat → V → Hp → Prop) (W : Nat → Hp → List V → Prop) (hD : H D = none)
    (hgo : ∀ i H acc, i < n → W i H acc → J.go i H) (hst : ∀ H acc, W n H acc → J.stop n H) (hy : ∀ i x H H' acc, i < n → W i H acc → J.yld i H x H' → H' = H ∧ R i x H)
    (h0 : ∀ H', Ext [] H H' → H' D = some (.lst []) → W 0 H' [])
    (hs : ∀ i x H acc, i < n → H D = some (.lst acc) → acc.length ≤ i → R i x H → W i H acc → tt (σ.set g (some x)) H fun b H3 => if b = true then te (σ.set g (some x)) H3 (LcT D W i) else LcN D W (i + 1) H3)
    (hd : ∀ H acc, H D = some (.lst acc) → W n H acc → Q (.ref D) H) : LcOk J (gName g) tt te [g] σ D H Q := by
  refine ⟨fun i m H => m = n - i ∧ i ≤ n ∧ LcN D W i H, ⟨n, by simp, Nat.zero_le _, [], upd_same, Nat.le_refl _, h0 _ (Ext.new hD) upd_same⟩, ?_⟩
  rintro i m H ⟨rfl, hi, acc, e1, e2, p⟩
  by_cases hlt : i < n
  · refine .inr ⟨hgo i H acc hlt p, LcN D W (i + 1), fun H' p' => ⟨n - (i + 1), by omega, rfl, hlt, p'⟩, fun x H' y => ?_⟩
    obtain ⟨e, r⟩ := hy i x H H' acc hlt p y
    subst e
    have s1 : (wipe σ [g]).set g (some x) = σ.set g (some x) := by
      show (σ.set g none).set g (some x) = _
      rw [List.set_set]
    show wipe ((wipe σ [g]).set g (some x)) [g] = wipe σ [g] ∧ _
    rw [s1]
    refine ⟨?_, ?_⟩
    · show (σ.set g (some x)).set g none = σ.set g none
      rw [List.set_set]
    exact hs i x H' acc hlt e1 e2 r p
  · have e : i = n := by omega
    subst e
    exact .inl ⟨hst H acc p, hd H acc e1 p⟩
/-- over a range -/
theorem c_rng {lo : Int} {n g : Nat} {tt : TT} {D : Addr} (W : Nat → Hp → List V → Prop) (hD : H D = none) (h0 : ∀ H', Ext [] H H' → H' D = some (.lst []) → W 0 H' [])
    (hs : ∀ i H acc, i < n → H D = some (.lst acc) → acc.length ≤ i → W i H acc → tt (σ.set g (some (.int (lo + i)))) H fun b H3 => if b = true then te (σ.set g (some (.int (lo + i)))) H3 (LcT D W i) else LcN D W (i + 1) H3)
    (hd : ∀ H acc, H D = some (.lst acc) → W n H acc → Q (.ref D) H) : LcOk (Itr lo n) (gName g) tt te [g] σ D H Q :=
  c_gen (fun i x _ => x = .int (lo + i)) W hD (fun _ _ _ h _ => h) (fun _ _ _ => Nat.le_refl n) (fun _ _ _ _ _ _ _ y => y) h0 (fun i x H acc hi e1 e2 r p => by subst r; exact hs i H acc hi e1 e2 p) hd
/-- over a list that stands -/
theorem c_lst {a : Addr} {xs : List V} {g : Nat} {tt : TT} {D : Addr} (W : Nat → Hp → List V → Prop) (hD : H D = none) (hl : ∀ i H acc, i ≤ xs.length → W i H acc → SqL K H a xs) (h0 : ∀ H', Ext [] H H' → H' D = some (.lst []) → W 0 H' [])
    (hs : ∀ i x H acc, xs[i]? = some x → H D = some (.lst acc) → acc.length ≤ i → W i H acc → tt (σ.set g (some x)) H fun b H3 => if b = true then te (σ.set g (some x)) H3 (LcT D W i) else LcN D W (i + 1) H3)
    (hd : ∀ H acc, H D = some (.lst acc) → W xs.length H acc → Q (.ref D) H) : LcOk (Itl K a) (gName g) tt te [g] σ D H Q :=
  c_gen (n := xs.length) (fun i x _ => xs[i]? = some x) W hD (fun i H acc h p => ⟨xs, xs[i], hl i H acc (Nat.le_of_lt h) p, by simp [h]⟩) (fun H acc p => ⟨xs, hl _ H acc (Nat.le_refl _) p, Nat.le_refl _⟩)
    (fun i x H H' acc h p y => ⟨y.1, y.2 xs (hl i H acc (Nat.le_of_lt h) p)⟩) h0 (fun i x H acc _ e1 e2 r p => hs i x H acc r e1 e2 p) hd
/-- over the items of a tuple -/
theorem c_tup {a : Addr} {ds : List D} {g : Nat} {tt : TT} {D : Addr} (W : Nat → Hp → List V → Prop) (hD : H D = none) (hl : ∀ i H acc, i ≤ ds.length → W i H acc → Rp K H (.ref a) (.tup ds)) (h0 : ∀ H', Ext [] H H' → H' D = some (.lst []) → W 0 H' [])
    (hs : ∀ i d x H acc, ds[i]? = some d → Rp K H x d → H D = some (.lst acc) → acc.length ≤ i → W i H acc → tt (σ.set g (some x)) H fun b H3 => if b = true then te (σ.set g (some x)) H3 (LcT D W i) else LcN D W (i + 1) H3)
    (hd : ∀ H acc, H D = some (.lst acc) → W ds.length H acc → Q (.ref D) H) : LcOk (Itt K a) (gName g) tt te [g] σ D H Q := by
  have get : ∀ i H acc, i ≤ ds.length → W i H acc → ∃ xs, SqT K H a xs ∧ RpAll K H xs ds := fun i H acc hi p => by
    obtain ⟨a', xs, e, h1, h2⟩ := (hl i H acc hi p).tupI
    cases e
    exact ⟨xs, h1, h2⟩
  refine c_gen (n := ds.length) (fun i x H => ∃ d, ds[i]? = some d ∧ Rp K H x d) W hD (fun i H acc h p => ?_) (fun H acc p => ?_) (fun i x H H' acc h p y => ?_) h0 (fun i x H acc _ e1 e2 r p => ?_) hd
  · obtain ⟨xs, h1, h2⟩ := get i H acc (Nat.le_of_lt h) p
    have hl := h2.length
    exact ⟨xs, xs[i]'(by omega), h1, by simp [show i < xs.length by omega]⟩
  · obtain ⟨xs, h1, h2⟩ := get _ H acc (Nat.le_refl _) p
    exact ⟨xs, h1, by rw [h2.length]; exact Nat.le_refl _⟩
  · obtain ⟨xs, h1, h2⟩ := get i H acc (Nat.le_of_lt h) p
    obtain ⟨d, hd1, hr⟩ := h2.get (y.2 xs h1)
    exact ⟨y.1, d, hd1, hr⟩
  · obtain ⟨d, hd1, hr⟩ := r
    exact hs i d x H acc hd1 hr e1 e2 p
theorem w_yes {Q : Bool → Hp → Prop} (h : Q true H) : tYes σ H Q := h
end
theorem le_line {n : Nat} (h : n ≤ 1000) : n ≤ sizeLine := Nat.le_trans h (by decide)
/-! ### in, not in -/
section
variable {H : Hp} {Q : VK} {x y : V} {K : PySem.W.Frag}
theorem w_inL {xs : List V} {neg : Bool} (fx : flatV x = true) (fs : xs.all flatV = true) (hl : xs.length ≤ sizeLine) (h : ∀ H', Ext [] H H' → Q (.bl (if neg = true then !inV x xs else inV x xs)) H') : NewL xs H fun y H1 => rIn K neg x y H1 Q :=
  ⟨hl, fun p hp => ⟨p, xs, rfl, .inl (SqL.of upd_same), fx, fs, h _ (Ext.new hp)⟩⟩
theorem w_inT {xs : List V} {neg : Bool} (fx : flatV x = true) (fs : xs.all flatV = true) (hl : xs.length ≤ sizeLine) (h : ∀ H', Ext [] H H' → Q (.bl (if neg = true then !inV x xs else inV x xs)) H') : NewT K xs H fun y H1 => rIn K neg x y H1 Q :=
  ⟨hl, fun p hp => ⟨p, xs, rfl, .inr (SqT.of upd_same), fx, fs, h _ (Ext.new hp)⟩⟩
theorem w_inl {p : Addr} {xs : List V} {neg : Bool} (fx : flatV x = true) (hp : H p = some (.lst xs)) (fs : xs.all flatV = true) (h : Q (.bl (if neg = true then !inV x xs else inV x xs)) H) : rIn K neg x (.ref p) H Q :=
  ⟨p, xs, rfl, .inl (SqL.of hp), fx, fs, h⟩
def D.flat : D → Bool
  | .tup _ => false
  | _ => true
theorem flat_V {d : D} (h : Rp K H x d) (f : d.flat = true) : flatV x = true := by
  cases h <;> first | rfl | cases f
theorem eqV_eqv {d e : D} (h : Rp K H x d) (f : d.flat = true) (h' : Rp K H y e) (f' : e.flat = true) : eqV x y = D.eqv d e := by
  cases h <;> cases h' <;> first | rfl | cases f | cases f'
theorem flat_all : ∀ {ds : List D} {vs : List V}, RpAll K H vs ds → ds.all D.flat = true → vs.all flatV = true
  | _, _, .nil, _ => rfl
  | _, _, .cons h t, f => by
    rw [List.all_cons, Bool.and_eq_true] at f ⊢
    exact ⟨flat_V h f.1, flat_all t f.2⟩
theorem inV_any {d : D} (hx : Rp K H x d) (fx : d.flat = true) : ∀ {ds : List D} {vs : List V}, RpAll K H vs ds → ds.all D.flat = true → inV x vs = ds.any fun e => D.eqv e d
  | _, _, .nil, _ => rfl
  | _, _, .cons h t, f => by
    rw [List.all_cons, Bool.and_eq_true] at f
    have ih := inV_any hx fx t f.2
    unfold inV at ih ⊢
    rw [List.any_cons, List.any_cons, ih, eqV_eqv h f.1 hx fx]
theorem in_D {ds : List D} {d : D} {neg : Bool} (hx : Rp K H x d) (hy : Rp K H y (.tup ds)) (fx : d.flat = true) (fs : ds.all D.flat = true) (h : Q (.bl (if neg = true then !ds.any (fun e => D.eqv e d) else ds.any fun e => D.eqv e d)) H) : rIn K neg x y H Q := by
  obtain ⟨a, xs, rfl, h1, h2⟩ := hy.tupI
  refine ⟨a, xs, rfl, .inr h1, flat_V hx fx, flat_all h2 fs, ?_⟩
  rw [inV_any hx fx h2 fs]
  exact h
/-- a constant of the module: data that stand in every heap -/
def tConst (K : PySem.W.Frag) (d : D) : TE := fun _ H Q => ∀ v, (∀ H', Rp K H' v d) → Q v H
theorem w_const {σ : St} {d : D} (h : ∀ v, Rp K H v d → Q v H) : tConst K d σ H Q := fun v r => h v (r H)
end
/-- the module's name x holds data d -/
def Cst (K : PySem.W.Frag) (mg : Str → Option Value) (x : Str) (d : D) : Prop := ∃ a, mg x = some (.ref a) ∧ ∀ H, Rp K H (.ref a) d
theorem pe_const {X : Cx} {x : Str} {d : D} {pos : Pos} (c : Cst X.K X.mg x d) (hg : Gl X x) (hd : (x == ("__debug__" : Str)) = false := by decide) : PE X (.Name x pos) (tConst X.K d) := by
  obtain ⟨a, m, r⟩ := c
  refine ⟨fun pins s σ H Q I h => ?_⟩
  exact (pe_glob (v := .ref a) hg m rfl hd).run pins s σ H Q I (h (.ref a) r)
/-- a written tuple of texts, numbers: as the top has laid it -/
theorem cst_of {K : PySem.W.Frag} {mg : Str → Option Value} {x : Str} {a : Addr} {od : Option Addr} {its : List Value} {n : Nat} {sl : Array (Option Value)} {xs : List V} {ds : List D} (m : mg x = some (.ref a)) (l : K.lookup a = some ⟨.type "tuple", od, .seq its.toArray n, sl⟩)
    (hz : its.length ≤ sizeLine) (hv : Vals xs its) (hr : ∀ H, RpAll K H xs ds) : Cst K mg x (.tup ds) :=
  ⟨a, m, fun H => .tup (.inr ⟨_, its.toArray, n, l, rfl, rfl, by simpa using hz, by simpa using hv⟩) (hr H)⟩

/-! ### defs with their contract -/
/-- the module's name x holds a def that keeps sp -/
structure Has (P : Program) (w : World) (K : PySem.W.Frag) (mg : Str → Option Value) (base : Heap) (CX : CXT) (k : Nat) (x : Str) (ps : List Str) (sp : Sp) : Prop where
  ex : ∃ (f : Addr) (fd : FuncData), FnOk P w K mg base CX k f fd ps sp ∧ mg x = some (.ref f) ∧ PySem.W.keepIn K (.ref f) = true ∧ Binds K fd ps []
/-- the module's name x holds the def that the text writes as st -/
structure Dfn (K : PySem.W.Frag) (mg : Str → Option Value) (x : Str) (st : Stmt) (ps : List Str) : Prop where
  ex : ∃ (f : Addr) (fd : FuncData), Fun K x x st f fd ∧ mg x = some (.ref f) ∧ Binds K fd ps []
section
variable {P : Program} {w : World} {K : PySem.W.Frag} {mg : Str → Option Value} {base : Heap} {CX : CXT} {k : Nat} {x : Str} {ps : List Str} {sp : Sp} {st : Stmt}
theorem Dfn.has (D : Dfn K mg x st ps) (h : ∀ f fd, Fun K x x st f fd → FnOk P w K mg base CX k f fd ps sp) : Has P w K mg base CX k x ps sp := by
  obtain ⟨f, fd, F, m, b⟩ := D.ex
  exact ⟨f, fd, h f fd F, m, F.kp, b⟩
theorem Has.mono {j : Nat} (h : Has P w K mg base CX j x ps sp) (l : j ≤ k) : Has P w K mg base CX k x ps sp := by
  obtain ⟨f, fd, F, r⟩ := h.ex
  exact ⟨f, fd, F.mono l, r⟩
theorem Has.imp {sp' : Sp} (h : Has P w K mg base CX k x ps sp) (i : ∀ vs H Q E, sp' vs H Q E → sp vs H Q E) : Has P w K mg base CX k x ps sp' := by
  obtain ⟨f, fd, F, r⟩ := h.ex
  exact ⟨f, fd, F.imp i, r⟩
/-- a promise that nobody can ask for -/
theorem Dfn.never (D : Dfn K mg x st ps) (no : ∀ vs H Q E, ¬ sp vs H Q E) : Has P w K mg base CX k x ps sp := by
  obtain ⟨f, fd, F, m, b⟩ := D.ex
  exact ⟨f, fd, ⟨fun vs H Q E h => absurd h (no vs H Q E), fun A outer s H args us vs Q E _ _ _ _ h => absurd h (no vs H Q E)⟩, m, F.kp, b⟩
end
section
variable {X : Cx} {CX : CXT} {k : Nat} {ps : List Str} {sp : Sp} {E : XK} {x : Str} {p pos : Pos} {e : Expr} {es : List Expr} {t : TA}
theorem pe_callH (h : Has X.prog X.w X.K X.mg X.base CX k x ps sp) (hr : Room k X.A) (hg : Gl X x) (hx : Passes CX X E)
    (ha : PA X (e :: es) t) (hdb : (x == ("__debug__" : Str)) = false := by decide) (he : starEach (e :: es) X.env = (false, eval e X.env) :: starEach es X.env := by rfl) (hpl : (backTo pos (starEach es X.env)).any (·.1) = false := by rfl) :
    PE X (.Call (.Name x p) (e :: es) [] pos) (tCall sp [] E t) := by
  obtain ⟨f, fd, F, m, kp, b⟩ := h.ex
  exact pe_call F hr hg m kp b .nil hx ha hdb he hpl
theorem pe_callH0 (h : Has X.prog X.w X.K X.mg X.base CX k x ps sp) (hr : Room k X.A) (hg : Gl X x) (hx : Passes CX X E)
    (hdb : (x == ("__debug__" : Str)) = false := by decide) : PE X (.Call (.Name x p) [] [] pos) (tCall sp [] E tNil) := by
  obtain ⟨f, fd, F, m, kp, b⟩ := h.ex
  exact pe_call0 F hr hg m kp b .nil hx hdb
theorem pss_consJ {st : Stmt} {rest : List Stmt} {t u : TS} (h1 : PS X st t) (h2 : PSs X rest u) : PSs X (st :: rest) (tSeqJ t u) := by
  refine ⟨fun pins s σ H D I h => ?_⟩
  obtain ⟨M, h, hm⟩ := h
  refine wpAny_execs_cons (thn (h1.run pins s σ H { D with nx := M } I h) fun f s1 q => ?_)
  cases f with
  | next =>
    obtain ⟨σ', H', I', q⟩ := q
    exact h2.run pins s1 σ' H' D I' (hm _ _ q)
  | ret v => exact q
  | brk => exact q
  | cont => exact q
/-! ### the rules by which ambiguous constructs go -/
theorem o_add : OpR X (binaryOp .Add) (rAddG X.K) := op_add.or (op_add_str.or (op_catA.or op_cat))
theorem o_eq (hu : X.A.units + 64 < cLine) : OpR X (compareOp .Eq) (rEqG X.K) := op_eq.or (op_eqD hu)
theorem o_ne (hu : X.A.units + 64 < cLine) : OpR X (compareOp .NotEq) (rNeG X.K) := op_ne.or (op_neD hu)
theorem o_sl : SlR X (rSlG X.K) := sl_list.or (sl_tupA.or sl_str)
end
end Go

set_option Elab.async false
set_option linter.all false
set_option maxRecDepth 100000
set_option maxHeartbeats 4000000
/-! Obj: instances of own classes and dicts with int keys, read and changed; isinstance; insert, remove. -/
namespace Go
open PySem L2

/-! ### attributes -/
theorem lk_hit {x : Str} {v : V} {r : List (Str × V)} : List.lookup x ((x, v) :: r) = some v := by simp [List.lookup]
theorem lk_miss {x y : Str} {v : V} {r : List (Str × V)} (h : (x == y) = false) : List.lookup x ((y, v) :: r) = List.lookup x r := by simp [List.lookup, h]
theorem lk_nil {x : Str} : List.lookup x ([] : List (Str × V)) = none := rfl
theorem pf_nil {x : Str} {v : V} : putF x v [] = [(x, v)] := rfl
theorem pf_hit {x : Str} {v u : V} {r : List (Str × V)} : putF x v ((x, u) :: r) = (x, v) :: r := by simp [putF]
theorem pf_miss {x y : Str} {v u : V} {r w : List (Str × V)} (h : ¬ y = x) (e : putF x v r = w) : putF x v ((y, u) :: r) = (y, u) :: w := by
  subst e
  show (if y = x then _ else _) = _
  rw [if_neg h]
/-- e.f of an instance of the class at C -/
def tFldC (C : Addr) (f : Str) (ta : TE) : TE := fun σ H Q => ta σ H fun x H1 => ∃ a dx fs v, x = .ref a ∧ H1 a = some (.ins C dx fs) ∧ fs.lookup f = some v ∧ Q v H1
def sFldC (C : Addr) (f : Str) (ta tv : TE) : TS := fun D σ H => tv σ H fun y H1 => ta σ H1 fun x H2 => ∃ a dx fs, x = .ref a ∧ H2 a = some (.ins C dx fs) ∧ fs.length < 1000 ∧ D.nx σ (upd H2 a (.ins C dx (putF f y fs)))
section
variable {X : Cx} {e o value : Expr} {ta tv : TE} {f : Str} {pos pos' : Pos} {C : Addr}
theorem pe_fldC (c : Cls X.K C) (n : NoAttr X.K C f) (he : PE X e ta) (hb : attributeBase e f X.env (eval e X.env) = eval e X.env) : PE X (.Attribute e f pos) (tFldC C f ta) := by
  refine ⟨fun pins z σ H Q I h => attr_of hb (thn (he.run pins z σ H _ I h) fun w z1 hw => ?_)⟩
  obtain ⟨x, H1, I1, rx, a, dx, fs, v, ex, ea, l, q⟩ := hw
  subst ex
  cases (show w = Value.ref a from rx)
  exact getattr_ok I1 ea c n l fun _ _ I2 ru => ⟨v, H1, I2, ru, q⟩
theorem ps_fldC (c : Cls X.K C) (n : NoAttr X.K C f) (ha : PE X o ta) (hv : PE X value tv) (hs : swapsWith value (some (.Attribute o f pos')) pos.line X.env = pure false) : PS X (.Assign [.Attribute o f pos'] value pos) (sFldC C f ta tv) := by
  refine ⟨fun pins z σ H D I h => plainObj_wpAny_Assign_Attribute (thn (hv.run pins z σ H _ I h) fun w z1 hw => ?_) hs⟩
  obtain ⟨y, H1, I1, ry, q⟩ := hw
  refine thn (ha.run pins z1 σ H1 _ I1 q) fun w2 z2 hw2 => ?_
  obtain ⟨x, H2, I2, rx, a, dx, fs, ex, ea, l, q2⟩ := hw2
  subst ex
  cases (show w2 = Value.ref a from rx)
  exact setattr_ok I2 ea c n l ry fun _ I3 => ⟨σ, _, I3, q2⟩
end
section
variable {σ : St} {H : Hp} {Q : VK} {D0 : Ends} {ta tb te tv : TE} {x y v : V} {K : PySem.W.Frag} {C : Addr} {f : Str}
theorem Ext.mut {S} {p : Addr} {o o' : HO} (h : H p = some o) (n1 : ∀ xs, o ≠ .tup xs) (n2 : ∀ b u, o ≠ .frz b u) (hs : p ∈ S) : Ext S H (upd H p o') :=
  ⟨fun b u e n => by rw [upd_ne (fun z => n (by rw [z]; exact hs))]; exact e,
   fun b xs e => by rw [upd_ne (fun z => by rw [z, h] at e; exact n1 _ (Option.some.inj e))]; exact e,
   fun b w u e => by rw [upd_ne (fun z => by rw [z, h] at e; exact n2 _ _ (Option.some.inj e))]; exact e⟩
theorem w_fldC (h : ta σ H fun x H1 => ∃ a dx fs v, x = .ref a ∧ H1 a = some (.ins C dx fs) ∧ fs.lookup f = some v ∧ Q v H1) : tFldC C f ta σ H Q := h
theorem w_exfld {a dx : Addr} {fs : List (Str × V)} {A : V → Prop} (h1 : H a = some (.ins C dx fs)) (l : fs.lookup f = some v) (h : A v) : ∃ b dx fs v, V.ref a = .ref b ∧ H b = some (.ins C dx fs) ∧ fs.lookup f = some v ∧ A v := ⟨a, dx, fs, v, rfl, h1, l, h⟩
def SfOk (C : Addr) (f : Str) (x y : V) (H : Hp) (N : Hp → Prop) : Prop := ∃ a dx fs, x = .ref a ∧ H a = some (.ins C dx fs) ∧ fs.length < 1000 ∧ N (upd H a (.ins C dx (putF f y fs)))
theorem w_sfldC (h : tv σ H fun y H1 => ta σ H1 fun x H2 => SfOk C f x y H2 (D0.nx σ)) : sFldC C f ta tv D0 σ H := h
theorem w_exsfld {a dx : Addr} {fs gs : List (Str × V)} {A : Hp → Prop} (h1 : H a = some (.ins C dx fs)) (hl : fs.length < 1000) (e : putF f y fs = gs) (h : ∀ H', Ext [a] H H' → H' a = some (.ins C dx gs) → A H') :
    SfOk C f (.ref a) y H A := by
  subst e
  exact ⟨a, dx, fs, rfl, h1, hl, h _ (Ext.mut h1 (fun _ z => nomatch z) (fun _ _ z => nomatch z) (by simp)) upd_same⟩
def MakeOk (C : Addr) (sp : Sp) (vs : List V) (H : Hp) (Q : VK) (E : XK) : Prop := ∀ x dx, H x = none → H dx = none → dx ≠ x → sp (.ref x :: vs) (upd (upd H dx (.own x)) x (.ins C dx [])) (fun v H2 => v = .non ∧ Q (.ref x) H2) E
theorem w_make {sp : Sp} {E : XK} {t : TA} (h : t σ H fun vs H1 => MakeOk C sp vs H1 Q E) : tMake C sp [] E t σ H Q := by
  show t σ H fun vs H1 => ∀ x dx, H1 x = none → H1 dx = none → dx ≠ x → sp (.ref x :: (vs ++ [])) (upd (upd H1 dx (.own x)) x (.ins C dx [])) (fun v H2 => v = .non ∧ Q (.ref x) H2) E
  have e : (fun (vs : List V) (H1 : Hp) => ∀ x dx, H1 x = none → H1 dx = none → dx ≠ x → sp (.ref x :: (vs ++ [])) (upd (upd H1 dx (.own x)) x (.ins C dx [])) (fun v H2 => v = .non ∧ Q (.ref x) H2) E) = fun vs H1 => MakeOk C sp vs H1 Q E := by
    funext vs H1
    rw [List.append_nil]
    rfl
  rw [e]
  exact h
theorem w_made {sp : Sp} {E : XK} {vs : List V} (h : ∀ x H2, H x = none → Ext [] H H2 → (∃ dx, H2 x = some (.ins C dx [])) → sp (.ref x :: vs) H2 (fun v H3 => v = .non ∧ Q (.ref x) H3) E) : MakeOk C sp vs H Q E := fun x dx hx hd ne =>
  h x _ hx (Ext.new2 (Ext.new hd) (by rw [upd_ne (Ne.symm ne)]; exact hx)) ⟨dx, upd_same⟩
def MethOk (C : Addr) (m : Str) (x : V) (H : Hp) : Prop := ∃ a dx fs, x = .ref a ∧ H a = some (.ins C dx fs) ∧ fs.lookup m = none
theorem w_meth {m : Str} {sp : Sp} {E : XK} {t : TA} (h : ta σ H fun x H1 => ∃ a dx fs, x = .ref a ∧ H1 a = some (.ins C dx fs) ∧ fs.lookup m = none ∧ t σ H1 fun vs H2 => sp (x :: vs) H2 Q E) : tMeth C m sp [] E ta t σ H Q := by
  have e : (fun (x : V) (H1 : Hp) => ∃ a dx fs, x = .ref a ∧ H1 a = some (.ins C dx fs) ∧ fs.lookup m = none ∧ t σ H1 fun vs H2 => sp (x :: (vs ++ [])) H2 Q E) = fun x H1 => ∃ a dx fs, x = .ref a ∧ H1 a = some (.ins C dx fs) ∧ fs.lookup m = none ∧ t σ H1 fun vs H2 => sp (x :: vs) H2 Q E := by
    funext x H1
    have e2 : (fun (vs : List V) (H2 : Hp) => sp (x :: (vs ++ [])) H2 Q E) = fun vs H2 => sp (x :: vs) H2 Q E := by
      funext vs H2
      rw [List.append_nil]
    rw [e2]
  show ta σ H fun x H1 => ∃ a dx fs, x = .ref a ∧ H1 a = some (.ins C dx fs) ∧ fs.lookup m = none ∧ t σ H1 fun vs H2 => sp (x :: (vs ++ [])) H2 Q E
  rw [e]
  exact h
theorem w_exmeth {m : Str} {a dx : Addr} {fs : List (Str × V)} {A : Prop} (h1 : H a = some (.ins C dx fs)) (l : fs.lookup m = none) (h : A) : ∃ b dx fs, V.ref a = .ref b ∧ H b = some (.ins C dx fs) ∧ fs.lookup m = none ∧ A := ⟨a, dx, fs, rfl, h1, l, h⟩

/-! ### dicts with int keys -/
/-- the dict at a: f says what stands under each int; at most n entries -/
def DI (H : Hp) (a : Addr) (f : Int → Option V) (n : Nat) : Prop := ∃ kvs, H a = some (.dK kvs) ∧ (∀ i, valV kvs (Sum.inl i) = f i) ∧ kvs.length ≤ n
theorem DI.keep {H H' : Hp} {S : List Addr} {a : Addr} {g : Int → Option V} {n : Nat} (d : DI H a g n) (e : Ext S H H') (h : a ∉ S) : DI H' a g n := by
  obtain ⟨kvs, h1, h2, h3⟩ := d
  exact ⟨kvs, e.keep _ _ h1 h, h2, h3⟩
theorem DI.same {H H' : Hp} {a : Addr} {g : Int → Option V} {n : Nat} (d : DI H a g n) (e : Ext [] H H') : DI H' a g n := d.keep e (by simp)
theorem DI.there {H : Hp} {a : Addr} {g : Int → Option V} {n : Nat} (d : DI H a g n) : ∃ o, H a = some o := let ⟨_, h1, _⟩ := d; ⟨_, h1⟩
theorem DI.more {H : Hp} {a : Addr} {g : Int → Option V} {n m : Nat} (d : DI H a g n) (h : n ≤ m) : DI H a g m := let ⟨k, h1, h2, h3⟩ := d; ⟨k, h1, h2, Nat.le_trans h3 h⟩
def NewD (H : Hp) (Q : VK) : Prop := ∀ p, H p = none → Q (.ref p) (upd H p (.dK []))
theorem w_dnewK (h : NewD H Q) : tDNewK σ H Q := h
theorem w_newD (q : ∀ p H', H p = none → Ext [] H H' → DI H' p (fun _ => none) 0 → Q (.ref p) H') : NewD H Q := fun p hp => q p _ hp (Ext.new hp) ⟨[], upd_same, fun _ => rfl, Nat.le_refl _⟩
theorem w_dget (h : ta σ H fun x H1 => tb σ H1 fun y H2 => ∃ a v, x = .ref a ∧ DGet H2 a y (some v) ∧ Q v H2) : tDGet ta tb σ H Q := h
theorem d_get {a : Addr} {g : Int → Option V} {n : Nat} {i : Int} {A : V → Prop} (d : DI H a g n) (e : g i = some v) (h : A v) : ∃ b v, V.ref a = .ref b ∧ DGet H b (.int i) (some v) ∧ A v := by
  obtain ⟨kvs, h1, h2, _⟩ := d
  refine ⟨a, v, rfl, ?_, h⟩
  have q := DGet.k (k := Sum.inl i) h1
  rw [h2, e] at q
  exact q
theorem w_din (h : ta σ H fun y H1 => tb σ H1 fun x H2 => ∃ a o, x = .ref a ∧ DGet H2 a y o ∧ Q (.bl o.isSome) H2) : tDIn ta tb σ H Q := h
theorem w_dnotin (h : ta σ H fun y H1 => tb σ H1 fun x H2 => ∃ a o, x = .ref a ∧ DGet H2 a y o ∧ Q (.bl (!o.isSome)) H2) : tDNotIn ta tb σ H Q := h
theorem d_at {a : Addr} {g : Int → Option V} {n : Nat} {i : Int} (d : DI H a g n) : DGet H a (.int i) (g i) := by
  obtain ⟨kvs, h1, h2, _⟩ := d
  have q := DGet.k (k := Sum.inl i) h1
  rw [h2] at q
  exact q
theorem d_in {a : Addr} {g : Int → Option V} {n : Nat} {i : Int} {A : Option V → Prop} (d : DI H a g n) (h : A (g i)) : ∃ b o, V.ref a = .ref b ∧ DGet H b (.int i) o ∧ A o := ⟨a, _, rfl, d_at d, h⟩
theorem w_dput (h : tv σ H fun v H1 => ta σ H1 fun x H2 => tb σ H2 fun y H3 => ∃ a H4, x = .ref a ∧ DPut H3 a y v H4 ∧ D0.nx σ H4) : sDPut ta tb tv D0 σ H := h
theorem d_put {a : Addr} {g : Int → Option V} {n : Nat} {i : Int} {A : Hp → Prop} (d : DI H a g n) (hn : n < sizeLine) (h : ∀ H', Ext [a] H H' → DI H' a (fun j => if j = i then some v else g j) (n + 1) → A H') :
    ∃ b H4, V.ref a = .ref b ∧ DPut H b (.int i) v H4 ∧ A H4 := by
  obtain ⟨kvs, h1, h2, h3⟩ := d
  refine ⟨a, _, rfl, DPut.k (k := Sum.inl i) h1 (by omega), h _ (Ext.mut h1 (fun _ z => nomatch z) (fun _ _ z => nomatch z) (by simp)) ⟨_, upd_same, fun j => ?_, Nat.le_trans (length_putK _ _ _) (by omega)⟩⟩
  rw [valV_put]
  show _ = if j = i then some v else g j
  by_cases c : j = i
  · rw [if_pos c, if_pos (by rw [c])]
  · rw [if_neg c, if_neg (fun z => c (Sum.inl.inj z))]
    exact h2 j
theorem valV_drop {κ : Type} [DecidableEq κ] (k j : κ) : ∀ kvs : List (κ × V), valV (dropK kvs k) j = if j = k then none else valV kvs j
  | [] => by simp [dropK, valV_nil]
  | p :: r => by
    have ih := valV_drop k j r
    by_cases c : p.1 = k
    · rw [dropK_pos c, ih]
      by_cases e : j = k
      · rw [if_pos e, if_pos e]
      · rw [if_neg e, if_neg e, valV_neg (fun z => e (z.symm.trans c))]
    · rw [dropK_neg c]
      by_cases e : j = k
      · subst e
        rw [if_pos rfl, valV_neg c, ih, if_pos rfl]
      · rw [if_neg e]
        by_cases f : p.1 = j
        · rw [valV_pos f, valV_pos f]
        · rw [valV_neg f, valV_neg f, ih, if_neg e]
def DDelOk (x y : V) (H : Hp) (N : Hp → Prop) : Prop := ∃ a kvs k, x = .ref a ∧ H a = some (.dK kvs) ∧ y = kV k ∧ (valV kvs k).isSome = true ∧ N (upd H a (.dK (dropK kvs k)))
theorem w_ddel (h : ta σ H fun x H1 => tb σ H1 fun y H2 => DDelOk x y H2 (D0.nx σ)) : sDDel ta tb D0 σ H := h
theorem d_del {a : Addr} {g : Int → Option V} {n : Nat} {i : Int} {A : Hp → Prop} (d : DI H a g n) (e : (g i).isSome = true) (h : ∀ H', Ext [a] H H' → DI H' a (fun j => if j = i then none else g j) n → A H') :
    DDelOk (.ref a) (.int i) H A := by
  obtain ⟨kvs, h1, h2, h3⟩ := d
  refine ⟨a, kvs, Sum.inl i, rfl, h1, rfl, by rw [h2]; exact e, h _ (Ext.mut h1 (fun _ z => nomatch z) (fun _ _ z => nomatch z) (by simp)) ⟨_, upd_same, fun j => ?_, Nat.le_trans (dropK_le _ _) h3⟩⟩
  rw [valV_drop]
  show _ = if j = i then none else g j
  by_cases c : j = i
  · rw [if_pos c, if_pos (by rw [c])]
  · rw [if_neg c, if_neg (fun z => c (Sum.inl.inj z))]
    exact h2 j

theorem w_aug {te : TE} {ti : TIp} {i : Nat} (e : σ[i]? = some (some x)) (h : te σ H fun y H1 => ti x y H1 fun z H2 => D0.nx (σ.set i (some z)) H2) : tAug i te ti D0 σ H := ⟨x, e, h⟩
theorem w_ip {g : Int → Int → Int} {i j : Int} (h : Q (.int (g i j)) H) : ipI g (.int i) (.int j) H Q := ⟨i, j, rfl, rfl, h⟩
/-- a test of two parts that leave the heap as it is -/
theorem w_andB {c d : TT} {Q : Bool → Hp → Prop} (p q : Bool) (hc : ∀ R : Bool → Hp → Prop, R p H → c σ H R) (hd : p = true → ∀ R : Bool → Hp → Prop, R q H → d σ H R) (h : Q (p && q) H) : tAnd c d σ H Q := by
  refine hc _ ?_
  cases p with
  | true => exact hd rfl _ h
  | false => exact h
theorem w_orB {c d : TT} {Q : Bool → Hp → Prop} (p q : Bool) (hc : ∀ R : Bool → Hp → Prop, R p H → c σ H R) (hd : p = false → ∀ R : Bool → Hp → Prop, R q H → d σ H R) (h : Q (p || q) H) : tOr c d σ H Q := by
  refine hc _ ?_
  cases p with
  | true => exact h
  | false => exact hd rfl _ h
/-! ### list.insert, list.remove -/
def rInsert : V → List V → Hp → VK → Prop := fun x vs H Q => ∃ (l : Addr) (xs : List V) (i : Int) (y : V), x = .ref l ∧ vs = [.int i, y] ∧ H l = some (.lst xs) ∧ xs.length < sizeLine ∧ 0 ≤ i ∧ i < 2 ^ 63 ∧
    Q .non (upd H l (.lst (xs.take i.toNat ++ [y] ++ xs.drop i.toNat)))
theorem m_ins {l : Addr} {xs : List V} {i : Int} (hx : H l = some (.lst xs)) (hl : xs.length < sizeLine) (h0 : 0 ≤ i) (h1 : i < 9223372036854775808) (h : ∀ H', Ext [l] H H' → H' l = some (.lst (xs.take i.toNat ++ [y] ++ xs.drop i.toNat)) → Q .non H') : rInsert (.ref l) [.int i, y] H Q :=
  ⟨l, xs, i, y, rfl, rfl, hx, hl, h0, by omega, h _ (Ext.put hx (by simp)) upd_same⟩
theorem m_rem {l : Addr} {ns : List Int} {k : Int} {j : Nat} (hx : H l = some (.lst (ns.map V.int))) (e : ns[j]? = some k) (hno : ∀ m : Nat, m < j → ns[m]? ≠ some k) (h : ∀ H', Ext [l] H H' → H' l = some (.lst ((ns.eraseIdx j).map V.int)) → Q .non H') : rRemI (.ref l) [.int k] H Q :=
  ⟨l, ns, k, j, rfl, rfl, hx, e, hno, h _ (Ext.put hx (by simp)) upd_same⟩

/-! ### isinstance, a built-in class -/
theorem tyx_tup {ds : List D} (h : Rp K H x (.tup ds)) : TyX K H x (.type "tuple") := by
  obtain ⟨a, xs, rfl, h1, _⟩ := h.tupI
  rcases h1 with (h1 | ⟨o, h1⟩) | ⟨o, its, n, l, c, _⟩
  · exact .base (.tup h1)
  · exact .fTuple h1
  · exact .kTuple l c
theorem is_of {a b : String} {r : Bool} (t : TyX K H x (.type a)) (k : kitB a b = some r) (h : Q (.bl r) H) : rIsi K [x, .ty b] H Q := ⟨x, .ty b, _, _, r, rfl, .ty b, t, kit_ty k, h⟩
theorem is_lst {a : Addr} {xs : List V} {b : String} {r : Bool} (e : H a = some (.lst xs)) (k : kitB "list" b = some r) (h : Q (.bl r) H) : rIsi K [.ref a, .ty b] H Q := is_of (.base (.lst e)) k h
theorem is_tup {ds : List D} {b : String} {r : Bool} (e : Rp K H x (.tup ds)) (k : kitB "tuple" b = some r) (h : Q (.bl r) H) : rIsi K [x, .ty b] H Q := is_of (tyx_tup e) k h
theorem is_int {i : Int} {b : String} {r : Bool} (k : kitB "int" b = some r) (h : Q (.bl r) H) : rIsi K [.int i, .ty b] H Q := is_of (.base (.int i)) k h
theorem is_str {i : Str} {b : String} {r : Bool} (k : kitB "str" b = some r) (h : Q (.bl r) H) : rIsi K [.str i, .ty b] H Q := is_of (.base (.str i)) k h
theorem is_bl {i : Bool} {b : String} {r : Bool} (k : kitB "bool" b = some r) (h : Q (.bl r) H) : rIsi K [.bl i, .ty b] H Q := is_of (.base (.bl i)) k h
end
end Go
namespace Go
open PySem L2
/-! ### methods and makers with their contract -/
structure HasM (P : Program) (w : World) (K : PySem.W.Frag) (mg : Str → Option Value) (base : Heap) (CX : CXT) (k : Nat) (C : Addr) (m : Str) (ps : List Str) (sp : Sp) : Prop where
  ex : ∃ (f : Addr) (fd : FuncData), FnOk P w K mg base CX k f fd ps sp ∧ Meth K C m f ∧ Binds K fd ps []
structure HasI (P : Program) (w : World) (K : PySem.W.Frag) (mg : Str → Option Value) (base : Heap) (CX : CXT) (k : Nat) (x : Str) (C : Addr) (ps : List Str) (sp : Sp) : Prop where
  ex : ∃ (f : Addr) (fd : FuncData), FnOk P w K mg base CX k f fd ps sp ∧ Mk K C f ∧ mg x = some (.ref C) ∧ Binds K fd ps []
structure DfnM (K : PySem.W.Frag) (m qual : Str) (C : Addr) (st : Stmt) (ps : List Str) : Prop where
  ex : ∃ (f : Addr) (fd : FuncData), Fun K m qual st f fd ∧ Meth K C m f ∧ Binds K fd ps []
structure DfnI (K : PySem.W.Frag) (mg : Str → Option Value) (m qual x : Str) (C : Addr) (st : Stmt) (ps : List Str) : Prop where
  ex : ∃ (f : Addr) (fd : FuncData), Fun K m qual st f fd ∧ Mk K C f ∧ mg x = some (.ref C) ∧ Binds K fd ps []
section
variable {P : Program} {w : World} {K : PySem.W.Frag} {mg : Str → Option Value} {base : Heap} {CX : CXT} {k : Nat} {C : Addr} {m qual x : Str} {ps : List Str} {sp : Sp} {st : Stmt}
theorem DfnM.has (D : DfnM K m qual C st ps) (h : ∀ f fd, Fun K m qual st f fd → FnOk P w K mg base CX k f fd ps sp) : HasM P w K mg base CX k C m ps sp := by
  obtain ⟨f, fd, F, me, b⟩ := D.ex
  exact ⟨f, fd, h f fd F, me, b⟩
theorem DfnI.has (D : DfnI K mg m qual x C st ps) (h : ∀ f fd, Fun K m qual st f fd → FnOk P w K mg base CX k f fd ps sp) : HasI P w K mg base CX k x C ps sp := by
  obtain ⟨f, fd, F, mk, g, b⟩ := D.ex
  exact ⟨f, fd, h f fd F, mk, g, b⟩
end
section
variable {X : Cx} {CX : CXT} {k : Nat} {C : Addr} {m x : Str} {ps : List Str} {sp : Sp} {E : XK} {p pos apos : Pos} {e o : Expr} {es : List Expr} {t : TA} {ta : TE}
theorem pe_methH {pl : Sem Bool} (c : Cls X.K C) (h : HasM X.prog X.w X.K X.mg X.base CX k C m ps sp) (hr : Room k X.A) (hx : Passes CX X E) (he : PE X o ta) (ha : PA X (e :: es) t)
    (hst : starEach (e :: es) X.env = (false, eval e X.env) :: starEach es X.env := by rfl) (hpl : (backTo pos (starEach es X.env)).any (·.1) = false := by rfl)
    (ht : eval (.Call (.Attribute o m apos) (e :: es) [] pos) X.env = (do
      let ov ← eval o X.env
      standAt apos.atName
      let fm ← holding [ov] (getMethod ov m pl)
      callWith pos fm.1 fm.2 (backTo pos (starEach (e :: es) X.env)) (backToKw pos (keywordEach [] X.env))) := by rfl) :
    PE X (.Call (.Attribute o m apos) (e :: es) [] pos) (tMeth C m sp [] E ta t) := by
  obtain ⟨f, fd, F, me, b⟩ := h.ex
  exact pe_meth he c me F hr b .nil hx ha hst hpl ht
theorem pe_methH0 {pl : Sem Bool} (c : Cls X.K C) (h : HasM X.prog X.w X.K X.mg X.base CX k C m ps sp) (hr : Room k X.A) (hx : Passes CX X E) (he : PE X o ta)
    (ht : eval (.Call (.Attribute o m apos) [] [] pos) X.env = (do
      let ov ← eval o X.env
      standAt apos.atName
      let fm ← holding [ov] (getMethod ov m pl)
      callWith pos fm.1 fm.2 (backTo pos (starEach [] X.env)) (backToKw pos (keywordEach [] X.env))) := by rfl) :
    PE X (.Call (.Attribute o m apos) [] [] pos) (tMeth C m sp [] E ta tNil) := by
  obtain ⟨f, fd, F, me, b⟩ := h.ex
  exact pe_meth0 he c me F hr b .nil hx ht
theorem pe_makeH (h : HasI X.prog X.w X.K X.mg X.base CX k x C ps sp) (hr : Room (k + 1) X.A) (hg : Gl X x) (hx : Passes CX X E) (ha : PA X (e :: es) t)
    (hdb : (x == ("__debug__" : Str)) = false := by decide) (he : starEach (e :: es) X.env = (false, eval e X.env) :: starEach es X.env := by rfl) (hpl : (backTo pos (starEach es X.env)).any (·.1) = false := by rfl) :
    PE X (.Call (.Name x p) (e :: es) [] pos) (tMake C sp [] E t) := by
  obtain ⟨f, fd, F, mk, g, b⟩ := h.ex
  exact pe_make mk F hr hg g b .nil hx ha hdb he hpl
theorem pe_makeH0 (h : HasI X.prog X.w X.K X.mg X.base CX k x C ps sp) (hr : Room (k + 1) X.A) (hg : Gl X x) (hx : Passes CX X E) (hdb : (x == ("__debug__" : Str)) = false := by decide) :
    PE X (.Call (.Name x p) [] [] pos) (tMake C sp [] E tNil) := by
  obtain ⟨f, fd, F, mk, g, b⟩ := h.ex
  exact pe_make0 mk F hr hg g b .nil hx hdb
end
end Go

set_option Elab.async false
set_option linter.all false
set_option maxRecDepth 100000
set_option maxHeartbeats 4000000
/-! Exn: own exceptions without __init__: raise, try .. except X as e, isinstance of the caught one (one class, a tuple of classes); texts by place; str(int); **. -/
namespace Go
open PySem L2
/-- the module's name x holds an own exception class without __init__, an heir of ValueError -/
structure ExO (K : PySem.W.Frag) (mg : Str → Option Value) (x : Str) (C : Addr) : Prop where
  q : PySem.W.excIn K C [.type "ValueError", .type "Exception", .type "BaseException", .type "object"] "ValueError.__new__" = true
  gC : mg x = some (.ref C)
  kC : PySem.W.keepIn K (.ref C) = true
  s1 : PySem.W.subIn K (.ref C) (.type "BaseException") = some true
  t1 : PySem.W.typeIn K (.ref C) = some (.type "type")
def tRaiseC (C : Addr) (E : XK) : TS := fun _ _ H => E (.ref C) none H
theorem ps_raiseC {X : Cx} {E : XK} {C : Addr} {x m : Str} {j : Nat} {p p2 pos pos2 : Pos} (hc : X.calm = true) (tk : Takes X (fun cls d _ H => E cls d H)) (e : ExO X.K X.mg x C) (hg : Gl X x) (hdb : (x == ("__debug__" : Str)) = false := by decide) :
    PS X (.Raise (some (.Call (.Name x p) [.Constant (.str m) j p2] [] pos)) none pos2) (tRaiseC C E) :=
  ps_raise hc tk (pmk_own F.excBase_ValueError e.q e.gC e.kC (raises_own e.s1 e.t1) hg hdb)
def rIsX (K : PySem.W.Frag) (cls : Value) (d : Option Addr) (a : Addr) : List V → Hp → VK → Prop := fun xs H Q => ∃ (D : Addr) (c : V) (cv : Value) (b : Bool), cls = .ref D ∧ d = none ∧ ExcC K D ∧ xs = [.ref a, c] ∧ ClsV c cv ∧ PySem.W.kitOne K (.ref D) cv = some b ∧ Q (.bl b) H
def rIsXT (K : PySem.W.Frag) (cls : Value) (d : Option Addr) (a : Addr) : List V → Hp → VK → Prop := fun xs H Q => ∃ (D tp : Addr) (cs : List V) (us : List Value) (b : Bool), cls = .ref D ∧ d = none ∧ ExcC K D ∧ xs = [.ref a, .ref tp] ∧ H tp = some (.tup cs) ∧ Paired ClsV cs us ∧ PySem.W.kitAny K (.ref D) us = some b ∧ Q (.bl b) H
section
variable {X : Cx} {a : Addr} {oe : Obj} {cls : Value} {d : Option Addr} {pn : List (Addr × Obj)}
theorem call_isX (hz : Zc cls d oe) (hf : ∃ vs, oe.data = .fields vs) : CallR (X.suite a ((a, oe) :: pn)) (.builtin "isinstance") (rIsX X.K cls d a) := by
  intro pins s σ H xs us Q I r h
  obtain ⟨D, c, cv, b, rfl, rfl, C, rfl, k, e, q⟩ := h
  exact call_isE C hz hf pins s σ H _ us Q I r ⟨c, cv, b, rfl, fun u ru => k.eq ru, e, q⟩
theorem call_isXT (hz : Zc cls d oe) (hf : ∃ vs, oe.data = .fields vs) : CallR (X.suite a ((a, oe) :: pn)) (.builtin "isinstance") (rIsXT X.K cls d a) := by
  intro pins s σ H xs us Q I r h
  obtain ⟨D, tp, cs, ws, b, rfl, rfl, C, rfl, hT, k, e, q⟩ := h
  cases r with
  | cons rx rr =>
    cases rr with
    | cons rt rr =>
      cases rr
      cases rx
      cases rt
      obtain ⟨hget, _⟩ := I.pin (a, oe) (List.mem_append.mpr (.inl List.mem_cons_self))
      obtain ⟨vs, hv⟩ := hf
      have J : PySem.W.InstAt s.heap a oe D none := by
        obtain ⟨oc, od, oda, osl⟩ := oe
        obtain ⟨h1, h2⟩ := hz
        dsimp only at h1 h2 hv
        subst h1 h2 hv
        exact ⟨hget, rfl, rfl, trivial⟩
      obtain ⟨_, its, rv, o, h1, h2, n, h3⟩ := (show ObjOk X.prog X.w H s.heap tp (.tup cs) from I.hok tp _ hT)
      have e3 := ClsV.all k rv
      subst e3
      obtain ⟨oc, od, dt, sl⟩ := o
      simp only at h2 h3
      subst h2 h3
      exact PySem.W.kia_tup (PySem.W.handS_kitx_exc C.hg C.hk C.hs C.hd C.ha C.hn C.ht C.hm) I.kIn J h1 e (fun z => nomatch z) fun tk => ⟨.bl b, H, I.kept (t' := tk) fun _ _ z => z, rfl, q⟩
end
/-- a call, within a try, of a def that may raise -/
theorem pe_callSH {X : Cx} {k : Nat} {x : Str} {ps : List Str} {sp : Sp} {W : WX} {p pos : Pos} {e : Expr} {es : List Expr} {t : TA} (h : Has X.prog X.w X.K X.mg X.base (L2.CX X.prog X.w) k x ps sp) (hr : Room k X.A) (hg : Gl X x) (tk : Takes X W)
    (ha : PA X (e :: es) t) (hdb : (x == ("__debug__" : Str)) = false := by decide) (he : starEach (e :: es) X.env = (false, eval e X.env) :: starEach es X.env := by rfl) (hpl : (backTo pos (starEach es X.env)).any (·.1) = false := by rfl) :
    PE X (.Call (.Name x p) (e :: es) [] pos) (tCallS sp (WE W) t) := by
  obtain ⟨f, fd, F, m, kp, b⟩ := h.ex
  exact pe_callS F hr hg m kp b (fun σ => passAt tk σ) ha hdb he hpl
/-- elsewhere: a def that may raise, and does not -/
theorem passX {X : Cx} : Passes (L2.CX X.prog X.w) X E0 := passes_call (W := fun _ _ _ _ => False) takes0 (fun _ _ _ _ h => h)
section
variable {σ : St} {H : Hp} {Q : VK} {D0 : Ends} {K : PySem.W.Frag} {C a : Addr}
theorem w_callS {sp : Sp} {E : St → XK} {t : TA} (h : t σ H fun vs H1 => sp vs H1 Q (E σ)) : tCallS sp E t σ H Q := h
theorem w_raiseC {E : XK} (h : E (.ref C) none H) : tRaiseC C E D0 σ H := h
/-- a text by place -/
theorem x_str {z : Str} {i : Int} {c : Nat} (hz : z.length ≤ sizeLine) (e : atI z.cps.toList i = some c) (h : Q (.str ⟨#[c]⟩) H) : rIx K (.str z) (.int i) H Q := .inr (.inr ⟨z, i, c, rfl, rfl, hz, e, h⟩)
def rStrI : List V → Hp → VK → Prop := fun xs H Q => ∃ i : Int, xs = [.int i] ∧ i.natAbs.log2 < 1920 ∧ Q (.str (toString i)) H
theorem b_str {i : Int} (h1 : i.natAbs.log2 < 1920) (h : Q (.str (toString i)) H) : rStrI [.int i] H Q := ⟨i, rfl, h1, h⟩
def rPowI : R2 := rI CPow fun i j => .int (i ^ j.toNat)
theorem r_pow {i j : Int} (c : CPow i j) (h : Q (.int (i ^ j.toNat)) H) : rPowI (.int i) (.int j) H Q := r_iC c h
theorem m_rep {l : Addr} {k : Int} {xs : List V} (hx : H l = some (.lst xs)) (h1 : -9223372036854775808 ≤ k) (h2 : k < 9223372036854775808) (hz : xs.length * k.toNat ≤ sizeLine) (h : ∀ p H', H p = none → Ext [] H H' → H' p = some (.lst (List.replicate k.toNat xs).flatten) → Q (.ref p) H') : rRep (.ref l) (.int k) H Q :=
  ⟨l, k, xs, rfl, rfl, hx, by omega, by omega, hz, fun p hp => h p _ hp (Ext.new hp) upd_same⟩
theorem b_lstT {x : V} {ds : List D} (hx : Rp K H x (.tup ds)) (h : ∀ p H' xs, H p = none → Ext [] H H' → H' p = some (.lst xs) → RpAll K H' xs ds → Q (.ref p) H') : rLstOf K [x] H Q := by
  obtain ⟨a, xs, rfl, h1, h2⟩ := hx.tupI
  exact ⟨a, xs, rfl, .inr h1, fun l hl => h l _ xs hl (Ext.new hl) upd_same (RpAll.mono (Ext.new (S := []) hl) h2)⟩
/-- what is walked may be a list or a tuple -/
def iSeqK (K : PySem.W.Frag) (te : TE) : TI := fun σ H R => iList K te σ H R ∨ iTup K te σ H R
theorem pi_seqK {X : Cx} {tg l : Expr} {tl : TE} (hl : PE X l tl) : PI X tg l (iSeqK X.K tl) := by
  refine ⟨fun pins s σ H R I h => ?_⟩
  rcases h with h | h
  · exact (pi_list hl).run pins s σ H R I h
  · exact (pi_tup hl).run pins s σ H R I h
end
end Go
namespace Go
open PySem L2
/-- try: .. except X as e: .. , X's class at c, e's slot i -/
def tTryAs (K : PySem.W.Frag) (c : Value) (i : Nat) (tb : WX → TS) (ts : Addr → Value → Option Addr → TS) : TS := fun D σ H => tb (wAs K c i ts (fun _ _ _ _ => False) D) D σ H
end Go
namespace Go
open PySem L2
section
variable {σ : St} {H : Hp} {D0 : Ends} {K : PySem.W.Frag}
/-- over the items of a tuple, any target -/
theorem f_tupG {a : Addr} {g : TG} {ds : List D} {tb : TS} (W : Nat → St → Hp → Prop) (h0 : W 0 σ H) (hk : ∀ i σ H, i ≤ ds.length → W i σ H → Rp K H (.ref a) (.tup ds))
    (hs : ∀ i d v σ H, ds[i]? = some d → Rp K H v d → W i σ H → g v σ H fun σ2 H2 => tb { D0 with nx := W (i + 1), ct := W (i + 1), bk := D0.nx } σ2 H2) (hd : ∀ σ H, W ds.length σ H → D0.nx σ H) :
    ForOk (Itt K a) g tb D0 σ H := by
  refine ⟨fun i m σ H => m = ds.length - i ∧ i ≤ ds.length ∧ W i σ H, ⟨ds.length, by simp, Nat.zero_le _, h0⟩, ?_⟩
  rintro i m σ H ⟨rfl, hi, p⟩
  obtain ⟨a', xs', e, k1, k2⟩ := (hk i σ H hi p).tupI
  cases e
  have hl := k2.length
  by_cases hlt : i < ds.length
  · refine .inr ⟨⟨xs', xs'[i]'(by omega), k1, by simp [show i < xs'.length by omega]⟩, W (i + 1), fun σ' H' p' => ⟨ds.length - (i + 1), by omega, rfl, hlt, p'⟩, fun x H' y => ?_⟩
    obtain ⟨e, y⟩ := y
    subst e
    obtain ⟨d, hd1, hr⟩ := k2.get (y xs' k1)
    exact hs i d x σ _ hd1 hr p
  · have e : i = ds.length := by omega
    subst e
    exact .inl ⟨⟨xs', k1, by omega⟩, hd σ H p⟩
theorem w_gT2 {i j : Nat} {v : V} {d1 d2 : D} {Q : St → Hp → Prop} (hv : Rp K H v (.tup [d1, d2])) (h : ∀ v1 v2, Rp K H v1 d1 → Rp K H v2 d2 → Q ((σ.set i (some v1)).set j (some v2)) H) : gTup K 2 (gCons (gName i) (gCons (gName j) gNil)) v σ H Q := by
  obtain ⟨a, xs, rfl, h1, h2⟩ := hv.tupI
  cases h2 with
  | cons r1 h2 =>
    cases h2 with
    | cons r2 h2 =>
      cases h2
      exact ⟨a, _, rfl, h1, rfl, _, _, rfl, _, _, rfl, rfl, h _ _ r1 r2⟩
end
end Go
namespace Go
open PySem L2
theorem kit_ref {K : PySem.W.Frag} {t : Value} {C : Addr} {b : Bool} (hne : (t == Value.ref C) = false) (h1 : PySem.W.isClsIn K C = true) (h2 : PySem.W.typeIn K (.ref C) = some (.type "type")) (h3 : PySem.W.subIn K t (.ref C) = some b) : PySem.W.kitOne K t (.ref C) = some b := by
  have e2 : ((PySem.W.clsIn K C).isSome && PySem.W.typeIn K (.ref C) == some (.type "type")) = true := by
    have h1' : (PySem.W.clsIn K C).isSome = true := h1
    rw [h1', h2] <;> rfl
  show (if (t == Value.ref C) = true then some true else if ((PySem.W.clsIn K C).isSome && PySem.W.typeIn K (.ref C) == some (.type "type")) = true then PySem.W.subIn K t (.ref C) else none) = some b
  rw [if_neg (by rw [hne]; decide), if_pos e2]
  exact h3
theorem kit_type {K : PySem.W.Frag} {D : Addr} {T : String} {b : Bool} (h2 : PySem.W.kitMeta T = true) (h3 : PySem.W.subIn K (.ref D) (.type T) = some b) : PySem.W.kitOne K (.ref D) (.type T) = some b := by
  show (if (Value.ref D == Value.type T) = true then some true else if PySem.W.kitMeta T = true then PySem.W.subIn K (.ref D) (.type T) else none) = some b
  rw [if_neg (by simp), if_pos h2]
  exact h3
theorem exm_at {K : PySem.W.Frag} {cls : Value} {C : Addr} {b : Bool} (h0 : PySem.W.subIn K (.ref C) (.type "BaseException") = some true) (h1 : PySem.W.isClsIn K C = true) (h2 : PySem.W.typeIn K (.ref C) = some (.type "type")) (h3 : PySem.W.subIn K cls (.ref C) = some b) : PySem.W.exmOne K cls (.ref C) = some b := by
  have e1 : (PySem.W.subIn K (.ref C) (.type "BaseException") == some true) = true := by rw [h0] <;> rfl
  have e2 : ((PySem.W.clsIn K C).isSome && PySem.W.typeIn K (.ref C) == some (.type "type")) = true := by
    have h1' : (PySem.W.clsIn K C).isSome = true := h1
    rw [h1', h2] <;> rfl
  show (if (PySem.W.subIn K (.ref C) (.type "BaseException") == some true) = true then (if ((PySem.W.clsIn K C).isSome && PySem.W.typeIn K (.ref C) == some (.type "type")) = true then PySem.W.subIn K cls (.ref C) else none) else none) = some b
  rw [if_pos e1, if_pos e2]
  exact h3
end Go

set_option Elab.async false
set_option linter.all false
set_option maxRecDepth 100000
set_option maxHeartbeats 4000000
/-! TryAs: try .. except X as e: .. except Y as f: .. (several clauses, each with a name). -/
namespace Go
open PySem L2 PySem.Spec PyProof.Rows
abbrev Cl := Value × Nat × (Addr → Value → Option Addr → TS)
def unset (i : Nat) (D : Ends) : Ends := { nx := fun σ H => D.nx (σ.set i none) H, rt := D.rt, bk := fun σ H => D.bk (σ.set i none) H, ct := fun σ H => D.ct (σ.set i none) H }
/-- what the clauses wish, one after the other -/
def wCls (K : PySem.W.Frag) (Wout : WX) (D : Ends) : List Cl → WX
  | [] => Wout
  | (c, i, ts) :: r => fun cls d σ H => ∃ b, PySem.W.exmOne K cls c = some b ∧ (b = true → ∀ a, H a = none → ts a cls d (unset i D) (σ.set i (some (.ref a))) H) ∧ (b = false → wCls K Wout D r cls d σ H)
inductive Clauses (X : Cx) : List ExceptHandler → List Cl → Prop
  | nil : Clauses X [] []
  | cons {x n : Str} {c : Value} {i : Nat} {ts : Addr → Value → Option Addr → TS} {b₀ : Stmt} {suite : List Stmt} {np pos' : Pos} {hds : List ExceptHandler} {l : List Cl} (hc : Names X x c) (hi : X.N[i]? = some n) (hln : X.env.kindOf n = some .local)
      (hsu : ∀ (a : Addr) (oe : Obj) (cls : Value) (d : Option Addr) (pn : List (Addr × Obj)), Zc cls d oe → (∃ vs, oe.data = .fields vs) → PSs (X.suite a ((a, oe) :: pn)) (b₀ :: suite) (ts a cls d)) (r : Clauses X hds l) :
      Clauses X (.ExceptHandler (some (.Name x np)) (some n) (b₀ :: suite) pos' :: hds) ((c, i, ts) :: l)
section
variable {X : Cx} {body : List Stmt} {h₀ : ExceptHandler} {hds : List ExceptHandler} {l : List Cl} {pos : Pos} {tb : WX → TS} {Wout : WX}
/-- what one state behind the landing is known to have -/
theorem ps_tries (hs : X.stack = X.env :: X.outer) (hf : X.env.frame = some X.env.locals) (hN : X.N.Nodup) (tk : Takes X Wout)
    (hb : ∀ (W : WX) (pn : List (Addr × Obj)) (xe : Value → Shared → Prop), Takes (X.tr pn xe) W → PassesOwn (model X.prog X.w) X.A X.env xe → PSs (X.tr pn xe) body (tb W))
    (hh : Clauses X (h₀ :: hds) l) : PS X (.Try body (h₀ :: hds) [] [] pos) (fun D σ H => tb (wCls X.K Wout D l) D σ H) := by
  refine ⟨fun pins s σ H D I h => ?_⟩
  have ok := I.ok
  have hfr : X.A.frames = some (X.env :: X.outer) := ok.frames.trans (by rw [hs])
  refine wpAny_Try_except ?_
  refine wpAny_mono ((hb (wCls X.K Wout D l) (X.pn ++ pins) (fun e s₁ => wpAny (model X.prog X.w) X.A (noteFrame e X.env) (fun _ s₂ => wpAny (model X.prog X.w) X.A (setFlight e none) (fun _ s₃ =>
    wpAny (model X.prog X.w) X.A (handleBy e X.env (h₀ :: hds)) (SP X pins D) X.xe s₃) X.xe s₂) X.xe s₁) (fun u s' xx => ?_) PassesOwn.looking).run [] s σ H D (I.toTry _) h) (fun f s1 hsp => ?_) (fun _ _ z => z)
  case refine_2 =>
    cases f with
    | next => obtain ⟨σ1, H1, J1, q1⟩ := hsp; exact wpAny_execs_nil ⟨σ1, H1, J1.ofTry ok, q1⟩
    | brk => obtain ⟨σ1, H1, J1, q1⟩ := hsp; exact ⟨σ1, H1, J1.ofTry ok, q1⟩
    | cont => obtain ⟨σ1, H1, J1, q1⟩ := hsp; exact ⟨σ1, H1, J1.ofTry ok, q1⟩
    | ret u => obtain ⟨v, σ1, H1, J1, r1, q1⟩ := hsp; exact ⟨v, σ1, H1, J1.ofTry ok, r1, q1⟩
  obtain ⟨a, B, sI, pins', σ', H', cls, d, rfl, J', nb, up, sky, na, os, ag, w⟩ := xx
  have J : Inv X pins σ' H' sI := J'.ofTry ok
  have sky2 : Sky B (X.env :: X.outer) a (Zc cls d) X.env.locals s'.heap := hs ▸ sky
  refine Sky.land Zc.steady hfr hf sky2 fun h3 fl3 up3 => ?_
  have J3 : Inv X pins σ' H' { s' with heap := h3 } := J.landed nb fl3.1 (up.trans up3) os ag
  obtain ⟨oe3, vs3, he3, hz3, hd3⟩ := fl3.there
  have nfr : a ∉ frs (X.env :: X.outer) := fun hm => by
    obtain ⟨_, o2, e2, hnf⟩ := (fl3.2.2.1).mem hm
    rw [he3] at e2
    cases e2
    exact hnf _ hd3
  have nL : a ≠ X.env.locals := fun z => nfr (List.mem_filterMap.mpr ⟨X.env, List.mem_cons_self, by rw [hf, z]⟩)
  have nF : a ∉ X.fs := fun hm => by
    obtain ⟨e, he, q⟩ := List.mem_filterMap.mp hm
    exact nfr (List.mem_filterMap.mpr ⟨e, List.mem_cons_of_mem _ he, q⟩)
  have S3 := J3.suite he3 hd3 na nL nF
  have LT : PySem.W.Looks (model X.prog X.w) h3 (typeOf (.ref a)) cls := fun A Q E s k q => wpAny_typeOf_ref (k _ _ he3) (by rw [hz3.1]; exact q)
  -- the clauses, from the first on
  suffices go : ∀ {hds' : List ExceptHandler} {l' : List Cl}, Clauses X hds' l' → wCls X.K Wout D l' cls d σ' H' → wpAny (model X.prog X.w) X.A (handleBy (.ref a) X.env hds') (SP X pins D) X.xe { s' with heap := h3 } from go hh w
  intro hds' l' hk
  induction hk with
  | nil =>
    intro w
    refine wpAny_handleBy_nil ?_
    obtain ⟨k1, k2, k3, oe, vs, T, oT, ts', he, hz, hd, h1, hr⟩ := id fl3
    unfold PySem.passOn
    refine wpAny_bind (wpAny_field he hd h1 ?_)
    rw [if_neg (show ¬ ((Value.ref T == Value.none) = true) from by simp)]
    have fin : wpAny (model X.prog X.w) X.A (setFlight (.ref a) X.env.frame) (fun _ s4 => wpAny (model X.prog X.w) X.A (throw (.ref a) : Sem Flow) (SP X pins D) X.xe s4) X.xe { s' with heap := h3 } := by
      rw [hf]
      exact HandSPX.setFlight_upZ fl3 fun h4 hh4 up4 => wpAny_throw (tk _ _ ⟨a, B, sI, pins, σ', H', cls, d, rfl, J, nb, (up.trans up3).trans up4, .inr (.inr (hs ▸ hh4)), na, os, ag, w⟩)
    first
      | exact wpAny_bind (wpAny_pure (wpAny_bind fin))
      | exact wpAny_bind fin
  | @cons x n c i ts b₀ suite np pos' hds2 l2 hc hi hln hsu r ih =>
    rintro ⟨b, hb1, hyes, hno⟩
    refine wpAny_handleBy_cons (codeAny_handlers_test ?_) (by intro q; cases q)
    have LM := PySem.W.exm_one (M := model X.prog X.w) (J3.kIn) LT hb1
    have named : ∀ {Q E : Value → Shared → Prop}, Q c { s' with heap := h3 } → wpAny (model X.prog X.w) (X.A.mark (some (.ref a))) (eval (.Name x np) X.env) Q E { s' with heap := h3 } := fun {Q E} q => by
      rcases hc with ⟨hg, hdbg, hm | ⟨hm, hv, hnn⟩⟩
      · exact ld_glob (X := X.suite a ((a, oe3) :: (X.pn ++ pins))) S3 hg hm q hdbg
      · exact ld_blt (X := X.suite a ((a, oe3) :: (X.pn ++ pins))) S3 hg hm hv q hnn hdbg
    refine named (LM.here ?_)
    cases b with
    | false => exact ih (hno rfl)
    | true =>
      refine codeAny_handlers_suite_as ?_
      refine HandSPX.lands_againZ fl3 fun h4 fl4 up4 => ?_
      have J4 : Inv X pins σ' H' { s' with heap := h4 } := J.landed nb fl4.1 ((up.trans up3).trans up4) os ag
      obtain ⟨oe4, vs4, he4, hz4, hd4⟩ := fl4.there
      refine store_ok (X := X.suite a ((a, oe4) :: (X.pn ++ pins))) (v := .ref a) (J4.suite he4 hd4 na nL nF) hN hi (.inl hln) rfl (fun s5 S5 => ?_) (.inr hln)
      refine wpAny_mono ((hsu a oe4 cls d (X.pn ++ pins) hz4 ⟨_, hd4⟩).run [] s5 _ H' _ S5 (hyes rfl a na)) (fun f s6 hsp => ?_) (fun _ _ z => False.elim z)
      cases f with
      | next => obtain ⟨σ6, H6, S6, q6⟩ := hsp; exact gone_ok (S6.unsuite ok) hN hi hln fun s7 J7 => ⟨_, _, J7, q6⟩
      | brk => obtain ⟨σ6, H6, S6, q6⟩ := hsp; exact gone_ok (S6.unsuite ok) hN hi hln fun s7 J7 => ⟨_, _, J7, q6⟩
      | cont => obtain ⟨σ6, H6, S6, q6⟩ := hsp; exact gone_ok (S6.unsuite ok) hN hi hln fun s7 J7 => ⟨_, _, J7, q6⟩
      | ret u => obtain ⟨v6, σ6, H6, S6, r6, q6⟩ := hsp; exact gone_ok (S6.unsuite ok) hN hi hln fun s7 J7 => ⟨_, _, _, J7, r6, q6⟩
end
/-- try with named clauses; what no clause takes is not raised -/
def tTries (K : PySem.W.Frag) (l : List Cl) (tb : WX → TS) : TS := fun D σ H => tb (wCls K (fun _ _ _ _ => False) D l) D σ H
end Go

set_option Elab.async false
set_option linter.all false
set_option maxRecDepth 100000
set_option maxHeartbeats 4000000
/-! Kw: defs with parameters behind *: called with keywords in the parameters' order. -/
namespace Go
open PySem L2 PySem.Spec PyProof.Rows
/-- np positional values, then the keywords' values -/
def gK {α : Type} (np : Nat) (us ws : List α) : List α := if us.length = np then us ++ ws else []
theorem gK_rel {np : Nat} {vs : List V} {us : List Value} {zs : List V} {ws : List Value} (h1 : Vals vs us) (h2 : Vals zs ws) : Vals (gK np vs zs) (gK np us ws) := by
  unfold gK
  rw [h1.length]
  by_cases c : us.length = np
  · rw [if_pos c, if_pos c]
    exact h1.append h2
  · rw [if_neg c, if_neg c]
    exact .nil
structure HasK (P : Program) (w : World) (K : PySem.W.Frag) (mg : Str → Option Value) (base : Heap) (CX : CXT) (k : Nat) (x : Str) (np : Nat) (ps ks : List Str) (sp : Sp) : Prop where
  ex : ∃ (f : Addr) (fd : FuncData), FnOk P w K mg base CX k f fd ps sp ∧ mg x = some (.ref f) ∧ PySem.W.keepIn K (.ref f) = true ∧ KBinds K fd ps ks (gK np) (gK np)
structure DfnK (K : PySem.W.Frag) (mg : Str → Option Value) (x : Str) (st : Stmt) (np : Nat) (ps ks : List Str) : Prop where
  ex : ∃ (f : Addr) (fd : FuncData), Fun K x x st f fd ∧ mg x = some (.ref f) ∧ KBinds K fd ps ks (gK np) (gK np)
theorem DfnK.has {P : Program} {w : World} {K : PySem.W.Frag} {mg : Str → Option Value} {base : Heap} {CX : CXT} {k : Nat} {x : Str} {np : Nat} {ps ks : List Str} {sp : Sp} {st : Stmt} (D : DfnK K mg x st np ps ks) (h : ∀ f fd, Fun K x x st f fd → FnOk P w K mg base CX k f fd ps sp) : HasK P w K mg base CX k x np ps ks sp := by
  obtain ⟨f, fd, F, m, b⟩ := D.ex
  exact ⟨f, fd, h f fd F, m, F.kp, b⟩
/-- how its arguments bind: h is «fun _ _ _ _ _ _ us ws hl => match us, ws, hl with | [_], [_, _], _ => rfl» behind hl -/
theorem kbinds {K : PySem.W.Frag} {x qual : Str} {st : Stmt} {f : Addr} {fd : FuncData} {np : Nat} {ps ks : List Str} (F : Fun K x qual st f fd)
    (h : ∀ (kV doc pm : Value) (an : Option Addr) (cdv ct : Value) (us ws : List Value), us.length = np → ws.length = ks.length → bindArgs (PySem.W.fnOf x qual (defArgs st) (defBody st) (defScope st) .none kV doc pm an cdv ct) ⟨us, ks.zip ws⟩ = pure (ps.zip (us ++ ws))) (hp : ps.length = np + ks.length) (hk : 0 < ks.length) : KBinds K fd ps ks (gK np) (gK np) := by
  obtain ⟨oc, od, kV, doc, pm, an, cdv, ct, osl, rfl, lk, hcd⟩ := F.ex
  refine ⟨fun s us ws _ hl => ?_, fun h1 h2 => gK_rel h1 h2⟩
  unfold gK at hl ⊢
  by_cases c : us.length = np
  · rw [if_pos c] at hl ⊢
    exact .of_eq (h kV doc pm an cdv ct us ws c (by rw [List.length_append] at hl; omega))
  · rw [if_neg c] at hl
    simp at hl
    omega
section
variable {X : Cx} {CX : CXT} {k np : Nat} {ps ks : List Str} {sp : Sp} {E : XK} {x : Str} {p pos : Pos} {e : Expr} {es : List Expr} {kws : List Keyword} {t tk : TA}
theorem pe_callKH (h : HasK X.prog X.w X.K X.mg X.base CX k x np ps ks sp) (hr : Room k X.A) (hg : Gl X x) (hx : Passes CX X E) (ha : PA X (e :: es) t) (hkw : PK X kws tk)
    (hall : (backToKw pos (keywordEach kws X.env)).all (·.1.isSome) = true := by rfl) (hks : (backToKw pos (keywordEach kws X.env)).filterMap (·.1) = ks := by rfl)
    (hdb : (x == ("__debug__" : Str)) = false := by decide) (he : starEach (e :: es) X.env = (false, eval e X.env) :: starEach es X.env := by rfl)
    (hpl : ((backTo pos (starEach (e :: es) X.env)).any (·.1) || (backToKw pos (keywordEach kws X.env)).any (·.1.isNone)) = false := by rfl) :
    PE X (.Call (.Name x p) (e :: es) kws pos) (tCallK sp (gK np) E t tk) := by
  obtain ⟨f, fd, F, m, kp, b⟩ := h.ex
  exact pe_callK F hr hg m kp b hx ha hkw hall hks hdb he hpl
/-- within a try -/
def tCallKS (sp : Sp) (gV : List V → List V → List V) (E : L2.St → XK) (t tk : TA) : TE := fun σ H Q => t σ H fun vs H1 => tk σ H1 fun zs H2 => sp (gV vs zs) H2 Q (E σ)
theorem pe_callKS {W : WX} (h : HasK X.prog X.w X.K X.mg X.base (L2.CX X.prog X.w) k x np ps ks sp) (hr : Room k X.A) (hg : Gl X x) (tw : Takes X W) (ha : PA X (e :: es) t) (hkw : PK X kws tk)
    (hall : (backToKw pos (keywordEach kws X.env)).all (·.1.isSome) = true := by rfl) (hks : (backToKw pos (keywordEach kws X.env)).filterMap (·.1) = ks := by rfl)
    (hdb : (x == ("__debug__" : Str)) = false := by decide) (he : starEach (e :: es) X.env = (false, eval e X.env) :: starEach es X.env := by rfl)
    (hpl : ((backTo pos (starEach (e :: es) X.env)).any (·.1) || (backToKw pos (keywordEach kws X.env)).any (·.1.isNone)) = false := by rfl) :
    PE X (.Call (.Name x p) (e :: es) kws pos) (tCallKS sp (gK np) (WE W) t tk) := by
  obtain ⟨f, fd, F, m, kp, b⟩ := h.ex
  refine ⟨fun pins s σ H Q I hq => ?_⟩
  refine wpAny_Call_Name_kw (ld_glob I hg m ?_ hdb)
  refine PySem.W.callWith_KW (h₀ := X.base) I.ok.mod.kin kp hall (thn (ha.run pos pins s σ H _ I hq) fun us s1 ⟨vs, H1, I1, r, q⟩ => ?_) hpl he
  refine thn (hkw.run pos pins s1 σ H1 _ I1 q) fun ws s2 ⟨zs, H2, I2, rz, q2⟩ => ⟨I2.kIn, ?_⟩
  rw [hks]
  have r2 := b.rel r rz
  have hl : (gK np us ws).length = ps.length := r2.length.symm.trans (F.len _ _ _ _ q2)
  refine wpAny_call (codeAny_mono (F.run X.A X.stack s2 H2 ⟨us, ks.zip ws⟩ (gK np us ws) (gK np vs zs) Q (WE W σ) hr I2.env0 (b.to s2 us ws I2.kIn hl) r2 q2) fun rr s' hq => ?_)
  match rr, hq with
  | .error e, hq => exact passAt tw σ pins H2 s2 e s' I2 hq
  | .ok (.ret u), hq => exact I2.after hq
end
/-- in a def that raises: what the callee lets out, it lets out -/
theorem passE {X : Cx} {E : XK} (tk : Takes X (fun cls d _ H => E cls d H)) : Passes (L2.CX X.prog X.w) X E := passes_call tk fun _ _ _ _ h => h
section
variable {σ : L2.St} {H : Hp} {Q : VK}
theorem w_callK {sp : Sp} {np : Nat} {E : XK} {t tk : TA} (h : t σ H fun vs H1 => tk σ H1 fun zs H2 => sp (gK np vs zs) H2 Q E) : tCallK sp (gK np) E t tk σ H Q := h
theorem w_callKS {sp : Sp} {np : Nat} {E : L2.St → XK} {t tk : TA} (h : t σ H fun vs H1 => tk σ H1 fun zs H2 => sp (gK np vs zs) H2 Q (E σ)) : tCallKS sp (gK np) E t tk σ H Q := h
end
end Go
namespace Go
open PySem L2
def rLstD : List V → Hp → VK → Prop := fun xs H Q => ∃ (a : Addr) (kvs : List (Key × V)), xs = [.ref a] ∧ Rd H a (.dK kvs) ∧ ∀ p, H p = none → Q (.ref p) (upd H p (.lst (kvs.map fun kv => kV kv.1)))
end Go

set_option Elab.async false
set_option linter.all false
set_option maxRecDepth 100000
set_option maxHeartbeats 4000000
/-! EnumT: enumerate of a tuple, walked by a for or a comprehension. -/
namespace Go
open PySem L2 PySem.Spec PyProof.Rows

abbrev enObj (n : Addr) : Obj := { cls := .type "enumerate", data := .fields #[.none, .bool false, .ref n, rawInt 0, .none, .none] }
set_option maxHeartbeats 1000000 in
theorem en_meets {v : Value} {ob : Obj} {G : Heap → Prop} (B : Begins v ob G) :
    Meets (Builtin.«enumerate.__new__» ⟨[.type "enumerate", v], []⟩) (fun _ R z => G z.heap ∧ R (.ok (.ret (.ref (z.heap.push ob).objs.size))) { z with heap := (z.heap.push ob).push (enObj z.heap.objs.size) }) :=
  .of_wp fun P w A R z hz => by
    obtain ⟨hp, ge, dr, tk, oz⟩ := z
    obtain ⟨g1, hz⟩ := hz
    have isSub := sub_enumerate
    have it : ∀ {A' : Around} {E : Value → Shared → Prop} {Q : Value → Shared → Prop}, Q (.ref hp.objs.size) ⟨hp.push ob, ge, dr, tk, oz⟩ → wpAny (model P w) A' (pyIter v) Q E ⟨hp, ge, dr, tk, oz⟩ :=
      fun q => B.iter P w _ _ ⟨hp, ge, dr, tk, oz⟩ _ g1 q
    wp_walk using it
    refine wpAny_stack_any fun _ => wpAny_pure ?_
    split
    · rename_i c _ _ _ _ _
      cases (c == Value.type "enumerate") <;> (wp_walk using it; exact ⟨_, rfl, hz⟩)
    · wp_walk using it
      exact ⟨_, rfl, hz⟩
section
variable {P : Program} {w : World} {A : Around} {E : Value → Shared → Prop} {z : Shared}
theorem en_call {v : Value} {ob : Obj} {G : Heap → Prop} {Q : Value → Shared → Prop} (B : Begins v ob G) (g1 : G z.heap)
    (q : ∀ hp, IsEnum hp (z.heap.objs.size + 1) z.heap.objs.size 0 .none → hp.get? z.heap.objs.size = some ob → (∀ b u, z.heap.get? b = some u → hp.get? b = some u) → Q (.ref (z.heap.objs.size + 1)) { z with heap := hp }) :
    wpAny (model P w) A (call (.type "enumerate") [v]) Q E z := by
  refine callType_new F.called_enumerate (by decide) (F.typeCall_enumerate_1 _) (F.newCall_enumerate_1 _)
    (fun x => F.args_object_init_2 x _) F.entry_enumerate_new (en_meets B) ⟨g1, ?_⟩
  have sz : (z.heap.push ob).objs.size = z.heap.objs.size + 1 := Heap.size_push ..
  show _ ∧ _
  rw [sz]
  have en : IsEnum ((z.heap.push ob).push (enObj z.heap.objs.size)) (z.heap.objs.size + 1) z.heap.objs.size 0 .none := by
    have k := Heap.get?_push_size (z.heap.push ob) (o := enObj z.heap.objs.size) rfl
    rw [sz] at k
    exact k
  exact ⟨⟨_, en, rfl⟩, q _ en (Heap.get?_push_of_some _ (Heap.get?_push_size _ B.free)) fun b u x => Heap.get?_push_of_some _ (Heap.get?_push_of_some _ x)⟩
end
/-- the tuple at a, each item in a new pair with its number -/
def Itet (K : PySem.W.Frag) (a : Addr) : It :=
  ⟨fun i H => ∃ (xs : List V) (x : V), SqT K H a xs ∧ xs[i]? = some x,
   fun i H v H' => ∃ T x, v = .ref T ∧ H T = none ∧ H' = upd H T (.tup [.int (i : Nat), x]) ∧ ∀ xs, SqT K H a xs → xs[i]? = some x,
   fun i H => ∃ xs : List V, SqT K H a xs ∧ xs.length = i⟩
theorem turn_et {P : Program} {w : World} {K : PySem.W.Frag} {elts : List Expr} {kk : Nat} {tpos : Pos} (a e it : Addr) :
    Turn P w K (.Tuple elts kk tpos) (Itet K a) [e, it] e (fun i h => (∃ old, IsEnum h e it ((i : Nat) : Int) old) ∧ h.IsTupleIter it a i ∧ e ≠ it ∧ a ≠ it ∧ a ≠ e) where
  mem := by simp
  obj := fun i h st b hb => by
    obtain ⟨⟨old, he⟩, ⟨o, ho, _, hd⟩, _⟩ := st
    have c : b = e ∨ b = it := by simpa using hb
    rcases c with rfl | rfl
    · exact ⟨_, he, fun v q => nomatch q⟩
    · exact ⟨o, ho, fun v q => by rw [hd] at q; cases q⟩
  keep := fun i h h' st k => by
    obtain ⟨⟨old, he⟩, hi, ne⟩ := st
    exact ⟨⟨old, k e (by simp) _ he⟩, hi.at fun o q => k it (by simp) o q, ne⟩
  item := by
    intro X hP hw hK hc i pins z σ H E I hf st hg
    subst hP hw hK
    obtain ⟨⟨old, he⟩, hit, ne, na, nae⟩ := st
    obtain ⟨xs, x, hq, hx⟩ := hg
    obtain ⟨its, rv, p, _⟩ := I.tuple hq
    obtain ⟨u, hu, ru⟩ := rv.get hx
    have lte : e < z.heap.objs.size := Heap.lt_size he
    have lti : it < z.heap.objs.size := by obtain ⟨_, q, _⟩ := hit; exact Heap.lt_size q
    have Dr := Draws.tuple (prog := X.prog) (w := X.w) (A := X.A.in1) (I.ok.hd hc) it a na its.toArray
    have hil : i < its.toArray.size := by
      have := (List.getElem?_eq_some_iff.mp hu).1
      simpa using this
    refine wpAny_pyNext_enum_itemD Dr he ⟨hit, show z.heap.IsTuple a its.toArray from p⟩ hil ne (by simp; exact ⟨ne, nae.symm⟩) fun y h' tk hy ho hst hT hsz hk => ?_
    have ey : y = u := by
      have h1 : its[i]? = some y := by simpa using hy
      rw [hu] at h1
      exact (Option.some.inj h1).symm
    subst ey
    refine ⟨_, rfl, wpAny_letOwnedTupleGo_enum (s := { z with heap := h', toks := tk + 1 }) ho fun h2 he2 sb => ?_⟩
    have hT2 : h2.get? z.heap.objs.size = some { cls := .type "tuple", data := .seq #[.int i tk, y] } := (sb.2 _ (Nat.ne_of_gt lte)).trans hT
    have nw : ObjOk X.prog X.w (upd H z.heap.objs.size (.tup [.int (i : Nat), x])) h2 z.heap.objs.size (.tup [.int (i : Nat), x]) :=
      ⟨by show 2 ≤ sizeLine; decide, [.int i tk, y], .cons ⟨_, rfl⟩ (.cons ru .nil), ⟨_, hT2, rfl, _, rfl⟩⟩
    have I1 : Inv X pins σ (upd H z.heap.objs.size (.tup [.int (i : Nat), x])) { z with heap := h2, toks := tk + 1 } :=
      I.turnedNew (ch := [e, it]) (fun b ob hb q => (sb.2 b (fun c => hb (by simp [c]))).trans (hk b ob (fun c => hb (by simp [c])) (fun c => hb (by simp [c])) q)) hf (Nat.le_refl _) nw
    refine ⟨.ref z.heap.objs.size, _, I1, rfl, ⟨_, x, rfl, I.hok.fresh (Nat.le_refl _), rfl, fun ys hy => by rw [I.tuple_inj hy hq]; exact hx⟩, ⟨⟨y, ?_⟩, hst.1.at fun o q => (sb.2 it (Ne.symm ne)).trans q, ne, na, nae⟩, fun b hb => ?_⟩
    · have c : ((i + 1 : Nat) : Int) = (i : Int) + 1 := by omega
      rw [c]
      exact he2
    · have c : b = e ∨ b = it := by simpa using hb
      have lt : b < z.heap.objs.size := by rcases c with rfl | rfl <;> assumption
      rw [upd_ne (Nat.ne_of_lt lt)]
      exact (hf b hb).1
  done := by
    intro X hP hw hK hc i pins z σ H E I hf st hg
    subst hP hw hK
    obtain ⟨⟨old, he⟩, hit, ne, na, nae⟩ := st
    obtain ⟨xs, hq, hx⟩ := hg
    obtain ⟨its, rv, p, _⟩ := I.tuple hq
    obtain ⟨f0, f1, f2, f3, f4, f5⟩ := hf it (by simp)
    have Dr := Draws.tuple (prog := X.prog) (w := X.w) (A := X.A.in1) (I.ok.hd hc) it a na its.toArray
    have c : i = its.toArray.size := by
      rw [List.size_toArray, ← rv.length]
      exact hx.symm
    subst c
    exact wpAny_pyNext_enum_endD Dr he ⟨hit, show z.heap.IsTuple a its.toArray from p⟩ fun h' eb => ⟨rfl, I.turned (t' := z.toks) (fun b o hb q => eb b o hb q) f0 f1 f3 f4 f5⟩
  self := fun A i z Q E st h => by
    obtain ⟨⟨_, he⟩, _⟩ := st
    exact wpAny_pyIter_enum he h
def iEnumT (K : PySem.W.Frag) (ta : TA) : TI := fun σ H R => ta σ H fun vs H1 => ∃ a xs, vs = [.ref a] ∧ SqT K H1 a xs ∧ R (Itet K a) H1
theorem pi_enumT {X : Cx} {e : Expr} {ta : TA} {p pos tpos : Pos} {elts : List Expr} {kk : Nat} (hg : Gl X "enumerate") (hm : X.mg "enumerate" = none) (ha : PA X [e] ta)
    (hs : starEach [e] X.env = [(false, eval e X.env)] := by rfl) : PI X (.Tuple elts kk tpos) (.Call (.Name "enumerate" p) [e] [] pos) (iEnumT X.K ta) := by
  refine ⟨fun pins z σ H R I h => ?_⟩
  refine Call_ (ld_blt I hg hm boot_enumerate (callWith_type1 (thn (ha.run pos pins z σ H _ I h) fun us z1 ⟨vs, H1, I1, r1, q1⟩ => ?_) hs rfl))
  obtain ⟨a, xs, ex, hq, q⟩ := q1
  subst ex
  cases r1 with
  | cons r rr =>
    cases rr
    cases r
    obtain ⟨its, rv, p', _⟩ := I1.tuple hq
    have lta : a < z1.heap.objs.size := p'.lt
    refine en_call (begins_tuple a its.toArray) (show z1.heap.IsTuple a its.toArray from p') fun h' he ho hk => wpAny_pyIter_enum he ?_
    have I2 : Inv X pins σ H1 { z1 with heap := h' } := I1.kept (t' := z1.toks) hk
    refine ⟨z1.heap.objs.size + 1, [z1.heap.objs.size + 1, z1.heap.objs.size], _, _, H1, rfl, I2, turn_et a (z1.heap.objs.size + 1) z1.heap.objs.size, ⟨⟨.none, he⟩, ⟨_, ho, rfl, rfl⟩, Nat.succ_ne_self _, Nat.ne_of_lt lta, Nat.ne_of_lt (Nat.lt_succ_of_lt lta)⟩, fun b hb => ?_, q⟩
    have c : b = z1.heap.objs.size + 1 ∨ b = z1.heap.objs.size := by simpa using hb
    have le : z1.heap.objs.size ≤ b := by
      rcases c with rfl | rfl
      · exact Nat.le_add_right _ _
      · exact Nat.le_refl _
    exact I1.fpOk le (I1.hok.fresh le)
section
variable {σ : L2.St} {H : Hp} {Q : VK} {D0 : Ends} {K : PySem.W.Frag} {x : V}
theorem w_enumT {ta : TA} {R : It → Hp → Prop} (h : ta σ H fun vs H1 => ∃ a xs, vs = [.ref a] ∧ SqT K H1 a xs ∧ R (Itet K a) H1) : iEnumT K ta σ H R := h
theorem w_exet {ds : List D} {A : Addr → Prop} (h1 : Rp K H x (.tup ds)) (h : ∀ a, x = .ref a → A a) : ∃ a xs, [x] = [.ref a] ∧ SqT K H a xs ∧ A a := by
  obtain ⟨a, xs, rfl, h2, _⟩ := h1.tupI
  exact ⟨a, xs, rfl, h2, h a rfl⟩
/-- for i, d in enumerate(t): the number in slot g1, the item in slot g2 -/
theorem f_et {a : Addr} {g1 g2 : Nat} {ds : List D} {tb : TS} (W : Nat → L2.St → Hp → Prop) (h0 : W 0 σ H) (hk : ∀ i σ H, i ≤ ds.length → W i σ H → Rp K H (.ref a) (.tup ds))
    (hs : ∀ i d v σ H H', ds[i]? = some d → Rp K H' v d → Ext [] H H' → W i σ H → tb { D0 with nx := W (i + 1), ct := W (i + 1), bk := D0.nx } ((σ.set g1 (some (.int (i : Nat)))).set g2 (some v)) H') (hd : ∀ σ H, W ds.length σ H → D0.nx σ H) :
    ForOk (Itet K a) (gTup K 2 (gCons (gName g1) (gCons (gName g2) gNil))) tb D0 σ H := by
  refine ⟨fun i m σ H => m = ds.length - i ∧ i ≤ ds.length ∧ W i σ H, ⟨ds.length, by simp, Nat.zero_le _, h0⟩, ?_⟩
  rintro i m σ H ⟨rfl, hi, p⟩
  obtain ⟨a', xs, e, k1, k2⟩ := (hk i σ H hi p).tupI
  cases e
  have hl := k2.length
  by_cases hlt : i < ds.length
  · refine .inr ⟨⟨xs, xs[i]'(by omega), k1, by simp [show i < xs.length by omega]⟩, W (i + 1), fun σ' H' p' => ⟨ds.length - (i + 1), by omega, rfl, hlt, p'⟩, fun x H' y => ?_⟩
    obtain ⟨T, v, rfl, hT, rfl, y⟩ := y
    obtain ⟨d, hd1, hr⟩ := k2.get (y xs k1)
    have ex : Ext [] H (upd H T (.tup [.int (i : Nat), v])) := Ext.new hT
    exact ⟨T, _, rfl, SqT.of upd_same, rfl, _, _, rfl, _, _, rfl, rfl, hs i d v σ H _ hd1 (hr.ts ex.ts) ex p⟩
  · have e : i = ds.length := by omega
    subst e
    exact .inl ⟨⟨xs, k1, hl⟩, hd σ H p⟩
end
end Go

set_option Elab.async false
set_option linter.all false
set_option maxRecDepth 100000
set_option maxHeartbeats 4000000
/-! Pv: values as trees (lists, dicts, instances that nobody changes any more are values, too), the functions that a def computes over them, and how a reading follows such a function. -/
namespace Go
open PySem L2

inductive PV where
  | non | bl (b : Bool) | int (i : Int) | str (s : Str) | tup (ds : List PV) | lst (ds : List PV) | scr (ds : List PV) | dct (kvs : List (Key × PV)) | obj (C : Addr) (fs : List (Str × PV))
/-- a list that nobody changes: in the heap and none of S, or one of the module's own -/
def SqW (K : PySem.W.Frag) (S : List Addr) (H : Hp) (a : Addr) (xs : List V) : Prop := (Rd H a (.lst xs) ∧ a ∉ S) ∨ ((∀ H2, SqL K H2 a xs))
theorem SqW.sql {K : PySem.W.Frag} {S : List Addr} {H : Hp} {a : Addr} {xs : List V} (h : SqW K S H a xs) : SqL K H a xs := h.elim (fun h => .inl h.1) fun h => h H
theorem SqW.of {K : PySem.W.Frag} {S : List Addr} {H : Hp} {a : Addr} {xs : List V} (h : SqL K H a xs) (hn : (∃ o, H a = some o) → a ∉ S) : SqW K S H a xs := by
  rcases h with h | h
  · refine .inl ⟨h, hn ?_⟩
    rcases h with h | ⟨o, h⟩
    · exact ⟨_, h⟩
    · exact ⟨_, h⟩
  · exact .inr fun _ => .inr h
mutual
inductive Rv (K : PySem.W.Frag) (S : List Addr) (H : Hp) : V → PV → Prop
  | non : Rv K S H .non .non
  | bl (b : Bool) : Rv K S H (.bl b) (.bl b)
  | int (i : Int) : Rv K S H (.int i) (.int i)
  | str (s : Str) : Rv K S H (.str s) (.str s)
  | tup {a : Addr} {xs : List V} {ds : List PV} : SqT K H a xs → RvA K S H xs ds → Rv K S H (.ref a) (.tup ds)
  | lst {a : Addr} {xs : List V} {ds : List PV} : H a = some (.lst xs) → a ∉ S → RvA K S H xs ds → Rv K S H (.ref a) (.lst ds)
  | scr {a : Addr} {xs : List V} {ds : List PV} : SqW K S H a xs → RvA K S H xs ds → Rv K S H (.ref a) (.scr ds)
  | dct {a : Addr} {xs : List (Key × V)} {ds : List (Key × PV)} : H a = some (.dK xs) → a ∉ S → RvK K S H xs ds → Rv K S H (.ref a) (.dct ds)
  | obj {a C dx : Addr} {xs : List (Str × V)} {ds : List (Str × PV)} : H a = some (.ins C dx xs) → a ∉ S → RvF K S H xs ds → Rv K S H (.ref a) (.obj C ds)
inductive RvA (K : PySem.W.Frag) (S : List Addr) (H : Hp) : List V → List PV → Prop
  | nil : RvA K S H [] []
  | cons {v : V} {vs : List V} {d : PV} {ds : List PV} : Rv K S H v d → RvA K S H vs ds → RvA K S H (v :: vs) (d :: ds)
inductive RvK (K : PySem.W.Frag) (S : List Addr) (H : Hp) : List (Key × V) → List (Key × PV) → Prop
  | nil : RvK K S H [] []
  | cons {k : Key} {v : V} {vs : List (Key × V)} {d : PV} {ds : List (Key × PV)} : Rv K S H v d → RvK K S H vs ds → RvK K S H ((k, v) :: vs) ((k, d) :: ds)
inductive RvF (K : PySem.W.Frag) (S : List Addr) (H : Hp) : List (Str × V) → List (Str × PV) → Prop
  | nil : RvF K S H [] []
  | cons {k : Str} {v : V} {vs : List (Str × V)} {d : PV} {ds : List (Str × PV)} : Rv K S H v d → RvF K S H vs ds → RvF K S H ((k, v) :: vs) ((k, d) :: ds)
end
section
variable {K : PySem.W.Frag} {S T : List Addr} {H H' : Hp} {a p : Addr} {xs : List V}
theorem SqW.ext (e : Ext S H H') (h : SqW K S H a xs) : SqW K S H' a xs := by
  rcases h with ⟨h | ⟨o, h⟩, n⟩ | h
  · exact .inl ⟨.inl (e.keep _ _ h n), n⟩
  · exact .inl ⟨.inr ⟨o, e.frz _ _ _ h⟩, n⟩
  · exact .inr h
theorem SqW.less (hs : ∀ x, x ∈ T → x ∈ S) (h : SqW K S H a xs) : SqW K T H a xs := by
  rcases h with ⟨h, n⟩ | h
  · exact .inl ⟨h, fun z => n (hs _ z)⟩
  · exact .inr h
theorem SqW.more (hp : H p = none) (h : SqW K S H a xs) : SqW K (p :: S) H a xs := by
  rcases h with ⟨h, n⟩ | h
  · refine .inl ⟨h, fun z => ?_⟩
    rcases List.mem_cons.mp z with e | e
    · subst e
      rcases h with h | ⟨o, h⟩
      · rw [hp] at h; cases h
      · rw [hp] at h; cases h
    · exact n e
  · exact .inr h
end
section
variable {K : PySem.W.Frag} {S T : List Addr} {H H' : Hp}
mutual
theorem Rv.ext (e : Ext S H H') : ∀ {v : V} {d : PV}, Rv K S H v d → Rv K S H' v d
  | _, _, .non => .non
  | _, _, .bl b => .bl b
  | _, _, .int b => .int b
  | _, _, .str b => .str b
  | _, _, .tup h a => .tup (e.sqt h) (RvA.ext e a)
  | _, _, .lst h n a => .lst (e.keep _ _ h n) n (RvA.ext e a)
  | _, _, .scr h a => .scr (h.ext e) (RvA.ext e a)
  | _, _, .dct h n a => .dct (e.keep _ _ h n) n (RvK.ext e a)
  | _, _, .obj h n a => .obj (e.keep _ _ h n) n (RvF.ext e a)
theorem RvA.ext (e : Ext S H H') : ∀ {v : List V} {d : List PV}, RvA K S H v d → RvA K S H' v d
  | _, _, .nil => .nil
  | _, _, .cons h t => .cons (Rv.ext e h) (RvA.ext e t)
theorem RvK.ext (e : Ext S H H') : ∀ {v : List (Key × V)} {d : List (Key × PV)}, RvK K S H v d → RvK K S H' v d
  | _, _, .nil => .nil
  | _, _, .cons h t => .cons (Rv.ext e h) (RvK.ext e t)
theorem RvF.ext (e : Ext S H H') : ∀ {v : List (Str × V)} {d : List (Str × PV)}, RvF K S H v d → RvF K S H' v d
  | _, _, .nil => .nil
  | _, _, .cons h t => .cons (Rv.ext e h) (RvF.ext e t)
end
mutual
/-- fewer lists may change -/
theorem Rv.less (hs : ∀ x, x ∈ T → x ∈ S) : ∀ {v : V} {d : PV}, Rv K S H v d → Rv K T H v d
  | _, _, .non => .non
  | _, _, .bl b => .bl b
  | _, _, .int b => .int b
  | _, _, .str b => .str b
  | _, _, .tup h a => .tup h (RvA.less hs a)
  | _, _, .lst h n a => .lst h (fun z => n (hs _ z)) (RvA.less hs a)
  | _, _, .scr h a => .scr (h.less hs) (RvA.less hs a)
  | _, _, .dct h n a => .dct h (fun z => n (hs _ z)) (RvK.less hs a)
  | _, _, .obj h n a => .obj h (fun z => n (hs _ z)) (RvF.less hs a)
theorem RvA.less (hs : ∀ x, x ∈ T → x ∈ S) : ∀ {v : List V} {d : List PV}, RvA K S H v d → RvA K T H v d
  | _, _, .nil => .nil
  | _, _, .cons h t => .cons (Rv.less hs h) (RvA.less hs t)
theorem RvK.less (hs : ∀ x, x ∈ T → x ∈ S) : ∀ {v : List (Key × V)} {d : List (Key × PV)}, RvK K S H v d → RvK K T H v d
  | _, _, .nil => .nil
  | _, _, .cons h t => .cons (Rv.less hs h) (RvK.less hs t)
theorem RvF.less (hs : ∀ x, x ∈ T → x ∈ S) : ∀ {v : List (Str × V)} {d : List (Str × PV)}, RvF K S H v d → RvF K T H v d
  | _, _, .nil => .nil
  | _, _, .cons h t => .cons (Rv.less hs h) (RvF.less hs t)
end
mutual
/-- one list more may change: one that is not there yet -/
theorem Rv.more {p : Addr} (hp : H p = none) : ∀ {v : V} {d : PV}, Rv K S H v d → Rv K (p :: S) H v d
  | _, _, .non => .non
  | _, _, .bl b => .bl b
  | _, _, .int b => .int b
  | _, _, .str b => .str b
  | _, _, .tup h a => .tup h (RvA.more hp a)
  | _, _, .lst h n a => .lst h (fun z => by
      rcases List.mem_cons.mp z with e | e
      · subst e; rw [hp] at h; cases h
      · exact n e) (RvA.more hp a)
  | _, _, .scr h a => .scr (h.more hp) (RvA.more hp a)
  | _, _, .dct h n a => .dct h (fun z => by
      rcases List.mem_cons.mp z with e | e
      · subst e; rw [hp] at h; cases h
      · exact n e) (RvK.more hp a)
  | _, _, .obj h n a => .obj h (fun z => by
      rcases List.mem_cons.mp z with e | e
      · subst e; rw [hp] at h; cases h
      · exact n e) (RvF.more hp a)
theorem RvA.more {p : Addr} (hp : H p = none) : ∀ {v : List V} {d : List PV}, RvA K S H v d → RvA K (p :: S) H v d
  | _, _, .nil => .nil
  | _, _, .cons h t => .cons (Rv.more hp h) (RvA.more hp t)
theorem RvK.more {p : Addr} (hp : H p = none) : ∀ {v : List (Key × V)} {d : List (Key × PV)}, RvK K S H v d → RvK K (p :: S) H v d
  | _, _, .nil => .nil
  | _, _, .cons h t => .cons (Rv.more hp h) (RvK.more hp t)
theorem RvF.more {p : Addr} (hp : H p = none) : ∀ {v : List (Str × V)} {d : List (Str × PV)}, RvF K S H v d → RvF K (p :: S) H v d
  | _, _, .nil => .nil
  | _, _, .cons h t => .cons (Rv.more hp h) (RvF.more hp t)
end
end
end Go

set_option Elab.async false
set_option linter.all false
set_option maxRecDepth 100000
set_option maxHeartbeats 4000000
/-! Sim: what a def computes over trees (its own lists stand in a store g), and that its reading follows. -/
namespace Go
open PySem L2
inductive EV where
  | no | p (d : PV) | own (n : Nat)
abbrev Gm := List (Option (List PV))
abbrev En := List EV
inductive XR (α : Type) where
  | ok (a : α) (g : Gm) | exn (c : Addr) (g : Gm) | fail
@[simp] def XR.bind {α β : Type} (r : XR α) (f : α → Gm → XR β) : XR β := match r with
  | .ok a g => f a g
  | .exn c g => .exn c g
  | .fail => .fail
def XR.wp {α : Type} (r : XR α) (P : α → Gm → Prop) (X : Addr → Gm → Prop) : Prop := match r with
  | .ok a g => P a g
  | .exn c g => X c g
  | .fail => False
inductive XO where
  | nx (e : En) (g : Gm) | rt (d : EV) (g : Gm) | bk (e : En) (g : Gm) | ct (e : En) (g : Gm) | exn (c : Addr) (g : Gm) | fail
structure XP where
  nx : En → Gm → Prop
  rt : EV → Gm → Prop
  bk : En → Gm → Prop
  ct : En → Gm → Prop
  ex : Addr → Gm → Prop
def XO.wp (r : XO) (P : XP) : Prop := match r with
  | .nx e g => P.nx e g
  | .rt d g => P.rt d g
  | .bk e g => P.bk e g
  | .ct e g => P.ct e g
  | .exn c g => P.ex c g
  | .fail => False
@[simp] def XR.then (r : XR α) (f : α → Gm → XO) : XO := match r with
  | .ok a g => f a g
  | .exn c g => .exn c g
  | .fail => .fail
theorem XR.wp_bind {α β : Type} {r : XR α} {f : α → Gm → XR β} {P : β → Gm → Prop} {X : Addr → Gm → Prop} (h : (r.bind f).wp P X) : r.wp (fun a g => (f a g).wp P X) X := by cases r <;> exact h
theorem XR.wp_then {α : Type} {r : XR α} {f : α → Gm → XO} {P : XP} (h : (r.then f).wp P) : r.wp (fun a g => (f a g).wp P) P.ex := by cases r <;> exact h
theorem XR.wp_mono {α : Type} {r : XR α} {P P' : α → Gm → Prop} {X X' : Addr → Gm → Prop} (h : r.wp P X) (hp : ∀ a g, P a g → P' a g) (hx : ∀ c g, X c g → X' c g) : r.wp P' X' := by
  cases r with
  | ok a g => exact hp _ _ h
  | exn c g => exact hx _ _ h
  | fail => exact h
theorem XO.wp_mono {r : XO} {P P' : XP} (h : r.wp P) (h1 : ∀ a g, P.nx a g → P'.nx a g) (h2 : ∀ a g, P.rt a g → P'.rt a g) (h3 : ∀ a g, P.bk a g → P'.bk a g) (h4 : ∀ a g, P.ct a g → P'.ct a g) (h5 : ∀ a g, P.ex a g → P'.ex a g) : r.wp P' := by
  cases r with
  | nx a g => exact h1 _ _ h
  | rt a g => exact h2 _ _ h
  | bk a g => exact h3 _ _ h
  | ct a g => exact h4 _ _ h
  | exn a g => exact h5 _ _ h
  | fail => exact h

/-! ### the relation -/
structure Cs where
  K : PySem.W.Frag
  E : XK
  S : List Addr
  as : List Addr
  H0 : Hp
  hS : ∀ a, a ∈ S → ∃ o, H0 a = some o
/-- what the def may change of what stood before -/
def Cs.ch (c : Cs) : List Addr := c.as.filter fun a => decide (a ∈ c.S)
theorem Cs.ch_mem {c : Cs} {a : Addr} : a ∈ c.ch ↔ a ∈ c.as ∧ a ∈ c.S := by simp [Cs.ch]
def OwnAt (K : PySem.W.Frag) (S : List Addr) (H : Hp) (as : List Addr) (g : Gm) : Prop := as.length = g.length ∧ ∀ (n : Nat) (a : Addr) (ds : List PV), as[n]? = some a → g[n]? = some (some ds) → a ∈ S ∧ ∃ xs, H a = some (.lst xs) ∧ RvA K S H xs ds
def EvOk (K : PySem.W.Frag) (S : List Addr) (m : List Addr) (H : Hp) (v : V) : EV → Prop
  | .no => True
  | .p d => Rv K S H v d
  | .own n => ∃ a, m[n]? = some a ∧ v = .ref a
structure OkH (c : Cs) (S m : List Addr) (σ : St) (env : En) (T : List (V × EV)) (H : Hp) (g : Gm) : Prop where
  ext : Ext c.ch c.H0 H
  sub : ∀ a, a ∈ c.S → a ∈ S
  inn : ∀ a, a ∈ S → a ∈ c.S ∨ c.H0 a = none
  hot : ∀ a, a ∈ S ∨ a ∈ m → ∃ o, H a = some o
  pre : ∃ l, m = c.as ++ l
  nd : m.Nodup
  new : ∀ a, a ∈ m → a ∈ c.as ∨ c.H0 a = none
  own : OwnAt c.K S H m g
  len : σ.length = env.length
  slot : ∀ (i : Nat) (e : EV), env[i]? = some e → e ≠ .no → ∃ v, σ[i]? = some (some v) ∧ EvOk c.K S m H v e
  tmp : ∀ p, p ∈ T → EvOk c.K S m H p.1 p.2
def Ok (c : Cs) (σ : St) (env : En) (T : List (V × EV)) (H : Hp) (g : Gm) : Prop := ∃ m S, OkH c S m σ env T H g
/-- a new list at p, whose items are ds: nothing else speaks of it -/
def MkW (w : List V → HO) (c : Cs) (σ : St) (env : En) (T : List (V × EV)) (H : Hp) (g : Gm) (p : Addr) (ds : List PV) : Prop := ∃ m S xs, OkH c (p :: S) m σ env T H g ∧ (∀ a, a ∈ c.S → a ∈ S) ∧ H p = some (w xs) ∧ RvA c.K (p :: S) H xs ds ∧ c.H0 p = none ∧ p ∉ S ∧ p ∉ m
abbrev Mk := MkW HO.lst
def Cs.X (c : Cs) : Addr → Gm → Prop := fun x g => ∀ H', Ok c [] [] [] H' g → c.E (.ref x) none H'
section
variable {c : Cs} {σ : St} {env : En} {T T' : List (V × EV)} {H H' : Hp} {g g' : Gm} {K : PySem.W.Frag} {S S' m as : List Addr} {v : V} {e : EV}
theorem EvOk.less (hs : ∀ x, x ∈ S' → x ∈ S) (h : EvOk K S m H v e) : EvOk K S' m H v e := by
  cases e with
  | no => trivial
  | p d => exact Rv.less hs h
  | own n => exact h
theorem EvOk.ext (x : Ext S H H') (h : EvOk K S m H v e) : EvOk K S m H' v e := by
  cases e with
  | no => trivial
  | p d => exact Rv.ext x h
  | own n => exact h
theorem EvOk.more {p : Addr} (hp : H p = none) (h : EvOk K S m H v e) : EvOk K (p :: S) m H v e := by
  cases e with
  | no => trivial
  | p d => exact Rv.more hp h
  | own n => exact h
/-- other things on the side -/
theorem OkH.tmps (h : OkH c S m σ env T H g) (f : ∀ p, p ∈ T' → EvOk c.K S m H p.1 p.2) : OkH c S m σ env T' H g := { h with tmp := f }
/-- the heap grows -/
theorem OkH.grow (h : OkH c S m σ env T H g) (x : Ext [] H H') : OkH c S m σ env T H' g :=
  ⟨h.ext.more x, h.sub, h.inn, fun a ha => let ⟨o, ho⟩ := h.hot a ha; ⟨o, x.same _ _ ho⟩, h.pre, h.nd, h.new, ⟨h.own.1, fun n a ds h1 h2 => let ⟨i, xs, e1, e2⟩ := h.own.2 n a ds h1 h2; ⟨i, xs, x.same _ _ e1, e2.ext x.any⟩⟩, h.len, fun i e h1 h2 => let ⟨v, e1, e2⟩ := h.slot i e h1 h2; ⟨v, e1, e2.ext x.any⟩, fun p hp => (h.tmp p hp).ext x.any⟩
theorem OkH.more {p : Addr} {o : HO} (h : OkH c S m σ env T H g) (hp : H p = none) (h0 : c.H0 p = none) : OkH c (p :: S) m σ env T (upd H p o) g := by
  have x : Ext [] H (upd H p o) := Ext.new hp
  refine ⟨h.ext.more x, fun a ha => List.mem_cons_of_mem _ (h.sub a ha), fun a ha => (List.mem_cons.mp ha).elim (fun q => .inr (q ▸ h0)) (h.inn a), fun a ha => ?_, h.pre, h.nd, h.new, ⟨h.own.1, fun n a ds h1 h2 => let ⟨i, xs, e1, e2⟩ := h.own.2 n a ds h1 h2; ⟨List.mem_cons_of_mem _ i, xs, x.same _ _ e1, (e2.more hp).ext x.any⟩⟩, h.len, fun i e h1 h2 => let ⟨v, e1, e2⟩ := h.slot i e h1 h2; ⟨v, e1, (e2.more hp).ext x.any⟩, fun q hq => ((h.tmp q hq).more hp).ext x.any⟩
  by_cases z : a = p
  · subst z; exact ⟨o, upd_same⟩
  · obtain ⟨o1, h1⟩ := h.hot a (ha.imp (fun q => (List.mem_cons.mp q).resolve_left z) id)
    exact ⟨o1, x.same _ _ h1⟩
theorem Ok.grow (h : Ok c σ env T H g) (x : Ext [] H H') : Ok c σ env T H' g := let ⟨m, S, h⟩ := h; ⟨m, S, h.grow x⟩
theorem Ok.map (h : Ok c σ env T H g) (f : ∀ m S, OkH c S m σ env T H g → ∀ p, p ∈ T' → EvOk c.K S m H p.1 p.2) : Ok c σ env T' H g :=
  let ⟨m, S, h⟩ := h; ⟨m, S, h.tmps (f m S h)⟩
theorem Ok.sub (h : Ok c σ env T H g) (f : ∀ p, p ∈ T' → p ∈ T) : Ok c σ env T' H g := h.map fun m S o p hp => o.tmp p (f p hp)
/-- one thing more on top -/
theorem Ok.top (h : Ok c σ env T H g) (f : ∀ m S, OkH c S m σ env T H g → EvOk c.K S m H v e) : Ok c σ env ((v, e) :: T) H g :=
  h.map fun m S o p hp => by
    rcases List.mem_cons.mp hp with q | q
    · subst q; exact f m S o
    · exact o.tmp p q
theorem Ok.end_ (h : Ok c σ env T H g) : Ok c [] [] [] H g := let ⟨m, S, h⟩ := h; ⟨m, S, h.ext, h.sub, h.inn, h.hot, h.pre, h.nd, h.new, h.own, rfl, fun i e h1 => by simp at h1, fun p hp => by simp at hp⟩
theorem Ok.last (h : Ok c σ env ((v, e) :: T) H g) : Ok c [] [] [(v, e)] H g := let ⟨m, S, h⟩ := h; ⟨m, S, h.ext, h.sub, h.inn, h.hot, h.pre, h.nd, h.new, h.own, rfl, fun i e h1 => by simp at h1, fun p hp => h.tmp p (by simp at hp; subst hp; simp)⟩
theorem OkH.fresh {p : Addr} (h : OkH c S m σ env T H g) (hp : H p = none) : p ∉ S ∧ p ∉ m ∧ c.H0 p = none := by
  have n1 : p ∉ S := fun z => by
    obtain ⟨o, ho⟩ := h.hot p (.inl z)
    rw [hp] at ho; cases ho
  have n2 : p ∉ m := fun z => by
    obtain ⟨o, ho⟩ := h.hot p (.inr z)
    rw [hp] at ho; cases ho
  refine ⟨n1, n2, ?_⟩
  cases q : c.H0 p with
  | none => rfl
  | some o =>
    have k : p ∉ c.as := fun z => n2 (by obtain ⟨l, e⟩ := h.pre; rw [e]; simp [z])
    have := h.ext.keep _ _ q fun z => k (Cs.ch_mem.mp z).1
    rw [hp] at this; cases this
theorem MkW.of {w : List V → HO} {p : Addr} {xs : List V} {ds : List PV} (h : Ok c σ env T H g) (hp : H p = none) (f : ∀ m S, OkH c S m σ env T H g → RvA c.K S H xs ds) : MkW w c σ env T (upd H p (w xs)) g p ds := by
  obtain ⟨m, S, h⟩ := h
  obtain ⟨n1, n2, n3⟩ := h.fresh hp
  exact ⟨m, S, xs, h.more hp n3, h.sub, upd_same, ((f m S h).more hp).ext (Ext.new hp), n3, n1, n2⟩
theorem Mk.of {p : Addr} {xs : List V} {ds : List PV} (h : Ok c σ env T H g) (hp : H p = none) (f : ∀ m S, OkH c S m σ env T H g → RvA c.K S H xs ds) : Mk c σ env T (upd H p (.lst xs)) g p ds := MkW.of (w := HO.lst) h hp f
theorem MkW.sub {w : List V → HO} {p : Addr} {ds : List PV} (h : MkW w c σ env T H g p ds) (f : ∀ q, q ∈ T' → q ∈ T) : MkW w c σ env T' H g p ds :=
  let ⟨m, S, xs, o, r⟩ := h; ⟨m, S, xs, o.tmps fun q hq => o.tmp q (f q hq), r⟩
theorem MkW.okOf {w : List V → HO} {p : Addr} {ds : List PV} (h : MkW w c σ env T H g p ds) : Ok c σ env T H g := by
  obtain ⟨m, S, xs, h, hS, e, r, n1, n2, n3⟩ := h
  exact ⟨m, p :: S, h⟩
theorem MkW.frz {p : Addr} {ds : List PV} (h : Mk c σ env T H g p ds) : Ok c σ env ((.ref p, .p (.lst ds)) :: T) H g := by
  obtain ⟨m, S, xs, h, hS, e, r, n1, n2, n3⟩ := h
  have hs : ∀ x, x ∈ S → x ∈ p :: S := fun x hx => List.mem_cons_of_mem _ hx
  refine ⟨m, S, h.ext, hS, fun a ha => h.inn a (hs a ha), fun a ha => h.hot a (ha.imp (hs a) id), h.pre, h.nd, h.new, ⟨h.own.1, fun n a ds h1 h2 => ?_⟩, h.len, fun i e h1 h2 => let ⟨v, e1, e2⟩ := h.slot i e h1 h2; ⟨v, e1, e2.less hs⟩, fun q hq => ?_⟩
  · obtain ⟨i, xs, e1, e2⟩ := h.own.2 n a ds h1 h2
    refine ⟨(List.mem_cons.mp i).resolve_left fun z => n3 (z ▸ List.mem_of_getElem? h1), xs, e1, e2.less hs⟩
  · rcases List.mem_cons.mp hq with q2 | q2
    · subst q2
      exact Rv.lst e n2 (r.less hs)
    · exact (h.tmp _ q2).less hs
theorem EvOk.up {m' : List Addr} (h : EvOk K S m H v e) (l : List Addr) : EvOk K S (m ++ l) H v e := by
  cases e with
  | no => trivial
  | p d => exact h
  | own n =>
    obtain ⟨a, ha, hv⟩ := h
    exact ⟨a, by rw [List.getElem?_append_left (List.getElem?_eq_some_iff.mp ha).1]; exact ha, hv⟩
theorem MkW.own {p : Addr} {ds : List PV} (h : Mk c σ env T H g p ds) : Ok c σ env ((.ref p, .own g.length) :: T) H (g ++ [some ds]) := by
  obtain ⟨m, S, xs, h, hS, e, r, n1, n2, n3⟩ := h
  refine ⟨m ++ [p], p :: S, h.ext, h.sub, h.inn, fun a ha => ?_, ?_, ?_, ?_, ⟨?_, ?_⟩, h.len, fun i e h1 h2 => let ⟨v, e1, e2⟩ := h.slot i e h1 h2; ⟨v, e1, e2.up (m' := m) [p]⟩, fun q hq => ?_⟩
  · rcases ha with ha | ha
    · exact h.hot a (.inl ha)
    · rcases List.mem_append.mp ha with q | q
      · exact h.hot a (.inr q)
      · simp at q; subst q; exact ⟨_, e⟩
  · obtain ⟨l, e⟩ := h.pre
    exact ⟨l ++ [p], by rw [e, List.append_assoc]⟩
  · rw [List.nodup_append]
    exact ⟨h.nd, by simp, fun a ha b hb => by simp at hb; subst hb; exact fun z => n3 (z ▸ ha)⟩
  · intro a ha
    rcases List.mem_append.mp ha with q | q
    · exact h.new a q
    · simp at q; subst q; exact .inr n1
  · simp [h.own.1]
  · intro n a ds' h1 h2
    by_cases hn : n < m.length
    · rw [List.getElem?_append_left hn] at h1
      rw [List.getElem?_append_left (by rw [← h.own.1]; exact hn)] at h2
      exact h.own.2 n a ds' h1 h2
    · have hn2 : n = m.length := by
        have := (List.getElem?_eq_some_iff.mp h1).1
        simp at this; omega
      subst hn2
      rw [List.getElem?_append_right (Nat.le_refl _)] at h1
      rw [List.getElem?_append_right (by rw [h.own.1]; exact Nat.le_refl _)] at h2
      simp at h1
      simp [h.own.1] at h2
      subst h1 h2
      exact ⟨List.mem_cons_self, xs, e, r⟩
  · rcases List.mem_cons.mp hq with q2 | q2
    · subst q2
      refine ⟨p, ?_, rfl⟩
      rw [← h.own.1, List.getElem?_append_right (Nat.le_refl _)]
      simp
    · exact (h.tmp _ q2).up (m' := m) [p]
/-- an own list is changed -/
theorem OkH.put {a : Addr} {n : Nat} {xs : List V} {ds : List PV} (h : OkH c S m σ env T H g) (ha : m[n]? = some a) (aS : a ∈ S) (x : Ext [a] H H') (e : H' a = some (.lst xs)) (r : RvA c.K S H' xs ds) : OkH c S m σ env T H' (g.set n (some ds)) := by
  have am : a ∈ m := List.mem_of_getElem? ha
  have x2 : Ext S H H' := x.wide fun b hb => by simp at hb; subst hb; exact aS
  refine ⟨?_, h.sub, h.inn, fun b hb => if q : b = a then ⟨.lst xs, by rw [q]; exact e⟩ else let ⟨o, ho⟩ := h.hot b hb; ⟨o, x.keep _ _ ho (by simpa using q)⟩, h.pre, h.nd, h.new, ⟨by simp [h.own.1], fun k b ds' h1 h2 => ?_⟩, h.len, fun i e h1 h2 => let ⟨v, e1, e2⟩ := h.slot i e h1 h2; ⟨v, e1, e2.ext x2⟩, fun p hp => (h.tmp p hp).ext x2⟩
  · rcases h.new a am with q | q
    · rcases h.inn a aS with q2 | q2
      · exact h.ext.in1 (Cs.ch_mem.mpr ⟨q, q2⟩) x
      · exact h.ext.out q2 x
    · exact h.ext.out q x
  · by_cases hk : k = n
    · subst hk
      rw [ha] at h1; cases h1
      rw [List.getElem?_set_self (by rw [← h.own.1]; exact (List.getElem?_eq_some_iff.mp ha).1)] at h2
      cases h2
      exact ⟨aS, xs, e, r⟩
    · rw [List.getElem?_set_ne (Ne.symm hk)] at h2
      obtain ⟨i, ys, e1, e2⟩ := h.own.2 k b ds' h1 h2
      refine ⟨i, ys, x.keep _ _ e1 ?_, e2.ext x2⟩
      simp only [List.mem_singleton]
      intro z
      subst z
      refine hk ?_
      have l1 := (List.getElem?_eq_some_iff.mp h1).1
      exact (List.getElem?_inj l1 h.nd (j := n)).mp (by rw [h1, ha])
theorem Ok.set {i : Nat} (h : Ok c σ env ((v, e) :: T) H g) : Ok c (σ.set i (some v)) (env.set i e) T H g := by
  obtain ⟨m, S, h⟩ := h
  refine ⟨m, S, h.ext, h.sub, h.inn, h.hot, h.pre, h.nd, h.new, h.own, by simp [h.len], fun j e' h1 h2 => ?_, fun p hp => h.tmp p (List.mem_cons_of_mem _ hp)⟩
  by_cases hj : i = j
  · subst hj
    have hl : i < env.length := by
      have := (List.getElem?_eq_some_iff.mp h1).1
      simpa using this
    rw [List.getElem?_set_self hl] at h1
    cases h1
    exact ⟨v, by rw [List.getElem?_set_self (by rw [h.len]; exact hl)], h.tmp _ List.mem_cons_self⟩
  · rw [List.getElem?_set_ne hj] at h1
    rw [List.getElem?_set_ne hj]
    exact h.slot j e' h1 h2
theorem Ok.wipe {i : Nat} (h : Ok c σ env T H g) : Ok c (σ.set i none) (env.set i .no) T H g := by
  obtain ⟨m, S, h⟩ := h
  refine ⟨m, S, h.ext, h.sub, h.inn, h.hot, h.pre, h.nd, h.new, h.own, by simp [h.len], fun j e' h1 h2 => ?_, h.tmp⟩
  by_cases hj : i = j
  · subst hj
    have hl : i < env.length := by
      have := (List.getElem?_eq_some_iff.mp h1).1
      simpa using this
    rw [List.getElem?_set_self hl] at h1
    cases h1
    exact absurd rfl h2
  · rw [List.getElem?_set_ne hj] at h1
    rw [List.getElem?_set_ne hj]
    exact h.slot j e' h1 h2
/-- slot i's own list is changed no more: from here on it is a value -/
theorem Ok.freeze {i n : Nat} {ds : List PV} (h : Ok c σ env T H g) (hi : env[i]? = some (.own n)) (hg : g[n]? = some (some ds)) (hn : c.as.length ≤ n) : Ok c σ (env.set i (.p (.lst ds))) T H (g.set n none) := by
  obtain ⟨m, S, h⟩ := h
  obtain ⟨v, e1, a, ha, rfl⟩ := h.slot i _ hi (by simp)
  obtain ⟨aS, xs, e2, e3⟩ := h.own.2 n a ds ha hg
  have h0 : c.H0 a = none := by
    obtain ⟨l, e⟩ := h.pre
    rcases h.new a (List.mem_of_getElem? ha) with q | q
    · obtain ⟨k, hk⟩ := List.mem_iff_getElem?.mp q
      have kl := (List.getElem?_eq_some_iff.mp hk).1
      have : k = n := (List.getElem?_inj (by rw [e]; simp; omega) h.nd).mp (by rw [ha, e, List.getElem?_append_left kl]; exact hk)
      omega
    · exact q
  have hs : ∀ x, x ∈ S.filter (fun b => decide (b ≠ a)) → x ∈ S := fun x hx => (List.mem_filter.mp hx).1
  have aS' : a ∉ S.filter (fun b => decide (b ≠ a)) := fun z => by
    have := (List.mem_filter.mp z).2
    simp at this
  refine ⟨m, S.filter fun b => decide (b ≠ a), h.ext, fun b hb => List.mem_filter.mpr ⟨h.sub b hb, ?_⟩, fun b hb => h.inn b (hs b hb), fun b hb => h.hot b (hb.imp (hs b) id), h.pre, h.nd, h.new, ⟨by simp [h.own.1], fun k b ds' h1 h2 => ?_⟩, by simp [h.len], fun j e' h1 h2 => ?_, fun p hp => (h.tmp p hp).less hs⟩
  · have : b ≠ a := fun z => by
      obtain ⟨o, ho⟩ := c.hS b hb
      rw [z, h0] at ho; cases ho
    simpa using this
  · have hk : k ≠ n := fun z => by
      subst z
      rw [List.getElem?_set_self (by rw [← h.own.1]; exact (List.getElem?_eq_some_iff.mp ha).1)] at h2
      cases h2
    rw [List.getElem?_set_ne (Ne.symm hk)] at h2
    obtain ⟨i1, ys, f1, f2⟩ := h.own.2 k b ds' h1 h2
    refine ⟨List.mem_filter.mpr ⟨i1, ?_⟩, ys, f1, f2.less hs⟩
    have : b ≠ a := fun z => by
      subst z
      exact hk ((List.getElem?_inj (List.getElem?_eq_some_iff.mp h1).1 h.nd (j := n)).mp (by rw [h1, ha]))
    simpa using this
  · by_cases hj : i = j
    · subst hj
      have hl : i < env.length := (List.getElem?_eq_some_iff.mp hi).1
      rw [List.getElem?_set_self hl] at h1
      cases h1
      exact ⟨_, e1, .lst e2 aS' (e3.less hs)⟩
    · rw [List.getElem?_set_ne hj] at h1
      obtain ⟨v, f1, f2⟩ := h.slot j e' h1 h2
      exact ⟨v, f1, f2.less hs⟩
end
end Go

set_option Elab.async false
set_option linter.all false
set_option maxRecDepth 100000
set_option maxHeartbeats 4000000
/-! Sem: the functions, construct by construct, and that the readings follow them. -/
namespace Go
open PySem L2
abbrev XE := En → Gm → XR EV
abbrev XA := En → Gm → XR (List EV)
abbrev XT := En → Gm → XR Bool
abbrev XM := En → Gm → XR (List PV)
abbrev XS := En → Gm → XO
abbrev XG := PV → En → Option En
@[simp] def EV.val (g : Gm) : EV → Option PV
  | .no => none
  | .p d => some d
  | .own n => match g[n]? with
    | some (some ds) => some (.lst ds)
    | _ => none
/-- v may be read as d: it stands for d, or it is an own list whose items are d's -/
def Vw (K : PySem.W.Frag) (S : List Addr) (H : Hp) (v : V) (d : PV) : Prop := Rv K S H v d ∨ ∃ a xs ds, v = .ref a ∧ d = .lst ds ∧ H a = some (.lst xs) ∧ RvA K S H xs ds
section
variable {K : PySem.W.Frag} {S m : List Addr} {H : Hp} {v : V} {d : PV} {ds : List PV} {c : Cs} {σ : St} {env : En} {T : List (V × EV)} {g : Gm} {e : EV}
theorem EvOk.vw (o : OwnAt K S H m g) (h : EvOk K S m H v e) (he : e.val g = some d) : Vw K S H v d := by
  cases e with
  | no => cases he
  | p x => cases he; exact .inl h
  | own n =>
    obtain ⟨a, ha, rfl⟩ := h
    simp only [EV.val] at he
    split at he
    case h_2 => cases he
    rename_i ds hd
    cases he
    obtain ⟨_, xs, h1, h2⟩ := o.2 n a ds ha hd
    exact .inr ⟨a, xs, ds, rfl, rfl, h1, h2⟩
theorem Vw.lstP (h : Vw K S H v (.lst ds)) : ∃ a xs, v = .ref a ∧ H a = some (.lst xs) ∧ RvA K S H xs ds := by
  rcases h with h | ⟨a, xs, ds', rfl, e, h1, h2⟩
  · cases h with
    | lst h1 _ h2 => exact ⟨_, _, rfl, h1, h2⟩
  · cases e; exact ⟨a, xs, rfl, h1, h2⟩
theorem Vw.lstI (h : Vw K S H v (.lst ds)) : ∃ a xs, v = .ref a ∧ SqL K H a xs ∧ RvA K S H xs ds := let ⟨a, xs, h1, h2, h3⟩ := h.lstP; ⟨a, xs, h1, SqL.of h2, h3⟩
theorem Vw.scrI (h : Vw K S H v (.scr ds)) : ∃ a xs, v = .ref a ∧ SqL K H a xs ∧ RvA K S H xs ds := by
  rcases h with h | ⟨a, xs, ds', rfl, e, h1, h2⟩
  · cases h with
    | scr h1 h2 => exact ⟨_, _, rfl, h1.sql, h2⟩
  · cases e
theorem Vw.tupI (h : Vw K S H v (.tup ds)) : ∃ a xs, v = .ref a ∧ SqT K H a xs ∧ RvA K S H xs ds := by
  rcases h with h | ⟨a, xs, ds', rfl, e, h1, h2⟩
  · cases h with
    | tup h1 h2 => exact ⟨_, _, rfl, h1, h2⟩
  · cases e
theorem Vw.intI {i : Int} (h : Vw K S H v (.int i)) : v = .int i := by
  rcases h with h | ⟨_, _, _, _, e, _⟩
  · cases h; rfl
  · cases e
theorem Vw.strI {i : Str} (h : Vw K S H v (.str i)) : v = .str i := by
  rcases h with h | ⟨_, _, _, _, e, _⟩
  · cases h; rfl
  · cases e
theorem Vw.blI {i : Bool} (h : Vw K S H v (.bl i)) : v = .bl i := by
  rcases h with h | ⟨_, _, _, _, e, _⟩
  · cases h; rfl
  · cases e
theorem Vw.nonI (h : Vw K S H v .non) : v = .non := by
  rcases h with h | ⟨_, _, _, _, e, _⟩
  · cases h; rfl
  · cases e
theorem RvA.len : ∀ {vs : List V} {ds : List PV}, RvA K S H vs ds → vs.length = ds.length
  | _, _, .nil => rfl
  | _, _, .cons _ t => congrArg (· + 1) (RvA.len t)
theorem RvA.getD : ∀ {ds : List PV} {vs : List V} {i : Nat} {d : PV}, RvA K S H vs ds → ds[i]? = some d → ∃ v, vs[i]? = some v ∧ Rv K S H v d
  | _, _, _, _, .nil, e => by simp at e
  | _, _, 0, _, .cons h _, e => by simp at e; subst e; exact ⟨_, rfl, h⟩
  | _, _, i + 1, d, .cons _ t, e => by
    obtain ⟨v, h1, h2⟩ := RvA.getD (i := i) (d := d) t (by simpa using e)
    exact ⟨v, by simpa using h1, h2⟩
theorem RvA.get : ∀ {ds : List PV} {vs : List V} {i : Nat} {v : V}, RvA K S H vs ds → vs[i]? = some v → ∃ d, ds[i]? = some d ∧ Rv K S H v d
  | _, _, _, _, .nil, e => by simp at e
  | _, _, 0, _, .cons h _, e => by simp at e; subst e; exact ⟨_, rfl, h⟩
  | _, _, i + 1, v, .cons _ t, e => by
    obtain ⟨d, h1, h2⟩ := RvA.get (i := i) (v := v) t (by simpa using e)
    exact ⟨d, by simpa using h1, h2⟩
theorem RvA.append : ∀ {ds es : List PV} {vs us : List V}, RvA K S H vs ds → RvA K S H us es → RvA K S H (vs ++ us) (ds ++ es)
  | _, _, _, _, .nil, s => s
  | _, _, _, _, .cons h t, s => .cons h (RvA.append t s)
theorem RvA.take : ∀ {ds : List PV} {vs : List V} (n : Nat), RvA K S H vs ds → RvA K S H (vs.take n) (ds.take n)
  | _, _, 0, _ => .nil
  | _, _, _ + 1, .nil => .nil
  | _, _, n + 1, .cons h t => .cons h (RvA.take n t)
theorem RvA.drop : ∀ {ds : List PV} {vs : List V} (n : Nat), RvA K S H vs ds → RvA K S H (vs.drop n) (ds.drop n)
  | _, _, 0, h => h
  | _, _, _ + 1, .nil => .nil
  | _, _, n + 1, .cons _ t => RvA.drop n t
theorem RvA.set : ∀ {ds : List PV} {vs : List V} (n : Nat), RvA K S H vs ds → Rv K S H v d → RvA K S H (vs.set n v) (ds.set n d)
  | _, _, 0, .cons _ t, r => .cons r t
  | _, _, _, .nil, _ => .nil
  | _, _, n + 1, .cons h t, r => .cons h (RvA.set n t r)
end

/-! ### what it is for a reading to follow a function -/
section
variable (K : PySem.W.Frag) (E : XK)
def SimE (t : TE) (f : XE) : Prop := ∀ (c : Cs) (σ : St) (env : En) (T : List (V × EV)) (H : Hp) (g : Gm) (Q : VK), c.K = K → c.E = E → Ok c σ env T H g → (f env g).wp (fun e g' => ∀ v H', Ok c σ env ((v, e) :: T) H' g' → Q v H') c.X → t σ H Q
def SimT (t : TT) (f : XT) : Prop := ∀ (c : Cs) (σ : St) (env : En) (T : List (V × EV)) (H : Hp) (g : Gm) (Q : Bool → Hp → Prop), c.K = K → c.E = E → Ok c σ env T H g → (f env g).wp (fun b g' => ∀ H', Ok c σ env T H' g' → Q b H') c.X → t σ H Q
def SimA (t : TA) (f : XA) : Prop := ∀ (c : Cs) (σ : St) (env : En) (T : List (V × EV)) (H : Hp) (g : Gm) (Q : List V → Hp → Prop), c.K = K → c.E = E → Ok c σ env T H g → (f env g).wp (fun es g' => ∀ vs H', vs.length = es.length → Ok c σ env (vs.zip es ++ T) H' g' → Q vs H') c.X → t σ H Q
def SimM (t : TE) (f : XM) : Prop := ∀ (c : Cs) (σ : St) (env : En) (T : List (V × EV)) (H : Hp) (g : Gm) (Q : VK), c.K = K → c.E = E → Ok c σ env T H g → (f env g).wp (fun ds g' => ∀ p H', Mk c σ env T H' g' p ds → Q (.ref p) H') c.X → t σ H Q
/-- what is walked gives ds, as long as v stands for e -/
def Iters (J : It) (ds : List PV) (v : V) (e : EV) : Prop := ∀ (S m : List Addr) (H : Hp), EvOk K S m H v e → (∀ i, i < ds.length → J.go i H) ∧ J.stop ds.length H ∧ ∀ i x H', i < ds.length → J.yld i H x H' → Ext [] H H' ∧ ∃ d, ds[i]? = some d ∧ Rv K S H' x d
def SimI (t : TI) (f : XM) : Prop := ∀ (c : Cs) (σ : St) (env : En) (T : List (V × EV)) (H : Hp) (g : Gm) (R : It → Hp → Prop), c.K = K → c.E = E → Ok c σ env T H g → (f env g).wp (fun ds g' => ∀ J v e H', Iters K J ds v e → Ok c σ env ((v, e) :: T) H' g' → R J H') c.X → t σ H R
/-- a target: the slots vs alone are set -/
def SimG (vs : List Nat) (t : TG) (f : XG) : Prop := ∀ (c : Cs) (σ : St) (env env' : En) (T : List (V × EV)) (H : Hp) (g : Gm) (x : V) (d : PV) (Q : St → Hp → Prop), c.K = K → Ok c σ env ((x, .p d) :: T) H g → f d env = some env' → (∀ σ', Ok c σ' env' T H g → wipe σ' vs = wipe σ vs → Q σ' H) → t x σ H Q
def Cs.P (c : Cs) (T : List (V × EV)) (D : Ends) : XP := { nx := fun env g => ∀ σ H, Ok c σ env T H g → D.nx σ H, rt := fun e g => ∀ v H, Ok c [] [] [(v, e)] H g → D.rt v H, bk := fun env g => ∀ σ H, Ok c σ env T H g → D.bk σ H, ct := fun env g => ∀ σ H, Ok c σ env T H g → D.ct σ H, ex := c.X }
def SimS (k : Nat) (t : TS) (f : XS) : Prop := ∀ (c : Cs) (σ : St) (env : En) (T : List (V × EV)) (H : Hp) (g : Gm) (D : Ends), c.K = K → c.as.length = k → c.E = E → Ok c σ env T H g → (f env g).wp (c.P T D) → t D σ H
def RdOp (r : R2) (f : PV → PV → Option PV) : Prop := ∀ (S : List Addr) (H : Hp) (x y : V) (a b d : PV) (Q : VK), Vw K S H x a → Vw K S H y b → f a b = some d → (∀ v H', Ext [] H H' → Rv K S H' v d → Q v H') → r x y H Q
def RdB (r : List V → Hp → VK → Prop) (f : PV → Option PV) : Prop := ∀ (S : List Addr) (H : Hp) (x : V) (a d : PV) (Q : VK), Vw K S H x a → f a = some d → (∀ v H', Ext [] H H' → Rv K S H' v d → Q v H') → r [x] H Q
end

/-! ### the functions -/
def xVar (i : Nat) : XE := fun env g => match env[i]? with
  | some (.p d) => .ok (.p d) g
  | some (.own n) => .ok (.own n) g
  | _ => .fail
def xC (d : PV) : XE := fun _ g => .ok (.p d) g
def xNil : XA := fun _ g => .ok [] g
def xCons (fa : XE) (fs : XA) : XA := fun env g => (fa env g).bind fun e g1 => (fs env g1).bind fun es g2 => .ok (e :: es) g2
@[simp] def pvs : List EV → Option (List PV)
  | [] => some []
  | .p d :: r => (pvs r).map (d :: ·)
  | _ :: _ => none
def xTup (fa : XA) : XE := fun env g => (fa env g).bind fun es g1 => match pvs es with
  | some ds => if ds.length ≤ 1000 then .ok (.p (.tup ds)) g1 else .fail
  | none => .fail
def mLst (fa : XA) : XM := fun env g => (fa env g).bind fun es g1 => match pvs es with
  | some ds => if ds.length ≤ 1000 then .ok ds g1 else .fail
  | none => .fail
/-- a new list that nobody changes -/
def xFrz (fm : XM) : XE := fun env g => (fm env g).bind fun ds g1 => .ok (.p (.lst ds)) g1
/-- a new list that slot i owns -/
def xOwn (i : Nat) (fm : XM) : XS := fun env g => (fm env g).then fun ds g1 => .nx (env.set i (.own g1.length)) (g1 ++ [some ds])
def xo2 (f : PV → PV → Option PV) (g : Gm) (a b : EV) : XR EV := match a.val g, b.val g with
  | some x, some y => match f x y with
    | some d => .ok (.p d) g
    | none => .fail
  | _, _ => .fail
def xo1 (f : PV → Option PV) (g : Gm) (a : EV) : XR EV := match a.val g with
  | some x => match f x with
    | some d => .ok (.p d) g
    | none => .fail
  | _ => .fail
def xOp (f : PV → PV → Option PV) (fa fb : XE) : XE := fun env g => (fa env g).bind fun a g1 => (fb env g1).bind fun b g2 => xo2 f g2 a b
def xB (f : PV → Option PV) (fa : XE) : XE := fun env g => (fa env g).bind fun a g1 => xo1 f g1 a
def xbl (g : Gm) (a : EV) : XR Bool := match a.val g with
  | some (.bl b) => .ok b g
  | _ => .fail
def xTst (fa : XE) : XT := fun env g => (fa env g).bind fun a g1 => xbl g1 a
def xAnd (f1 f2 : XT) : XT := fun env g => (f1 env g).bind fun b g1 => if b = true then f2 env g1 else .ok false g1
def xOr (f1 f2 : XT) : XT := fun env g => (f1 env g).bind fun b g1 => if b = true then .ok true g1 else f2 env g1
def xNot (f1 : XT) : XT := fun env g => (f1 env g).bind fun b g1 => .ok (!b) g1
def xIfE (ft : XT) (fa fb : XE) : XE := fun env g => (ft env g).bind fun b g1 => if b = true then fa env g1 else fb env g1
def xNotV (fa : XE) : XE := fun env g => (fa env g).bind fun a g1 => (xbl g1 a).bind fun b g2 => .ok (.p (.bl (!b))) g2
def xAndV (fa fb : XE) : XE := fun env g => (fa env g).bind fun a g1 => (xbl g1 a).bind fun b g2 => if b = true then fb env g2 else .ok (.p (.bl false)) g2
def xOrV (fa fb : XE) : XE := fun env g => (fa env g).bind fun a g1 => (xbl g1 a).bind fun b g2 => if b = true then .ok (.p (.bl true)) g2 else fb env g2
def xChain (f f' : PV → PV → Option PV) (fa fb fc : XE) : XE := fun env g => (fa env g).bind fun a g1 => (fb env g1).bind fun b g2 => (xo2 f g2 a b).bind fun z g3 => (xbl g3 z).bind fun k g4 =>
  if k = true then (fc env g4).bind fun w g5 => xo2 f' g5 b w else .ok (.p (.bl false)) g4
abbrev XO' := Option Int
def xNoPart : En → Gm → XR (Option Int) := fun _ g => .ok none g
def xPart (fa : XE) : En → Gm → XR (Option Int) := fun env g => (fa env g).bind fun a g1 => match a.val g1 with
  | some (.int i) => .ok (some i) g1
  | _ => .fail

/-! statements -/
@[simp] def XO.bind (r : XO) (f : En → Gm → XO) : XO := match r with
  | .nx e g => f e g
  | .rt d g => .rt d g
  | .bk e g => .bk e g
  | .ct e g => .ct e g
  | .exn c g => .exn c g
  | .fail => .fail
def xSeq (f1 f2 : XS) : XS := fun env g => (f1 env g).bind f2
def xNext : XS := fun env g => .nx env g
def xBreak : XS := fun env g => .bk env g
def xCont : XS := fun env g => .ct env g
def xNever : XS := fun _ _ => .fail
def xRet (fa : XE) : XS := fun env g => (fa env g).then fun e g1 => .rt e g1
def xRetN : XS := fun env g => .rt (.p .non) g
def xAsg (i : Nat) (fa : XE) : XS := fun env g => (fa env g).then fun e g1 => .nx (env.set i e) g1
def xAsgG (tg : XG) (fa : XE) : XS := fun env g => (fa env g).then fun e g1 => match e with
  | .p d => match tg d env with
    | some env' => .nx env' g1
    | none => .fail
  | _ => .fail
def xDrop (fa : XE) : XS := fun env g => (fa env g).then fun _ g1 => .nx env g1
def xIf (ft : XT) (f1 f2 : XS) : XS := fun env g => (ft env g).then fun b g1 => if b = true then f1 env g1 else f2 env g1
def xRaise (c : Addr) : XS := fun _ g => .exn c g
def xAug (i : Nat) (f : Int → Int → Int) (fa : XE) : XS := fun env g => match env[i]? with
  | some (.p (.int a)) => (fa env g).then fun e g1 => match e with
    | .p (.int b) => .nx (env.set i (.p (.int (f a b)))) g1
    | _ => .fail
  | _ => .fail
def gN (i : Nat) : XG := fun d env => some (env.set i (.p d))
def gAll : List XG → List PV → En → Option En
  | [], [], env => some env
  | t :: ts, d :: ds, env => (t d env).bind fun env' => gAll ts ds env'
  | _, _, _ => none
def gT (ts : List XG) : XG := fun d env => match d with
  | .tup ds => gAll ts ds env
  | _ => none
def forL (tg : XG) (fb : XS) : List PV → En → Gm → XO
  | [], env, g => .nx env g
  | d :: ds, env, g => match tg d env with
    | none => .fail
    | some env1 => match fb env1 g with
      | .nx e g' => forL tg fb ds e g'
      | .ct e g' => forL tg fb ds e g'
      | .bk e g' => .nx e g'
      | .rt d g' => .rt d g'
      | .exn c g' => .exn c g'
      | .fail => .fail
def xFor (fi : XM) (tg : XG) (fb : XS) : XS := fun env g => (fi env g).then fun ds g1 => forL tg fb ds env g1
def wipeE (env : En) : List Nat → En
  | [] => env
  | i :: r => (wipeE env r).set i .no
def compL (tg : XG) (ft : XT) (fe : XE) (env : En) : List PV → Gm → XR (List PV)
  | [], g => .ok [] g
  | d :: ds, g => match tg d env with
    | none => .fail
    | some env1 => (ft env1 g).bind fun b g1 => if b = true then (fe env1 g1).bind fun r g2 => match r with
        | .p y => (compL tg ft fe env ds g2).bind fun ys g3 => .ok (y :: ys) g3
        | _ => .fail
      else compL tg ft fe env ds g1
def xYes : XT := fun _ g => .ok true g
def mComp (fi : XM) (tg : XG) (ft : XT) (fe : XE) (vs : List Nat) : XM := fun env g => (fi env g).bind fun ds g1 => if ds.length < 16777216 then compL tg ft fe (wipeE env vs) ds g1 else .fail
/-! calls -/
abbrev XF := List EV → Gm → XR PV
@[simp] def owns : List EV → List Nat
  | [] => []
  | .own n :: r => n :: owns r
  | _ :: r => owns r
@[simp] def to0 : EV → EV
  | .own _ => .own 0
  | e => e
@[simp] def XR.lift (r : XR PV) (k : Gm → Gm) : XR EV := match r with
  | .ok d g => .ok (.p d) (k g)
  | .exn c g => .exn c (k g)
  | .fail => .fail
@[simp] def XR.lift1 (r : XR PV) (k : Option (List PV) → Gm) : XR EV := match r with
  | .ok d [some l] => .ok (.p d) (k (some l))
  | .exn c [some l] => .exn c (k (some l))
  | _ => .fail
def callF (F : XF) (es : List EV) (g : Gm) : XR EV := match owns es with
  | [] => (F es []).lift fun _ => g
  | [n] => match g[n]? with
    | some (some l) => (F (es.map to0) [some l]).lift1 fun l' => g.set n l'
    | _ => .fail
  | _ => .fail
def xCall (F : XF) (fa : XA) : XE := fun env g => (fa env g).bind fun es g1 => callF F es g1
/-- a callee that raises nothing here -/
@[simp] def XR.calm {α : Type} (r : XR α) : XR α := match r with
  | .ok d g => .ok d g
  | _ => .fail
def xCallN (F : XF) (fa : XA) : XE := fun env g => (fa env g).bind fun es g1 => (callF F es g1).calm
def xCallK (np : Nat) (F : XF) (fa fk : XA) : XE := fun env g => (fa env g).bind fun es g1 => (fk env g1).bind fun ks g2 => if es.length = np then callF F (es ++ ks) g2 else .fail
def xCallKN (np : Nat) (F : XF) (fa fk : XA) : XE := fun env g => (fa env g).bind fun es g1 => (fk env g1).bind fun ks g2 => if es.length = np then (callF F (es ++ ks) g2).calm else .fail
def XO.finish (k : Nat) : XO → XR PV
  | .nx _ g => .ok .non (g.take k)
  | .rt (.p d) g => .ok d (g.take k)
  | .rt (.own n) g => if n < k then .fail else match g[n]? with
    | some (some ds) => .ok (.lst ds) (g.take k)
    | _ => .fail
  | .exn c g => .exn c (g.take k)
  | _ => .fail
def runF (N ar k : Nat) (body : XS) : XF := fun es g => if es.length = ar ∧ g.length = k then (body (es ++ List.replicate (N - ar) .no) g).finish g.length else .fail
def noF : XF := fun _ _ => .fail
/-- own lists changed -/
def xSetI (fa fo fi : XE) : XS := fun env g => (fa env g).then fun e g1 => (fo env g1).then fun o g2 => (fi env g2).then fun i g3 => match e, o, i.val g3 with
  | .p d, .own n, some (.int k) => match g3[n]? with
    | some (some ds) => match ixN ds.length k with
      | some j => .nx env (g3.set n (some (ds.set j d)))
      | none => .fail
    | _ => .fail
  | _, _, _ => .fail
/-- slot i's own list is a value from here on -/
def xFz (k i : Nat) : XS := fun env g => match env[i]? with
  | some (.own n) => if n < k then .fail else match g[n]? with
    | some (some ds) => .nx (env.set i (.p (.lst ds))) (g.set n none)
    | _ => .fail
  | some (.p d) => .nx env g
  | _ => .fail
/-- o.m(e), o an own list that becomes f of it -/
def xMut (f : List PV → List PV → Option (List PV × PV)) (fo : XE) (fa : XA) : XE := fun env g => (fo env g).bind fun o g1 => match o with
  | .own n => match g1[n]? with
    | some (some _) => (fa env g1).bind fun es g2 => match pvs es, g2[n]? with
      | some ys, some (some ds) => match f ds ys with
        | some (ds', y) => .ok (.p y) (g2.set n (some ds'))
        | none => .fail
      | _, _ => .fail
    | _ => .fail
  | _ => .fail
def fApp (ds : List PV) : List PV → Option (List PV × PV)
  | [d] => if ds.length < 16777216 then some (ds ++ [d], .non) else none
  | _ => none
def fIns (ds : List PV) : List PV → Option (List PV × PV)
  | [.int i, d] => if ds.length < 16777216 ∧ 0 ≤ i ∧ i < 9223372036854775808 then some (ds.take i.toNat ++ [d] ++ ds.drop i.toNat, .non) else none
  | _ => none
end Go

set_option Elab.async false
set_option linter.all false
set_option maxRecDepth 100000
set_option maxHeartbeats 4000000
/-! Sem2: the readings follow. -/
namespace Go
open PySem L2
section
variable {K : PySem.W.Frag} {E : XK} {k : Nat} {c : Cs} {σ : St} {env : En} {T : List (V × EV)} {H : Hp} {g : Gm} {Q : VK}
theorem Ok.pop {v : V} {e : EV} (h : Ok c σ env ((v, e) :: T) H g) : Ok c σ env T H g := h.sub fun p hp => List.mem_cons_of_mem _ hp
theorem sim_var (i : Nat) : SimE K E (tVar i) (xVar i) := by
  intro c σ env T H g Q hK hE o h
  have key : ∀ e : EV, env[i]? = some e → e ≠ .no → ∃ v, σ[i]? = some (some v) ∧ Ok c σ env ((v, e) :: T) H g := fun e h1 h2 => by
    obtain ⟨m, S, o⟩ := o
    obtain ⟨v, e1, e2⟩ := o.slot i e h1 h2
    refine ⟨v, e1, m, S, o.tmps fun p hp => ?_⟩
    rcases List.mem_cons.mp hp with q | q
    · subst q; exact e2
    · exact o.tmp p q
  unfold xVar at h
  split at h
  · rename_i d hd
    obtain ⟨v, e1, e2⟩ := key _ hd (by simp)
    exact ⟨v, e1, h v H e2⟩
  · rename_i d hd
    obtain ⟨v, e1, e2⟩ := key _ hd (by simp)
    exact ⟨v, e1, h v H e2⟩
  · exact h.elim
theorem sim_c {v : V} {d : PV} (r : ∀ S H, Rv K S H v d) : SimE K E (tC v) (xC d) := by
  intro c σ env T H g Q hK hE o h
  subst hK
  exact h v H (o.top fun m S _ => r _ _)
theorem sim_nil : SimA K E tNil xNil := by
  intro c σ env T H g Q hK hE o h
  exact h [] H rfl (by simpa using o)
theorem sim_cons {ta : TE} {t : TA} {fa : XE} {fs : XA} (ha : SimE K E ta fa) (ht : SimA K E t fs) : SimA K E (tCons ta t) (xCons fa fs) := by
  intro c σ env T H g Q hK hE o h
  refine ha c σ env T H g _ hK hE o (XR.wp_mono (XR.wp_bind h) (fun e g1 h1 v H1 o1 => ?_) fun _ _ z => z)
  refine ht c σ env _ H1 g1 _ hK hE o1 (XR.wp_mono (XR.wp_bind h1) (fun es g2 h2 vs H2 hl o2 => ?_) fun _ _ z => z)
  refine h2 (v :: vs) H2 (by simp [hl]) (o2.sub fun p hp => ?_)
  simp only [List.zip_cons_cons, List.cons_append, List.mem_cons, List.mem_append] at hp ⊢
  rcases hp with q | q | q
  · exact .inr (.inl q)
  · exact .inl q
  · exact .inr (.inr q)
theorem pvs_ok {S m : List Addr} : ∀ {es : List EV} {vs : List V} {ds : List PV}, vs.length = es.length → (∀ p, p ∈ vs.zip es → EvOk K S m H p.1 p.2) → pvs es = some ds → RvA K S H vs ds
  | [], [], _, _, _, h => by cases h; exact .nil
  | [], _ :: _, _, hl, _, _ => by simp at hl
  | _ :: _, [], _, hl, _, _ => by simp at hl
  | .p d :: es, v :: vs, ds, hl, hf, h => by
    obtain ⟨r, h1, rfl⟩ := Option.map_eq_some_iff.mp h
    exact .cons (hf (v, .p d) (by simp)) (pvs_ok (by simpa using hl) (fun p hp => hf p (by simp [hp])) h1)
  | .no :: es, _ :: _, _, _, _, h => by cases h
  | .own _ :: es, _ :: _, _, _, _, h => by cases h
theorem RvA.newT {S : List Addr} {p : Addr} {xs : List V} {ds : List PV} (h : RvA K S H xs ds) (hp : H p = none) : Rv K S (upd H p (.tup xs)) (.ref p) (.tup ds) := .tup (SqT.of upd_same) (h.ext (Ext.new hp))
theorem line1000 {n : Nat} (h : n ≤ 1000) : n ≤ sizeLine := le_line h
theorem Ok.zips {vs : List V} {es : List EV} (o : Ok c σ env (vs.zip es ++ T) H g) : Ok c σ env T H g := o.sub fun p hp => List.mem_append_right _ hp
theorem Ok.push {A : List (V × EV)} {v : V} {e : EV} (o : Ok c σ env (A ++ T) H g) (f : ∀ m S, OkH c S m σ env (A ++ T) H g → EvOk c.K S m H v e) : Ok c σ env ((v, e) :: T) H g :=
  o.map fun m S o p hp => by
    rcases List.mem_cons.mp hp with q | q
    · subst q; exact f m S o
    · exact o.tmp p (List.mem_append_right _ q)
theorem sim_tup {t : TA} {f : XA} (ht : SimA K E t f) : SimE K E (tTupK K t) (xTup f) := by
  intro c σ env T H g Q hK hE o h
  refine w_tup (ht c σ env T H g _ hK hE o (XR.wp_mono (XR.wp_bind h) (fun es g1 h1 vs H1 hl o1 => ?_) fun _ _ z => z))
  split at h1
  · rename_i ds hd
    split at h1
    · rename_i hn
      subst hK
      have e : vs.length = ds.length := by
        obtain ⟨m, S, o⟩ := o1
        exact (pvs_ok hl (fun p hp => o.tmp p (List.mem_append_left _ hp)) hd).len
      exact ⟨by rw [e]; exact line1000 hn, fun p hp => h1 _ _ ((o1.grow (Ext.new hp)).push fun m S o2 => .tup (SqT.of upd_same) (pvs_ok hl (fun p hp => o2.tmp p (List.mem_append_left _ hp)) hd))⟩
    · exact h1.elim
  · exact h1.elim
theorem sim_lst {t : TA} {f : XA} (ht : SimA K E t f) : SimM K E (tLst t) (mLst f) := by
  intro c σ env T H g Q hK hE o h
  refine w_lst (ht c σ env T H g _ hK hE o (XR.wp_mono (XR.wp_bind h) (fun es g1 h1 vs H1 hl o1 => ?_) fun _ _ z => z))
  split at h1
  · rename_i ds hd
    split at h1
    · rename_i hn
      subst hK
      have key : ∀ m S, OkH c S m σ env (vs.zip es ++ T) H1 g1 → RvA c.K S H1 vs ds := fun m S o => pvs_ok hl (fun p hp => o.tmp p (List.mem_append_left _ hp)) hd
      have e : vs.length = ds.length := by
        obtain ⟨m, S, o⟩ := o1
        exact (key m S o).len
      refine ⟨by rw [e]; exact line1000 hn, fun p hp => h1 _ _ ?_⟩
      have k := Mk.of o1 hp key
      exact k.sub fun q hq => List.mem_append_right _ hq
    · exact h1.elim
  · exact h1.elim
theorem sim_frz {t : TE} {f : XM} (ht : SimM K E t f) : SimE K E t (xFrz f) := by
  intro c σ env T H g Q hK hE o h
  exact ht c σ env T H g _ hK hE o (XR.wp_mono (XR.wp_bind h) (fun ds g1 h1 p H1 k => h1 _ _ k.frz) fun _ _ z => z)
/-! statements -/
theorem sim_own {t : TE} {f : XM} {i : Nat} (ht : SimM K E t f) : SimS K E k (tAsg t (gName i)) (xOwn i f) := by
  intro c σ env T H g D hK hk hE o h
  exact ht c σ env T H g _ hK hE o (XR.wp_mono (XR.wp_then h) (fun ds g1 h1 p H1 k => h1 _ _ k.own.set) fun _ _ z => z)
theorem sim_asg {t : TE} {f : XE} {i : Nat} (ht : SimE K E t f) : SimS K E k (tAsg t (gName i)) (xAsg i f) := by
  intro c σ env T H g D hK hk hE o h
  exact ht c σ env T H g _ hK hE o (XR.wp_mono (XR.wp_then h) (fun e g1 h1 v H1 k => h1 _ _ k.set) fun _ _ z => z)
theorem sim_drop {t : TE} {f : XE} (ht : SimE K E t f) : SimS K E k (tDrop t) (xDrop f) := by
  intro c σ env T H g D hK hk hE o h
  exact ht c σ env T H g _ hK hE o (XR.wp_mono (XR.wp_then h) (fun e g1 h1 v H1 k => h1 _ _ k.pop) fun _ _ z => z)
theorem sim_ret {t : TE} {f : XE} (ht : SimE K E t f) : SimS K E k (tRet t) (xRet f) := by
  intro c σ env T H g D hK hk hE o h
  exact ht c σ env T H g _ hK hE o (XR.wp_mono (XR.wp_then h) (fun e g1 h1 v H1 k => h1 _ _ k.last) fun _ _ z => z)
theorem sim_retN : SimS K E k tRetN xRetN := by
  intro c σ env T H g D hK hk hE o h
  exact h _ _ (o.top (e := .p .non) fun _ _ _ => .non).last
theorem sim_next : SimS K E k tNext xNext := by
  intro c σ env T H g D hK hk hE o h
  exact h _ _ o
theorem sim_break : SimS K E k tBreak xBreak := by
  intro c σ env T H g D hK hk hE o h
  exact h _ _ o
theorem sim_cont : SimS K E k tCont xCont := by
  intro c σ env T H g D hK hk hE o h
  exact h _ _ o
theorem sim_never : SimS K E k tNever xNever := by
  intro c σ env T H g D hK hk hE o h
  exact h
theorem XO.wp_bind {r : XO} {f : En → Gm → XO} {P : XP} (h : (r.bind f).wp P) : r.wp { P with nx := fun e g => (f e g).wp P } := by cases r <;> exact h
theorem sim_seq {t u : TS} {f1 f2 : XS} (h1 : SimS K E k t f1) (h2 : SimS K E k u f2) : SimS K E k (tSeqJ t u) (xSeq f1 f2) := by
  intro c σ env T H g D hK hk hE o h
  refine w_seqJ (h1 c σ env T H g { D with nx := u D } hK hk hE o (XO.wp_mono (XO.wp_bind h) (fun e g1 q σ1 H1 o1 => ?_) (fun _ _ z => z) (fun _ _ z => z) (fun _ _ z => z) fun _ _ z => z))
  exact h2 c σ1 e T H1 g1 D hK hk hE o1 q
theorem sim_if {t : TT} {t1 t2 : TS} {ft : XT} {f1 f2 : XS} (h0 : SimT K E t ft) (h1 : SimS K E k t1 f1) (h2 : SimS K E k t2 f2) : SimS K E k (tIfS t t1 t2) (xIf ft f1 f2) := by
  intro c σ env T H g D hK hk hE o h
  refine w_ifS (h0 c σ env T H g _ hK hE o (XR.wp_mono (XR.wp_then h) (fun b g1 q H1 o1 => ?_) fun _ _ z => z))
  cases b with
  | true => exact h1 c σ env T H1 g1 D hK hk hE o1 q
  | false => exact h2 c σ env T H1 g1 D hK hk hE o1 q
theorem sim_raise {x : Addr} : SimS K E k (tRaiseC x E) (xRaise x) := by
  intro c σ env T H g D hK hk hE o h
  subst hE
  exact h H o.end_
/-! tests -/
theorem Ok.val {v : V} {e : EV} {d : PV} (o : Ok c σ env ((v, e) :: T) H g) (he : e.val g = some d) : ∃ S, Vw c.K S H v d := by
  obtain ⟨m, S, o⟩ := o
  exact ⟨_, EvOk.vw o.own (o.tmp _ List.mem_cons_self) he⟩
theorem xbl_wp {g : Gm} {a : EV} {P : Bool → Gm → Prop} {X : Addr → Gm → Prop} (h : (xbl g a).wp P X) : ∃ b, a.val g = some (.bl b) ∧ P b g := by
  unfold xbl at h
  split at h
  · rename_i b hb; exact ⟨b, hb, h⟩
  · exact h.elim
theorem sim_tst {t : TE} {f : XE} (ht : SimE K E t f) : SimT K E (tTest t) (xTst f) := by
  intro c σ env T H g Q hK hE o h
  refine w_test (ht c σ env T H g _ hK hE o (XR.wp_mono (XR.wp_bind h) (fun e g1 h1 v H1 o1 => ?_) fun _ _ z => z))
  obtain ⟨b, hb, q⟩ := xbl_wp h1
  obtain ⟨S, r⟩ := o1.val hb
  exact ⟨b, r.blI, q _ o1.pop⟩
theorem sim_tB {t : TE} {f : XE} (ht : SimE K E t f) : SimT K E (tB t) (xTst f) := sim_tst ht
theorem sim_and {t u : TT} {f1 f2 : XT} (h1 : SimT K E t f1) (h2 : SimT K E u f2) : SimT K E (tAnd t u) (xAnd f1 f2) := by
  intro c σ env T H g Q hK hE o h
  refine w_and (h1 c σ env T H g _ hK hE o (XR.wp_mono (XR.wp_bind h) (fun b g1 q H1 o1 => ?_) fun _ _ z => z))
  cases b with
  | true => exact h2 c σ env T H1 g1 Q hK hE o1 q
  | false => exact q _ o1
theorem sim_or {t u : TT} {f1 f2 : XT} (h1 : SimT K E t f1) (h2 : SimT K E u f2) : SimT K E (tOr t u) (xOr f1 f2) := by
  intro c σ env T H g Q hK hE o h
  refine w_or (h1 c σ env T H g _ hK hE o (XR.wp_mono (XR.wp_bind h) (fun b g1 q H1 o1 => ?_) fun _ _ z => z))
  cases b with
  | true => exact q _ o1
  | false => exact h2 c σ env T H1 g1 Q hK hE o1 q
theorem sim_not {t : TT} {f1 : XT} (h1 : SimT K E t f1) : SimT K E (tNot t) (xNot f1) := by
  intro c σ env T H g Q hK hE o h
  exact w_not (h1 c σ env T H g _ hK hE o (XR.wp_mono (XR.wp_bind h) (fun b g1 q H1 o1 => q _ o1) fun _ _ z => z))
theorem sim_ifE {t : TT} {ta tb : TE} {ft : XT} {fa fb : XE} (h0 : SimT K E t ft) (h1 : SimE K E ta fa) (h2 : SimE K E tb fb) : SimE K E (tIf t ta tb) (xIfE ft fa fb) := by
  intro c σ env T H g D hK hE o h
  refine w_if (h0 c σ env T H g _ hK hE o (XR.wp_mono (XR.wp_bind h) (fun b g1 q H1 o1 => ?_) fun _ _ z => z))
  cases b with
  | true => exact h1 c σ env T H1 g1 D hK hE o1 q
  | false => exact h2 c σ env T H1 g1 D hK hE o1 q
theorem sim_notV {t : TE} {f : XE} (ht : SimE K E t f) : SimE K E (tNotV t) (xNotV f) := by
  intro c σ env T H g Q hK hE o h
  refine w_notV (ht c σ env T H g _ hK hE o (XR.wp_mono (XR.wp_bind h) (fun e g1 h1 v H1 o1 => ?_) fun _ _ z => z))
  obtain ⟨b, hb, q⟩ := xbl_wp (XR.wp_bind h1)
  obtain ⟨S, r⟩ := o1.val hb
  exact ⟨b, r.blI, q _ _ (o1.pop.top fun _ _ _ => .bl _)⟩
theorem sim_andV {t u : TE} {f f2 : XE} (ht : SimE K E t f) (hu : SimE K E u f2) : SimE K E (tAndV t u) (xAndV f f2) := by
  intro c σ env T H g Q hK hE o h
  refine w_andV (ht c σ env T H g _ hK hE o (XR.wp_mono (XR.wp_bind h) (fun e g1 h1 v H1 o1 => ?_) fun _ _ z => z))
  obtain ⟨b, hb, q⟩ := xbl_wp (XR.wp_bind h1)
  obtain ⟨S, r⟩ := o1.val hb
  refine ⟨b, r.blI, ?_⟩
  cases b with
  | true => exact hu c σ env T H1 g1 Q hK hE o1.pop q
  | false => exact q _ _ (o1.pop.top fun _ _ _ => .bl _)
theorem sim_orV {t u : TE} {f f2 : XE} (ht : SimE K E t f) (hu : SimE K E u f2) : SimE K E (tOrV t u) (xOrV f f2) := by
  intro c σ env T H g Q hK hE o h
  refine w_orV (ht c σ env T H g _ hK hE o (XR.wp_mono (XR.wp_bind h) (fun e g1 h1 v H1 o1 => ?_) fun _ _ z => z))
  obtain ⟨b, hb, q⟩ := xbl_wp (XR.wp_bind h1)
  obtain ⟨S, r⟩ := o1.val hb
  refine ⟨b, r.blI, ?_⟩
  cases b with
  | false => exact hu c σ env T H1 g1 Q hK hE o1.pop q
  | true => exact q _ _ (o1.pop.top fun _ _ _ => .bl _)
/-! operators -/
theorem xo2_wp {f : PV → PV → Option PV} {g : Gm} {a b : EV} {P : EV → Gm → Prop} {X : Addr → Gm → Prop} (h : (xo2 f g a b).wp P X) : ∃ x y d, a.val g = some x ∧ b.val g = some y ∧ f x y = some d ∧ P (.p d) g := by
  unfold xo2 at h
  split at h
  · rename_i x y hx hy
    split at h
    · rename_i d hd; exact ⟨x, y, d, hx, hy, hd, h⟩
    · exact h.elim
  · exact h.elim
theorem xo1_wp {f : PV → Option PV} {g : Gm} {a : EV} {P : EV → Gm → Prop} {X : Addr → Gm → Prop} (h : (xo1 f g a).wp P X) : ∃ x d, a.val g = some x ∧ f x = some d ∧ P (.p d) g := by
  unfold xo1 at h
  split at h
  · rename_i x hx
    split at h
    · rename_i d hd; exact ⟨x, d, hx, hd, h⟩
    · exact h.elim
  · exact h.elim
theorem op_at {r : R2} {f : PV → PV → Option PV} {x y : V} {a b : EV} (hr : RdOp c.K r f) (o : Ok c σ env ((y, b) :: (x, a) :: T) H g) (h : (xo2 f g a b).wp (fun e g' => ∀ v H', Ok c σ env ((v, e) :: T) H' g' → Q v H') X) : r x y H Q := by
  obtain ⟨p, q, d, e1, e2, e3, k⟩ := xo2_wp h
  obtain ⟨m, S, o⟩ := o
  have r1 := EvOk.vw o.own (o.tmp (x, a) (by simp)) e1
  have r2 := EvOk.vw o.own (o.tmp (y, b) (by simp)) e2
  refine hr S H x y p q d Q r1 r2 e3 fun v H' x' rv => k v H' ⟨m, S, ?_⟩
  have o' := o.grow x'
  exact o'.tmps fun w hw => by
    rcases List.mem_cons.mp hw with z | z
    · subst z; exact rv
    · exact o'.tmp w (by simp [z])
theorem sim_op {r : R2} {f : PV → PV → Option PV} {ta tb : TE} {fa fb : XE} (hr : RdOp K r f) (ha : SimE K E ta fa) (hb : SimE K E tb fb) : SimE K E (tOp r ta tb) (xOp f fa fb) := by
  intro c σ env T H g Q hK hE o h
  refine w_op (ha c σ env T H g _ hK hE o (XR.wp_mono (XR.wp_bind h) (fun a g1 h1 x H1 o1 => ?_) fun _ _ z => z))
  refine hb c σ env _ H1 g1 _ hK hE o1 (XR.wp_mono (XR.wp_bind h1) (fun b g2 h2 y H2 o2 => ?_) fun _ _ z => z)
  subst hK
  exact op_at hr o2 h2
theorem sim_b {r : List V → Hp → VK → Prop} {f : PV → Option PV} {ta : TE} {fa : XE} (hr : RdB K r f) (ha : SimE K E ta fa) : SimE K E (tCB r (tCons ta tNil)) (xB f fa) := by
  intro c σ env T H g Q hK hE o h
  refine w_cb (ha c σ env T H g _ hK hE o (XR.wp_mono (XR.wp_bind h) (fun a g1 h1 x H1 o1 => ?_) fun _ _ z => z))
  obtain ⟨p, d, e1, e3, k⟩ := xo1_wp h1
  obtain ⟨m, S, o⟩ := o1
  subst hK
  have r1 := EvOk.vw o.own (o.tmp (x, a) (by simp)) e1
  refine hr S H1 x p d Q r1 e3 fun v H' x' rv => k v H' ⟨m, S, ?_⟩
  have o' := o.grow x'
  exact o'.tmps fun w hw => by
    rcases List.mem_cons.mp hw with z | z
    · subst z; exact rv
    · exact o'.tmp w (by simp [z])
def RdU (K : PySem.W.Frag) (r : V → Hp → VK → Prop) (f : PV → Option PV) : Prop := ∀ (S : List Addr) (H : Hp) (x : V) (a d : PV) (Q : VK), Vw K S H x a → f a = some d → (∀ v H', Ext [] H H' → Rv K S H' v d → Q v H') → r x H Q
theorem sim_un {r : V → Hp → VK → Prop} {f : PV → Option PV} {ta : TE} {fa : XE} (hr : RdU K r f) (ha : SimE K E ta fa) : SimE K E (tUn r ta) (xB f fa) := by
  intro c σ env T H g Q hK hE o h
  refine w_un (ha c σ env T H g _ hK hE o (XR.wp_mono (XR.wp_bind h) (fun a g1 h1 x H1 o1 => ?_) fun _ _ z => z))
  obtain ⟨p, d, e1, e3, k⟩ := xo1_wp h1
  obtain ⟨m, S, o⟩ := o1
  subst hK
  have r1 := EvOk.vw o.own (o.tmp (x, a) (by simp)) e1
  refine hr S H1 x p d Q r1 e3 fun v H' x' rv => k v H' ⟨m, S, ?_⟩
  have o' := o.grow x'
  exact o'.tmps fun w hw => by
    rcases List.mem_cons.mp hw with z | z
    · subst z; exact rv
    · exact o'.tmp w (by simp [z])
theorem sim_chain {r r' : R2} {f f' : PV → PV → Option PV} {ta tb tc : TE} {fa fb fc : XE} (hr : RdOp K r f) (hr' : RdOp K r' f') (ha : SimE K E ta fa) (hb : SimE K E tb fb) (hc : SimE K E tc fc) : SimE K E (tChain r r' ta tb tc) (xChain f f' fa fb fc) := by
  intro c σ env T H g Q hK hE o h
  unfold tChain
  refine ha c σ env T H g _ hK hE o (XR.wp_mono (XR.wp_bind h) (fun a g1 h1 x H1 o1 => ?_) fun _ _ z => z)
  refine hb c σ env _ H1 g1 _ hK hE o1 (XR.wp_mono (XR.wp_bind h1) (fun b g2 h2 y H2 o2 => ?_) fun _ _ z => z)
  subst hK
  have o3 : Ok c σ env ((y, b) :: (x, a) :: ((y, b) :: T)) H2 g2 := o2.sub fun p hp => by
    simp only [List.mem_cons] at hp ⊢
    rcases hp with q | q | q | q
    · exact .inl q
    · exact .inr (.inl q)
    · exact .inl q
    · exact .inr (.inr q)
  refine op_at (X := c.X) hr o3 (XR.wp_mono (XR.wp_bind h2) (fun z g3 h3 v H3 o4 => ?_) fun _ _ z => z)
  obtain ⟨k, hk, q⟩ := xbl_wp (XR.wp_bind h3)
  obtain ⟨S, rz⟩ := o4.val hk
  refine ⟨k, rz.blI, ?_⟩
  cases k with
  | false => exact q _ _ (o4.pop.pop.top fun _ _ _ => .bl _)
  | true =>
    refine hc c σ env _ H3 g3 _ rfl hE o4.pop (XR.wp_mono (XR.wp_bind q) (fun w g5 h5 u H5 o5 => ?_) fun _ _ z => z)
    exact op_at hr' o5 h5
end
end Go

set_option Elab.async false
set_option linter.all false
set_option maxRecDepth 100000
set_option maxHeartbeats 4000000
/-! Sem3: targets, loops, comprehensions. -/
namespace Go
open PySem L2
section
variable {K : PySem.W.Frag} {E : XK} {k : Nat} {c : Cs} {σ : St} {env : En} {T : List (V × EV)} {H H' : Hp} {g : Gm} {Q : VK}
theorem wipe_get (σ : St) (j : Nat) : ∀ vs : List Nat, (wipe σ vs)[j]? = if j ∈ vs then σ[j]?.map fun _ => none else σ[j]?
  | [] => by simp [wipe]
  | v :: vs => by
    have ih := wipe_get σ j vs
    unfold wipe
    by_cases h : v = j
    · subst h
      rw [List.getElem?_set]
      have hl := wipe_length σ vs
      by_cases h2 : v < σ.length
      · simp [hl, h2]
      · simp [hl, h2]
    · rw [List.getElem?_set_ne h, ih]
      have : (j ∈ v :: vs) ↔ j ∈ vs := by simp [Ne.symm h]
      simp [this]
theorem wipe_set {i : Nat} {x : Option V} {vs : List Nat} (h : i ∈ vs) : wipe (σ.set i x) vs = wipe σ vs := by
  refine List.ext_getElem? fun j => ?_
  rw [wipe_get, wipe_get]
  by_cases e : i = j
  · subst e
    simp only [h, if_true, List.getElem?_set]
    by_cases h2 : i < σ.length <;> simp [h2]
  · rw [List.getElem?_set_ne e]
theorem wipe_wipe {σ : St} {vs : List Nat} : wipe (wipe σ vs) vs = wipe σ vs := by
  refine List.ext_getElem? fun j => ?_
  rw [wipe_get, wipe_get]
  by_cases e : j ∈ vs <;> simp [e, Function.comp_def]
theorem Ok.wipes (o : Ok c σ env T H g) : ∀ vs : List Nat, Ok c (L2.wipe σ vs) (wipeE env vs) T H g
  | [] => o
  | v :: vs => Ok.wipe (o.wipes vs)
theorem sim_gN {i : Nat} {vs : List Nat} (h : i ∈ vs) : SimG K vs (gName i) (gN i) := by
  intro c σ env env' T H g x d Q hK o e q
  cases e
  exact q _ o.set (wipe_set h)
def SimGs (K : PySem.W.Frag) (vs : List Nat) (t : TGs) (fs : List XG) : Prop := ∀ (c : Cs) (σ : St) (env env' : En) (T : List (V × EV)) (H : Hp) (g : Gm) (xs : List V) (ds : List PV) (Q : St → Hp → Prop), c.K = K → xs.length = ds.length → Ok c σ env (xs.zip (ds.map EV.p) ++ T) H g → gAll fs ds env = some env' → (∀ σ', Ok c σ' env' T H g → wipe σ' vs = wipe σ vs → Q σ' H) → t xs σ H Q
theorem sim_gNil {vs : List Nat} : SimGs K vs gNil [] := by
  intro c σ env env' T H g xs ds Q hK hl o e q
  cases ds with
  | cons _ _ => cases e
  | nil =>
    cases e
    cases xs with
    | cons _ _ => simp at hl
    | nil => exact ⟨rfl, q σ (by simpa using o) rfl⟩
theorem sim_gCons {vs : List Nat} {t : TG} {ts : TGs} {f : XG} {fs : List XG} (h : SimG K vs t f) (hs : SimGs K vs ts fs) : SimGs K vs (gCons t ts) (f :: fs) := by
  intro c σ env env' T H g xs ds Q hK hl o e q
  cases ds with
  | nil => cases e
  | cons d ds =>
    cases xs with
    | nil => simp at hl
    | cons x xs =>
      obtain ⟨env1, e1, e2⟩ := Option.bind_eq_some_iff.mp e
      refine ⟨x, xs, rfl, h c σ env env1 _ H g x d _ hK (by simpa using o) e1 fun σ1 o1 w1 => ?_⟩
      exact hs c σ1 env1 env' T H g xs ds Q hK (by simpa using hl) o1 e2 fun σ2 o2 w2 => q σ2 o2 (w2.trans w1)
theorem sim_gT {vs : List Nat} {ts : TGs} {fs : List XG} {n : Nat} (hn : fs.length = n) (hs : SimGs K vs ts fs) : SimG K vs (gTup K n ts) (gT fs) := by
  intro c σ env env' T H g x d Q hK o e q
  subst hK
  unfold gT at e
  split at e
  · rename_i ds
    obtain ⟨m, S, o'⟩ := id o
    have r := o'.tmp _ List.mem_cons_self
    cases r with
    | tup h1 h2 =>
      rename_i a xs
      have gl : ∀ (fs : List XG) (ds : List PV) (env env' : En), gAll fs ds env = some env' → fs.length = ds.length := by
        intro fs
        induction fs with
        | nil => intro ds env env' h; cases ds with | nil => rfl | cons _ _ => cases h
        | cons f fs ih =>
          intro ds env env' h
          cases ds with
          | nil => cases h
          | cons d ds =>
            obtain ⟨_, _, h2⟩ := Option.bind_eq_some_iff.mp h
            simp [ih _ _ _ h2]
      have l := gl _ _ _ _ e
      refine ⟨a, xs, rfl, h1, by rw [h2.len, ← l, hn], hs c σ env env' T H g xs ds Q rfl h2.len ⟨m, S, o'.tmps fun p hp => ?_⟩ e q⟩
      rcases List.mem_append.mp hp with z | z
      · have gen : ∀ {xs : List V} {ds : List PV}, RvA c.K S H xs ds → ∀ p, p ∈ xs.zip (ds.map EV.p) → EvOk c.K S m H p.1 p.2 := by
          intro xs ds h
          induction ds generalizing xs with
          | nil => cases h; intro p hp; simp at hp
          | cons d ds ih =>
            cases h with
            | cons h1 h2 =>
              intro p hp
              simp only [List.map_cons, List.zip_cons_cons, List.mem_cons] at hp
              rcases hp with w | w
              · subst w; exact h1
              · exact ih h2 p w
        exact gen h2 p z
      · exact o'.tmp p (List.mem_cons_of_mem _ z)
  · cases e
theorem sim_asgG {vs : List Nat} {t : TE} {f : XE} {gt : TG} {fg : XG} (ht : SimE K E t f) (hg : SimG K vs gt fg) : SimS K E k (tAsg t gt) (xAsgG fg f) := by
  intro c σ env T H g D hK hk hE o h
  refine ht c σ env T H g _ hK hE o (XR.wp_mono (XR.wp_then h) (fun e g1 h1 v H1 k => ?_) fun _ _ z => z)
  split at h1
  · split at h1
    · rename_i d _ env' he
      exact hg c σ env env' T H1 g1 v d _ hK k he fun σ' o' _ => h1 _ _ o'
    · exact h1.elim
  · exact h1.elim
theorem sim_for {vs : List Nat} {wi : TI} {gt : TG} {tb : TS} {fi : XM} {tg : XG} {fb : XS} (hi : SimI K E wi fi) (hg : SimG K vs gt tg) (hb : SimS K E k tb fb) : SimS K E k (tFor wi gt tb) (xFor fi tg fb) := by
  intro c σ env T H g D hK hk hE o h
  refine w_for (hi c σ env T H g _ hK hE o (XR.wp_mono (XR.wp_then h) (fun ds g1 q J v e H1 it o1 => ?_) fun _ _ z => z))
  refine ⟨fun i m σ H => m = ds.length - i ∧ i ≤ ds.length ∧ ∃ env g, Ok c σ env ((v, e) :: T) H g ∧ (forL tg fb (ds.drop i) env g).wp (c.P T D), ⟨_, rfl, Nat.zero_le _, env, g1, o1, q⟩, ?_⟩
  rintro i m σ H ⟨rfl, hi, env, g, o, q⟩
  obtain ⟨m, S, o'⟩ := id o
  obtain ⟨i1, i2, i3⟩ := it S m H (by subst hK; exact o'.tmp _ List.mem_cons_self)
  by_cases hlt : i < ds.length
  · refine .inr ⟨i1 i hlt, fun σ' H' => ∃ env g, Ok c σ' env ((v, e) :: T) H' g ∧ (forL tg fb (ds.drop (i + 1)) env g).wp (c.P T D), fun σ' H' q => ⟨_, Nat.sub_lt_sub_left hlt (Nat.lt_succ_self _), rfl, hlt, q⟩, fun x H' y => ?_⟩
    obtain ⟨x', d, hd, rx⟩ := i3 i x H' hlt y
    have e0 : ds.drop i = d :: ds.drop (i + 1) := by
      rw [List.drop_eq_getElem_cons hlt]
      have := (List.getElem?_eq_some_iff.mp hd).2
      rw [this]
    rw [e0] at q
    unfold forL at q
    split at q
    · exact q.elim
    · rename_i env1 he
      have o'' := o'.grow x'
      have o2 : Ok c σ env ((x, .p d) :: (v, e) :: T) H' g := ⟨m, S, o''.tmps fun p hp => by
        rcases List.mem_cons.mp hp with z | z
        · subst z; subst hK; exact rx
        · exact o''.tmp p z⟩
      refine hg c σ env env1 _ H' g x d _ hK o2 he fun σ1 o3 _ => ?_
      refine hb c σ1 env1 _ H' g _ hK hk hE o3 ?_
      revert q
      cases fb env1 g with
      | nx e2 g2 => exact fun q σ' H' o4 => ⟨_, _, o4, q⟩
      | ct e2 g2 => exact fun q σ' H' o4 => ⟨_, _, o4, q⟩
      | bk e2 g2 => exact fun q σ' H' o4 => q _ _ o4.pop
      | rt e2 g2 => exact fun q => q
      | exn e2 g2 => exact fun q => q
      | fail => exact fun q => q
  · have e0 : i = ds.length := by omega
    subst e0
    rw [List.drop_length] at q
    exact .inl ⟨i2, q _ _ o.pop⟩
/-! what is walked -/
def iT (f : XE) : XM := fun env g => (f env g).bind fun e g1 => match e with
  | .p (.tup ds) => .ok ds g1
  | _ => .fail
def iL (f : XE) : XM := fun env g => (f env g).bind fun e g1 => match e with
  | .p (.lst ds) => .ok ds g1
  | _ => .fail
theorem sim_iT {t : TE} {f : XE} (ht : SimE K E t f) : SimI K E (iTup K t) (iT f) := by
  intro c σ env T H g R hK hE o h
  refine w_tupI (ht c σ env T H g _ hK hE o (XR.wp_mono (XR.wp_bind h) (fun e g1 h1 v H1 o1 => ?_) fun _ _ z => z))
  split at h1
  · rename_i ds
    obtain ⟨m, S, o'⟩ := id o1
    have r := o'.tmp _ List.mem_cons_self
    subst hK
    cases r with
    | tup r1 r2 =>
      rename_i a xs
      refine ⟨a, rfl, ⟨xs, r1⟩, h1 _ _ _ _ (fun S m H2 r => ?_) o1⟩
      cases r with
      | tup r1 r2 =>
        rename_i xs
        refine ⟨fun i hi => ⟨xs, xs[i]'(by rw [r2.len]; exact hi), r1, List.getElem?_eq_getElem _⟩, ⟨xs, r1, by rw [r2.len]; exact Nat.le_refl _⟩, fun i x H' hi y => ?_⟩
        obtain ⟨e1, y⟩ := y
        subst e1
        obtain ⟨d, hd, hr⟩ := r2.get (y xs r1)
        exact ⟨Ext.refl, d, hd, hr⟩
  · exact h1.elim
theorem sim_iL {t : TE} {f : XE} (ht : SimE K E t f) : SimI K E (iList K t) (iL f) := by
  intro c σ env T H g R hK hE o h
  refine w_list (ht c σ env T H g _ hK hE o (XR.wp_mono (XR.wp_bind h) (fun e g1 h1 v H1 o1 => ?_) fun _ _ z => z))
  split at h1
  · rename_i ds
    obtain ⟨m, S, o'⟩ := id o1
    have r := o'.tmp _ List.mem_cons_self
    subst hK
    cases r with
    | lst r1 r0 r2 =>
      rename_i a xs
      refine ⟨a, rfl, ⟨xs, SqL.of r1⟩, h1 _ _ _ _ (fun S m H2 r => ?_) o1⟩
      cases r with
      | lst r1 r0 r2 =>
        rename_i xs
        refine ⟨fun i hi => ⟨xs, xs[i]'(by rw [r2.len]; exact hi), SqL.of r1, List.getElem?_eq_getElem _⟩, ⟨xs, SqL.of r1, by rw [r2.len]; exact Nat.le_refl _⟩, fun i x H' hi y => ?_⟩
        obtain ⟨e1, y⟩ := y
        subst e1
        obtain ⟨d, hd, hr⟩ := r2.get (y xs (SqL.of r1))
        exact ⟨Ext.refl, d, hd, hr⟩
  · exact h1.elim
def rngL (lo : Int) (n : Nat) : List PV := (List.range n).map fun (i : Nat) => PV.int (lo + (i : Int))
theorem iters_rng (lo : Int) (n : Nat) : Iters K (Itr lo n) (rngL lo n) .non .no := by
  intro S m H _
  have l : (rngL lo n).length = n := by simp [rngL]
  refine ⟨fun i hi => by rw [l] at hi; exact hi, by rw [l]; exact Nat.le_refl n, fun i x H' hi y => ?_⟩
  obtain ⟨e1, rfl⟩ := y
  subst e1
  rw [l] at hi
  exact ⟨Ext.refl, .int (lo + i), by simp [rngL, hi], .int _⟩
def iR1 (f : XE) : XM := fun env g => (f env g).bind fun e g1 => match e with
  | .p (.int j) => if -4611686018427387904 ≤ j ∧ j < 4611686018427387904 then .ok (rngL 0 j.toNat) g1 else .fail
  | _ => .fail
def iR2 (f1 f2 : XE) : XM := fun env g => (f1 env g).bind fun e g1 => (f2 env g1).bind fun e2 g2 => match e, e2 with
  | .p (.int i), .p (.int j) => if (-4611686018427387904 ≤ i ∧ i < 4611686018427387904) ∧ -4611686018427387904 ≤ j ∧ j < 4611686018427387904 then .ok (rngL i (j - i).toNat) g2 else .fail
  | _, _ => .fail
theorem sim_iR1 {t : TE} {f : XE} (ht : SimE K E t f) : SimI K E (iRng1 (tCons t tNil)) (iR1 f) := by
  intro c σ env T H g R hK hE o h
  refine w_rng1 (w_cons (ht c σ env T H g _ hK hE o (XR.wp_mono (XR.wp_bind h) (fun e g1 h1 v H1 o1 => ?_) fun _ _ z => z)))
  split at h1
  · rename_i j
    split at h1
    · rename_i hj
      obtain ⟨S, r⟩ := o1.val (d := .int j) rfl
      have := r.intI
      subst this
      exact ⟨j, rfl, by omega, by omega, h1 _ _ _ _ (iters_rng 0 j.toNat) (o1.pop.top fun _ _ _ => trivial)⟩
    · exact h1.elim
  · exact h1.elim
theorem sim_iR2 {t u : TE} {f f2 : XE} (ht : SimE K E t f) (hu : SimE K E u f2) : SimI K E (iRng2 (tCons t (tCons u tNil))) (iR2 f f2) := by
  intro c σ env T H g R hK hE o h
  refine w_rng2 (w_cons (ht c σ env T H g _ hK hE o (XR.wp_mono (XR.wp_bind h) (fun e g1 h1 v H1 o1 => ?_) fun _ _ z => z)))
  refine w_cons (hu c σ env _ H1 g1 _ hK hE o1 (XR.wp_mono (XR.wp_bind h1) (fun e2 g2 h2 v2 H2 o2 => ?_) fun _ _ z => z))
  split at h2
  · rename_i i j
    split at h2
    · rename_i hj
      obtain ⟨S, r⟩ := o2.val (d := .int j) rfl
      have := r.intI
      subst this
      obtain ⟨S, r⟩ := o2.pop.val (d := .int i) rfl
      have := r.intI
      subst this
      exact ⟨i, j, rfl, by omega, h2 _ _ _ _ (iters_rng i (j - i).toNat) (o2.pop.pop.top fun _ _ _ => trivial)⟩
    · exact h2.elim
  · exact h2.elim
end
end Go

set_option Elab.async false
set_option linter.all false
set_option maxRecDepth 100000
set_option maxHeartbeats 4000000
/-! Sem4: comprehensions, calls, a def as a whole. -/
namespace Go
open PySem L2
section
variable {K : PySem.W.Frag} {E : XK} {c : Cs} {σ : St} {env : En} {T : List (V × EV)} {H H' : Hp} {g : Gm} {Q : VK} {S : List Addr}
theorem RvA.moreL {xs : List V} {ds : List PV} (r : RvA K S H xs ds) : ∀ l : List Addr, (∀ p, p ∈ l → H p = none) → RvA K (l ++ S) H xs ds
  | [], _ => r
  | p :: l, h => (r.moreL l fun q hq => h q (List.mem_cons_of_mem _ hq)).more (h p List.mem_cons_self)
theorem RvA.wide {xs : List V} {ds : List PV} {S2 : List Addr} (r : RvA K S H xs ds) (h : ∀ x, x ∈ S2 → x ∈ S ∨ H x = none) : RvA K S2 H xs ds :=
  (r.moreL (S2.filter fun x => (H x).isNone) fun p hp => by simpa using (List.mem_filter.mp hp).2).less fun x hx => by
    rcases h x hx with q | q
    · exact List.mem_append_right _ q
    · exact List.mem_append_left _ (List.mem_filter.mpr ⟨hx, by simp [q]⟩)
/-- what goes on beside a new list leaves it as it is -/
theorem MkW.inner {w : List V → HO} {D : Addr} {ds : List PV} (h : MkW w c σ env T H g D ds) : ∃ c' : Cs, c'.K = c.K ∧ c'.E = c.E ∧ Ok c' σ env T H g ∧ ∀ σ2 env2 T2 H2 g2, Ok c' σ2 env2 T2 H2 g2 → MkW w c σ2 env2 T2 H2 g2 D ds := by
  obtain ⟨m, S, xs, o, hS, e, r, n1, n2, n3⟩ := h
  refine ⟨{ K := c.K, E := c.E, S := D :: S, as := m, H0 := H, hS := fun a ha => o.hot a (.inl ha) }, rfl, rfl, ⟨m, D :: S, Ext.refl, fun a ha => ha, fun a ha => .inl ha, o.hot, ⟨[], by simp⟩, o.nd, fun a ha => .inl ha, o.own, o.len, o.slot, o.tmp⟩, fun σ2 env2 T2 H2 g2 k => ?_⟩
  obtain ⟨m2, S2, k⟩ := k
  obtain ⟨l, el⟩ := k.pre
  have el : m2 = m ++ l := el
  have sub2 : ∀ a, a ∈ D :: S → a ∈ S2 := k.sub
  have inn2 : ∀ a, a ∈ S2 → a ∈ D :: S ∨ H a = none := k.inn
  have old : ∀ a, a ∈ m → a ∈ c.as ∨ c.H0 a = none := o.new
  have hl : ∀ a, a ∈ l → H a = none := fun a ha => by
    rcases k.new a (by rw [el]; exact List.mem_append_right _ ha) with q | q
    · have nd : (m ++ l).Nodup := el ▸ k.nd
      exact absurd rfl ((List.nodup_append.mp nd).2.2 a q a ha)
    · exact q
  have Dl : D ∉ l := fun z => by
    have := hl D z
    rw [e] at this; cases this
  have kx : Ext (m.filter fun a => decide (a ∈ D :: S)) H H2 := k.ext
  have none0 : ∀ a, H a = none → c.H0 a = none := fun a ha => by
    cases q : c.H0 a with
    | none => rfl
    | some o1 =>
      by_cases z : a ∈ c.as
      · obtain ⟨l0, e0⟩ := o.pre
        obtain ⟨o2, ho2⟩ := o.hot a (.inr (by rw [e0]; simp [z]))
        rw [ha] at ho2; cases ho2
      · have := o.ext.keep _ _ q fun y => z (Cs.ch_mem.mp y).1
        rw [ha] at this; cases this
  have eqS : ∀ x, x ∈ D :: S2.filter (fun b => decide (b ≠ D)) ↔ x ∈ S2 := fun x => by
    constructor
    · intro hx
      rcases List.mem_cons.mp hx with q | q
      · rw [q]; exact sub2 D List.mem_cons_self
      · exact (List.mem_filter.mp q).1
    · intro hx
      by_cases q : x = D
      · rw [q]; exact List.mem_cons_self
      · exact List.mem_cons_of_mem _ (List.mem_filter.mpr ⟨hx, by simpa using q⟩)
  have lessS : ∀ x, x ∈ D :: S2.filter (fun b => decide (b ≠ D)) → x ∈ S2 := fun x => (eqS x).mp
  have cS2 : ∀ a, a ∈ c.S → a ∈ S2 := fun a ha => sub2 a (List.mem_cons_of_mem _ (hS a ha))
  have Dc : D ∉ c.S := fun z => n2 (hS D z)
  refine ⟨m2, S2.filter fun b => decide (b ≠ D), xs, ⟨?_, fun a ha => (eqS a).mpr (cS2 a ha), fun a ha => ?_, fun a ha => k.hot a (ha.imp (lessS a) id), ?_, k.nd, fun a ha => ?_, ⟨k.own.1, fun n a zs h1 h2 => ?_⟩, k.len, fun i e h1 h2 => let ⟨v, e1, e2⟩ := k.slot i e h1 h2; ⟨v, e1, e2.less lessS⟩, fun p hp => (k.tmp p hp).less lessS⟩, fun a ha => ?_, kx.keep _ _ e (fun z => n3 (List.mem_filter.mp z).1), ?_, n1, ?_, ?_⟩
  · have e1 := o.ext
    exact ⟨fun b u hb nb => kx.keep b u (e1.keep b u hb nb) fun z => by
      obtain ⟨z1, z2⟩ := List.mem_filter.mp z
      have z2 : b ∈ D :: S := of_decide_eq_true z2
      have no : ¬ c.H0 b = none := fun y => by rw [hb] at y; cases y
      exact nb (Cs.ch_mem.mpr ⟨(old b z1).resolve_right no, (o.inn b z2).resolve_right no⟩), fun b ys hb => kx.tup b ys (e1.tup b ys hb), fun b u w hb => kx.frz b u w (e1.frz b u w hb)⟩
  · rcases inn2 a (lessS a ha) with q | q
    · exact o.inn a q
    · exact .inr (none0 a q)
  · obtain ⟨l0, e0⟩ := o.pre
    exact ⟨l0 ++ l, by rw [el, e0, List.append_assoc]⟩
  · rw [el] at ha
    rcases List.mem_append.mp ha with q | q
    · exact old a q
    · exact .inr (none0 a (hl a q))
  · obtain ⟨i1, ys, f1, f2⟩ := k.own.2 n a zs h1 h2
    exact ⟨(eqS a).mpr i1, ys, f1, f2.less lessS⟩
  · exact List.mem_filter.mpr ⟨cS2 a ha, by simpa using fun (z : a = D) => Dc (z ▸ ha)⟩
  · exact ((r.wide inn2).ext (kx.wide fun x hx => sub2 x (of_decide_eq_true (List.mem_filter.mp hx).2))).less lessS
  · intro z
    have := (List.mem_filter.mp z).2
    simp at this
  · rw [el]
    simp only [List.mem_append, not_or]
    exact ⟨n3, Dl⟩
theorem MkW.app {D : Addr} {ds : List PV} {y : V} {d : PV} (h : Mk c σ env ((y, .p d) :: T) H g D ds) : ∃ xs, H D = some (.lst xs) ∧ xs.length = ds.length ∧ Mk c σ env T (upd H D (.lst (xs ++ [y]))) g D (ds ++ [d]) := by
  obtain ⟨m, S, xs, o, hS, e, r, n1, n2, n3⟩ := h
  have x : Ext [D] H (upd H D (.lst (xs ++ [y]))) := Ext.put e (by simp)
  have x2 : Ext (D :: S) H (upd H D (.lst (xs ++ [y]))) := x.wide fun b hb => by simp at hb; simp [hb]
  refine ⟨xs, e, r.len, m, S, xs ++ [y], ?_, hS, upd_same, ?_, n1, n2, n3⟩
  · have dm : D ∉ c.as := fun z => n3 (by obtain ⟨l, q⟩ := o.pre; rw [q]; simp [z])
    refine ⟨o.ext.out n1 x, o.sub, o.inn, fun a ha => ?_, o.pre, o.nd, o.new, ⟨o.own.1, fun n a zs h1 h2 => ?_⟩, o.len, fun i e h1 h2 => let ⟨v, e1, e2⟩ := o.slot i e h1 h2; ⟨v, e1, e2.ext x2⟩, fun p hp => (o.tmp p (List.mem_cons_of_mem _ hp)).ext x2⟩
    · by_cases q : a = D
      · exact ⟨_, by rw [q]; exact upd_same⟩
      · obtain ⟨o1, h1⟩ := o.hot a ha
        exact ⟨o1, x.keep _ _ h1 (by simpa using q)⟩
    · obtain ⟨i1, zs', e1, e2⟩ := o.own.2 n a zs h1 h2
      exact ⟨i1, zs', x.keep _ _ e1 (by simp; intro z; subst z; exact n3 (List.mem_of_getElem? h1)), e2.ext x2⟩
  · exact (r.append (.cons (o.tmp (y, .p d) List.mem_cons_self) .nil)).ext x2
/-- the slots as things on the side -/
def side (σ : St) (env : En) : List (V × EV) := (List.range env.length).filterMap fun (i : Nat) => match σ[i]?, env[i]? with
  | some (some v), some (.p d) => some (v, .p d)
  | some (some v), some (.own n) => some (v, .own n)
  | _, _ => none
theorem Ok.aside (o : Ok c σ env T H g) : Ok c σ env (side σ env ++ T) H g ∧ ∀ c2 σ2 env2 T2 H2 g2, Ok c2 σ2 env2 (side σ env ++ T2) H2 g2 → Ok c2 σ env T2 H2 g2 := by
  obtain ⟨m, S, o⟩ := o
  have mem : ∀ p, p ∈ side σ env → ∃ i : Nat, env[i]? = some p.2 ∧ p.2 ≠ .no ∧ σ[i]? = some (some p.1) := fun p hp => by
    obtain ⟨i, hi, h⟩ := List.mem_filterMap.mp hp
    refine ⟨i, ?_⟩
    split at h
    · rename_i v d h1 h2; cases h; exact ⟨h2, by simp, h1⟩
    · rename_i v d h1 h2; cases h; exact ⟨h2, by simp, h1⟩
    · cases h
  have there : ∀ (i : Nat) (e : EV), env[i]? = some e → e ≠ .no → ∃ v, σ[i]? = some (some v) ∧ (v, e) ∈ side σ env := fun i e h1 h2 => by
    obtain ⟨v, e1, _⟩ := o.slot i e h1 h2
    refine ⟨v, e1, List.mem_filterMap.mpr ⟨i, List.mem_range.mpr (List.getElem?_eq_some_iff.mp h1).1, ?_⟩⟩
    rw [e1, h1]
    cases e with
    | no => exact absurd rfl h2
    | p d => rfl
    | own n => rfl
  refine ⟨⟨m, S, o.tmps fun p hp => ?_⟩, fun c2 σ2 env2 T2 H2 g2 k => ?_⟩
  · rcases List.mem_append.mp hp with z | z
    · obtain ⟨i, h1, h2, h3⟩ := mem p z
      obtain ⟨v, e1, e2⟩ := o.slot i _ h1 h2
      rw [h3] at e1
      cases e1
      exact e2
    · exact o.tmp p z
  · obtain ⟨m2, S2, k⟩ := k
    exact ⟨m2, S2, k.ext, k.sub, k.inn, k.hot, k.pre, k.nd, k.new, k.own, o.len, fun i e h1 h2 => let ⟨v, e1, e2⟩ := there i e h1 h2; ⟨v, e1, k.tmp _ (List.mem_append_left _ e2)⟩, fun p hp => k.tmp p (List.mem_append_right _ hp)⟩
theorem sim_comp {vs : List Nat} {wi : TI} {gt : TG} {tt : TT} {te : TE} {fi : XM} {tg : XG} {ft : XT} {fe : XE} (hi : SimI K E wi fi) (hg : SimG K vs gt tg) (ht : SimT K E tt ft) (he : SimE K E te fe) : SimM K E (tLc wi gt tt te vs) (mComp fi tg ft fe vs) := by
  intro c σ env T H g Q hK hE o h
  refine w_lc (hi c σ env T H g _ hK hE o (XR.wp_mono (XR.wp_bind h) (fun ds g1 q J v e H1 it o1 D hD => ?_) fun _ _ z => z))
  split at q
  case isFalse => exact q.elim
  rename_i hsz
  refine ⟨fun i m H => m = ds.length - i ∧ i ≤ ds.length ∧ ∃ g acc, Mk c σ env ((v, e) :: T) H g D acc ∧ acc.length ≤ i ∧ (compL tg ft fe (wipeE env vs) (ds.drop i) g).wp (fun ys g' => ∀ H', Mk c σ env T H' g' D (acc ++ ys) → Q (.ref D) H') c.X, ⟨_, rfl, Nat.zero_le _, g1, [], Mk.of o1 hD fun _ _ _ => .nil, Nat.le_refl _, ?_⟩, ?_⟩
  · exact XR.wp_mono q (fun ys g' q H' k => q D H' k) fun _ _ z => z
  rintro i m H ⟨rfl, hi, g, acc, k, hacc, q⟩
  obtain ⟨m, S, o'⟩ := id k.okOf
  obtain ⟨i1, i2, i3⟩ := it S m H (by subst hK; exact o'.tmp _ List.mem_cons_self)
  by_cases hlt : i < ds.length
  · refine .inr ⟨i1 i hlt, fun H => ∃ g acc, Mk c σ env ((v, e) :: T) H g D acc ∧ acc.length ≤ i + 1 ∧ (compL tg ft fe (wipeE env vs) (ds.drop (i + 1)) g).wp (fun ys g' => ∀ H', Mk c σ env T H' g' D (acc ++ ys) → Q (.ref D) H') c.X, fun H' q => ⟨_, Nat.sub_lt_sub_left hlt (Nat.lt_succ_self _), rfl, hlt, q⟩, fun x H' y => ?_⟩
    clear i1 i2
    obtain ⟨x', _⟩ := i3 i x H' hlt y
    have e0 : ∃ d, ds[i]? = some d := ⟨_, List.getElem?_eq_getElem hlt⟩
    obtain ⟨d, hd⟩ := e0
    have e0 : ds.drop i = d :: ds.drop (i + 1) := by
      rw [List.drop_eq_getElem_cons hlt]
      rw [(List.getElem?_eq_some_iff.mp hd).2]
    rw [e0] at q
    unfold compL at q
    split at q
    · exact q.elim
    rename_i env1 he1
    -- the item stands, too
    have k2 : Mk c σ env ((x, .p d) :: (v, e) :: T) H' g D acc := by
      obtain ⟨m, S, xs, o, hS, e1, r, n1, n2, n3⟩ := k
      have o2 := o.grow x'
      obtain ⟨_, _, i3⟩ := it (D :: S) m H (by subst hK; exact o.tmp _ List.mem_cons_self)
      obtain ⟨_, d', hd', rx⟩ := i3 i x H' hlt y
      rw [hd] at hd'
      cases hd'
      refine ⟨m, S, xs, o2.tmps fun p hp => ?_, hS, x'.same _ _ e1, r.ext x'.any, n1, n2, n3⟩
      rcases List.mem_cons.mp hp with z | z
      · subst z; subst hK; exact rx
      · exact o2.tmp p z
    obtain ⟨c', cK, cE, o3, back⟩ := k2.inner
    obtain ⟨a1, a2⟩ := o3.aside
    have o4 := a1.wipes vs
    have o5 : Ok c' (wipe σ vs) (wipeE env vs) ((x, .p d) :: (side σ env ++ ((v, e) :: T))) H' g := o4.sub fun p hp => by
      simp only [List.mem_cons, List.mem_append] at hp ⊢
      rcases hp with z | z | z
      · exact .inr (.inl z)
      · exact .inl z
      · exact .inr (.inr z)
    refine hg c' (wipe σ vs) (wipeE env vs) env1 _ H' g x d _ (cK.trans hK) o5 he1 fun σ1 o6 w1 => ⟨w1.trans wipe_wipe, ?_⟩
    have cX : ∀ a g, c.X a g → c'.X a g := fun a g z H2 o => by
      rw [cE]
      exact z H2 (back _ _ _ _ _ o).okOf
    refine ht c' σ1 env1 _ H' g _ (cK.trans hK) (cE.trans hE) o6 (XR.wp_mono (XR.wp_bind q) (fun b g2 h2 H2 o7 => ?_) cX)
    cases b with
    | false => exact ⟨g2, acc, back _ _ _ _ _ (a2 _ _ _ _ _ _ o7), Nat.le_succ_of_le hacc, h2⟩
    | true =>
      refine he c' σ1 env1 _ H2 g2 _ (cK.trans hK) (cE.trans hE) o7 (XR.wp_mono (XR.wp_bind h2) (fun r g3 h3 y3 H3 o8 => ?_) cX)
      split at h3
      · rename_i yd
        have o9 : Ok c' σ1 env1 (side σ env ++ ((y3, .p yd) :: (v, e) :: T)) H3 g3 := o8.sub fun p hp => by
          simp only [List.mem_cons, List.mem_append] at hp ⊢
          rcases hp with z | z | z
          · exact .inr (.inl z)
          · exact .inl z
          · exact .inr (.inr z)
        obtain ⟨xs, ex, lx, k4⟩ := (back _ _ _ _ _ (a2 _ _ _ _ _ _ o9)).app
        refine ⟨xs, ex, Nat.lt_of_le_of_lt (Nat.le_trans (Nat.le_of_eq lx) hacc) (Nat.lt_trans hlt (by exact hsz)), g3, acc ++ [yd], k4, by simp; exact hacc, ?_⟩
        exact XR.wp_mono (XR.wp_bind h3) (fun ys g4 h4 H4 k5 => h4 H4 (by simpa using k5)) fun _ _ z => z
      · exact h3.elim
  · have e0 : i = ds.length := by omega
    subst e0
    rw [List.drop_length] at q
    exact .inl ⟨i2, q H (by simpa using k.sub fun p hp => List.mem_cons_of_mem _ hp)⟩
theorem sim_yes : SimT K E tYes xYes := by
  intro c σ env T H g Q hK hE o h
  exact h _ o
end
end Go

set_option Elab.async false
set_option linter.all false
set_option maxRecDepth 100000
set_option maxHeartbeats 4000000
/-! Sem5: calls, a def as a whole, own lists. -/
namespace Go
open PySem L2
abbrev bd (Q : VK) : Ends := { nx := fun _ H' => Q .non H', rt := Q }
/-- the promise of a def that computes F -/
def sp_P (K : PySem.W.Frag) (ar : Nat) (F : XF) : Sp := fun vs H Q E => vs.length = ar ∧ ∃ (S as : List Addr) (es : List EV) (g : Gm), (∀ a, a ∈ S → ∃ o, H a = some o) ∧ as.Nodup ∧ (∀ a, a ∈ as → a ∈ S) ∧ OwnAt K S H as g ∧ vs.length = es.length ∧ (∀ p, p ∈ vs.zip es → EvOk K S as H p.1 p.2) ∧
  (F es g).wp (fun d g' => ∀ v H', Ext as H H' → Rv K S H' v d → OwnAt K S H' as g' → Q v H') (fun x g' => ∀ H', Ext as H H' → OwnAt K S H' as g' → E (.ref x) none H')
section
variable {K : PySem.W.Frag} {E : XK} {k : Nat} {c : Cs} {σ : St} {env : En} {T : List (V × EV)} {H H' : Hp} {g : Gm} {Q : VK} {S m as : List Addr}
theorem OwnAt.take {l : List Addr} {S' : List Addr} (h : OwnAt K S' H (as ++ l) g) (hs : ∀ x, x ∈ S → x ∈ S') (ha : ∀ a, a ∈ as → a ∈ S) : OwnAt K S H as (g.take as.length) := by
  refine ⟨by simp [← h.1], fun n a ds h1 h2 => ?_⟩
  have hn := (List.getElem?_eq_some_iff.mp h1).1
  obtain ⟨i, xs, e1, e2⟩ := h.2 n a ds (by rw [List.getElem?_append_left hn]; exact h1) (by rw [List.getElem?_take_of_lt hn] at h2; exact h2)
  exact ⟨ha a (List.mem_of_getElem? h1), xs, e1, e2.less hs⟩
theorem fn_pure {N : List Str} {ar k : Nat} {body : XK → TS} {fb : XS} (hs : ∀ E, SimS K E k (body E) fb) (hN : ar ≤ N.length) {vs : List V} {H : Hp} {Q : VK} {E : XK} (h : sp_P K ar (runF N.length ar k fb) vs H Q E) : body E (bd Q) (L2.start N vs) H := by
  obtain ⟨l0, S, as, es, g, hS, nd, sub, own, le, args, w⟩ := h
  unfold runF at w
  split at w
  case isFalse => exact w.elim
  rename_i hk
  let c : Cs := { K := K, E := E, S := S, as := as, H0 := H, hS := hS }
  have o : Ok c (L2.start N vs) (es ++ List.replicate (N.length - ar) .no) [] H g := by
    refine ⟨as, S, Ext.refl, fun a ha => ha, fun a ha => .inl ha, fun a ha => hS a (ha.elim id (sub a)), ⟨[], (List.append_nil _).symm⟩, nd, fun a ha => .inl ha, own, ?_, fun i e h1 h2 => ?_, fun p hp => by simp at hp⟩
    · unfold L2.start; simp; omega
    · by_cases hi : i < es.length
      · rw [List.getElem?_append_left hi] at h1
        have hv : i < vs.length := by rw [le]; exact hi
        refine ⟨vs[i], ?_, ?_⟩
        · unfold L2.start
          rw [List.getElem?_append_left (by simpa using hv)]
          simp [hv]
        · have : (vs[i], e) ∈ vs.zip es := List.mem_iff_getElem?.mpr ⟨i, by rw [List.getElem?_zip_eq_some]; exact ⟨List.getElem?_eq_getElem hv, h1⟩⟩
          exact args _ this
      · rw [List.getElem?_append_right (by omega)] at h1
        rw [List.getElem?_replicate] at h1
        split at h1
        · cases h1; exact absurd rfl h2
        · cases h1
  have lk : ∀ (σ' : St) (env' : En) (T' : List (V × EV)) (H' : Hp) (g' : Gm), Ok c σ' env' T' H' g' → Ext as H H' ∧ OwnAt K S H' as (g'.take g.length) := fun σ' env' T' H' g' o => by
    obtain ⟨m, S', o⟩ := o
    obtain ⟨l, e⟩ := o.pre
    refine ⟨o.ext.wide fun x hx => (Cs.ch_mem.mp hx).1, ?_⟩
    rw [← own.1]
    have w := o.own
    have e : m = as ++ l := e
    have w : OwnAt K S' H' (as ++ l) g' := e ▸ w
    exact w.take o.sub sub
  refine hs E c _ _ [] H g (bd Q) rfl (own.1.trans hk.2) rfl o ?_
  revert w
  cases fb (es ++ List.replicate (N.length - ar) .no) g with
  | nx env' g' => exact fun w σ' H' o => w _ _ (lk _ _ _ _ _ o).1 .non (lk _ _ _ _ _ o).2
  | rt e g' =>
    cases e with
    | no => exact fun w => w.elim
    | p d =>
      refine fun w v H' o => w _ _ (lk _ _ _ _ _ o).1 ?_ (lk _ _ _ _ _ o).2
      obtain ⟨m, S', o⟩ := o
      exact Rv.less o.sub (o.tmp _ List.mem_cons_self)
    | own n =>
      intro w v H' o
      simp only [XO.finish] at w
      split at w
      · exact w.elim
      · rename_i hn
        split at w
        · rename_i ds hd
          refine w _ _ (lk _ _ _ _ _ o).1 ?_ (lk _ _ _ _ _ o).2
          obtain ⟨m, S', o⟩ := o
          obtain ⟨a, ha, rfl⟩ := o.tmp _ List.mem_cons_self
          obtain ⟨_, xs, e1, e2⟩ := o.own.2 n a ds ha hd
          refine .lst e1 (fun z => ?_) (e2.less o.sub)
          obtain ⟨l, e⟩ := o.pre
          have hal : as.length ≤ n := by rw [own.1]; omega
          have e : m = as ++ l := e
          rcases o.new a (List.mem_of_getElem? ha) with q | q
          · obtain ⟨k, hk⟩ := List.mem_iff_getElem?.mp q
            have kl : k < as.length := (List.getElem?_eq_some_iff.mp hk).1
            have : k = n := (List.getElem?_inj (by rw [e]; simp; omega) o.nd).mp (by rw [ha, e, List.getElem?_append_left kl]; exact hk)
            omega
          · obtain ⟨o1, h1⟩ := hS a z
            have q : H a = none := q
            rw [h1] at q; cases q
        · exact w.elim
  | bk e g' => exact fun w => w.elim
  | ct e g' => exact fun w => w.elim
  | exn x g' => exact fun w H' o => w H' (lk _ _ _ _ _ o).1 (lk _ _ _ _ _ o).2
  | fail => exact fun w => w
theorem mem_owns : ∀ {es : List EV} {vs : List V} {v : V} {n : Nat}, (v, EV.own n) ∈ vs.zip es → n ∈ owns es
  | [], vs, _, _, h => by simp at h
  | _ :: _, [], _, _, h => by simp at h
  | e :: es, u :: vs, v, n, h => by
    simp only [List.zip_cons_cons, List.mem_cons] at h
    rcases h with h | h
    · cases h; simp
    · have := mem_owns h
      cases e <;> simp [this]
/-- the callee asked: what it gives back, this reading has -/
theorem call_at {ar : Nat} {F : XF} {E' : XK} {es : List EV} {vs : List V} (hF : ∀ es g, es.length ≠ ar → F es g = .fail) (hl : vs.length = es.length) (o : Ok c σ env (vs.zip es ++ T) H g)
    (h : (callF F es g).wp (fun e g' => ∀ v H', Ok c σ env ((v, e) :: T) H' g' → Q v H') (fun x g' => ∀ H', Ok c σ env T H' g' → E' (.ref x) none H')) : sp_P c.K ar F vs H Q E' := by
  have har : vs.length = ar := by
    rw [hl]
    by_cases z : es.length = ar
    · exact z
    · exfalso
      unfold callF at h
      split at h
      · rw [hF es _ z] at h; exact h
      · split at h
        · rw [hF _ _ (by simpa using z)] at h; exact h
        · exact h
      · exact h
  obtain ⟨m, S, o⟩ := o
  unfold callF at h
  split at h
  · rename_i hw
    refine ⟨har, S, [], es, [], fun a ha => o.hot a (.inl ha), List.nodup_nil, fun a ha => by simp at ha, ⟨rfl, fun n a ds h => by simp at h⟩, hl, fun p hp => ?_, ?_⟩
    · have k := o.tmp p (List.mem_append_left _ hp)
      obtain ⟨v, e⟩ := p
      cases e with
      | no => trivial
      | p d => exact k
      | own n =>
        have := mem_owns hp
        rw [hw] at this
        simp at this
    · revert h
      cases F es [] with
      | ok d g' =>
        intro h v H' x r _
        have o' := o.grow x
        refine h v H' ⟨m, S, o'.tmps fun p hp => ?_⟩
        rcases List.mem_cons.mp hp with z | z
        · subst z; exact r
        · exact o'.tmp p (List.mem_append_right _ z)
      | exn a g' =>
        intro h H' x _
        exact h H' ⟨m, S, (o.grow x).tmps fun p hp => (o.grow x).tmp p (List.mem_append_right _ hp)⟩
      | fail => exact fun h => h
  · rename_i n hw
    split at h
    · rename_i l hg
      have hnm : n < m.length := by rw [o.own.1]; exact (List.getElem?_eq_some_iff.mp hg).1
      have ha : m[n]? = some m[n] := List.getElem?_eq_getElem hnm
      obtain ⟨aS, xs, e1, e2⟩ := o.own.2 n _ l ha hg
      refine ⟨har, S, [m[n]], es.map to0, [some l], fun a ha => o.hot a (.inl ha), by simp, fun a ha => by simp at ha; subst ha; exact aS, ⟨rfl, fun k a ds h1 h2 => ?_⟩, by simpa using hl, fun p hp => ?_, ?_⟩
      · cases k with
        | succ k => simp at h1
        | zero => simp at h1 h2; subst h1 h2; exact ⟨aS, xs, e1, e2⟩
      · rw [List.zip_map_right] at hp
        obtain ⟨q, hq, rfl⟩ := List.mem_map.mp hp
        have k := o.tmp q (List.mem_append_left _ hq)
        obtain ⟨v, e⟩ := q
        cases e with
        | no => trivial
        | p d => exact k
        | own j =>
          have : j ∈ owns es := mem_owns hq
          rw [hw] at this
          simp at this
          subst this
          obtain ⟨a, h1, h2⟩ := k
          rw [ha] at h1
          cases h1
          exact ⟨_, rfl, h2⟩
      · have fin : ∀ H' l', Ext [m[n]] H H' → OwnAt c.K S H' [m[n]] [some l'] → OkH c S m σ env (vs.zip es ++ T) H' (g.set n (some l')) := fun H' l' x ow => by
          obtain ⟨_, ys, f1, f2⟩ := ow.2 0 _ l' rfl rfl
          exact o.put ha aS x f1 f2
        revert h
        cases F (es.map to0) [some l] with
        | ok d g' =>
          match g' with
          | [some l'] =>
            intro h v H' x r ow
            have o' := fin H' l' x ow
            refine h v H' ⟨m, S, o'.tmps fun p hp => ?_⟩
            rcases List.mem_cons.mp hp with z | z
            · subst z; exact r
            · exact o'.tmp p (List.mem_append_right _ z)
          | [] => exact fun h => h.elim
          | [none] => exact fun h => h.elim
          | none :: _ :: _ => exact fun h => h.elim
          | some _ :: _ :: _ => exact fun h => h.elim
        | exn a g' =>
          match g' with
          | [some l'] =>
            intro h H' x ow
            exact h H' ⟨m, S, (fin H' l' x ow).tmps fun p hp => (fin H' l' x ow).tmp p (List.mem_append_right _ hp)⟩
          | [] => exact fun h => h.elim
          | [none] => exact fun h => h.elim
          | none :: _ :: _ => exact fun h => h.elim
          | some _ :: _ :: _ => exact fun h => h.elim
        | fail => exact fun h => h
    · exact h.elim
  · exact h.elim
theorem sim_call {ar : Nat} {F : XF} {t : TA} {fa : XA} (hF : ∀ es g, es.length ≠ ar → F es g = .fail) (ht : SimA K E t fa) : SimE K E (tCall (sp_P K ar F) [] E t) (xCall F fa) := by
  intro c σ env T H g Q hK hE o h
  refine w_call (ht c σ env T H g _ hK hE o (XR.wp_mono (XR.wp_bind h) (fun es g1 h1 vs H1 hl o1 => ?_) fun _ _ z => z))
  subst hK
  refine call_at hF hl o1 (XR.wp_mono h1 (fun _ _ z => z) fun x g z H' o => ?_)
  subst hE
  exact z H' o.end_
theorem calm_wp {r : XR EV} {P : EV → Gm → Prop} {X X' : Addr → Gm → Prop} (h : r.calm.wp P X) : r.wp P X' := by
  cases r with
  | ok a g => exact h
  | exn a g => exact h.elim
  | fail => exact h
theorem sim_callN {ar : Nat} {F : XF} {t : TA} {fa : XA} {E' : XK} (hF : ∀ es g, es.length ≠ ar → F es g = .fail) (ht : SimA K E t fa) : SimE K E (tCall (sp_P K ar F) [] E' t) (xCallN F fa) := by
  intro c σ env T H g Q hK hE o h
  refine w_call (ht c σ env T H g _ hK hE o (XR.wp_mono (XR.wp_bind h) (fun es g1 h1 vs H1 hl o1 => ?_) fun _ _ z => z))
  subst hK
  exact call_at hF hl o1 (calm_wp h1)
theorem Ok.both {vs zs : List V} {es ks : List EV} (hl : vs.length = es.length) (o : Ok c σ env (zs.zip ks ++ (vs.zip es ++ T)) H g) : Ok c σ env ((vs ++ zs).zip (es ++ ks) ++ T) H g := by
  refine o.sub fun p hp => ?_
  rw [List.zip_append hl] at hp
  simp only [List.mem_append] at hp ⊢
  rcases hp with (q | q) | q
  · exact .inr (.inl q)
  · exact .inl q
  · exact .inr (.inr q)
theorem sim_callK {ar np : Nat} {F : XF} {t tk : TA} {fa fk : XA} (hF : ∀ es g, es.length ≠ ar → F es g = .fail) (ht : SimA K E t fa) (hk : SimA K E tk fk) : SimE K E (tCallK (sp_P K ar F) (gK np) E t tk) (xCallK np F fa fk) := by
  intro c σ env T H g Q hK hE o h
  refine w_callK (ht c σ env T H g _ hK hE o (XR.wp_mono (XR.wp_bind h) (fun es g1 h1 vs H1 hl o1 => ?_) fun _ _ z => z))
  refine hk c σ env _ H1 g1 _ hK hE o1 (XR.wp_mono (XR.wp_bind h1) (fun ks g2 h2 zs H2 hz o2 => ?_) fun _ _ z => z)
  split at h2
  · rename_i hn
    unfold gK
    rw [if_pos (by rw [hl]; exact hn)]
    subst hK
    subst hE
    exact call_at (es := es ++ ks) hF (by simp [hl, hz]) (o2.both hl) (XR.wp_mono h2 (fun _ _ z => z) fun x g z H' o => z H' o.end_)
  · exact h2.elim
theorem sim_callKN {ar np : Nat} {F : XF} {t tk : TA} {fa fk : XA} {E' : XK} (hF : ∀ es g, es.length ≠ ar → F es g = .fail) (ht : SimA K E t fa) (hk : SimA K E tk fk) : SimE K E (tCallK (sp_P K ar F) (gK np) E' t tk) (xCallKN np F fa fk) := by
  intro c σ env T H g Q hK hE o h
  refine w_callK (ht c σ env T H g _ hK hE o (XR.wp_mono (XR.wp_bind h) (fun es g1 h1 vs H1 hl o1 => ?_) fun _ _ z => z))
  refine hk c σ env _ H1 g1 _ hK hE o1 (XR.wp_mono (XR.wp_bind h1) (fun ks g2 h2 zs H2 hz o2 => ?_) fun _ _ z => z)
  split at h2
  · rename_i hn
    unfold gK
    rw [if_pos (by rw [hl]; exact hn)]
    subst hK
    exact call_at (es := es ++ ks) hF (by simp [hl, hz]) (o2.both hl) (calm_wp h2)
  · exact h2.elim
theorem runF_no {N ar k : Nat} {fb : XS} : ∀ es g, es.length ≠ ar → runF N ar k fb es g = .fail := fun es g h => if_neg fun z => h z.1
theorem noF_no {ar : Nat} : ∀ es g, es.length ≠ ar → noF es g = .fail := fun _ _ _ => rfl
theorem no_P {ar : Nat} : ∀ vs H Q E, ¬ sp_P K ar noF vs H Q E := fun vs H Q E h => by
  obtain ⟨_, _, _, _, _, _, _, _, _, _, _, w⟩ := h
  exact w
/-! own lists changed -/
/-- a method of a list that changes it -/
def RdMut (r : V → List V → Hp → VK → Prop) (f : List PV → List PV → Option (List PV × PV)) : Prop := ∀ (K : PySem.W.Frag) (S : List Addr) (H : Hp) (a : Addr) (xs ys : List V) (ds es ds' : List PV) (d : PV) (Q : VK), H a = some (.lst xs) → RvA K S H xs ds → RvA K S H ys es → f ds es = some (ds', d) → (∀ H' xs' v, Ext [a] H H' → H' a = some (.lst xs') → RvA K S H xs' ds' → Rv K S H v d → Q v H') → r (.ref a) ys H Q
theorem sim_mut {r : V → List V → Hp → VK → Prop} {f : List PV → List PV → Option (List PV × PV)} {to : TE} {ta : TA} {fo : XE} {fa : XA} (hr : RdMut r f) (ho : SimE K E to fo) (ha : SimA K E ta fa) : SimE K E (tBM K "list" r to ta) (xMut f fo fa) := by
  intro c σ env T H g Q hK hE o h
  refine w_bm (ho c σ env T H g _ hK hE o (XR.wp_mono (XR.wp_bind h) (fun x g1 h1 vo H1 o1 => ?_) fun _ _ z => z))
  split at h1
  case h_2 => exact h1.elim
  rename_i n
  split at h1
  case h_2 => exact h1.elim
  rename_i ds0 h0
  refine ⟨?_, ha c σ env _ H1 g1 _ hK hE o1 (XR.wp_mono (XR.wp_bind h1) (fun es g2 h2 ys H2 hl o2 => ?_) fun _ _ z => z)⟩
  · obtain ⟨m, S, o1⟩ := o1
    obtain ⟨a, ha, rfl⟩ := o1.tmp _ List.mem_cons_self
    obtain ⟨_, xs, e1, e2⟩ := o1.own.2 n a _ ha h0
    exact ty_l e1
  · split at h2
    case h_2 => exact h2.elim
    rename_i ds es' h3 h4
    split at h2
    case h_2 => exact h2.elim
    rename_i ds' d h5
    obtain ⟨m, S, o2⟩ := o2
    obtain ⟨a, hma, rfl⟩ := o2.tmp (vo, .own n) (List.mem_append_right _ List.mem_cons_self)
    obtain ⟨aS, xs, e1, e2⟩ := o2.own.2 n a _ hma h4
    have r2 := pvs_ok hl (fun p hp => o2.tmp p (List.mem_append_left _ hp)) h3
    subst hK
    refine hr c.K S H2 a xs ys _ _ _ _ Q e1 e2 r2 h5 fun H' xs' v x e3 r3 rv => h2 v H' ⟨m, S, ?_⟩
    have x2 : Ext S H2 H' := x.wide fun b hb => by simp at hb; subst hb; exact aS
    have o3 := o2.put hma aS x e3 (r3.ext x2)
    exact o3.tmps fun p hp => by
      rcases List.mem_cons.mp hp with z | z
      · subst z; exact rv.ext x2
      · exact o3.tmp p (by simp [z])
theorem rd_app : RdMut rAppend fApp := by
  intro K S H a xs ys ds es ds' d Q e r1 r2 h q
  unfold fApp at h
  split at h
  · rename_i d0
    split at h
    · rename_i hn
      cases h
      cases r2 with
      | cons h1 h2 =>
        cases h2
        exact m_app e (by rw [r1.len]; exact hn) fun H' x e' => q H' _ .non x e' (r1.append (.cons h1 .nil)) .non
    · cases h
  · cases h
theorem rd_ins : RdMut rInsert fIns := by
  intro K S H a xs ys ds es ds' d Q e r1 r2 h q
  unfold fIns at h
  split at h
  · rename_i i d0
    split at h
    · rename_i hn
      cases h
      cases r2 with
      | cons h1 h2 =>
        cases h1
        cases h2 with
        | cons h3 h4 =>
          cases h4
          exact m_ins e (by rw [r1.len]; exact hn.1) hn.2.1 hn.2.2 fun H' x e' => q H' _ .non x e' (((r1.take _).append (.cons h3 .nil)).append (r1.drop _)) .non
    · cases h
  · cases h
theorem sim_setI {te to ti : TE} {fe fo fi : XE} (he : SimE K E te fe) (ho : SimE K E to fo) (hi : SimE K E ti fi) : SimS K E k (tAsg te (gSub to ti rSetL)) (xSetI fe fo fi) := by
  intro c σ env T H g D hK hk hE o h
  refine w_asg (he c σ env T H g _ hK hE o (XR.wp_mono (XR.wp_then h) (fun e g1 h1 v H1 o1 => ?_) fun _ _ z => z))
  refine w_sub (ho c σ env _ H1 g1 _ hK hE o1 (XR.wp_mono (XR.wp_then h1) (fun x g2 h2 vo H2 o2 => ?_) fun _ _ z => z))
  refine hi c σ env _ H2 g2 _ hK hE o2 (XR.wp_mono (XR.wp_then h2) (fun i g3 h3 vi H3 o3 => ?_) fun _ _ z => z)
  split at h3
  case h_2 => exact h3.elim
  rename_i d n k h4
  split at h3
  case h_2 => exact h3.elim
  rename_i ds h5
  split at h3
  case h_2 => exact h3.elim
  rename_i j h6
  obtain ⟨S, r⟩ := o3.val h4
  have := r.intI
  subst this
  obtain ⟨m, S, o3⟩ := o3
  obtain ⟨a, ha, rfl⟩ := o3.tmp (vo, .own n) (by simp)
  obtain ⟨aS, xs, e1, e2⟩ := o3.own.2 n a _ ha h5
  have rd := o3.tmp (v, .p d) (by simp)
  refine t_set e1 (by rw [e2.len]; exact h6) fun H' x e3 => h3 _ _ ⟨m, S, ?_⟩
  have x2 : Ext S H3 H' := x.wide fun b hb => by simp at hb; subst hb; exact aS
  have o4 := o3.put ha aS x e3 ((e2.set j rd).ext x2)
  exact o4.tmps fun p hp => o4.tmp p (by simp [hp])
/-- from here on slot i's own list is a value -/
theorem sim_fz {i : Nat} {t : TS} {f : XS} (h : SimS K E k t f) : SimS K E k t (xSeq (xFz k i) f) := by
  intro c σ env T H g D hK hk hE o q
  have q : ((xFz k i env g).bind f).wp (c.P T D) := q
  unfold xFz at q
  split at q
  · rename_i n hi
    split at q
    · exact q.elim
    · rename_i hn
      split at q
      · rename_i ds hg
        exact h c σ _ T H _ D hK hk hE (o.freeze hi hg (by omega)) q
      · exact q.elim
  · exact h c σ _ T H _ D hK hk hE o q
  · exact q.elim
end
end Go

set_option Elab.async false
set_option linter.all false
set_option maxRecDepth 100000
set_option maxHeartbeats 4000000
/-! Sem6: the operators. -/
namespace Go
open PySem L2
mutual
def PV.py : PV → PyData
  | .non => .none
  | .bl b => .bool b
  | .int i => .int i
  | .str s => .str s
  | .tup ds => .tuple (PV.pys ds)
  | .lst ds => .list (PV.pys ds)
  | .scr _ => .none
  | .dct _ => .none
  | .obj _ _ => .none
def PV.pys : List PV → List PyData
  | [] => []
  | d :: ds => d.py :: PV.pys ds
end
mutual
/-- no dict, no instance within -/
def PV.nod : PV → Bool
  | .tup ds => PV.nods ds
  | .lst ds => PV.nods ds
  | .scr _ => false
  | .dct _ => false
  | .obj _ _ => false
  | _ => true
def PV.nods : List PV → Bool
  | [] => true
  | d :: ds => d.nod && PV.nods ds
end
section
variable {K : PySem.W.Frag} {S : List Addr} {H : Hp}
mutual
theorem Rv.dp : ∀ {d : PV} {v : V}, Rv K S H v d → d.nod = true → Dp K H v d.py
  | _, _, .non, _ => .non
  | _, _, .bl b, _ => .bl b
  | _, _, .int i, _ => .int i
  | _, _, .str s, _ => .str s
  | _, _, .tup h a, n => .tup h (RvA.dp a n)
  | _, _, .lst h _ a, n => .lst (SqL.of h) (RvA.dp a n)
  | _, _, .scr _ _, n => by cases n
  | _, _, .dct _ _ _, n => by cases n
  | _, _, .obj _ _ _, n => by cases n
theorem RvA.dp : ∀ {ds : List PV} {vs : List V}, RvA K S H vs ds → PV.nods ds = true → DpAll K H vs (PV.pys ds)
  | _, _, .nil, _ => .nil
  | _, _, .cons h t, n => .cons (Rv.dp h (Bool.and_eq_true_iff.mp n).1) (RvA.dp t (Bool.and_eq_true_iff.mp n).2)
end
theorem Vw.dp {v : V} {d : PV} (h : Vw K S H v d) (n : d.nod = true) : Dp K H v d.py := by
  rcases h with h | ⟨a, xs, ds, rfl, rfl, h1, h2⟩
  · exact h.dp n
  · exact .lst (SqL.of h1) (h2.dp n)
end
/-- data that == may be asked of -/
def PV.eqok (d : PV) : Bool := d.nod && SeqAt.shaped d.py
def eqB : PV → PV → Option Bool
  | .str a, .str b => some (decide (a = b))
  | .int a, .int b => some (decide (a = b))
  | .str _, .int _ => some false
  | .int _, .str _ => some false
  | .non, .non => some true
  | .bl a, .bl b => some (decide (a = b))
  | a, b => if a.eqok && b.eqok then some (PyData.eqv a.py b.py) else none
def fEq (a b : PV) : Option PV := (eqB a b).map PV.bl
def fNe (a b : PV) : Option PV := (eqB a b).map fun b => PV.bl (!b)
def fI (f : Int → Int → PV) : PV → PV → Option PV
  | .int i, .int j => some (f i j)
  | _, _ => none
def fIc (c : Int → Int → Bool) (f : Int → Int → PV) : PV → PV → Option PV
  | .int i, .int j => if c i j then some (f i j) else none
  | _, _ => none
def fAdd : PV → PV → Option PV
  | .int i, .int j => some (.int (i + j))
  | .str i, .str j => if i.length + j.length ≤ 16777216 then some (.str (i ++ j)) else none
  | .tup i, .tup j => if i.length + j.length ≤ 16777216 then some (.tup (i ++ j)) else none
  | _, _ => none
def PV.flat : PV → Bool
  | .non | .bl _ | .int _ | .str _ => true
  | _ => false
/-- == of flat data -/
def fle : PV → PV → Bool
  | .non, .non => true
  | .bl a, .bl b => a == b
  | .bl a, .int b => (if a then 1 else 0) == b
  | .int a, .bl b => a == (if b then 1 else 0)
  | .int a, .int b => a == b
  | .str a, .str b => a == b
  | _, _ => false
def inB : PV → PV → Option Bool
  | x, .tup ds => if x.flat && ds.all PV.flat then some (ds.any fun d => fle d x) else none
  | x, .lst ds => if x.flat && ds.all PV.flat then some (ds.any fun d => fle d x) else none
  | _, _ => none
def fIn (neg : Bool) (x y : PV) : Option PV := (inB x y).map fun b => PV.bl (if neg = true then !b else b)
def fIsNo : PV → PV → Option PV
  | .non, .non => some (.bl true)
  | .tup _, .non | .lst _, .non | .dct _, .non | .scr _, .non | .obj _ _, .non | .int _, .non | .str _, .non | .bl _, .non => some (.bl false)
  | _, _ => none
def fIsNN (a b : PV) : Option PV := (fIsNo a b).bind fun
  | .bl b => some (.bl (!b))
  | _ => none
def fIsB : PV → PV → Option PV
  | .bl a, .bl b => some (.bl (decide (a = b)))
  | _, _ => none
def fNotB : PV → PV → Option PV
  | .bl a, .bl b => some (.bl (!decide (a = b)))
  | _, _ => none
def fIx : PV → PV → Option PV
  | .tup ds, .int i => atI ds i
  | .lst ds, .int i => atI ds i
  | .scr ds, .int i => atI ds i
  | .str z, .int i => if z.length ≤ 16777216 then (atI z.cps.toList i).map fun c => .str ⟨#[c]⟩ else none
  | _, _ => none
def fLen : PV → Option PV
  | .tup ds => some (.int ds.length)
  | .lst ds => some (.int ds.length)
  | .scr ds => some (.int ds.length)
  | .str z => if z.length ≤ 16777216 then some (.int z.length) else none
  | _ => none
def fAbs : PV → Option PV
  | .int i => some (.int (if i < 0 then -i else i))
  | _ => none
def fInt1 : PV → Option PV
  | .int i => some (.int i)
  | .bl k => some (.int (if k then 1 else 0))
  | _ => none
def fStrI : PV → Option PV
  | .int i => if i.natAbs.log2 < 1920 then some (.str (toString i)) else none
  | _ => none
def fTupOf : PV → Option PV
  | .lst ds => some (.tup ds)
  | .tup ds => some (.tup ds)
  | _ => none
def fNeg : PV → Option PV
  | .int i => some (.int (-i))
  | _ => none
def intsP : List PV → Option (List Int)
  | [] => some []
  | .int i :: r => (intsP r).map (i :: ·)
  | _ :: _ => none
def fSum : PV → Option PV
  | .lst ds => (intsP ds).map fun ns => .int ns.sum
  | _ => none
def maxI : List Int → Option Int
  | [] => none
  | [i] => some i
  | i :: r => (maxI r).map fun j => max i j
def fMax : PV → Option PV
  | .lst ds => (intsP ds).bind fun ns => (maxI ns).map PV.int
  | _ => none
section
variable {K : PySem.W.Frag} {S : List Addr} {H : Hp} {E : XK}
theorem eqB_ok {x y : V} {a b : PV} {r : Bool} (hx : Vw K S H x a) (hy : Vw K S H y b) (h : eqB a b = some r) (Q : VK) : (Q (.bl r) H → rEqG K x y H Q) ∧ (Q (.bl (!r)) H → rNeG K x y H Q) := by
  unfold eqB at h
  split at h
  · have := hx.strI; have := hy.strI; subst_vars; cases h
    exact ⟨fun q => e_str q, fun q => n_str q⟩
  · have := hx.intI; have := hy.intI; subst_vars; cases h
    exact ⟨fun q => e_int q, fun q => n_int q⟩
  · have := hx.strI; have := hy.intI; subst_vars; cases h
    exact ⟨fun q => e_si q, fun q => .inl ⟨rfl, by simpa using q⟩⟩
  · have := hx.intI; have := hy.strI; subst_vars; cases h
    exact ⟨fun q => e_is q, fun q => .inl ⟨rfl, by simpa using q⟩⟩
  · have := hx.nonI; have := hy.nonI; subst_vars; cases h
    exact ⟨fun q => .inl ⟨rfl, by simpa using q⟩, fun q => .inl ⟨rfl, by simpa using q⟩⟩
  · have := hx.blI; have := hy.blI; subst_vars; cases h
    exact ⟨fun q => .inl ⟨rfl, by simpa using q⟩, fun q => .inl ⟨rfl, by simpa using q⟩⟩
  · split at h
    · rename_i hc
      cases h
      simp only [PV.eqok, Bool.and_eq_true] at hc
      exact ⟨fun q => .inr ⟨_, _, hx.dp hc.1.1, hy.dp hc.2.1, hc.1.2, hc.2.2, q⟩, fun q => .inr ⟨_, _, hx.dp hc.1.1, hy.dp hc.2.1, hc.1.2, hc.2.2, q⟩⟩
    · cases h
theorem rd_eq : RdOp K (rEqG K) fEq := by
  intro S H x y a b d Q hx hy h q
  obtain ⟨r, hr, rfl⟩ := Option.map_eq_some_iff.mp h
  exact (eqB_ok hx hy hr Q).1 (q _ _ Ext.refl (.bl _))
theorem rd_ne : RdOp K (rNeG K) fNe := by
  intro S H x y a b d Q hx hy h q
  obtain ⟨r, hr, rfl⟩ := Option.map_eq_some_iff.mp h
  exact (eqB_ok hx hy hr Q).2 (q _ _ Ext.refl (.bl _))
theorem rd_i {g : Int → Int → V} {f : Int → Int → PV} (hg : ∀ i j S H, Rv K S H (g i j) (f i j)) : RdOp K (rI0 g) (fI f) := by
  intro S H x y a b d Q hx hy h q
  unfold fI at h
  split at h
  · have := hx.intI; have := hy.intI; subst_vars; cases h
    exact r_i0 (q _ _ Ext.refl (hg _ _ _ _))
  · cases h
theorem rd_ic {C : Int → Int → Prop} {c : Int → Int → Bool} {g : Int → Int → V} {f : Int → Int → PV} (hc : ∀ i j, c i j = true → C i j) (hg : ∀ i j S H, Rv K S H (g i j) (f i j)) : RdOp K (rI C g) (fIc c f) := by
  intro S H x y a b d Q hx hy h q
  unfold fIc at h
  split at h
  · split at h
    · rename_i hh
      have := hx.intI; have := hy.intI; subst_vars; cases h
      exact r_iC (hc _ _ hh) (q _ _ Ext.refl (hg _ _ _ _))
    · cases h
  · cases h
def fSub := fI fun i j => .int (i - j)
def fLt := fI fun i j => .bl (decide (i < j))
def fLe := fI fun i j => .bl (decide (i ≤ j))
def fGt := fI fun i j => .bl (decide (j < i))
def fGe := fI fun i j => .bl (decide (j ≤ i))
def fMul := fIc (fun i j => decide ((-18446744073709551616 < i ∧ i < 18446744073709551616) ∨ (-18446744073709551616 < j ∧ j < 18446744073709551616))) fun i j => .int (i * j)
def fDiv := fIc (fun _ j => decide (0 < j ∧ j < 1073741824)) fun i j => .int (i / j)
def fMod := fIc (fun _ j => decide (0 < j)) fun i j => .int (i % j)
def fPow := fIc (fun i j => decide (0 ≤ j ∧ j ≤ 1000000 ∧ i.natAbs < 18446744073709551616)) fun i j => .int (i ^ j.toNat)
theorem rd_sub : RdOp K rSubI fSub := rd_i fun _ _ _ _ => .int _
theorem rd_lt : RdOp K rLtI fLt := rd_i fun _ _ _ _ => .bl _
theorem rd_le : RdOp K rLeI fLe := rd_i fun _ _ _ _ => .bl _
theorem rd_gt : RdOp K rGtI fGt := rd_i fun _ _ _ _ => .bl _
theorem rd_ge : RdOp K rGeI fGe := rd_i fun _ _ _ _ => .bl _
theorem rd_mul : RdOp K rMulI fMul := rd_ic (fun i j h => by
  have := of_decide_eq_true h
  rcases this with h | h
  · exact cmul_l h.1 h.2
  · exact cmul_r h.1 h.2) fun _ _ _ _ => .int _
theorem rd_div : RdOp K rDivI fDiv := rd_ic (fun i j h => (of_decide_eq_true h : 0 < j ∧ j < 1073741824)) fun _ _ _ _ => .int _
theorem rd_mod : RdOp K rModI fMod := rd_ic (fun i j h => (of_decide_eq_true h : 0 < j)) fun _ _ _ _ => .int _
theorem rd_pow : RdOp K rPowI fPow := rd_ic (fun i j h => by
  obtain ⟨h1, h2, h3⟩ := of_decide_eq_true h
  exact ⟨h1, h2, by simpa using h3⟩) fun _ _ _ _ => .int _
theorem rd_add : RdOp K (rAddG K) fAdd := by
  intro S H x y a b d Q hx hy h q
  unfold fAdd at h
  split at h
  · have := hx.intI; have := hy.intI; subst_vars; cases h
    exact a_int (q _ _ Ext.refl (.int _))
  · split at h
    · rename_i hl
      have := hx.strI; have := hy.strI; subst_vars; cases h
      exact a_str hl (q _ _ Ext.refl (.str _))
    · cases h
  · split at h
    · rename_i hl
      cases h
      obtain ⟨a, xs, rfl, h1, h2⟩ := hx.tupI
      obtain ⟨b, ys, rfl, h3, h4⟩ := hy.tupI
      refine .inr (.inr (.inl ⟨a, b, xs, ys, rfl, rfl, h1, h3, by rw [h2.len, h4.len]; exact hl, fun e => ?_, fun _ e => ?_, fun _ _ p hp => ?_⟩))
      · subst e
        cases h2
        exact q _ _ Ext.refl (.tup h3 h4)
      · subst e
        cases h4
        refine q _ _ Ext.refl ?_
        rw [List.append_nil]
        exact .tup h1 h2
      · exact q _ _ (Ext.new hp) (.tup (SqT.of upd_same) ((h2.append h4).ext (Ext.new hp)))
    · cases h
  · cases h
theorem flat_v {v : V} {d : PV} (h : Rv K S H v d) (f : d.flat = true) : flatV v = true := by cases h <;> first | rfl | cases f
theorem fle_v {x y : V} {d e : PV} (h : Rv K S H x d) (f : d.flat = true) (h' : Rv K S H y e) (f' : e.flat = true) : eqV x y = fle d e := by
  cases h <;> cases h' <;> first | rfl | cases f | cases f'
theorem flats_v : ∀ {ds : List PV} {vs : List V}, RvA K S H vs ds → ds.all PV.flat = true → vs.all flatV = true
  | _, _, .nil, _ => rfl
  | _, _, .cons h t, f => by
    rw [List.all_cons, Bool.and_eq_true] at f ⊢
    exact ⟨flat_v h f.1, flats_v t f.2⟩
theorem inV_v {x : V} {d : PV} (hx : Rv K S H x d) (fx : d.flat = true) : ∀ {ds : List PV} {vs : List V}, RvA K S H vs ds → ds.all PV.flat = true → inV x vs = ds.any fun e => fle e d
  | _, _, .nil, _ => rfl
  | _, _, .cons h t, f => by
    rw [List.all_cons, Bool.and_eq_true] at f
    have ih := inV_v hx fx t f.2
    unfold inV at ih ⊢
    rw [List.any_cons, List.any_cons, ih, fle_v h f.1 hx fx]
theorem Vw.flat {v : V} {d : PV} (h : Vw K S H v d) (f : d.flat = true) : Rv K S H v d := by
  rcases h with h | ⟨_, _, _, _, rfl, _⟩
  · exact h
  · cases f
theorem rd_in {neg : Bool} : RdOp K (rIn K neg) (fIn neg) := by
  intro S H x y a b d Q hx hy h q
  obtain ⟨r, hr, rfl⟩ := Option.map_eq_some_iff.mp h
  unfold inB at hr
  split at hr
  · split at hr
    · rename_i hc
      cases hr
      rw [Bool.and_eq_true] at hc
      obtain ⟨p, xs, rfl, h1, h2⟩ := hy.tupI
      have rx := hx.flat hc.1
      refine ⟨p, xs, rfl, .inr h1, flat_v rx hc.1, flats_v h2 hc.2, ?_⟩
      rw [inV_v rx hc.1 h2 hc.2]
      exact q _ _ Ext.refl (.bl _)
    · cases hr
  · split at hr
    · rename_i hc
      cases hr
      rw [Bool.and_eq_true] at hc
      obtain ⟨p, xs, rfl, h1, h2⟩ := hy.lstI
      have rx := hx.flat hc.1
      refine ⟨p, xs, rfl, .inl h1, flat_v rx hc.1, flats_v h2 hc.2, ?_⟩
      rw [inV_v rx hc.1 h2 hc.2]
      exact q _ _ Ext.refl (.bl _)
    · cases hr
  · cases hr
theorem isno_v {x : V} {a : PV} {b : Bool} (hx : Vw K S H x a) (h : fIsNo a .non = some (.bl b)) : decide (x = .non) = b := by
  have key : x = .non ↔ a = .non := by
    rcases hx with h | ⟨_, _, _, rfl, rfl, _⟩
    · cases h <;> simp
    · simp
  unfold fIsNo at h
  split at h <;> first | (cases h; simp [key]) | cases h
theorem rd_isno : RdOp K rIsNo fIsNo := by
  intro S H x y a b d Q hx hy h q
  have hb : b = .non := by unfold fIsNo at h; split at h <;> first | rfl | cases h
  subst hb
  have := hy.nonI
  subst this
  have hd : ∃ r, d = .bl r := by unfold fIsNo at h; split at h <;> first | (cases h; exact ⟨_, rfl⟩) | cases h
  obtain ⟨r, rfl⟩ := hd
  refine i_n ?_
  rw [isno_v hx h]
  exact q _ _ Ext.refl (.bl _)
theorem rd_isnn : RdOp K rIsNN fIsNN := by
  intro S H x y a b d Q hx hy h q
  obtain ⟨e, he, h2⟩ := Option.bind_eq_some_iff.mp h
  have hb : b = .non := by unfold fIsNo at he; split at he <;> first | rfl | cases he
  subst hb
  have := hy.nonI
  subst this
  split at h2
  · cases h2
    refine i_nn ?_
    rw [isno_v hx he]
    exact q _ _ Ext.refl (.bl _)
  · cases h2
theorem rd_isb : RdOp K rIsB fIsB := by
  intro S H x y a b d Q hx hy h q
  unfold fIsB at h
  split at h
  · have := hx.blI; have := hy.blI; subst_vars; cases h
    exact i_b (q _ _ Ext.refl (.bl _))
  · cases h
theorem rd_notb : RdOp K rNotB fNotB := by
  intro S H x y a b d Q hx hy h q
  unfold fNotB at h
  split at h
  · have := hx.blI; have := hy.blI; subst_vars; cases h
    exact i_nb (q _ _ Ext.refl (.bl _))
  · cases h
theorem atI_v {xs : List V} {ds : List PV} {i : Int} {d : PV} (r : RvA K S H xs ds) (e : atI ds i = some d) : ∃ v, atI xs i = some v ∧ Rv K S H v d := by
  unfold atI at e
  obtain ⟨j, hj, hd⟩ := Option.bind_eq_some_iff.mp e
  obtain ⟨v, hv, hr⟩ := r.getD hd
  refine ⟨v, ?_, hr⟩
  unfold atI
  rw [r.len, hj]
  exact hv
theorem rd_ix : RdOp K (rIx K) fIx := by
  intro S H x y a b d Q hx hy h q
  unfold fIx at h
  split at h
  · have := hy.intI; subst this
    obtain ⟨p, xs, rfl, h1, h2⟩ := hx.tupI
    obtain ⟨v, e1, e2⟩ := atI_v h2 h
    exact .inr (.inl ⟨p, xs, _, v, rfl, rfl, h1, e1, q _ _ Ext.refl e2⟩)
  · have := hy.intI; subst this
    obtain ⟨p, xs, rfl, h1, h2⟩ := hx.lstI
    obtain ⟨v, e1, e2⟩ := atI_v h2 h
    exact x_L h1 e1 (q _ _ Ext.refl e2)
  · have := hy.intI; subst this
    obtain ⟨p, xs, rfl, h1, h2⟩ := hx.scrI
    obtain ⟨v, e1, e2⟩ := atI_v h2 h
    exact x_L h1 e1 (q _ _ Ext.refl e2)
  · have := hy.intI; have := hx.strI; subst_vars
    split at h
    · rename_i hl
      obtain ⟨k, hk, rfl⟩ := Option.map_eq_some_iff.mp h
      exact x_str hl hk (q _ _ Ext.refl (.str _))
    · cases h
  · cases h
theorem rd_len : RdB K (Go.rLen K) fLen := by
  intro S H x a d Q hx h q
  unfold fLen at h
  split at h
  · obtain ⟨p, xs, rfl, h1, h2⟩ := hx.tupI
    cases h
    exact ⟨_, _, rfl, .inr ⟨xs, h1, rfl⟩, by rw [h2.len]; exact q _ _ Ext.refl (.int _)⟩
  · obtain ⟨p, xs, rfl, h1, h2⟩ := hx.lstI
    cases h
    exact l_L h1 (by rw [h2.len]; exact q _ _ Ext.refl (.int _))
  · obtain ⟨p, xs, rfl, h1, h2⟩ := hx.scrI
    cases h
    exact l_L h1 (by rw [h2.len]; exact q _ _ Ext.refl (.int _))
  · have := hx.strI; subst this
    split at h
    · rename_i hl
      cases h
      exact l_s hl (q _ _ Ext.refl (.int _))
    · cases h
  · cases h
theorem rd_abs : RdB K rAbs fAbs := by
  intro S H x a d Q hx h q
  unfold fAbs at h
  split at h
  · have := hx.intI; subst this; cases h; exact b_abs (q _ _ Ext.refl (.int _))
  · cases h
theorem rd_int1 : RdB K rInt1 fInt1 := by
  intro S H x a d Q hx h q
  unfold fInt1 at h
  split at h
  · have := hx.intI; subst this; cases h; exact b_int (q _ _ Ext.refl (.int _))
  · have := hx.blI; subst this; cases h; exact .inr ⟨_, rfl, q _ _ Ext.refl (.int _)⟩
  · cases h
theorem rd_strI : RdB K rStrI fStrI := by
  intro S H x a d Q hx h q
  unfold fStrI at h
  split at h
  · split at h
    · rename_i hl
      have := hx.intI; subst this; cases h; exact b_str hl (q _ _ Ext.refl (.str _))
    · cases h
  · cases h
theorem rd_tupOf : RdB K (rTupOf K) fTupOf := by
  intro S H x a d Q hx h q
  unfold fTupOf at h
  split at h
  · cases h
    obtain ⟨p, xs, rfl, h1, h2⟩ := hx.lstI
    exact ⟨p, xs, rfl, .inl ⟨h1, fun l hl => q _ _ (Ext.new hl) (.tup (SqT.of upd_same) (h2.ext (Ext.new hl)))⟩⟩
  · cases h
    obtain ⟨p, xs, rfl, h1, h2⟩ := hx.tupI
    exact ⟨p, xs, rfl, .inr ⟨h1, q _ _ Ext.refl (.tup h1 h2)⟩⟩
  · cases h
theorem rd_neg : RdU K (rU fun i => .int (-i)) fNeg := by
  intro S H x a d Q hx h q
  unfold fNeg at h
  split at h
  · have := hx.intI; subst this; cases h; exact r_u (q _ _ Ext.refl (.int _))
  · cases h
theorem ints_v : ∀ {ds : List PV} {ns : List Int} {xs : List V}, intsP ds = some ns → RvA K S H xs ds → xs = ns.map V.int
  | [], _, _, h, r => by cases h; cases r; rfl
  | .int i :: ds, ns, _, h, r => by
    obtain ⟨ms, h1, rfl⟩ := Option.map_eq_some_iff.mp h
    cases r with
    | cons r1 r2 => cases r1; rw [ints_v h1 r2]; rfl
  | .non :: _, _, _, h, _ => by cases h
  | .bl _ :: _, _, _, h, _ => by cases h
  | .str _ :: _, _, _, h, _ => by cases h
  | .tup _ :: _, _, _, h, _ => by cases h
  | .lst _ :: _, _, _, h, _ => by cases h
  | .scr _ :: _, _, _, h, _ => by cases h
  | .dct _ :: _, _, _, h, _ => by cases h
  | .obj _ _ :: _, _, _, h, _ => by cases h
theorem rd_sum : RdB K (rSum K) fSum := by
  intro S H x a d Q hx h q
  unfold fSum at h
  split at h
  · obtain ⟨ns, h1, rfl⟩ := Option.map_eq_some_iff.mp h
    obtain ⟨p, xs, rfl, h2, h3⟩ := hx.lstI
    have := ints_v h1 h3
    subst this
    exact ⟨p, ns, rfl, h2, q _ _ Ext.refl (.int _)⟩
  · cases h
theorem maxI_uniq : ∀ {ns : List Int} {m k : Int}, maxI ns = some k → m ∈ ns → (∀ y, y ∈ ns → y ≤ m) → m = k
  | [], _, _, h, _, _ => by cases h
  | [i], m, k, h, hm, _ => by cases h; simpa using hm
  | i :: j :: r, m, k, h, hm, hy => by
    obtain ⟨k', h1, rfl⟩ := Option.map_eq_some_iff.mp h
    have up : ∀ {ns : List Int} {k : Int}, maxI ns = some k → k ∈ ns ∧ ∀ y, y ∈ ns → y ≤ k := by
      intro ns
      induction ns with
      | nil => intro k h; cases h
      | cons a l ih =>
        intro k h
        cases l with
        | nil => cases h; simp
        | cons b l =>
          obtain ⟨k'', h2, rfl⟩ := Option.map_eq_some_iff.mp h
          obtain ⟨i1, i2⟩ := ih h2
          refine ⟨?_, fun y hy => ?_⟩
          · rcases Int.le_total a k'' with z | z
            · rw [Int.max_eq_right z]; exact List.mem_cons_of_mem _ i1
            · rw [Int.max_eq_left z]; simp
          · rcases List.mem_cons.mp hy with z | z
            · subst z; exact Int.le_max_left _ _
            · exact Int.le_trans (i2 y z) (Int.le_max_right _ _)
    obtain ⟨u1, u2⟩ := up h1
    have l1 : max i k' ≤ m := by
      have a := hy i (by simp)
      have b := hy k' (List.mem_cons_of_mem _ u1)
      omega
    have l2 : m ≤ max i k' := by
      rcases List.mem_cons.mp hm with z | z
      · subst z; exact Int.le_max_left _ _
      · exact Int.le_trans (u2 m z) (Int.le_max_right _ _)
    omega
theorem rd_max : RdB K (rMax K) fMax := by
  intro S H x a d Q hx h q
  unfold fMax at h
  split at h
  · obtain ⟨ns, h1, h⟩ := Option.bind_eq_some_iff.mp h
    obtain ⟨k, h4, rfl⟩ := Option.map_eq_some_iff.mp h
    obtain ⟨p, xs, rfl, h2, h3⟩ := hx.lstI
    have := ints_v h1 h3
    subst this
    refine ⟨p, ns, rfl, h2, ?_, fun m hm hy => ?_⟩
    · cases ns with
      | nil => cases h4
      | cons _ _ => simp
    · rw [maxI_uniq h4 hm hy]
      exact q _ _ Ext.refl (.int _)
  · cases h
end
end Go

set_option Elab.async false
set_option linter.all false
set_option maxRecDepth 100000
set_option maxHeartbeats 4000000
/-! Sem7: new lists, slices, dicts, fields, isinstance, enumerate, the module's constants. -/
namespace Go
open PySem L2
section
variable {K : PySem.W.Frag} {E : XK} {k : Nat} {c : Cs} {σ : St} {env : En} {T : List (V × EV)} {H : Hp} {g : Gm} {Q : VK} {S : List Addr}
/-- xs + ys -/
def mCat (fa fb : XE) : XM := fun env g => (fa env g).bind fun a g1 => (fb env g1).bind fun b g2 => match a.val g2, b.val g2 with
  | some (.lst xs), some (.lst ys) => if xs.length + ys.length ≤ 16777216 then .ok (xs ++ ys) g2 else .fail
  | _, _ => .fail
theorem sim_cat {ta tb : TE} {fa fb : XE} (ha : SimE K E ta fa) (hb : SimE K E tb fb) : SimM K E (tOp (rAddG K) ta tb) (mCat fa fb) := by
  intro c σ env T H g Q hK hE o h
  refine w_op (ha c σ env T H g _ hK hE o (XR.wp_mono (XR.wp_bind h) (fun a g1 h1 x H1 o1 => ?_) fun _ _ z => z))
  refine hb c σ env _ H1 g1 _ hK hE o1 (XR.wp_mono (XR.wp_bind h1) (fun b g2 h2 y H2 o2 => ?_) fun _ _ z => z)
  split at h2
  case h_2 => exact h2.elim
  rename_i xs ys e1 e2
  split at h2
  case isFalse => exact h2.elim
  rename_i hl
  have get : ∀ m S, OkH c S m σ env ((y, b) :: (x, a) :: T) H2 g2 → Vw c.K S H2 x (.lst xs) ∧ Vw c.K S H2 y (.lst ys) := fun m S o => ⟨EvOk.vw o.own (o.tmp (x, a) (by simp)) e1, EvOk.vw o.own (o.tmp (y, b) (by simp)) e2⟩
  obtain ⟨m, S, o'⟩ := id o2
  obtain ⟨v1, v2⟩ := get m S o'
  obtain ⟨p, us, rfl, p1, p2⟩ := v1.lstP
  obtain ⟨q, ws, rfl, q1, q2⟩ := v2.lstP
  subst hK
  refine .inr (.inr (.inr ⟨p, q, us, ws, rfl, rfl, p1, q1, by rw [p2.len, q2.len]; exact hl, fun r hr => h2 r _ ((Mk.of o2 hr fun m S o => ?_).sub fun z hz => by simp [hz])⟩))
  obtain ⟨v1, v2⟩ := get m S o
  obtain ⟨_, us', e3, p3, p4⟩ := v1.lstP
  obtain ⟨_, ws', e4, q3, q4⟩ := v2.lstP
  cases e3
  cases e4
  rw [p1] at p3
  rw [q1] at q3
  cases p3
  cases q3
  exact p4.append q4
def seqOf : PV → Option (List PV)
  | .lst ds => some ds
  | .tup ds => some ds
  | .scr ds => some ds
  | _ => none
/-- list(x) -/
def mList (fa : XE) : XM := fun env g => (fa env g).bind fun a g1 => match (a.val g1).bind seqOf with
  | some ds => .ok ds g1
  | none => .fail
theorem vw_seq {v : V} {d : PV} {ds : List PV} (h : Vw K S H v d) (e : seqOf d = some ds) : ∃ a xs, v = .ref a ∧ (SqL K H a xs ∨ SqT K H a xs) ∧ RvA K S H xs ds := by
  unfold seqOf at e
  split at e
  · cases e; obtain ⟨a, xs, h1, h2, h3⟩ := h.lstI; exact ⟨a, xs, h1, .inl h2, h3⟩
  · cases e; obtain ⟨a, xs, h1, h2, h3⟩ := h.tupI; exact ⟨a, xs, h1, .inr h2, h3⟩
  · cases e; obtain ⟨a, xs, h1, h2, h3⟩ := h.scrI; exact ⟨a, xs, h1, .inl h2, h3⟩
  · cases e
/-- two readings of one address -/
theorem sim_list {ta : TE} {fa : XE} (ha : SimE K E ta fa) : SimM K E (tCB (rLstOf K) (tCons ta tNil)) (mList fa) := by
  intro c σ env T H g Q hK hE o h
  refine w_cb (ha c σ env T H g _ hK hE o (XR.wp_mono (XR.wp_bind h) (fun a g1 h1 x H1 o1 => ?_) fun _ _ z => z))
  split at h1
  case h_2 => exact h1.elim
  rename_i ds e1
  obtain ⟨d, hd, e1⟩ := Option.bind_eq_some_iff.mp e1
  obtain ⟨m, S, o⟩ := o1
  subst hK
  obtain ⟨p, xs, rfl, p1, p2⟩ := vw_seq (EvOk.vw o.own (o.tmp (x, a) (by simp)) hd) e1
  refine ⟨p, xs, rfl, p1, fun l hl => h1 l _ ?_⟩
  obtain ⟨n1, n2, n3⟩ := o.fresh hl
  exact ⟨m, S, xs, (o.more hl n3).tmps fun z hz => (o.more (o := .lst xs) hl n3).tmp z (by simp [hz]), o.sub, upd_same, (p2.more hl).ext (Ext.new hl), n3, n1, n2⟩
/-! slices -/
abbrev XPt := En → Gm → XR (Option Int)
def SimPt (K : PySem.W.Frag) (E : XK) (t : TO) (f : XPt) : Prop := ∀ (c : Cs) (σ : St) (env : En) (T : List (V × EV)) (H : Hp) (g : Gm) (Q : Option Int → Hp → Prop), c.K = K → c.E = E → Ok c σ env T H g → (f env g).wp (fun i g' => ∀ H', Ok c σ env T H' g' → Q i H') c.X → t σ H Q
theorem sim_noPart : SimPt K E tNoPart xNoPart := by
  intro c σ env T H g Q hK hE o h
  exact h H o
theorem sim_part {ta : TE} {fa : XE} (ha : SimE K E ta fa) : SimPt K E (tPart ta) (xPart fa) := by
  intro c σ env T H g Q hK hE o h
  refine w_part (ha c σ env T H g _ hK hE o (XR.wp_mono (XR.wp_bind h) (fun a g1 h1 x H1 o1 => ?_) fun _ _ z => z))
  split at h1
  · rename_i i e
    obtain ⟨S, r⟩ := o1.val e
    exact ⟨i, r.intI, h1 H1 o1.pop⟩
  · exact h1.elim
def xSl (fa : XE) (fl fu : XPt) : XE := fun env g => (fa env g).bind fun a g1 => (fl env g1).bind fun l g2 => (fu env g2).bind fun u g3 => match a.val g3 with
  | some (.tup ds) => .ok (.p (.tup (cutD ds l u))) g3
  | _ => .fail
theorem sim_sl {ta : TE} {tl tu : TO} {fa : XE} {fl fu : XPt} (ha : SimE K E ta fa) (hl : SimPt K E tl fl) (hu : SimPt K E tu fu) : SimE K E (L2.tSl (rSlG K) ta tl tu) (xSl fa fl fu) := by
  intro c σ env T H g Q hK hE o h
  refine w_sl (ha c σ env T H g _ hK hE o (XR.wp_mono (XR.wp_bind h) (fun a g1 h1 x H1 o1 => ?_) fun _ _ z => z))
  refine hl c σ env _ H1 g1 _ hK hE o1 (XR.wp_mono (XR.wp_bind h1) (fun l g2 h2 H2 o2 => ?_) fun _ _ z => z)
  refine hu c σ env _ H2 g2 _ hK hE o2 (XR.wp_mono (XR.wp_bind h2) (fun u g3 h3 H3 o3 => ?_) fun _ _ z => z)
  split at h3
  case h_2 => exact h3.elim
  rename_i ds e
  obtain ⟨m, S, o⟩ := o3
  subst hK
  obtain ⟨p, xs, rfl, p1, p2⟩ := (EvOk.vw o.own (o.tmp (x, a) (by simp)) e).tupI
  have fin : ∀ v H', Ext [] H3 H' → Rv c.K S H' v (.tup (cutD ds l u)) → Q v H' := fun v H' x' r => h3 v H' ⟨m, S, by
    have o' := o.grow x'
    exact o'.tmps fun w hw => by
      rcases List.mem_cons.mp hw with z | z
      · subst z; exact r
      · exact o'.tmp w (by simp [z])⟩
  refine .inr (.inl ⟨p, xs, rfl, p1, fun e => ?_, fun _ q hq => ?_⟩)
  · refine fin _ _ Ext.refl ?_
    rw [p2.len] at e
    rw [cutD_all e]
    exact .tup p1 p2
  · refine fin _ _ (Ext.new hq) (.tup (SqT.of upd_same) (RvA.ext (Ext.new hq) ?_))
    unfold cutV cutD
    rw [p2.len]
    exact (p2.drop _).take _
def mSl (fa : XE) (fl fu : XPt) : XM := fun env g => (fa env g).bind fun a g1 => (fl env g1).bind fun l g2 => (fu env g2).bind fun u g3 => match a.val g3 with
  | some (.lst ds) => .ok (cutD ds l u) g3
  | some (.scr ds) => .ok (cutD ds l u) g3
  | _ => .fail
theorem sim_slM {ta : TE} {tl tu : TO} {fa : XE} {fl fu : XPt} (ha : SimE K E ta fa) (hl : SimPt K E tl fl) (hu : SimPt K E tu fu) : SimM K E (L2.tSl (rSlG K) ta tl tu) (mSl fa fl fu) := by
  intro c σ env T H g Q hK hE o h
  refine w_sl (ha c σ env T H g _ hK hE o (XR.wp_mono (XR.wp_bind h) (fun a g1 h1 x H1 o1 => ?_) fun _ _ z => z))
  refine hl c σ env _ H1 g1 _ hK hE o1 (XR.wp_mono (XR.wp_bind h1) (fun l g2 h2 H2 o2 => ?_) fun _ _ z => z)
  refine hu c σ env _ H2 g2 _ hK hE o2 (XR.wp_mono (XR.wp_bind h2) (fun u g3 h3 H3 o3 => ?_) fun _ _ z => z)
  obtain ⟨m, S, o⟩ := o3
  subst hK
  have key : ∀ ds, (∃ p xs, x = .ref p ∧ SqL c.K H3 p xs ∧ RvA c.K S H3 xs ds) → (∀ p H', Mk c σ env T H' g3 p (cutD ds l u) → Q (.ref p) H') → rSlG c.K x l u H3 Q := fun ds hp h3 => by
    obtain ⟨p, xs, rfl, p1, p2⟩ := hp
    refine .inl ⟨p, xs, rfl, p1, fun q hq => h3 q _ ?_⟩
    obtain ⟨n1, n2, n3⟩ := o.fresh hq
    refine ⟨m, S, _, (o.more (o := .lst (cutV xs l u)) hq n3).tmps fun z hz => (o.more (o := .lst (cutV xs l u)) hq n3).tmp z (by simp [hz]), o.sub, upd_same, ((RvA.more hq ?_).ext (Ext.new hq)), n3, n1, n2⟩
    unfold cutV cutD
    rw [p2.len]
    exact (p2.drop _).take _
  split at h3
  · rename_i ds e
    exact key ds (EvOk.vw o.own (o.tmp (x, a) (by simp)) e).lstI h3
  · rename_i ds e
    exact key ds (EvOk.vw o.own (o.tmp (x, a) (by simp)) e).scrI h3
  · exact h3.elim
/-- xs[::-1] -/
def mRev (fa : XE) : XM := fun env g => (fa env g).bind fun a g1 => match a.val g1 with
  | some (.lst ds) => .ok ds.reverse g1
  | _ => .fail
theorem RvA.rev {xs : List V} {ds : List PV} (h : RvA K S H xs ds) : RvA K S H xs.reverse ds.reverse := by
  induction ds generalizing xs with
  | nil => cases h; exact .nil
  | cons d ds ih =>
    cases h with
    | cons h1 h2 => rw [List.reverse_cons, List.reverse_cons]; exact (ih h2).append (.cons h1 .nil)
theorem sim_rev {ta : TE} {fa : XE} (ha : SimE K E ta fa) : SimM K E (tRevL K ta) (mRev fa) := by
  intro c σ env T H g Q hK hE o h
  show ta σ H _
  refine ha c σ env T H g _ hK hE o (XR.wp_mono (XR.wp_bind h) (fun a g1 h1 x H1 o1 => ?_) fun _ _ z => z)
  split at h1
  case h_2 => exact h1.elim
  rename_i ds e
  obtain ⟨m, S, o⟩ := o1
  subst hK
  obtain ⟨p, xs, rfl, p1, p2⟩ := (EvOk.vw o.own (o.tmp (x, a) (by simp)) e).lstP
  refine ⟨p, xs, rfl, SqL.of p1, fun l hl => h1 l _ ?_⟩
  obtain ⟨n1, n2, n3⟩ := o.fresh hl
  exact ⟨m, S, _, (o.more hl n3).tmps fun z hz => (o.more (o := .lst xs.reverse) hl n3).tmp z (by simp [hz]), o.sub, upd_same, (p2.rev.more hl).ext (Ext.new hl), n3, n1, n2⟩
/-! dicts -/
def keyOf : PV → Option Key
  | .int i => some (.inl i)
  | .str s => some (.inr s)
  | _ => none
def look (ds : List (Key × PV)) (k : Key) : Option PV := (ds.find? fun kv => decide (kv.1 = k)).map (·.2)
theorem look_v {xs : List (Key × V)} {ds : List (Key × PV)} (r : RvK K S H xs ds) (k : Key) : match look ds k, valV xs k with
    | some d, some v => Rv K S H v d
    | none, none => True
    | _, _ => False := by
  induction ds generalizing xs with
  | nil => cases r; simp [look, valV]
  | cons p ds ih =>
    cases r with
    | cons h t =>
      rename_i k0 v vs d
      unfold look valV
      by_cases e : k0 = k
      · subst e; simpa [List.find?] using h
      · have := ih t
        unfold look valV at this
        simpa [List.find?, e] using this
def fDGet : PV → PV → Option PV
  | .dct ds, y => (keyOf y).bind fun k => look ds k
  | _, _ => none
def fDIn (neg : Bool) : PV → PV → Option PV
  | y, .dct ds => (keyOf y).map fun k => .bl (if neg = true then !(look ds k).isSome else (look ds k).isSome)
  | _, _ => none
theorem Vw.dctI {v : V} {ds : List (Key × PV)} (h : Vw K S H v (.dct ds)) : ∃ a xs, v = .ref a ∧ H a = some (.dK xs) ∧ RvK K S H xs ds := by
  rcases h with h | ⟨a, xs, ds', rfl, e, h1, h2⟩
  · cases h with
    | dct h1 _ h2 => exact ⟨_, _, rfl, h1, h2⟩
  · cases e
theorem Vw.objI {v : V} {C : Addr} {ds : List (Str × PV)} (h : Vw K S H v (.obj C ds)) : ∃ a dx xs, v = .ref a ∧ H a = some (.ins C dx xs) ∧ RvF K S H xs ds := by
  rcases h with h | ⟨a, xs, ds', rfl, e, h1, h2⟩
  · cases h with
    | obj h1 _ h2 => exact ⟨_, _, _, rfl, h1, h2⟩
  · cases e
theorem Vw.keyI {v : V} {d : PV} {k : Key} (h : Vw K S H v d) (e : keyOf d = some k) : v = kV k := by
  unfold keyOf at e
  split at e
  · cases e; exact h.intI
  · cases e; exact h.strI
  · cases e
theorem rd_dget : RdOp K (fun x y H Q => ∃ a v, x = .ref a ∧ DGet H a y (some v) ∧ Q v H) fDGet := by
  intro S H x y a b d Q hx hy h q
  unfold fDGet at h
  split at h
  · obtain ⟨k, hk, h⟩ := Option.bind_eq_some_iff.mp h
    obtain ⟨p, xs, rfl, h1, h2⟩ := hx.dctI
    have := look_v h2 k
    rw [h] at this
    cases e : valV xs k with
    | none => rw [e] at this; exact this.elim
    | some v =>
      rw [e] at this
      refine ⟨p, v, rfl, ?_, q v H Ext.refl this⟩
      rw [hy.keyI hk, ← e]
      exact DGet.k h1
  · cases h
theorem din_v {p : Addr} {xs : List (Key × V)} {ds : List (Key × PV)} {y : V} {b : PV} {k : Key} (h1 : H p = some (.dK xs)) (h2 : RvK K S H xs ds) (hy : Vw K S H y b) (hk : keyOf b = some k) : ∃ o, DGet H p y o ∧ o.isSome = (look ds k).isSome := by
  refine ⟨valV xs k, by rw [hy.keyI hk]; exact DGet.k h1, ?_⟩
  have := look_v h2 k
  cases e : valV xs k <;> cases e2 : look ds k <;> rw [e, e2] at this <;> first | rfl | exact this.elim
theorem rd_din : RdOp K (fun y x H Q => ∃ a o, x = .ref a ∧ DGet H a y o ∧ Q (.bl o.isSome) H) (fDIn false) := by
  intro S H y x b a d Q hy hx h q
  unfold fDIn at h
  split at h
  · obtain ⟨k, hk, rfl⟩ := Option.map_eq_some_iff.mp h
    obtain ⟨p, xs, rfl, h1, h2⟩ := hx.dctI
    obtain ⟨o, d1, d2⟩ := din_v h1 h2 hy hk
    exact ⟨p, o, rfl, d1, by rw [d2]; exact q _ _ Ext.refl (.bl _)⟩
  · cases h
theorem rd_dnin : RdOp K (fun y x H Q => ∃ a o, x = .ref a ∧ DGet H a y o ∧ Q (.bl (!o.isSome)) H) (fDIn true) := by
  intro S H y x b a d Q hy hx h q
  unfold fDIn at h
  split at h
  · obtain ⟨k, hk, rfl⟩ := Option.map_eq_some_iff.mp h
    obtain ⟨p, xs, rfl, h1, h2⟩ := hx.dctI
    obtain ⟨o, d1, d2⟩ := din_v h1 h2 hy hk
    exact ⟨p, o, rfl, d1, by rw [d2]; exact q _ _ Ext.refl (.bl _)⟩
  · cases h
theorem sim_dget {ta tb : TE} {fa fb : XE} (ha : SimE K E ta fa) (hb : SimE K E tb fb) : SimE K E (tDGet ta tb) (xOp fDGet fa fb) := sim_op rd_dget ha hb
theorem sim_din {ta tb : TE} {fa fb : XE} (ha : SimE K E ta fa) (hb : SimE K E tb fb) : SimE K E (tDIn ta tb) (xOp (fDIn false) fa fb) := sim_op rd_din ha hb
theorem sim_dnin {ta tb : TE} {fa fb : XE} (ha : SimE K E ta fa) (hb : SimE K E tb fb) : SimE K E (tDNotIn ta tb) (xOp (fDIn true) fa fb) := sim_op rd_dnin ha hb
/-! fields -/
theorem fld_v {xs : List (Str × V)} {ds : List (Str × PV)} (r : RvF K S H xs ds) (k : Str) {d : PV} (e : ds.lookup k = some d) : ∃ v, xs.lookup k = some v ∧ Rv K S H v d := by
  induction ds generalizing xs with
  | nil => cases e
  | cons p ds ih =>
    cases r with
    | cons h t =>
      rename_i k0 v vs d0
      by_cases z : (k == k0) = true
      · simp only [List.lookup, z] at e ⊢
        cases e
        exact ⟨v, rfl, h⟩
      · have z : (k == k0) = false := by simpa using z
        simp only [List.lookup, z] at e ⊢
        exact ih t e
def fFld (C : Addr) (f : Str) : PV → Option PV
  | .obj D ds => if D = C then ds.lookup f else none
  | _ => none
theorem sim_fld {C : Addr} {f : Str} {ta : TE} {fa : XE} (ha : SimE K E ta fa) : SimE K E (tFldC C f ta) (xB (fFld C f) fa) := by
  refine sim_un (r := fun x H Q => ∃ a dx fs v, x = .ref a ∧ H a = some (.ins C dx fs) ∧ fs.lookup f = some v ∧ Q v H) ?_ ha
  intro S H x a d Q hx h q
  unfold fFld at h
  split at h
  · split at h
    · rename_i e
      subst e
      obtain ⟨p, dx, xs, rfl, h1, h2⟩ := hx.objI
      obtain ⟨v, e1, e2⟩ := fld_v h2 f h
      exact ⟨p, dx, xs, v, rfl, h1, e1, q _ _ Ext.refl e2⟩
    · cases h
  · cases h
/-! isinstance -/
def tyP : PV → Option String
  | .non => some "NoneType"
  | .bl _ => some "bool"
  | .int _ => some "int"
  | .str _ => some "str"
  | .tup _ => some "tuple"
  | .lst _ => some "list"
  | _ => none
def fIsi (T : String) (d : PV) : Option PV := (tyP d).bind fun a => (kitB a T).map PV.bl
theorem tyx_t {a : Addr} {xs : List V} (h : SqT K H a xs) : TyX K H (.ref a) (.type "tuple") := by
  rcases h with (h | ⟨o, h⟩) | ⟨o, its, n, l, c, _⟩
  · exact .base (.tup h)
  · exact .fTuple h
  · exact .kTuple l c
theorem sim_isi {T : String} {ta : TE} {fa : XE} (ha : SimE K E ta fa) : SimE K E (tCB (rIsi K) (tCons ta (tCons (tC (.ty T)) tNil))) (xB (fIsi T) fa) := by
  refine sim_un (r := fun x H Q => rIsi K [x, .ty T] H Q) (K := K) ?_ ha
  intro S H x a d Q hx h q
  unfold fIsi at h
  obtain ⟨A, hA, h⟩ := Option.bind_eq_some_iff.mp h
  obtain ⟨r, hr, rfl⟩ := Option.map_eq_some_iff.mp h
  have q := q _ _ Ext.refl (.bl r)
  unfold tyP at hA
  split at hA
  · cases hA; have := hx.nonI; subst this; exact is_of (.base .non) hr q
  · cases hA; have := hx.blI; subst this; exact is_of (.base (.bl _)) hr q
  · cases hA; have := hx.intI; subst this; exact is_of (.base (.int _)) hr q
  · cases hA; have := hx.strI; subst this; exact is_of (.base (.str _)) hr q
  · cases hA
    obtain ⟨p, xs, rfl, h1, h2⟩ := hx.tupI
    exact is_of (tyx_t h1) hr q
  · cases hA
    obtain ⟨p, xs, rfl, h1, h2⟩ := hx.lstP
    exact is_of (.base (.lst h1)) hr q
  · cases hA
/-! enumerate -/
def numL (ds : List PV) : List PV := (List.range ds.length).zipWith (fun (i : Nat) d => PV.tup [.int (i : Int), d]) ds
theorem numL_len (ds : List PV) : (numL ds).length = ds.length := by simp [numL]
theorem numL_get {ds : List PV} {i : Nat} {d : PV} (h : ds[i]? = some d) : (numL ds)[i]? = some (.tup [.int (i : Int), d]) := by
  have hl := (List.getElem?_eq_some_iff.mp h).1
  simp [numL, List.getElem?_zipWith, h, hl]
  try exact (List.getElem?_eq_some_iff.mp h).2
def iE (f : XE) : XM := fun env g => (f env g).bind fun e g1 => match e with
  | .p (.tup ds) => .ok (numL ds) g1
  | _ => .fail
def iEl (f : XE) : XM := fun env g => (f env g).bind fun e g1 => match e with
  | .p (.lst ds) => .ok (numL ds) g1
  | _ => .fail
theorem sim_iE {t : TE} {f : XE} (ht : SimE K E t f) : SimI K E (iEnumT K (tCons t tNil)) (iE f) := by
  intro c σ env T H g R hK hE o h
  refine w_enumT (w_cons (ht c σ env T H g _ hK hE o (XR.wp_mono (XR.wp_bind h) (fun e g1 h1 v H1 o1 => ?_) fun _ _ z => z)))
  split at h1
  case h_2 => exact h1.elim
  rename_i ds
  obtain ⟨m, S, o'⟩ := id o1
  have r := o'.tmp _ List.mem_cons_self
  subst hK
  cases r with
  | tup r1 r2 =>
    rename_i a xs
    refine ⟨a, xs, rfl, r1, h1 _ _ _ _ (fun S m H2 r => ?_) o1⟩
    cases r with
    | tup r1 r2 =>
      rename_i xs
      rw [numL_len]
      refine ⟨fun i hi => ⟨xs, xs[i]'(by rw [r2.len]; exact hi), r1, List.getElem?_eq_getElem _⟩, ⟨xs, r1, r2.len⟩, fun i x H' hi y => ?_⟩
      obtain ⟨p, x0, rfl, hp, rfl, y⟩ := y
      obtain ⟨d, hd, hr⟩ := r2.get (y xs r1)
      exact ⟨Ext.new hp, _, numL_get hd, .tup (SqT.of upd_same) (.cons (.int _) (.cons (hr.ext (Ext.new hp)) .nil))⟩
theorem sim_iEl {t : TE} {f : XE} (ht : SimE K E t f) : SimI K E (iEnum K (tCons t tNil)) (iEl f) := by
  intro c σ env T H g R hK hE o h
  have key : t σ H fun x H1 => ∃ a xs, [x] = [.ref a] ∧ SqL K H1 a xs ∧ R (Ite K a) H1 := ht c σ env T H g _ hK hE o (XR.wp_mono (XR.wp_bind h) (fun e g1 h1 v H1 o1 => by
    split at h1
    case h_2 => exact h1.elim
    rename_i ds
    obtain ⟨m, S, o'⟩ := id o1
    have r := o'.tmp _ List.mem_cons_self
    subst hK
    cases r with
    | lst r1 r0 r2 =>
      rename_i a xs
      refine ⟨a, xs, rfl, SqL.of r1, h1 _ _ _ _ (fun S m H2 r => ?_) o1⟩
      cases r with
      | lst r1 r0 r2 =>
        rename_i xs
        rw [numL_len]
        refine ⟨fun i hi => ⟨xs, xs[i]'(by rw [r2.len]; exact hi), SqL.of r1, List.getElem?_eq_getElem _⟩, ⟨xs, SqL.of r1, Nat.le_of_eq r2.len⟩, fun i x H' hi y => ?_⟩
        obtain ⟨p, x0, rfl, hp, rfl, y⟩ := y
        obtain ⟨d, hd, hr⟩ := r2.get (y xs (SqL.of r1))
        exact ⟨Ext.new hp, _, numL_get hd, .tup (SqT.of upd_same) (.cons (.int _) (.cons (hr.ext (Ext.new hp)) .nil))⟩) fun _ _ z => z)
  exact key
/-! the module's constants; aug -/
mutual
def D.pv : D → PV
  | .non => .non
  | .bl b => .bl b
  | .int i => .int i
  | .str s => .str s
  | .tup ds => .tup (D.pvs ds)
def D.pvs : List D → List PV
  | [] => []
  | d :: ds => d.pv :: D.pvs ds
end
mutual
theorem Rp.rv : ∀ {d : D} {v : V}, Rp K H v d → Rv K S H v d.pv
  | _, _, .non => .non
  | _, _, .bl b => .bl b
  | _, _, .int i => .int i
  | _, _, .str s => .str s
  | _, _, .tup h a => .tup h (RpAll.rv a)
theorem RpAll.rv : ∀ {ds : List D} {vs : List V}, RpAll K H vs ds → RvA K S H vs (D.pvs ds)
  | _, _, .nil => .nil
  | _, _, .cons h t => .cons (Rp.rv h) (RpAll.rv t)
end
theorem sim_const {d : D} : SimE K E (tConst K d) (xC d.pv) := by
  intro c σ env T H g Q hK hE o h
  subst hK
  exact fun v r => h v H (o.top fun m S _ => (r H).rv)
theorem sim_aug {i : Nat} {f : Int → Int → Int} {t : TE} {fa : XE} (ht : SimE K E t fa) : SimS K E k (tAug i t (ipI f)) (xAug i f fa) := by
  intro c σ env T H g D hK hk hE o h
  unfold xAug at h
  split at h
  case h_2 => exact h.elim
  rename_i a ha
  obtain ⟨m, S, o'⟩ := id o
  obtain ⟨v, e1, e2⟩ := o'.slot i _ ha (by simp)
  have e2 : v = .int a := by cases e2; rfl
  subst e2
  refine w_aug e1 (ht c σ env T H g _ hK hE o (XR.wp_mono (XR.wp_then h) (fun e g1 h1 v H1 o1 => ?_) fun _ _ z => z))
  split at h1
  · rename_i b
    obtain ⟨S, r⟩ := o1.val (d := .int b) rfl
    have := r.intI
    subst this
    exact w_ip (h1 _ _ (o1.pop.top (v := .int (f a b)) (e := .p (.int (f a b))) fun _ _ _ => .int _).set)
  · exact h1.elim
end
end Go

set_option Elab.async false
set_option linter.all false
set_option maxRecDepth 100000
set_option maxHeartbeats 4000000
/-! HotP: a def that is called within an except suite with the caught exception in hand: its promise speaks of that exception. -/
namespace Go
open PySem L2 PySem.Spec PyProof.Rows
abbrev SpX := Addr → Value → Option Addr → Sp
/-- the caught exception and what is known of it -/
structure Caught (cls : Value) (d : Option Addr) (p : Addr × Obj) : Prop where
  z : Zc cls d p.2
  f : ∃ vs, p.2.data = .fields vs
structure FnP (P : Program) (w : World) (K : PySem.W.Frag) (mg : Str → Option Value) (base : Heap) (k : Nat) (f : Addr) (fd : FuncData) (ps : List Str) (sp : SpX) : Prop where
  len : ∀ a cls d vs H Q E, sp a cls d vs H Q E → vs.length = ps.length
  run : ∀ (A : Around) (outer : List Env) (s : Shared) (H : Hp) (args : Args) (us : List Value) (vs : List V) (Q : VK) (E : XK) (p : Addr × Obj) (cls : Value) (d : Option Addr),
    L2H.RoomH k A → L2H.PinOk outer H s p → Caught cls d p → Env0 P w K mg base A outer s H → BindsTo s fd args (ps.zip us) → Vals vs us → sp p.1 cls d vs H Q E →
      codeAny (model P w) A (.call (.ref f) args) (CR CX0 outer P w H s Q E) s
abbrev cxP (P : Program) (w : World) (K : PySem.W.Frag) (mg : Str → Option Value) (base : Heap) (N : List Str) (qual : Str) (scope : Scope) (f : Addr) (cd : Value) (A : Around) (outer : List Env) (s : Shared) (H : Hp) (E : XK) (p : Addr × Obj) : Cx :=
  L2H.cxH CX0 P w K mg base N qual scope f cd A outer s H E p
theorem fnp_of {P : Program} {w : World} {K : PySem.W.Frag} {mg : Str → Option Value} {base : Heap} {k : Nat} {x qual : Str} {st : Stmt} {f : Addr} {fd : FuncData} {N ps : List Str} {sp : SpX} (F : Fun K x qual st f fd) (S : FnScope N ps (defScope st))
    (len : ∀ a cls d vs H Q E, sp a cls d vs H Q E → vs.length = ps.length)
    (hbody : ∀ (cdv : Value) (A : Around) (outer : List Env) (s : Shared) (H : Hp) (vs : List V) (Q : VK) (E : XK) (p : Addr × Obj) (cls : Value) (d : Option Addr), Caught cls d p → L2H.RoomH k (A.deeper (envOfC qual (defScope st) s.heap.objs.size f cdv)) → sp p.1 cls d vs H Q E →
      ∃ t, PSs (cxP P w K mg base N qual (defScope st) f cdv A outer s H E p) (defBody st) t ∧ t { nx := fun _ H' => Q .non H', rt := Q } (L2.start N vs) H) : FnP P w K mg base (k + 1) f fd ps sp := by
  obtain ⟨oc, od, kV, doc, pm, an, cdv, ct, osl, rfl, lk, hcd⟩ := F.ex
  constructor
  · exact len
  intro A outer s H args us vs Q E p cls d room pin cau e0 bnd rel hs
  have nvs := len _ _ _ _ _ _ _ hs
  have stays : ∀ b o, base.get? b = some o → s.heap.get? b = some o := fun b o e => (e0.bs b o e).1
  have inK : K.In s.heap := e0.mod.kin.keeps stays
  have noLim : s.heap.NoLimit := e0.mod.nolimit.keeps stays
  have slots : ∀ y, y ∈ ps.zip us → (defScope st).names.lookup y.1 = some .local ∨ ((defScope st).names.lookup y.1 = some .cell ∧ ((cellsFrom (s.heap.objs.size + 1) (defScope st).names []).lookup y.1).isSome = true) := by
    rintro ⟨n, v⟩ hy
    rcases S.par n (List.of_mem_zip hy).1 with q | q
    · exact Or.inl q
    · exact Or.inr ⟨q, PySem.W.cellsFrom_some _ _ _ (Or.inl q)⟩
  refine codeAny_call_function room.depth (inK _ _ lk) rfl S.co S.gen rfl (PySem.W.codeRec_of inK hcd) (bnd _ _ _ _ (wpAny_newFunctionEnv_cells S.kind slots ?_))
  rintro env rfl s1 made
  refine ⟨noLim.keeps made.toInCall.keep, codeAny_func ?_⟩
  obtain ⟨t, follows, holds⟩ := hbody cdv A outer s H vs Q E p cls d cau (room.deeper _) hs
  have inv := L2H.inv_startH (CX := CX0) (P := P) (w := w) (K := K) (mg := mg) (base := base) (E := E) (A := A) S pin e0 nvs rel made
  refine wpAny_mono (follows.run [] s1 (L2.start N vs) H _ inv holds) ?_ (fun e s' hs => hs)
  intro fl s' out
  cases fl with
  | ret u => obtain ⟨v, σ', H', J, rv, q⟩ := out; exact ⟨v, H', J.os, J.bare, J.base, J.hok, rv, q⟩
  | next => obtain ⟨σ', H', J, q⟩ := out; exact ⟨V.non, H', J.os, J.bare, J.base, J.hok, rfl, q⟩
  | brk => obtain ⟨_, _, _, q⟩ := out; exact q.elim
  | cont => obtain ⟨_, _, _, q⟩ := out; exact q.elim
/-- the module's name x holds such a def -/
structure HasP (P : Program) (w : World) (K : PySem.W.Frag) (mg : Str → Option Value) (base : Heap) (k : Nat) (x : Str) (ps : List Str) (sp : SpX) : Prop where
  ex : ∃ (f : Addr) (fd : FuncData), FnP P w K mg base k f fd ps sp ∧ mg x = some (.ref f) ∧ PySem.W.keepIn K (.ref f) = true ∧ Binds K fd ps []
theorem Dfn.hasP {P : Program} {w : World} {K : PySem.W.Frag} {mg : Str → Option Value} {base : Heap} {k : Nat} {x : Str} {ps : List Str} {sp : SpX} {st : Stmt} (D : Dfn K mg x st ps) (h : ∀ f fd, Fun K x x st f fd → FnP P w K mg base k f fd ps sp) : HasP P w K mg base k x ps sp := by
  obtain ⟨f, fd, F, m, b⟩ := D.ex
  exact ⟨f, fd, h f fd F, m, F.kp, b⟩
theorem roomH_mark {k : Nat} {A : Around} {v : Option Value} (r : L2H.RoomH k A) : L2H.RoomH k (A.mark v) := ⟨r.dp, r.un⟩
section
variable {X : Cx} {k : Nat} {x : Str} {ps : List Str} {sp : SpX} {p pos : Pos} {e : Expr} {es : List Expr} {t : TA} {a : Addr} {oe : Obj} {cls : Value} {d : Option Addr}
/-- f(.., e, ..) within the suite -/
def tCallP (sp : SpX) (a : Addr) (cls : Value) (d : Option Addr) (t : TA) : TE := fun σ H Q => t σ H fun vs H1 => sp a cls d vs H1 Q fun _ _ _ => False
theorem pe_callP (h : HasP X.prog X.w X.K X.mg X.base k x ps sp) (hr : L2H.RoomH k X.A) (cau : Caught cls d (a, oe)) (hp : (a, oe) ∈ X.pn) (hg : Gl X x) (ha : PA X (e :: es) t)
    (hdb : (x == ("__debug__" : Str)) = false := by decide) (he : starEach (e :: es) X.env = (false, eval e X.env) :: starEach es X.env := by rfl) (hpl : (backTo pos (starEach es X.env)).any (·.1) = false := by rfl) :
    PE X (.Call (.Name x p) (e :: es) [] pos) (tCallP sp a cls d t) := by
  obtain ⟨f, fd, F, m, kp, b⟩ := h.ex
  constructor
  intro pins s σ H Q I hq
  refine wpAny_Call_Name_kw (ld_glob I hg m ?_ hdb)
  refine PySem.W.callWith_K (h₀ := X.base) I.ok.mod.kin kp (thn (ha.run pos pins s σ H _ I hq) ?_) he hpl
  rintro us s1 ⟨vs, H1, I1, r, q⟩
  refine ⟨I1.kIn, ?_⟩
  have nus : us.length = ps.length := by rw [← r.length]; exact F.len _ _ _ _ _ _ _ q
  have bd := b s1 us I1.kIn (by rw [List.append_nil]; exact nus)
  rw [List.append_nil] at bd
  obtain ⟨g1, g2, g3, g4, g5⟩ := I1.pin (a, oe) (List.mem_append_left _ hp)
  have pin : L2H.PinOk X.stack H1 s1 (a, oe) := ⟨g1, g2, fun hm => (List.mem_cons.mp (I1.stkSub a hm)).elim g3 g4, g5⟩
  refine wpAny_call (codeAny_mono (F.run X.A X.stack s1 H1 ⟨us, []⟩ us vs Q (fun _ _ _ => False) (a, oe) cls d hr pin cau I1.env0 bd r q) ?_)
  intro rr s' out
  match rr, out with
  | .ok (.ret u), out => exact I1.after out
/-- isinstance of it -/
theorem call_isP (cau : Caught cls d (a, oe)) (hp : (a, oe) ∈ X.pn) : CallR X (.builtin "isinstance") (rIsX X.K cls d a) := by
  intro pins s σ H xs us Q I r h
  obtain ⟨D, c, cv, b, rfl, rfl, C, rfl, hcv, kit, q⟩ := h
  match r with
  | .cons rx (.cons rt .nil) =>
    cases rx
    cases hcv.eq rt
    have there := (I.pin (a, oe) (List.mem_append_left _ hp)).1
    obtain ⟨vs, hv⟩ := cau.f
    obtain ⟨z1, z2⟩ := cau.z
    have inst : PySem.W.InstAt s.heap a oe D none := by
      obtain ⟨oc, od, oda, osl⟩ := oe
      dsimp only at z1 z2 hv
      subst z1 z2 hv
      exact ⟨there, rfl, rfl, trivial⟩
    exact PySem.W.kia_one (PySem.W.handS_kitx_exc C.hg C.hk C.hs C.hd C.ha C.hn C.ht C.hm) I.kIn inst kit (fun z => nomatch z) fun tk => ⟨.bl b, H, I.kept (t' := tk) fun _ _ z => z, rfl, q⟩
end
section
variable {σ : L2.St} {H : Hp} {Q : VK} {K : PySem.W.Frag}
theorem w_callP {sp : SpX} {a : Addr} {cls : Value} {d : Option Addr} {t : TA} (h : t σ H fun vs H1 => sp a cls d vs H1 Q fun _ _ _ => False) : tCallP sp a cls d t σ H Q := h
end
end Go

set_option Elab.async false
set_option linter.all false
set_option maxRecDepth 100000
set_option maxHeartbeats 4000000
/-! Sem8: try; dicts written and compared. -/
namespace Go
open PySem L2
section
variable {K : PySem.W.Frag} {E : XK} {k : Nat} {c : Cs} {σ : L2.St} {env : En} {T : List (V × EV)} {H : Hp} {g : Gm} {Q : VK} {S : List Addr}
def Cs.B (c : Cs) (σ : L2.St) (env : En) (T : List (V × EV)) (D : Ends) (W : WX) : XP := { c.P T D with nx := fun _ g => ∀ H, Ok c σ env T H g → D.nx σ H, ex := fun x g => ∀ H, Ok c σ env T H g → W (.ref x) none σ H }
/-- within a try whose body sets no slot: what is raised goes to W -/
def SimB (K : PySem.W.Frag) (E : XK) (k : Nat) (t : WX → TS) (f : XS) : Prop := ∀ (c : Cs) (σ : L2.St) (env : En) (T : List (V × EV)) (H : Hp) (g : Gm) (D : Ends) (W : WX), c.K = K → c.as.length = k → c.E = E → Ok c σ env T H g → (f env g).wp (c.B σ env T D W) → t W D σ H
/-- a call whose arguments raise nothing -/
def xRetS (F : XF) (fa : XA) : XS := fun env g => match fa env g with
  | .ok es g1 => (callF F es g1).then fun e g2 => .rt e g2
  | _ => .fail
def xRetKS (np : Nat) (F : XF) (fa fk : XA) : XS := fun env g => match fa env g with
  | .ok es g1 => match fk env g1 with
    | .ok ks g2 => if es.length = np then (callF F (es ++ ks) g2).then fun e g3 => .rt e g3 else .fail
    | _ => .fail
  | _ => .fail
theorem ok_wp {α : Type} {r : XR α} {P : α → Gm → Prop} {X : Addr → Gm → Prop} (h : ∃ a g, r = .ok a g ∧ P a g) : r.wp P X := by
  obtain ⟨a, g, rfl, h⟩ := h
  exact h
theorem sim_retS {ar : Nat} {F : XF} {t : TA} {fa : XA} (hF : ∀ es g, es.length ≠ ar → F es g = .fail) (ht : SimA K E t fa) : SimB K E k (fun W => tRet (tCallS (sp_P K ar F) (WE W) t)) (xRetS F fa) := by
  intro c σ env T H g D W hK hk hE o h
  unfold xRetS at h
  split at h
  case h_2 => exact h.elim
  rename_i es g1 e1
  refine w_ret (w_callS (ht c σ env T H g _ hK hE o (ok_wp ⟨es, g1, e1, fun vs H1 hl o1 => ?_⟩)))
  subst hK
  refine call_at (T := T) hF hl o1 ?_
  revert h
  cases callF F es g1 with
  | ok e g2 => exact fun h v H' o2 => h v H' o2.last
  | exn x g2 => exact fun h H' o2 => h _ o2
  | fail => exact fun h => h
theorem sim_retKS {ar np : Nat} {F : XF} {t tk : TA} {fa fk : XA} (hF : ∀ es g, es.length ≠ ar → F es g = .fail) (ht : SimA K E t fa) (hk : SimA K E tk fk) : SimB K E k (fun W => tRet (tCallKS (sp_P K ar F) (gK np) (WE W) t tk)) (xRetKS np F fa fk) := by
  intro c σ env T H g D W hK hk0 hE o h
  unfold xRetKS at h
  split at h
  case h_2 => exact h.elim
  rename_i es g1 e1
  split at h
  case h_2 => exact h.elim
  rename_i ks g2 e2
  split at h
  case isFalse => exact h.elim
  rename_i hn
  refine w_ret (w_callKS (ht c σ env T H g _ hK hE o (ok_wp ⟨es, g1, e1, fun vs H1 hl o1 => ?_⟩)))
  refine hk c σ env _ H1 g1 _ hK hE o1 (ok_wp ⟨ks, g2, e2, fun zs H2 hz o2 => ?_⟩)
  subst hK
  unfold gK
  rw [if_pos (by rw [hl]; exact hn)]
  refine call_at (T := T) (es := es ++ ks) hF (by simp [hl, hz]) (o2.both hl) ?_
  revert h
  cases callF F (es ++ ks) g2 with
  | ok e g2 => exact fun h v H' o2 => h v H' o2.last
  | exn x g2 => exact fun h H' o2 => h _ o2
  | fail => exact fun h => h
def xIfB (ft : XT) (f1 f2 : XS) : XS := fun env g => match ft env g with
  | .ok b g1 => if b = true then f1 env g1 else f2 env g1
  | _ => .fail
theorem sim_ifB {t : TT} {t1 t2 : WX → TS} {ft : XT} {f1 f2 : XS} (h0 : SimT K E t ft) (h1 : SimB K E k t1 f1) (h2 : SimB K E k t2 f2) : SimB K E k (fun W => tIfS t (t1 W) (t2 W)) (xIfB ft f1 f2) := by
  intro c σ env T H g D W hK hk hE o h
  unfold xIfB at h
  split at h
  case h_2 => exact h.elim
  rename_i b g1 e1
  refine w_ifS (h0 c σ env T H g _ hK hE o (ok_wp ⟨b, g1, e1, fun H1 o1 => ?_⟩))
  cases b with
  | true => exact h1 c σ env T H1 g1 D W hK hk hE o1 h
  | false => exact h2 c σ env T H1 g1 D W hK hk hE o1 h
theorem sim_nextB : SimB K E k (fun _ => tNext) xNext := by
  intro c σ env T H g D W hK hk hE o h
  exact h _ o
def xSeqB (f1 f2 : XS) : XS := fun env g => match f1 env g with
  | .nx _ g1 => f2 env g1
  | r => r
theorem sim_seqB {t u : WX → TS} {f1 f2 : XS} (h1 : SimB K E k t f1) (h2 : SimB K E k u f2) : SimB K E k (fun W => tSeqJ (t W) (u W)) (xSeqB f1 f2) := by
  intro c σ env T H g D W hK hk hE o h
  refine w_seqJ (h1 c σ env T H g { D with nx := u W D } W hK hk hE o ?_)
  unfold xSeqB at h
  revert h
  cases f1 env g with
  | nx e g1 => exact fun h H1 o1 => h2 c σ env T H1 g1 D W hK hk hE o1 h
  | rt e g1 => exact fun h => h
  | bk e g1 => exact fun h => h
  | ct e g1 => exact fun h => h
  | exn e g1 => exact fun h => h
  | fail => exact fun h => h
/-- try: f, and fh of what it raises -/
def xTry (fb : XS) (fh : Addr → XS) : XS := fun env g => match fb env g with
  | .exn x g1 => fh x env g1
  | .nx _ g1 => .nx env g1
  | r => r
theorem sim_try {c0 : Value} {i : Nat} {tb : WX → TS} {ts : Addr → Value → Option Addr → TS} {fb : XS} {fh : Addr → XS} (hb : SimB K E k tb fb)
    (hh : ∀ (c : Cs) (σ : L2.St) (env : En) (T : List (V × EV)) (H : Hp) (g : Gm) (D : Ends) (x : Addr), c.K = K → c.as.length = k → c.E = E → Ok c σ env T H g → (fh x env g).wp (c.P T D) → wAs K c0 i ts (fun _ _ _ _ => False) D (.ref x) none σ H) :
    SimS K E k (tTryAs K c0 i tb ts) (xTry fb fh) := by
  intro c σ env T H g D hK hk hE o h
  refine hb c σ env T H g D _ hK hk hE o ?_
  unfold xTry at h
  revert h
  cases fb env g with
  | exn x g1 => exact fun h H' o' => hh c σ env T H' g1 D x hK hk hE o' h
  | nx e g1 => exact fun h H' o' => h _ _ o'
  | _ => exact fun h => h
/-! a dict that is written with texts as its keys -/
def xAll : List XE → XM
  | [] => fun _ g => .ok [] g
  | f :: fs => fun env g => (f env g).bind fun e g1 => match e with
    | .p d => (xAll fs env g1).bind fun ds g2 => .ok (d :: ds) g2
    | _ => .fail
def SimPs (K : PySem.W.Frag) (E : XK) (trs : List (TE × TE)) (ks : List Str) (fs : List XE) : Prop := ∀ (c : Cs) (σ : L2.St) (env : En) (T : List (V × EV)) (H : Hp) (g : Gm) (Q : List (V × V) → Hp → Prop), c.K = K → c.E = E → Ok c σ env T H g →
  (xAll fs env g).wp (fun ds g' => ∀ vs H', vs.length = ks.length → vs.length = ds.length → Ok c σ env (vs.zip (ds.map EV.p) ++ T) H' g' → Q ((ks.map V.str).zip vs) H') c.X → tPairs trs σ H Q
theorem simps_nil : SimPs K E [] [] [] := by
  intro c σ env T H g Q hK hE o h
  exact h [] H rfl rfl (by simpa using o)
theorem simps_cons {s : Str} {t : TE} {r : List (TE × TE)} {ks : List Str} {f : XE} {fs : List XE} (ht : SimE K E t f) (hr : SimPs K E r ks fs) : SimPs K E ((tC (.str s), t) :: r) (s :: ks) (f :: fs) := by
  intro c σ env T H g Q hK hE o h
  show t σ H _
  refine ht c σ env T H g _ hK hE o (XR.wp_mono (XR.wp_bind h) (fun e g1 h1 v H1 o1 => ?_) fun _ _ z => z)
  split at h1
  case h_2 => exact h1.elim
  rename_i d
  refine hr c σ env _ H1 g1 _ hK hE o1 (XR.wp_mono (XR.wp_bind h1) (fun ds g2 h2 vs H2 l1 l2 o2 => ?_) fun _ _ z => z)
  refine h2 (v :: vs) H2 (by simp [l1]) (by simp [l2]) (o2.sub fun p hp => ?_)
  simp only [List.map_cons, List.zip_cons_cons, List.cons_append, List.mem_cons, List.mem_append] at hp ⊢
  rcases hp with q | q | q
  · exact .inr (.inl q)
  · exact .inl q
  · exact .inr (.inr q)
def xDct (ks : List Str) (fs : List XE) : XE := fun env g => if ks.Nodup ∧ ks.length ≤ 15 then (xAll fs env g).bind fun ds g1 => .ok (.p (.dct ((ks.map Sum.inr).zip ds))) g1 else .fail
theorem merge_new {more : List (Key × V)} : ∀ {kvs : List (Key × V)}, (more.map Prod.fst).Nodup → (∀ p, p ∈ more → ∀ q, q ∈ kvs → q.1 ≠ p.1) → mergeK kvs more = kvs ++ more := by
  induction more with
  | nil => intro kvs _ _; simp [mergeK]
  | cons p more ih =>
    intro kvs nd h
    have e : putK kvs p.1 p.2 = kvs ++ [p] := by
      unfold putK
      rw [if_neg]
      simp only [List.any_eq_true, decide_eq_true_eq]
      rintro ⟨q, hq, e⟩
      exact h p List.mem_cons_self q hq e
    show mergeK (putK kvs p.1 p.2) more = _
    rw [e, ih (by simpa using (List.nodup_cons.mp (by simpa using nd)).2)]
    · simp
    · intro q hq r hr
      rcases List.mem_append.mp hr with z | z
      · exact h q (List.mem_cons_of_mem _ hq) r z
      · simp at z
        subst z
        have := (List.nodup_cons.mp (by simpa using nd : (r.1 :: more.map Prod.fst).Nodup)).1
        exact fun y => this (List.mem_map.mpr ⟨q, hq, y.symm⟩)
theorem rvk_zip {H : Hp} {S : List Addr} : ∀ {ks : List Key} {vs : List V} {ds : List PV}, vs.length = ds.length → (∀ p, p ∈ vs.zip (ds.map EV.p) → EvOk K S [] H p.1 p.2) → RvK K S H (ks.zip vs) (ks.zip ds)
  | [], _, _, _, _ => by simp; exact .nil
  | _ :: _, [], [], _, _ => by simp; exact .nil
  | k :: ks, v :: vs, d :: ds, hl, h => .cons (h (v, .p d) (by simp)) (rvk_zip (by simpa using hl) fun p hp => h p (by simp [hp]))
  | _, [], _ :: _, hl, _ => by simp at hl
  | _, _ :: _, [], hl, _ => by simp at hl
theorem sim_dct {trs : List (TE × TE)} {ks : List Str} {fs : List XE} (hp : SimPs K E trs ks fs) : SimE K E (tDisp trs) (xDct ks fs) := by
  intro c σ env T H g Q hK hE o h
  unfold xDct at h
  split at h
  case isFalse => exact h.elim
  rename_i hnd
  intro p hp0
  have k0 : MkW (fun _ => HO.dK []) c σ env T (upd H p (.dK [])) g p [] := MkW.of (w := fun _ => HO.dK []) (xs := []) o hp0 fun _ _ _ => .nil
  obtain ⟨c', cK, cE, o3, back⟩ := k0.inner
  have cX : ∀ a g, c.X a g → c'.X a g := fun a g z H2 o => by
    rw [cE]
    exact z H2 (back _ _ _ _ _ o).okOf
  refine hp c' σ env T _ g _ (cK.trans hK) (cE.trans hE) o3 (XR.wp_mono (XR.wp_bind h) (fun ds g1 h1 vs H1 l1 l2 o1 => ?_) cX)
  obtain ⟨m, S, xs, o2, hS, e, _, n1, n2, n3⟩ := back _ _ _ _ _ o1
  refine ⟨e, (ks.map Sum.inr).zip vs, ?_, by simp; omega, ?_⟩
  · rw [List.zip_map_left, List.zip_map_left, List.map_map]
    rfl
  have ndk : (((ks.map Sum.inr : List Key).zip vs).map Prod.fst).Nodup := by
    rw [List.map_fst_zip (by simp [l1])]
    exact List.pairwise_map.mpr (hnd.1.imp fun h e => h (Sum.inr.inj e))
  rw [merge_new ndk (by simp), List.nil_append]
  refine h1 _ _ ⟨m, S, ?_⟩
  have x : Ext [p] H1 (upd H1 p (.dK ((ks.map Sum.inr).zip vs))) := Ext.mut e (fun _ z => nomatch z) (fun _ _ z => nomatch z) (by simp)
  have x2 : Ext (p :: S) H1 (upd H1 p (.dK ((ks.map Sum.inr).zip vs))) := x.wide fun b hb => by simp at hb; simp [hb]
  have hs : ∀ x, x ∈ S → x ∈ p :: S := fun x hx => List.mem_cons_of_mem _ hx
  subst hK
  have rk : RvK c.K S (upd H1 p (.dK ((ks.map Sum.inr).zip vs))) ((ks.map Sum.inr : List Key).zip vs) ((ks.map Sum.inr).zip ds) := rvk_zip l2 fun q hq => by
    have := o2.tmp q (List.mem_append_left _ hq)
    obtain ⟨v, e⟩ := q
    obtain ⟨d, hd⟩ : ∃ d, e = .p d := by
      obtain ⟨d, _, rfl⟩ := List.mem_map.mp (List.of_mem_zip hq).2
      exact ⟨d, rfl⟩
    subst hd
    exact (Rv.ext x2 this).less hs
  refine ⟨o2.ext.out n1 x, hS, fun a ha => o2.inn a (hs a ha), fun a ha => ?_, o2.pre, o2.nd, o2.new, ⟨o2.own.1, fun n a zs h1 h2 => ?_⟩, o2.len, fun i e h1 h2 => let ⟨v, e1, e2⟩ := o2.slot i e h1 h2; ⟨v, e1, (e2.ext x2).less hs⟩, fun q hq => ?_⟩
  · obtain ⟨o1, h1⟩ := o2.hot a (ha.imp (hs a) id)
    exact ⟨o1, x.keep _ _ h1 (by simp; rintro rfl; exact ha.elim n2 n3)⟩
  · obtain ⟨i1, zs', e1, e2⟩ := o2.own.2 n a zs h1 h2
    have na : a ≠ p := by rintro rfl; exact n3 (List.mem_of_getElem? h1)
    exact ⟨(List.mem_cons.mp i1).resolve_left na, zs', x.keep _ _ e1 (by simpa using na), (e2.ext x2).less hs⟩
  · rcases List.mem_cons.mp hq with z | z
    · subst z
      exact .dct upd_same n2 rk
    · exact ((o2.tmp q (List.mem_append_right _ z)).ext x2).less hs
end
/-! dicts compared -/
/-- equal data, not too deep -/
def EqF (K : PySem.W.Frag) (H : Hp) (x y : V) : Prop := ∃ d e, Dp K H x d ∧ Dp K H y e ∧ d.canLay0 = true ∧ e.canLay0 = true ∧ d.depth ≤ 60 ∧ PyData.eqv d e = true
def rEqDct (K : PySem.W.Frag) : R2 := fun x y H Q => (∃ a b ks ls, x = .ref a ∧ y = .ref b ∧ H a = some (.dK ks) ∧ H b = some (.dK ls) ∧ ks.length = ls.length ∧ ∀ p, p ∈ ks → ∃ u, valV ls p.1 = some u ∧ EqF K H p.2 u) ∧ Q (.bl true) H
theorem op_eqDct {X : Cx} (hu : X.A.units + 64 < cLine) : OpR X (compareOp .Eq) (rEqDct X.K) := by
  intro pins s σ H x y v u Q I rx ry h
  obtain ⟨⟨a, b, ks, ls, e1, e2, h1, h2, hl, hp⟩, q⟩ := h
  have ih : ∀ x y v u, EqF X.K H x y → RelV x v → RelV y u → SeqAt.EqP X.prog X.w X.A.in1 s v u true := by
    rintro x y v u ⟨d, e, hd, he, sd, se, dd, ee⟩ rv ru
    obtain ⟨as, r1⟩ := Dp.reads I d x v hd rv
    obtain ⟨bs, r2⟩ := Dp.reads I e y u he ru
    have := SeqAt.eqAt_reads d e X.A.in1 s v u as bs r1 r2 sd se (by
      have : min d.depth e.depth ≤ d.depth := Nat.min_le_left _ _
      show X.A.units + 1 + _ < cLine
      omega)
    rw [ee] at this
    exact this.eqP
  exact eqR_run I (A := X.A) (by omega) ih (.inr ⟨a, b, ks, ls, e1, e2, h1, h2, hl, hp⟩) rx ry _ _ ⟨.bl true, H, I, rfl, q⟩
def fEqDct : PV → PV → Option PV
  | .dct ks, .dct ls => if ks.length = ls.length ∧ ks.all (fun p => match look ls p.1 with
      | some u => p.2.eqok && u.eqok && decide (p.2.py.depth ≤ 60) && PyData.eqv p.2.py u.py
      | none => false) = true then some (.bl true) else none
  | _, _ => none
theorem rvk_get {K : PySem.W.Frag} {S : List Addr} {H : Hp} : ∀ {xs : List (Key × V)} {ds : List (Key × PV)}, RvK K S H xs ds → ∀ p, p ∈ xs → ∃ d, (p.1, d) ∈ ds ∧ Rv K S H p.2 d
  | _, _, .nil, p, hp => by simp at hp
  | _, _, .cons h t, p, hp => by
    rcases List.mem_cons.mp hp with z | z
    · subst z; exact ⟨_, List.mem_cons_self, h⟩
    · obtain ⟨d, h1, h2⟩ := rvk_get t p z
      exact ⟨d, List.mem_cons_of_mem _ h1, h2⟩
theorem rvk_len {K : PySem.W.Frag} {S : List Addr} {H : Hp} : ∀ {xs : List (Key × V)} {ds : List (Key × PV)}, RvK K S H xs ds → xs.length = ds.length
  | _, _, .nil => rfl
  | _, _, .cons _ t => congrArg (· + 1) (rvk_len t)
theorem rd_eqDct {K : PySem.W.Frag} : RdOp K (rEqDct K) fEqDct := by
  intro S H x y a b d Q hx hy h q
  unfold fEqDct at h
  split at h
  · split at h
    · rename_i hc
      cases h
      obtain ⟨p, xs, rfl, h1, h2⟩ := hx.dctI
      obtain ⟨r, ys, rfl, h3, h4⟩ := hy.dctI
      refine ⟨⟨p, r, xs, ys, rfl, rfl, h1, h3, by rw [rvk_len h2, rvk_len h4]; exact hc.1, fun w hw => ?_⟩, q _ _ Ext.refl (.bl _)⟩
      obtain ⟨d, d1, d2⟩ := rvk_get h2 w hw
      have := List.all_eq_true.mp hc.2 _ d1
      split at this
      · rename_i u hu
        simp only [Bool.and_eq_true, decide_eq_true_eq, PV.eqok] at this
        obtain ⟨⟨⟨⟨n1, s1⟩, n2, s2⟩, dd⟩, ee⟩ := this
        have lv := look_v h4 w.1
        rw [hu] at lv
        cases e : valV ys w.1 with
        | none => rw [e] at lv; exact lv.elim
        | some z =>
          rw [e] at lv
          exact ⟨z, rfl, _, _, d2.dp n1, lv.dp n2, SeqAt.canLay_of_shaped s1, SeqAt.canLay_of_shaped s2, dd, ee⟩
      · cases this
    · cases h
  · cases h
end Go

set_option Elab.async false
set_option linter.all false
set_option maxRecDepth 100000
set_option maxHeartbeats 4000000
/-! Sem9: defs that give back a new list. -/
namespace Go
open PySem L2
abbrev XN := List EV → Gm → XR (List PV)
def XO.finishN (k : Nat) : XO → XR (List PV)
  | .rt (.own n) g => if n < k then .fail else match g[n]? with
    | some (some ds) => .ok ds (g.take k)
    | _ => .fail
  | .exn c g => .exn c (g.take k)
  | _ => .fail
def runN (N ar k : Nat) (body : XS) : XN := fun es g => if es.length = ar ∧ g.length = k then (body (es ++ List.replicate (N - ar) .no) g).finishN g.length else .fail
def noN : XN := fun _ _ => .fail
def xRetM (fm : XM) : XS := fun env g => (fm env g).then fun ds g1 => .rt (.own g1.length) (g1 ++ [some ds])
/-- the promise of a def that gives back a new list, of F's items -/
def sp_N (K : PySem.W.Frag) (ar : Nat) (F : XN) : Sp := fun vs H Q E => vs.length = ar ∧ ∃ (S as : List Addr) (es : List EV) (g : Gm), (∀ a, a ∈ S → ∃ o, H a = some o) ∧ as.Nodup ∧ (∀ a, a ∈ as → a ∈ S) ∧ OwnAt K S H as g ∧ vs.length = es.length ∧ (∀ p, p ∈ vs.zip es → EvOk K S as H p.1 p.2) ∧
  (F es g).wp (fun ds g' => ∀ p xs H', H p = none → Ext as H H' → H' p = some (.lst xs) → RvA K (p :: S) H' xs ds → OwnAt K (p :: S) H' as g' → Q (.ref p) H') (fun x g' => ∀ H', Ext as H H' → OwnAt K S H' as g' → E (.ref x) none H')
section
variable {K : PySem.W.Frag} {E : XK} {k : Nat} {c : Cs} {σ : L2.St} {env : En} {T : List (V × EV)} {H H' : Hp} {g : Gm} {Q : VK} {S m as : List Addr}
theorem sim_retM {t : TE} {f : XM} (ht : SimM K E t f) : SimS K E k (tRet t) (xRetM f) := by
  intro c σ env T H g D hK hk hE o h
  exact ht c σ env T H g _ hK hE o (XR.wp_mono (XR.wp_then h) (fun ds g1 h1 p H1 k => h1 _ _ k.own.last) fun _ _ z => z)
theorem OwnAt.take' {l : List Addr} {S' : List Addr} (h : OwnAt K S' H (as ++ l) g) (hs : ∀ x, x ∈ S → x ∈ S') (ha : ∀ a, a ∈ as → a ∈ S) : OwnAt K S H as (g.take as.length) := h.take hs ha
theorem fn_new {N : List Str} {ar k : Nat} {body : XK → TS} {fb : XS} (hs : ∀ E, SimS K E k (body E) fb) (hN : ar ≤ N.length) {vs : List V} {H : Hp} {Q : VK} {E : XK} (h : sp_N K ar (runN N.length ar k fb) vs H Q E) : body E (bd Q) (L2.start N vs) H := by
  obtain ⟨l0, S, as, es, g, hS, nd, sub, own, le, args, w⟩ := h
  unfold runN at w
  split at w
  case isFalse => exact w.elim
  rename_i hk
  let c : Cs := { K := K, E := E, S := S, as := as, H0 := H, hS := hS }
  have o : Ok c (L2.start N vs) (es ++ List.replicate (N.length - ar) .no) [] H g := by
    refine ⟨as, S, Ext.refl, fun a ha => ha, fun a ha => .inl ha, fun a ha => hS a (ha.elim id (sub a)), ⟨[], (List.append_nil _).symm⟩, nd, fun a ha => .inl ha, own, ?_, fun i e h1 h2 => ?_, fun p hp => by simp at hp⟩
    · unfold L2.start; simp; omega
    · by_cases hi : i < es.length
      · rw [List.getElem?_append_left hi] at h1
        have hv : i < vs.length := by rw [le]; exact hi
        refine ⟨vs[i], ?_, ?_⟩
        · unfold L2.start
          rw [List.getElem?_append_left (by simpa using hv)]
          simp [hv]
        · have : (vs[i], e) ∈ vs.zip es := List.mem_iff_getElem?.mpr ⟨i, by rw [List.getElem?_zip_eq_some]; exact ⟨List.getElem?_eq_getElem hv, h1⟩⟩
          exact args _ this
      · rw [List.getElem?_append_right (by omega)] at h1
        rw [List.getElem?_replicate] at h1
        split at h1
        · cases h1; exact absurd rfl h2
        · cases h1
  have lk : ∀ (m S' : List Addr) (σ' : L2.St) (env' : En) (T' : List (V × EV)) (H' : Hp) (g' : Gm), OkH c S' m σ' env' T' H' g' → Ext as H H' ∧ ∀ S2, (∀ x, x ∈ S2 → x ∈ S') → (∀ a, a ∈ as → a ∈ S2) → OwnAt K S2 H' as (g'.take g.length) := fun m S' σ' env' T' H' g' o => by
    obtain ⟨l, e⟩ := o.pre
    refine ⟨o.ext.wide fun x hx => (Cs.ch_mem.mp hx).1, fun S2 h1 h2 => ?_⟩
    rw [← own.1]
    have w := o.own
    have e : m = as ++ l := e
    have w : OwnAt K S' H' (as ++ l) g' := e ▸ w
    exact w.take h1 h2
  refine hs E c _ _ [] H g (bd Q) rfl (own.1.trans hk.2) rfl o ?_
  revert w
  cases fb (es ++ List.replicate (N.length - ar) .no) g with
  | rt e g' =>
    cases e with
    | no => exact fun w => w.elim
    | p d => exact fun w => w.elim
    | own n =>
      intro w v H' o
      simp only [XO.finishN] at w
      split at w
      · exact w.elim
      · rename_i hn
        split at w
        · rename_i ds hd
          obtain ⟨m, S', o⟩ := o
          obtain ⟨l1, l2⟩ := lk m S' _ _ _ _ _ o
          obtain ⟨a, ha, rfl⟩ := o.tmp _ List.mem_cons_self
          obtain ⟨aS, xs, e1, e2⟩ := o.own.2 n a ds ha hd
          have sub2 : ∀ x, x ∈ a :: S → x ∈ S' := fun x hx => (List.mem_cons.mp hx).elim (fun z => z ▸ aS) (o.sub x)
          refine w a xs H' ?_ l1 e1 (e2.less sub2) (l2 _ sub2 fun b hb => List.mem_cons_of_mem _ (sub b hb))
          obtain ⟨l, e⟩ := o.pre
          have hal : as.length ≤ n := by rw [own.1]; omega
          have e : m = as ++ l := e
          rcases o.new a (List.mem_of_getElem? ha) with q | q
          · obtain ⟨k, hk⟩ := List.mem_iff_getElem?.mp q
            have kl : k < as.length := (List.getElem?_eq_some_iff.mp hk).1
            have : k = n := (List.getElem?_inj (by rw [e]; simp; omega) o.nd).mp (by rw [ha, e, List.getElem?_append_left kl]; exact hk)
            omega
          · exact q
        · exact w.elim
  | nx env' g' => exact fun w => w.elim
  | bk e g' => exact fun w => w.elim
  | ct e g' => exact fun w => w.elim
  | exn x g' =>
    intro w H' o
    obtain ⟨m, S', o⟩ := o
    obtain ⟨l1, l2⟩ := lk m S' _ _ _ _ _ o
    exact w H' l1 (l2 S o.sub sub)
  | fail => exact fun w => w
/-! calls -/
@[simp] def XR.liftN (r : XR (List PV)) (k : Gm → Gm) : XR (List PV) := match r with
  | .ok d g => .ok d (k g)
  | .exn c g => .exn c (k g)
  | .fail => .fail
@[simp] def XR.liftN1 (r : XR (List PV)) (k : Option (List PV) → Gm) : XR (List PV) := match r with
  | .ok d [some l] => .ok d (k (some l))
  | .exn c [some l] => .exn c (k (some l))
  | _ => .fail
def callN (F : XN) (es : List EV) (g : Gm) : XR (List PV) := match owns es with
  | [] => (F es []).liftN fun _ => g
  | [n] => match g[n]? with
    | some (some l) => (F (es.map to0) [some l]).liftN1 fun l' => g.set n l'
    | _ => .fail
  | _ => .fail
def mCall (F : XN) (fa : XA) : XM := fun env g => (fa env g).bind fun es g1 => callN F es g1
def mCallN (F : XN) (fa : XA) : XM := fun env g => (fa env g).bind fun es g1 => (callN F es g1).calm
theorem callN_at {ar : Nat} {F : XN} {E' : XK} {es : List EV} {vs : List V} (hF : ∀ es g, es.length ≠ ar → F es g = .fail) (hl : vs.length = es.length) (o : Ok c σ env (vs.zip es ++ T) H g)
    (h : (callN F es g).wp (fun ds g' => ∀ p H', Mk c σ env T H' g' p ds → Q (.ref p) H') (fun x g' => ∀ H', Ok c σ env T H' g' → E' (.ref x) none H')) : sp_N c.K ar F vs H Q E' := by
  have har : vs.length = ar := by
    rw [hl]
    by_cases z : es.length = ar
    · exact z
    · exfalso
      unfold callN at h
      split at h
      · rw [hF es _ z] at h; exact h
      · split at h
        · rw [hF _ _ (by simpa using z)] at h; exact h
        · exact h
      · exact h
  obtain ⟨m, S, o⟩ := o
  have fresh : ∀ p, H p = none → p ∉ S ∧ p ∉ m ∧ c.H0 p = none := fun p hp => o.fresh hp
  unfold callN at h
  split at h
  · rename_i hw
    refine ⟨har, S, [], es, [], fun a ha => o.hot a (.inl ha), List.nodup_nil, fun a ha => by simp at ha, ⟨rfl, fun n a ds h => by simp at h⟩, hl, fun p hp => ?_, ?_⟩
    · have k := o.tmp p (List.mem_append_left _ hp)
      obtain ⟨v, e⟩ := p
      cases e with
      | no => trivial
      | p d => exact k
      | own n =>
        have := mem_owns hp
        rw [hw] at this
        simp at this
    · revert h
      cases F es [] with
      | ok d g' =>
        intro h p xs H' hp x e r _
        obtain ⟨n1, n2, n3⟩ := fresh p hp
        refine h p H' ⟨m, S, xs, ?_, o.sub, e, r, n3, n1, n2⟩
        have x2 : Ext (p :: S) H H' := x.any
        refine ⟨o.ext.more x, fun a ha => List.mem_cons_of_mem _ (o.sub a ha), fun a ha => (List.mem_cons.mp ha).elim (fun q => .inr (q ▸ n3)) (o.inn a), fun a ha => ?_, o.pre, o.nd, o.new, ⟨o.own.1, fun n a zs h1 h2 => ?_⟩, o.len, fun i e h1 h2 => let ⟨v, e1, e2⟩ := o.slot i e h1 h2; ⟨v, e1, (e2.more hp).ext x2⟩, fun q hq => ((o.tmp q (List.mem_append_right _ hq)).more hp).ext x2⟩
        · by_cases z : a = p
          · subst z; exact ⟨_, e⟩
          · obtain ⟨o1, h1⟩ := o.hot a (ha.imp (fun q => (List.mem_cons.mp q).resolve_left z) id)
            exact ⟨o1, x.same _ _ h1⟩
        · obtain ⟨i1, zs', f1, f2⟩ := o.own.2 n a zs h1 h2
          exact ⟨List.mem_cons_of_mem _ i1, zs', x.same _ _ f1, (f2.more hp).ext x2⟩
      | exn a g' =>
        intro h H' x _
        exact h H' ⟨m, S, (o.grow x).tmps fun p hp => (o.grow x).tmp p (List.mem_append_right _ hp)⟩
      | fail => exact fun h => h
  · rename_i n hw
    split at h
    · rename_i l hg
      have hnm : n < m.length := by rw [o.own.1]; exact (List.getElem?_eq_some_iff.mp hg).1
      have ha : m[n]? = some m[n] := List.getElem?_eq_getElem hnm
      obtain ⟨aS, xs0, e1, e2⟩ := o.own.2 n _ l ha hg
      refine ⟨har, S, [m[n]], es.map to0, [some l], fun a ha => o.hot a (.inl ha), by simp, fun a ha => by simp at ha; subst ha; exact aS, ⟨rfl, fun k a ds h1 h2 => ?_⟩, by simpa using hl, fun p hp => ?_, ?_⟩
      · cases k with
        | succ k => simp at h1
        | zero => simp at h1 h2; subst h1 h2; exact ⟨aS, xs0, e1, e2⟩
      · rw [List.zip_map_right] at hp
        obtain ⟨q, hq, rfl⟩ := List.mem_map.mp hp
        have k := o.tmp q (List.mem_append_left _ hq)
        obtain ⟨v, e⟩ := q
        cases e with
        | no => trivial
        | p d => exact k
        | own j =>
          have : j ∈ owns es := mem_owns hq
          rw [hw] at this
          simp at this
          subst this
          obtain ⟨a, h1, h2⟩ := k
          rw [ha] at h1
          cases h1
          exact ⟨_, rfl, h2⟩
      · revert h
        cases F (es.map to0) [some l] with
        | ok d g' =>
          match g' with
          | [some l'] =>
            intro h p xs H' hp x e r ow
            obtain ⟨n1, n2, n3⟩ := fresh p hp
            obtain ⟨_, ys, f1, f2⟩ := ow.2 0 _ l' rfl rfl
            refine h p H' ⟨m, S, xs, ?_, o.sub, e, r, n3, n1, n2⟩
            have x2 : Ext (p :: S) H H' := x.wide fun b hb => by simp at hb; subst hb; exact List.mem_cons_of_mem _ aS
            have am : m[n] ∈ m := List.getElem_mem _
            refine ⟨?_, fun a ha => List.mem_cons_of_mem _ (o.sub a ha), fun a ha => (List.mem_cons.mp ha).elim (fun q => .inr (q ▸ n3)) (o.inn a), fun a ha => ?_, o.pre, o.nd, o.new, ⟨by simp [o.own.1], fun k a zs h1 h2 => ?_⟩, o.len, fun i e h1 h2 => let ⟨v, e1, e2⟩ := o.slot i e h1 h2; ⟨v, e1, (e2.more hp).ext x2⟩, fun q hq => ((o.tmp q (List.mem_append_right _ hq)).more hp).ext x2⟩
            · rcases o.new _ am with q | q
              · rcases o.inn _ aS with q2 | q2
                · exact o.ext.in1 (Cs.ch_mem.mpr ⟨q, q2⟩) x
                · exact o.ext.out q2 x
              · exact o.ext.out q x
            · by_cases z : a = p
              · subst z; exact ⟨_, e⟩
              · by_cases z2 : a = m[n]
                · rw [z2]; exact ⟨_, f1⟩
                · obtain ⟨o1, h1⟩ := o.hot a (ha.imp (fun q => (List.mem_cons.mp q).resolve_left z) id)
                  exact ⟨o1, x.keep _ _ h1 (by simpa using z2)⟩
            · by_cases hk : k = n
              · subst hk
                rw [ha] at h1; cases h1
                rw [List.getElem?_set_self (by rw [← o.own.1]; exact hnm)] at h2
                cases h2
                exact ⟨List.mem_cons_of_mem _ aS, ys, f1, f2⟩
              · rw [List.getElem?_set_ne (Ne.symm hk)] at h2
                obtain ⟨i1, zs', f1, f2⟩ := o.own.2 k a zs h1 h2
                refine ⟨List.mem_cons_of_mem _ i1, zs', x.keep _ _ f1 ?_, (f2.more hp).ext x2⟩
                simp only [List.mem_singleton]
                intro z
                subst z
                exact hk ((List.getElem?_inj (List.getElem?_eq_some_iff.mp h1).1 o.nd (j := n)).mp (by rw [h1, ha]))
          | [] => exact fun h => h.elim
          | [none] => exact fun h => h.elim
          | none :: _ :: _ => exact fun h => h.elim
          | some _ :: _ :: _ => exact fun h => h.elim
        | exn a g' =>
          match g' with
          | [some l'] =>
            intro h H' x ow
            obtain ⟨_, ys, f1, f2⟩ := ow.2 0 _ l' rfl rfl
            have o' := o.put ha aS x f1 f2
            exact h H' ⟨m, S, o'.tmps fun p hp => o'.tmp p (List.mem_append_right _ hp)⟩
          | [] => exact fun h => h.elim
          | [none] => exact fun h => h.elim
          | none :: _ :: _ => exact fun h => h.elim
          | some _ :: _ :: _ => exact fun h => h.elim
        | fail => exact fun h => h
    · exact h.elim
  · exact h.elim
theorem sim_mcall {ar : Nat} {F : XN} {t : TA} {fa : XA} (hF : ∀ es g, es.length ≠ ar → F es g = .fail) (ht : SimA K E t fa) : SimM K E (tCall (sp_N K ar F) [] E t) (mCall F fa) := by
  intro c σ env T H g Q hK hE o h
  refine w_call (ht c σ env T H g _ hK hE o (XR.wp_mono (XR.wp_bind h) (fun es g1 h1 vs H1 hl o1 => ?_) fun _ _ z => z))
  subst hK
  refine callN_at hF hl o1 (XR.wp_mono h1 (fun _ _ z => z) fun x g z H' o => ?_)
  subst hE
  exact z H' o.end_
theorem sim_mcallN {ar : Nat} {F : XN} {t : TA} {fa : XA} {E' : XK} (hF : ∀ es g, es.length ≠ ar → F es g = .fail) (ht : SimA K E t fa) : SimM K E (tCall (sp_N K ar F) [] E' t) (mCallN F fa) := by
  intro c σ env T H g Q hK hE o h
  refine w_call (ht c σ env T H g _ hK hE o (XR.wp_mono (XR.wp_bind h) (fun es g1 h1 vs H1 hl o1 => ?_) fun _ _ z => z))
  subst hK
  refine callN_at hF hl o1 ?_
  revert h1
  cases callN F es g1 with
  | ok a g => exact fun h => h
  | exn a g => exact fun h => h.elim
  | fail => exact fun h => h
theorem runN_no {N ar k : Nat} {fb : XS} : ∀ es g, es.length ≠ ar → runN N ar k fb es g = .fail := fun es g h => if_neg fun z => h z.1
theorem noN_no {ar : Nat} : ∀ es g, es.length ≠ ar → noN es g = .fail := fun _ _ _ => rfl
theorem no_N {ar : Nat} : ∀ vs H Q E, ¬ sp_N K ar noN vs H Q E := fun vs H Q E h => by
  obtain ⟨_, _, _, _, _, _, _, _, _, _, _, w⟩ := h
  exact w
end
end Go

set_option Elab.async false
set_option linter.all false
set_option maxRecDepth 100000
set_option maxHeartbeats 4000000
/-! Eval: the functions worked out, step by step. -/
namespace Go
open PySem L2
section
variable {α β : Type} {a : α} {g : Gm} {f : α → Gm → XR β} {c : Addr} {h : α → Gm → XO} {e : En} {d : EV} {k : En → Gm → XO}
theorem bind_ok : (XR.ok a g).bind f = f a g := rfl
theorem bind_exn : (XR.exn c g : XR α).bind f = .exn c g := rfl
theorem then_ok : (XR.ok a g).then h = h a g := rfl
theorem then_exn : (XR.exn c g : XR α).then h = .exn c g := rfl
theorem xbind_nx : (XO.nx e g).bind k = k e g := rfl
theorem xbind_rt : (XO.rt d g).bind k = .rt d g := rfl
theorem xbind_bk : (XO.bk e g).bind k = .bk e g := rfl
theorem xbind_ct : (XO.ct e g).bind k = .ct e g := rfl
theorem xbind_exn : (XO.exn c g).bind k = .exn c g := rfl
theorem owns_nil : owns [] = [] := rfl
theorem owns_p {p : PV} {r : List EV} : owns (.p p :: r) = owns r := rfl
theorem owns_own {n : Nat} {r : List EV} : owns (.own n :: r) = n :: owns r := rfl
theorem to0_p {p : PV} : to0 (.p p) = .p p := rfl
theorem to0_own {n : Nat} : to0 (.own n) = .own 0 := rfl
theorem pvs_nil : pvs [] = some [] := rfl
theorem pvs_p {p : PV} {r : List EV} : pvs (.p p :: r) = (pvs r).map (p :: ·) := rfl
def callOne (F : XF) (es : List EV) (n : Nat) (g : Gm) : Option (Option (List PV)) → XR EV
  | some (some l) => (F (es.map to0) [some l]).lift1 fun l' => g.set n l'
  | _ => .fail
def callG (F : XF) (es : List EV) (g : Gm) : List Nat → XR EV
  | [] => (F es []).lift fun _ => g
  | [n] => callOne F es n g g[n]?
  | _ => .fail
theorem callF_eq {F : XF} {es : List EV} : callF F es g = callG F es g (owns es) := by
  unfold callF callG callOne
  rfl
theorem callG_nil {F : XF} {es : List EV} : callG F es g [] = (F es []).lift fun _ => g := rfl
theorem callG_one {F : XF} {es : List EV} {n : Nat} : callG F es g [n] = callOne F es n g g[n]? := rfl
theorem callOne_some {F : XF} {es : List EV} {n : Nat} {l : List PV} : callOne F es n g (some (some l)) = (F (es.map to0) [some l]).lift1 fun l' => g.set n l' := rfl
theorem lift_ok {p : PV} {g' : Gm} {k : Gm → Gm} : (XR.ok p g').lift k = .ok (.p p) (k g') := rfl
theorem lift_exn {g' : Gm} {k : Gm → Gm} : (XR.exn c g' : XR PV).lift k = .exn c (k g') := rfl
theorem lift1_ok {p : PV} {l : List PV} {k : Option (List PV) → Gm} : (XR.ok p [some l]).lift1 k = .ok (.p p) (k (some l)) := rfl
theorem lift1_exn {l : List PV} {k : Option (List PV) → Gm} : (XR.exn c [some l] : XR PV).lift1 k = .exn c (k (some l)) := rfl
def ownV : Option (Option (List PV)) → Option PV
  | some (some ds) => some (.lst ds)
  | _ => none
theorem ownV_some {ds : List PV} : ownV (some (some ds)) = some (.lst ds) := rfl
theorem val_p {p : PV} : EV.val g (.p p) = some p := rfl
theorem val_own {n : Nat} : EV.val g (.own n) = ownV g[n]? := by
  unfold EV.val ownV
  rfl
theorem run_go {N ar kk : Nat} {body : XS} {es : List EV} {g : Gm} (h1 : es.length = ar) (h2 : g.length = kk) : runF N ar kk body es g = (body (es ++ List.replicate (N - ar) .no) g).finish g.length := if_pos ⟨h1, h2⟩
theorem runN_go {N ar kk : Nat} {body : XS} {es : List EV} {g : Gm} (h1 : es.length = ar) (h2 : g.length = kk) : Go.runN N ar kk body es g = (body (es ++ List.replicate (N - ar) .no) g).finishN g.length := if_pos ⟨h1, h2⟩
theorem calm_ok : (XR.ok a g).calm = .ok a g := rfl
theorem fin_rt {p : PV} {n : Nat} : (XO.rt (.p p) g).finish n = .ok p (g.take n) := rfl
theorem fin_nx {n : Nat} : (XO.nx e g).finish n = .ok .non (g.take n) := rfl
theorem fin_own {m n : Nat} {ds : List PV} (h : g[m]? = some (some ds)) (hm : ¬ m < n) : (XO.rt (.own m) g).finish n = .ok (.lst ds) (g.take n) := by simp [XO.finish, h, hm]
theorem finN_own {m n : Nat} {ds : List PV} (h : g[m]? = some (some ds)) (hm : ¬ m < n) : (XO.rt (.own m) g).finishN n = .ok ds (g.take n) := by simp [XO.finishN, h, hm]
theorem finN_exn {n : Nat} : (XO.exn c g).finishN n = .exn c (g.take n) := rfl
theorem fin_exn {n : Nat} : (XO.exn c g).finish n = .exn c (g.take n) := rfl
end
theorem ofStr_eq {a b : String} : (Str.ofString a = Str.ofString b) = (a = b) := by
  refine propext ⟨fun h => ?_, fun h => by rw [h]⟩
  rw [Str.ofString_eq_toList, Str.ofString_eq_toList] at h
  have h1 : a.toList.map Char.toNat = b.toList.map Char.toNat := by simpa using h
  have inj : ∀ (x y : List Char), x.map Char.toNat = y.map Char.toNat → x = y := by
    intro x
    induction x with
    | nil => intro y h; cases y with | nil => rfl | cons _ _ => simp at h
    | cons c x ih =>
      intro y h
      cases y with
      | nil => simp at h
      | cons d y =>
        simp only [List.map_cons, List.cons.injEq] at h
        rw [ih y h.2, Char.toNat_inj.mp h.1]
  have h2 := inj _ _ h1
  have := congrArg String.ofList h2
  simpa using this
/-- a loop that keeps P -/
theorem forL_nx {tg : XG} {fb : XS} (P : En → Gm → Prop) : ∀ (ds : List PV) (env : En) (g : Gm), P env g → (∀ d, d ∈ ds → ∀ env g, P env g → ∃ env1, tg d env = some env1 ∧ ∃ e g', P e g' ∧ (fb env1 g = .nx e g' ∨ fb env1 g = .ct e g' ∨ fb env1 g = .bk e g')) → ∃ e g', forL tg fb ds env g = .nx e g' ∧ P e g'
  | [], env, g, p, _ => ⟨env, g, rfl, p⟩
  | d :: ds, env, g, p, h => by
    obtain ⟨env1, h1, e, g', p', h2⟩ := h d List.mem_cons_self env g p
    obtain ⟨e2, g2, h3, p2⟩ := forL_nx P ds e g' p' fun d hd => h d (List.mem_cons_of_mem _ hd)
    rcases h2 with h2 | h2 | h2
    · exact ⟨e2, g2, by rw [forL, h1]; simp only [h2]; exact h3, p2⟩
    · exact ⟨e2, g2, by rw [forL, h1]; simp only [h2]; exact h3, p2⟩
    · exact ⟨e, g', by rw [forL, h1]; simp only [h2], p'⟩
theorem forL_rest {tg : XG} {fb : XS} (P : List PV → En → Gm → Prop) (Z : En → Gm → Prop) (hz : ∀ e g, P [] e g → Z e g)
    (h : ∀ d ds env g, P (d :: ds) env g → ∃ env1, tg d env = some env1 ∧ ∃ e g', (P ds e g' ∧ (fb env1 g = .nx e g' ∨ fb env1 g = .ct e g')) ∨ (Z e g' ∧ fb env1 g = .bk e g')) : ∀ (ds : List PV) (env : En) (g : Gm), P ds env g → ∃ e g', forL tg fb ds env g = .nx e g' ∧ Z e g'
  | [], env, g, p => ⟨env, g, rfl, hz _ _ p⟩
  | d :: ds, env, g, p => by
    obtain ⟨env1, h1, e, g', h2⟩ := h d ds env g p
    rcases h2 with ⟨p', h2⟩ | ⟨z, h2⟩
    · obtain ⟨e2, g2, h3, p2⟩ := forL_rest P Z hz h ds e g' p'
      rcases h2 with h2 | h2
      · exact ⟨e2, g2, by rw [forL, h1]; simp only [h2]; exact h3, p2⟩
      · exact ⟨e2, g2, by rw [forL, h1]; simp only [h2]; exact h3, p2⟩
    · exact ⟨e, g', by rw [forL, h1]; simp only [h2], z⟩
theorem forL_at {tg : XG} {fb : XS} {ds : List PV} {env : En} {g : Gm} {r : XO} (hF : forL tg fb ds env g = r) (P : List PV → En → Gm → Prop) (Z : En → Gm → Prop) (p : P ds env g) (hz : ∀ e g, P [] e g → Z e g)
    (h : ∀ d ds env g, P (d :: ds) env g → ∃ env1, tg d env = some env1 ∧ ∃ e g', (P ds e g' ∧ (fb env1 g = .nx e g' ∨ fb env1 g = .ct e g')) ∨ (Z e g' ∧ fb env1 g = .bk e g')) : ∃ e g', r = .nx e g' ∧ Z e g' := by
  obtain ⟨e, g', h1, z⟩ := forL_rest P Z hz h ds env g p
  exact ⟨e, g', hF ▸ h1, z⟩
theorem forL_nil {tg : XG} {fb : XS} {env : En} {g : Gm} : forL tg fb [] env g = .nx env g := rfl
def XO.turn (r : XO) (k : En → Gm → XO) : XO := match r with
  | .nx e g' => k e g'
  | .ct e g' => k e g'
  | .bk e g' => .nx e g'
  | .rt d g' => .rt d g'
  | .exn c g' => .exn c g'
  | .fail => .fail
theorem turn_nx {e : En} {g : Gm} {k : En → Gm → XO} : (XO.nx e g).turn k = k e g := rfl
theorem turn_ct {e : En} {g : Gm} {k : En → Gm → XO} : (XO.ct e g).turn k = k e g := rfl
theorem turn_bk {e : En} {g : Gm} {k : En → Gm → XO} : (XO.bk e g).turn k = .nx e g := rfl
theorem turn_rt {e : EV} {g : Gm} {k : En → Gm → XO} : (XO.rt e g).turn k = .rt e g := rfl
theorem turn_exn {e : Addr} {g : Gm} {k : En → Gm → XO} : (XO.exn e g).turn k = .exn e g := rfl
theorem forL_name {i : Nat} {fb : XS} {d : PV} {ds : List PV} {env : En} {g : Gm} : forL (gN i) fb (d :: ds) env g = (fb (env.set i (.p d)) g).turn (forL (gN i) fb ds) := rfl
theorem forL_pair {i j : Nat} {fb : XS} {d d2 : PV} {ds : List PV} {env : En} {g : Gm} : forL (gT [gN i, gN j]) fb (.tup [d, d2] :: ds) env g = (fb ((env.set i (.p d)).set j (.p d2)) g).turn (forL (gT [gN i, gN j]) fb ds) := rfl
inductive All2 (R : PV → PV → Prop) : List PV → List PV → Prop
  | nil : All2 R [] []
  | cons {x y : PV} {xs ys : List PV} : R x y → All2 R xs ys → All2 R (x :: xs) (y :: ys)
/-- a comprehension without a test -/
theorem compL_st {tg : XG} {fe : XE} {env : En} (P : Gm → Prop) (R : PV → PV → Prop) : ∀ (ds : List PV) (g : Gm), P g → (∀ d, d ∈ ds → ∀ g, P g → ∃ env1, tg d env = some env1 ∧ ∃ y g', P g' ∧ R d y ∧ fe env1 g = .ok (.p y) g') → ∃ ys g', compL tg xYes fe env ds g = .ok ys g' ∧ P g' ∧ All2 R ds ys
  | [], g, p, _ => ⟨[], g, rfl, p, .nil⟩
  | d :: ds, g, p, h => by
    obtain ⟨env1, h1, y, g', p', r, h2⟩ := h d List.mem_cons_self g p
    obtain ⟨ys, g2, h3, p2, r2⟩ := compL_st P R ds g' p' fun d hd => h d (List.mem_cons_of_mem _ hd)
    refine ⟨y :: ys, g2, ?_, p2, .cons r r2⟩
    rw [compL, h1]
    show (fe env1 g).bind _ = _
    rw [h2]
    show (compL tg xYes fe env ds g').bind _ = _
    rw [h3]
    rfl
theorem compL_at {tg : XG} {fe : XE} {env : En} {ds : List PV} {g : Gm} {r : XR (List PV)} (hF : compL tg xYes fe env ds g = r) (P : Gm → Prop) (R : PV → PV → Prop) (p : P g) (h : ∀ d, d ∈ ds → ∀ g, P g → ∃ env1, tg d env = some env1 ∧ ∃ y g', P g' ∧ R d y ∧ fe env1 g = .ok (.p y) g') : ∃ ys g', r = .ok ys g' ∧ P g' ∧ All2 R ds ys := by
  obtain ⟨ys, g', h1, z⟩ := compL_st P R ds g p h
  exact ⟨ys, g', hF ▸ h1, z⟩
theorem compL_map {tg : XG} {fe : XE} {env : En} {g : Gm} (f : PV → PV) (ds : List PV) (h : ∀ d, d ∈ ds → ∃ env1, tg d env = some env1 ∧ fe env1 g = .ok (.p (f d)) g) : compL tg xYes fe env ds g = .ok (ds.map f) g := by
  obtain ⟨ys, g', h1, rfl, r⟩ := compL_st (tg := tg) (fe := fe) (env := env) (fun x => x = g) (fun d y => y = f d) ds g rfl fun d hd g' e => by
    subst e
    obtain ⟨env1, h1, h2⟩ := h d hd
    exact ⟨env1, h1, _, _, rfl, rfl, h2⟩
  rw [h1]
  congr 1
  clear h1 h
  induction r with
  | nil => rfl
  | cons h _ ih => rw [List.map_cons, h, ih]
section
variable {x y z u v w : PV} {r : List PV}
theorem at0 {α : Type} {x : α} {r : List α} : atI (x :: r) 0 = some x := at_nat (j := 0) rfl rfl
theorem at1 {α : Type} {x y : α} {r : List α} : atI (x :: y :: r) 1 = some y := at_nat (j := 1) rfl rfl
theorem at2 {α : Type} {x y z : α} {r : List α} : atI (x :: y :: z :: r) 2 = some z := at_nat (j := 2) rfl rfl
theorem at3 {α : Type} {x y z u : α} {r : List α} : atI (x :: y :: z :: u :: r) 3 = some u := at_nat (j := 3) rfl rfl
theorem at4 {α : Type} {x y z u v : α} {r : List α} : atI (x :: y :: z :: u :: v :: r) 4 = some v := at_nat (j := 4) rfl rfl
theorem at5 {α : Type} {x y z u v w : α} {r : List α} : atI (x :: y :: z :: u :: v :: w :: r) 5 = some w := at_nat (j := 5) rfl rfl
theorem ix0 {n : Nat} (h : 0 < n) : ixN n 0 = some 0 := by simp [ixN]; omega
theorem at_last {α : Type} {xs : List α} {x : α} : atI (xs ++ [x]) (-1) = some x := by
  simp [atI, ixN]
  rw [if_pos (by omega)]
  simp
  have : ((-1 : Int) + (↑xs.length + 1)).toNat = xs.length := by omega
  rw [this]
  simp
end
theorem rngL_zero {lo : Int} : rngL lo 0 = [] := rfl
theorem rngL_succ {lo : Int} {n : Nat} : rngL lo (n + 1) = .int lo :: rngL (lo + 1) n := by
  unfold rngL
  rw [List.range_succ_eq_map, List.map_cons, List.map_map]
  congr 1
  · simp
  · refine List.map_congr_left fun i _ => ?_
    show PV.int (lo + ((i + 1 : Nat) : Int)) = PV.int (lo + 1 + (i : Int))
    congr 1
    omega
theorem at_i {ds : List PV} {i : Int} (h0 : 0 ≤ i) (h1 : i < ds.length) : ∃ d, ds[i.toNat]? = some d ∧ atI ds i = some d :=
  ⟨ds[i.toNat]'(by omega), List.getElem?_eq_getElem _, at_nat (j := i.toNat) (by omega) (List.getElem?_eq_getElem _)⟩
theorem isi_NoneType_int : fIsi "int" .non = some (.bl false) := by
  have h : kitB "NoneType" "int" = some false := by decide +kernel
  simp only [fIsi, tyP, Option.bind_some, h, Option.map_some]
theorem isi_bool_int {b : Bool} : fIsi "int" (.bl b) = some (.bl true) := by
  have h : kitB "bool" "int" = some true := by decide +kernel
  simp only [fIsi, tyP, Option.bind_some, h, Option.map_some]
theorem isi_int_int {b : Int} : fIsi "int" (.int b) = some (.bl true) := by
  have h : kitB "int" "int" = some true := by decide +kernel
  simp only [fIsi, tyP, Option.bind_some, h, Option.map_some]
theorem isi_str_int {b : Str} : fIsi "int" (.str b) = some (.bl false) := by
  have h : kitB "str" "int" = some false := by decide +kernel
  simp only [fIsi, tyP, Option.bind_some, h, Option.map_some]
theorem isi_tuple_int {b : List PV} : fIsi "int" (.tup b) = some (.bl false) := by
  have h : kitB "tuple" "int" = some false := by decide +kernel
  simp only [fIsi, tyP, Option.bind_some, h, Option.map_some]
theorem isi_list_int {b : List PV} : fIsi "int" (.lst b) = some (.bl false) := by
  have h : kitB "list" "int" = some false := by decide +kernel
  simp only [fIsi, tyP, Option.bind_some, h, Option.map_some]
theorem isi_NoneType_str : fIsi "str" .non = some (.bl false) := by
  have h : kitB "NoneType" "str" = some false := by decide +kernel
  simp only [fIsi, tyP, Option.bind_some, h, Option.map_some]
theorem isi_bool_str {b : Bool} : fIsi "str" (.bl b) = some (.bl false) := by
  have h : kitB "bool" "str" = some false := by decide +kernel
  simp only [fIsi, tyP, Option.bind_some, h, Option.map_some]
theorem isi_int_str {b : Int} : fIsi "str" (.int b) = some (.bl false) := by
  have h : kitB "int" "str" = some false := by decide +kernel
  simp only [fIsi, tyP, Option.bind_some, h, Option.map_some]
theorem isi_str_str {b : Str} : fIsi "str" (.str b) = some (.bl true) := by
  have h : kitB "str" "str" = some true := by decide +kernel
  simp only [fIsi, tyP, Option.bind_some, h, Option.map_some]
theorem isi_tuple_str {b : List PV} : fIsi "str" (.tup b) = some (.bl false) := by
  have h : kitB "tuple" "str" = some false := by decide +kernel
  simp only [fIsi, tyP, Option.bind_some, h, Option.map_some]
theorem isi_list_str {b : List PV} : fIsi "str" (.lst b) = some (.bl false) := by
  have h : kitB "list" "str" = some false := by decide +kernel
  simp only [fIsi, tyP, Option.bind_some, h, Option.map_some]
theorem isi_NoneType_bool : fIsi "bool" .non = some (.bl false) := by
  have h : kitB "NoneType" "bool" = some false := by decide +kernel
  simp only [fIsi, tyP, Option.bind_some, h, Option.map_some]
theorem isi_bool_bool {b : Bool} : fIsi "bool" (.bl b) = some (.bl true) := by
  have h : kitB "bool" "bool" = some true := by decide +kernel
  simp only [fIsi, tyP, Option.bind_some, h, Option.map_some]
theorem isi_int_bool {b : Int} : fIsi "bool" (.int b) = some (.bl false) := by
  have h : kitB "int" "bool" = some false := by decide +kernel
  simp only [fIsi, tyP, Option.bind_some, h, Option.map_some]
theorem isi_str_bool {b : Str} : fIsi "bool" (.str b) = some (.bl false) := by
  have h : kitB "str" "bool" = some false := by decide +kernel
  simp only [fIsi, tyP, Option.bind_some, h, Option.map_some]
theorem isi_tuple_bool {b : List PV} : fIsi "bool" (.tup b) = some (.bl false) := by
  have h : kitB "tuple" "bool" = some false := by decide +kernel
  simp only [fIsi, tyP, Option.bind_some, h, Option.map_some]
theorem isi_list_bool {b : List PV} : fIsi "bool" (.lst b) = some (.bl false) := by
  have h : kitB "list" "bool" = some false := by decide +kernel
  simp only [fIsi, tyP, Option.bind_some, h, Option.map_some]
theorem isi_NoneType_tuple : fIsi "tuple" .non = some (.bl false) := by
  have h : kitB "NoneType" "tuple" = some false := by decide +kernel
  simp only [fIsi, tyP, Option.bind_some, h, Option.map_some]
theorem isi_bool_tuple {b : Bool} : fIsi "tuple" (.bl b) = some (.bl false) := by
  have h : kitB "bool" "tuple" = some false := by decide +kernel
  simp only [fIsi, tyP, Option.bind_some, h, Option.map_some]
theorem isi_int_tuple {b : Int} : fIsi "tuple" (.int b) = some (.bl false) := by
  have h : kitB "int" "tuple" = some false := by decide +kernel
  simp only [fIsi, tyP, Option.bind_some, h, Option.map_some]
theorem isi_str_tuple {b : Str} : fIsi "tuple" (.str b) = some (.bl false) := by
  have h : kitB "str" "tuple" = some false := by decide +kernel
  simp only [fIsi, tyP, Option.bind_some, h, Option.map_some]
theorem isi_tuple_tuple {b : List PV} : fIsi "tuple" (.tup b) = some (.bl true) := by
  have h : kitB "tuple" "tuple" = some true := by decide +kernel
  simp only [fIsi, tyP, Option.bind_some, h, Option.map_some]
theorem isi_list_tuple {b : List PV} : fIsi "tuple" (.lst b) = some (.bl false) := by
  have h : kitB "list" "tuple" = some false := by decide +kernel
  simp only [fIsi, tyP, Option.bind_some, h, Option.map_some]
theorem isi_NoneType_list : fIsi "list" .non = some (.bl false) := by
  have h : kitB "NoneType" "list" = some false := by decide +kernel
  simp only [fIsi, tyP, Option.bind_some, h, Option.map_some]
theorem isi_bool_list {b : Bool} : fIsi "list" (.bl b) = some (.bl false) := by
  have h : kitB "bool" "list" = some false := by decide +kernel
  simp only [fIsi, tyP, Option.bind_some, h, Option.map_some]
theorem isi_int_list {b : Int} : fIsi "list" (.int b) = some (.bl false) := by
  have h : kitB "int" "list" = some false := by decide +kernel
  simp only [fIsi, tyP, Option.bind_some, h, Option.map_some]
theorem isi_str_list {b : Str} : fIsi "list" (.str b) = some (.bl false) := by
  have h : kitB "str" "list" = some false := by decide +kernel
  simp only [fIsi, tyP, Option.bind_some, h, Option.map_some]
theorem isi_tuple_list {b : List PV} : fIsi "list" (.tup b) = some (.bl false) := by
  have h : kitB "tuple" "list" = some false := by decide +kernel
  simp only [fIsi, tyP, Option.bind_some, h, Option.map_some]
theorem isi_list_list {b : List PV} : fIsi "list" (.lst b) = some (.bl true) := by
  have h : kitB "list" "list" = some true := by decide +kernel
  simp only [fIsi, tyP, Option.bind_some, h, Option.map_some]
def compT (r : XR EV) (k : Gm → XR (List PV)) : XR (List PV) := match r with
  | .ok (.p y) g2 => (k g2).bind fun ys g3 => .ok (y :: ys) g3
  | .exn c g2 => .exn c g2
  | _ => .fail
theorem compT_ok {y : PV} {g2 : Gm} {k : Gm → XR (List PV)} : compT (.ok (.p y) g2) k = (k g2).bind fun ys g3 => .ok (y :: ys) g3 := rfl
theorem compL_nil {tg : XG} {ft : XT} {fe : XE} {env : En} {g : Gm} : compL tg ft fe env [] g = .ok [] g := rfl
theorem compL_name {i : Nat} {fe : XE} {env : En} {d : PV} {ds : List PV} {g : Gm} : compL (gN i) xYes fe env (d :: ds) g = compT (fe (env.set i (.p d)) g) fun g2 => compL (gN i) xYes fe env ds g2 := by
  rw [compL]
  show (fe (env.set i (.p d)) g).bind _ = _
  unfold compT
  cases fe (env.set i (.p d)) g with
  | ok a g2 => cases a <;> rfl
  | exn c g2 => rfl
  | fail => rfl
theorem rev3 {x y z : PV} : [x, y, z].reverse = [z, y, x] := rfl
theorem ofStr_beq {a b : String} : (Str.ofString a == Str.ofString b) = (a == b) := by
  rw [Bool.eq_iff_iff, beq_iff_eq, beq_iff_eq, ofStr_eq]
end Go

namespace Law
open PySem L2 Go
local macro_rules | `(tactic| row_has $x) => `(tactic| repeat (first | (obtain ⟨e, _⟩ := $x:ident; subst e; rfl) | (obtain ⟨_, $x:ident⟩ := $x:ident)))
local macro_rules | `(tactic| walk_at "ts") => `(tactic| first
  | exact Tst.refl
  | (refine' Ext.ts (S := ?k0) ?k1; case k1 => assumption)
  | (refine' Tst.trans (Ext.ts (S := ?k0) ?k1) ?k2; (case k1 => assumption); (case k2 => walk_at "ts"))
  | (refine' Tst.trans ?k2 (Ext.ts (S := ?k0) ?k1); (case k1 => assumption); (case k2 => walk_at "ts")))
local macro_rules | `(tactic| walk_at "ext") => `(tactic| first
  | exact Ext.refl
  | assumption
  | (refine' Ext.trans ?k1 ?k2; (case k1 => assumption); (case k2 => walk_at "ext"))
  | (refine' Ext.trans (Ext.any ?k1) ?k2; (case k1 => assumption); (case k2 => walk_at "ext"))
  | (refine' Ext.trans ?k2 ?k1; (case k1 => assumption); (case k2 => walk_at "ext"))
  | (refine' Ext.more ?k2 ?k1; (case k1 => assumption); (case k2 => walk_at "ext")))
local macro_rules | `(tactic| walk_at "rp") => `(tactic| first
  | assumption
  | exact Rp.str _
  | exact Rp.int _
  | exact Rp.non
  | exact Rp.bl _
  | (refine' Rp.ts ?k2 ?k1; (case k1 => assumption); (case k2 => walk_at "ts")))
local macro_rules | `(tactic| walk_at "ls") => `(tactic| first
  | assumption
  | (refine' Ext.keep (S := ?k0) ?k1 _ _ ?k2 ?k3; (case k1 => assumption); (case k2 => walk_at "ls"); (case k3 => first | exact List.not_mem_nil | assumption | (simp; assumption) | (simp; exact Ne.symm (by assumption)))))
local macro_rules | `(tactic| walk_at "all") => `(tactic| first
  | exact RpAll.nil
  | (refine' RpAll.cons ?k1 ?k2; (case k1 => walk_at "rp"); (case k2 => walk_at "all")))
local macro_rules | `(tactic| walk_at "len") => `(tactic| first
  | (refine le_line ?_; simp; done)
  | (refine le_line ?_; simp only [List.length_append, List.length_cons, List.length_nil, List.length_map, List.length_take]; omega)
  | omega)
local macro_rules | `(tactic| walk_at "lk") => `(tactic| first | exact lk_hit | (refine (lk_miss (by decide +kernel)).trans ?_; walk_at "lk") | exact lk_nil)
local macro_rules | `(tactic| walk_at "pf") => `(tactic| first | exact pf_nil | exact pf_hit | (refine' pf_miss ?k1 ?k2; (case k1 => decide +kernel); (case k2 => walk_at "pf")))
local macro_rules | `(tactic| walk_at "di") => `(tactic| first
  | assumption
  | (refine' DI.keep (S := ?k0) ?k2 ?k1 ?k3; (case k1 => assumption); (case k2 => walk_at "di"); (case k3 => first | exact List.not_mem_nil | assumption | (simp; assumption) | (simp; exact Ne.symm (by assumption)))))
local macro_rules | `(tactic| walk_at "s0") => `(tactic| first
  | with_reducible refine w_asg ?_
  | with_reducible refine w_name ?_
  | with_reducible refine w_next ?_
  | with_reducible refine w_break ?_
  | with_reducible refine w_cont ?_
  | with_reducible refine w_drop ?_
  | with_reducible refine w_ret ?_
  | with_reducible refine w_retN ?_
  | with_reducible refine w_ifS ?_
  | with_reducible refine w_test ?_
  | with_reducible refine w_tB ?_
  | with_reducible refine w_exbl ?_
  | with_reducible refine w_and ?_
  | with_reducible refine w_or ?_
  | with_reducible refine w_not ?_
  | with_reducible refine w_andV ?_
  | with_reducible refine w_orV ?_
  | with_reducible refine w_notV ?_
  | with_reducible refine w_if ?_
  | ((with_reducible refine' w_var ?k1 ?_); (case k1 => rfl))
  | with_reducible refine w_c ?_
  | with_reducible refine w_op ?_
  | with_reducible refine w_un ?_
  | with_reducible refine w_cb ?_
  | with_reducible refine w_cons ?_
  | with_reducible refine w_nil ?_
  | with_reducible refine w_call ?_
  | with_reducible refine w_callS ?_
  | with_reducible refine w_chain ?_
  | with_reducible refine w_for ?_
  | with_reducible refine w_rng1 ?_
  | with_reducible refine w_rng2 ?_
  | with_reducible refine w_list ?_
  | with_reducible refine w_tupI ?_
  | ((with_reducible refine' w_exr1 ?k1 ?_); (case k1 => omega))
  | ((with_reducible refine' w_exr2 ?k1 ?_); (case k1 => omega))
  | ((with_reducible refine' w_ext ?k1 ?_); (case k1 => walk_at "rp"); intro _ _; subst_vars)
  | (with_reducible refine w_lc ?_)
  | with_reducible refine w_enumT ?_
  | ((with_reducible refine' w_exet ?k1 ?_); (case k1 => walk_at "rp"); intro _ _; subst_vars)
  | with_reducible refine w_yes ?_
  | with_reducible refine w_tup ?_
  | with_reducible refine w_lst ?_
  | with_reducible refine w_sub ?_
  | with_reducible refine w_bm ?_
  | with_reducible refine w_sl ?_
  | with_reducible refine w_noPart ?_
  | with_reducible refine w_part ?_
  | with_reducible refine w_exint ?_
  | with_reducible refine r_u ?_
  | with_reducible refine r_sub ?_
  | ((with_reducible refine' r_mul ?k1 ?_); (case k1 => first | exact cmul_r (by omega) (by omega) | exact cmul_l (by omega) (by omega)))
  | ((with_reducible refine' r_div ?k1 ?_); (case k1 => exact ⟨by omega, by omega⟩))
  | ((with_reducible refine' r_mod ?k1 ?_); (case k1 => omega))
  | with_reducible refine r_lt ?_
  | with_reducible refine r_le ?_
  | with_reducible refine r_gt ?_
  | with_reducible refine r_ge ?_
  | with_reducible refine a_int ?_
  | with_reducible refine e_str ?_
  | with_reducible refine e_int ?_
  | with_reducible refine e_is ?_
  | with_reducible refine e_si ?_
  | with_reducible refine n_str ?_
  | with_reducible refine n_int ?_
  | with_reducible refine b_abs ?_
  | with_reducible refine b_int ?_
  | with_reducible refine i_n ?_
  | with_reducible refine i_nn ?_
  | with_reducible refine i_b ?_
  | with_reducible refine i_nb ?_
  | ((with_reducible refine' w_inL ?k1 ?k2 ?k3 ?_); (case k1 => rfl); (case k2 => rfl); (case k3 => walk_at "len"); intro _ _)
  | ((with_reducible refine' w_inT ?k1 ?k2 ?k3 ?_); (case k1 => rfl); (case k2 => rfl); (case k3 => walk_at "len"); intro _ _)
  | ((with_reducible refine' in_D ?k1 ?k2 ?k3 ?k4 ?_); (case k1 => walk_at "rp"); (case k2 => walk_at "rp"); (case k3 => rfl); (case k4 => rfl))
  | ((with_reducible refine' w_const ?_); intro _ _)
  | ((with_reducible refine' w_newT ?k1 ?k2 ?_); (case k1 => walk_at "all"); (case k2 => walk_at "len"); intro _ _ _ _)
  | ((with_reducible refine' x_Ds ?k1 ?k2 ?_); (case k1 => walk_at "rp"); (case k2 => rfl))
  | ((with_reducible refine' x_Di ?k1 ?k2 ?_); (case k1 => walk_at "rp"); (case k2 => rfl))
  | ((with_reducible refine' x_D ?k1 ?k2 ?_); (case k1 => walk_at "rp"); (case k2 => rfl); intro _ _)
  | ((with_reducible refine' l_D ?k1 ?_); (case k1 => walk_at "rp"))
  | ((with_reducible refine' s_D ?k1 ?_); (case k1 => walk_at "rp"); intro _ _ _ _)
  | ((with_reducible refine' x_l ?k1 ?k2 ?_); (case k1 => walk_at "ls"); (case k2 => rfl))
  | ((with_reducible refine' t_set0 ?k1 ?_); (case k1 => walk_at "ls"); intro _ _ _)
  | ((with_reducible refine' t_set1 ?k1 ?_); (case k1 => walk_at "ls"); intro _ _ _)
  | ((with_reducible refine' t_set2 ?k1 ?_); (case k1 => walk_at "ls"); intro _ _ _)
  | ((with_reducible refine' t_set3 ?k1 ?_); (case k1 => walk_at "ls"); intro _ _ _)
  | ((with_reducible refine' l_l ?k1 ?_); (case k1 => walk_at "ls"))
  | ((with_reducible refine' a_tup ?k1 ?k2 ?k3 ?_); (case k1 => walk_at "rp"); (case k2 => walk_at "rp"); (case k3 => walk_at "len"); intro _ _ _ _)
  | with_reducible refine w_fldC ?_
  | ((with_reducible refine' w_exfld ?k1 ?k2 ?_); (case k1 => walk_at "ls"); (case k2 => walk_at "lk"))
  | with_reducible refine w_sfldC ?_
  | ((with_reducible refine' w_exsfld ?k1 ?k2 ?k3 ?_); (case k1 => walk_at "ls"); (case k2 => first | decide | (simp; done)); (case k3 => walk_at "pf"); intro _ _ _)
  | with_reducible refine w_meth ?_
  | ((with_reducible refine' w_exmeth ?k1 ?k2 ?_); (case k1 => walk_at "ls"); (case k2 => walk_at "lk"))
  | with_reducible refine w_make ?_
  | with_reducible refine w_dnewK ?_
  | with_reducible refine w_dget ?_
  | with_reducible refine w_din ?_
  | with_reducible refine w_dnotin ?_
  | with_reducible refine w_dput ?_
  | with_reducible refine w_ddel ?_
  | ((with_reducible refine' w_aug ?k1 ?_); (case k1 => rfl))
  | with_reducible refine w_ip ?_
  | ((with_reducible refine' is_lst ?k1 ?k2 ?_); (case k1 => walk_at "ls"); (case k2 => rfl))
  | ((with_reducible refine' is_tup ?k1 ?k2 ?_); (case k1 => walk_at "rp"); (case k2 => rfl))
  | ((with_reducible refine' is_int ?k2 ?_); (case k2 => rfl))
  | ((with_reducible refine' is_str ?k2 ?_); (case k2 => rfl))
  | ((with_reducible refine' is_bl ?k2 ?_); (case k2 => rfl))
  | with_reducible refine w_iteT (c := true) rfl ?_
  | with_reducible refine w_iteF (c := false) rfl ?_
  | ((with_reducible refine' w_iteT ?k1 ?_); (case k1 => first | assumption | rfl | decide +kernel))
  | ((with_reducible refine' w_iteF ?k1 ?_); (case k1 => first | assumption | rfl | decide +kernel))
  | dsimp only [List.set])
local macro_rules | `(tactic| walk_at "s") => `(tactic| first | with_reducible refine w_seqJ ?_ | walk_at "s0")
local macro_rules | `(tactic| walk_at "s1") => `(tactic| first | with_reducible refine w_seqA ?_ | with_reducible refine w_seqD ?_ | walk_at "s0")
local macro_rules | `(tactic| walk_at "go") => `(tactic| repeat walk_at "s")
local macro_rules | `(tactic| walk_at "gs") => `(tactic| repeat walk_at "s1")
local macro_rules | `(tactic| walk_at "eqD") => `(tactic| (refine' e_D ?k1 ?k2 ?k3 ?k4 ?k5 ?k6 ?_; (case k1 => walk_at "rp"); (case k2 => walk_at "rp"); (case k3 => assumption); (case k4 => assumption); (case k5 => assumption); (case k6 => assumption)))
local macro_rules | `(tactic| walk_at "ev") => `(tactic| simp -implicitDefEqProofs only [bind_ok, bind_exn, then_ok, then_exn, xbind_nx, xbind_rt, xbind_bk, xbind_ct, xbind_exn, run_go, runN_go, calm_ok, fin_rt, fin_nx, fin_exn, finN_exn, xSeq, xIf, xTst, xbl, xVar, xC, xNil, xCons, xTup, pvs_nil, pvs_p, mLst, xFrz, xOwn, xo2, xo1, xOp, xB, val_p, val_own, ownV_some, xAnd, xOr, xNot, xIfE, xNotV, xAndV, xOrV, xChain, xNoPart, xPart, xNext, xBreak, xCont, xRet, xRetN, xRetM, xAsg, xAsgG, xDrop, xRaise, xAug, gN, gT, gAll, xFor, wipeE, xYes, mComp, owns_nil, owns_p, owns_own, to0_p, to0_own, lift_ok, lift_exn, lift1_ok, lift1_exn, callF_eq, callG_nil, callG_one, callOne_some, xCall, XR.calm, xCallN, xCallK, xCallKN, xSetI, xFz, xMut, XR.liftN, XR.liftN1, callN, mCall, mCallN, xRetS, xRetKS, xIfB, xSeqB, xTry, mCat, seqOf, mList, xSl, mSl, mRev, iT, iL, iR1, iR2, iE, iEl, xDct, xAll,
  fEq, fNe, eqB, fAdd, fSub, fMul, fDiv, fMod, fLt, fLe, fGt, fGe, fI, fIc, fIn, inB, fIsNo, fIsNN, fIsB, fNotB, fIx, fLen, fAbs, fInt1, fNeg, fTupOf, fDGet, fDIn, Go.keyOf, PV.flat, fle, isi_NoneType_int, isi_bool_int, isi_int_int, isi_str_int, isi_tuple_int, isi_list_int, isi_NoneType_str, isi_bool_str, isi_int_str, isi_str_str, isi_tuple_str, isi_list_str, isi_NoneType_bool, isi_bool_bool, isi_int_bool, isi_str_bool, isi_tuple_bool, isi_list_bool, isi_NoneType_tuple, isi_bool_tuple, isi_int_tuple, isi_str_tuple, isi_tuple_tuple, isi_list_tuple, isi_NoneType_list, isi_bool_list, isi_int_list, isi_str_list, isi_tuple_list, isi_list_list, fApp, fIns, compL_nil, compL_name, compT_ok, forL_nil, forL_name, forL_pair, turn_nx, turn_ct, turn_bk, turn_rt, turn_exn, at0, at1, at2, at3, at4, at5, at_last, ix0,
  List.length_cons, List.length_nil, List.replicate, List.append_assoc, List.cons_append, List.nil_append, List.getElem?_cons_zero, List.getElem?_cons_succ, List.getElem?_nil, List.set_cons_zero, List.set_cons_succ, List.map_cons, List.map_nil, List.zip_cons_cons, List.zip_nil_left, List.zip_nil_right, Option.map_some, Option.map_none, Option.bind_some, Option.bind_none, Option.isSome_some, Option.isSome_none, List.take_succ_cons, List.take_zero, List.append_nil, List.headD_cons, if_true, if_false, reduceIte, Nat.reduceAdd, Nat.reduceSub, Nat.reduceLeDiff, Nat.reduceLT, Nat.lt_irrefl, and_self, and_true, true_and, Nat.reduceEqDiff, decide_true, decide_false, Bool.false_eq_true, Bool.not_true, Bool.not_false, reduceCtorEq, List.length_append, List.length_singleton, Nat.zero_add, Option.some.injEq, List.all_cons, List.all_nil, List.any_cons, List.any_nil, Bool.and_true, Bool.true_and, Bool.and_self, Bool.or_false, Bool.or_true, Bool.true_or, Bool.false_or, Int.reduceLT, Int.reduceLE, Int.reduceNeg, Int.reduceSub, Int.reduceAdd, Int.reduceMul, Int.reduceEq, or_true, true_or, or_false, false_or, and_false, false_and, ofStr_eq, ofStr_beq, String.reduceEq, String.reduceBEq, Int.reduceToNat])

abbrev c_BORROWS : D := .tup [.str "shared", .str "exclusive"]
structure Ad where
  c_ForkError : Addr
  c_KindProblem : Addr
  c_NoSuchStep : Addr
  c_NoSuchVariable : Addr
  c_NoSuchFunction : Addr
  c_NotAllocated : Addr
  c_Refused : Addr
structure Fx (K : PySem.W.Frag) (A : Ad) : Prop where
  xc_NoSuchStep : ExcC K A.c_NoSuchStep
  xc_NoSuchVariable : ExcC K A.c_NoSuchVariable
  k_NoSuchStep_KindProblem : PySem.W.kitOne K (.ref A.c_NoSuchStep) (.ref A.c_KindProblem) = some false
  k_NoSuchStep_NoSuchFunction : PySem.W.kitOne K (.ref A.c_NoSuchStep) (.ref A.c_NoSuchFunction) = some false
  k_NoSuchStep_NotAllocated : PySem.W.kitOne K (.ref A.c_NoSuchStep) (.ref A.c_NotAllocated) = some false
  k_NoSuchStep_Refused : PySem.W.kitOne K (.ref A.c_NoSuchStep) (.ref A.c_Refused) = some false
  k_NoSuchStep_NoSuchVariable : PySem.W.kitOne K (.ref A.c_NoSuchStep) (.ref A.c_NoSuchVariable) = some false
  k_NoSuchStep_ForkError : PySem.W.kitOne K (.ref A.c_NoSuchStep) (.ref A.c_ForkError) = some true
  k_NoSuchStep_ValueError : PySem.W.kitOne K (.ref A.c_NoSuchStep) (.type "ValueError") = some true
  k_NoSuchVariable_KindProblem : PySem.W.kitOne K (.ref A.c_NoSuchVariable) (.ref A.c_KindProblem) = some false
  k_NoSuchVariable_NoSuchFunction : PySem.W.kitOne K (.ref A.c_NoSuchVariable) (.ref A.c_NoSuchFunction) = some false
  k_NoSuchVariable_NotAllocated : PySem.W.kitOne K (.ref A.c_NoSuchVariable) (.ref A.c_NotAllocated) = some false
  k_NoSuchVariable_Refused : PySem.W.kitOne K (.ref A.c_NoSuchVariable) (.ref A.c_Refused) = some false
  k_NoSuchVariable_NoSuchStep : PySem.W.kitOne K (.ref A.c_NoSuchVariable) (.ref A.c_NoSuchStep) = some false
  k_NoSuchVariable_ForkError : PySem.W.kitOne K (.ref A.c_NoSuchVariable) (.ref A.c_ForkError) = some true
  k_NoSuchVariable_ValueError : PySem.W.kitOne K (.ref A.c_NoSuchVariable) (.type "ValueError") = some true
  e_NoSuchStep_ForkError : PySem.W.exmOne K (.ref A.c_NoSuchStep) (.ref A.c_ForkError) = some true
  e_NoSuchVariable_ForkError : PySem.W.exmOne K (.ref A.c_NoSuchVariable) (.ref A.c_ForkError) = some true
def top (i : Nat) : Stmt := PySem.Challenge.pw_forklent_k02_steps_and_places.main.body.getD i (.Pass ⟨0, 0, 0, 0⟩)
abbrev s_fields_of : Stmt := top 10
abbrev N_fields_of : List Str := ["records", "name", "record"]
theorem sc_fields_of : FnScope N_fields_of ["records", "name"] (defScope s_fields_of) := ⟨rfl, rfl, rfl, by decide +kernel, rfl, by decide +kernel, by decide +kernel⟩
abbrev s_kind_after : Stmt := top 11
abbrev N_kind_after : List Str := ["records", "kind", "step", "field", "inner"]
theorem sc_kind_after : FnScope N_kind_after ["records", "kind", "step"] (defScope s_kind_after) := ⟨rfl, rfl, rfl, by decide +kernel, rfl, by decide +kernel, by decide +kernel⟩
abbrev s_is_prefix : Stmt := top 13
abbrev N_is_prefix : List Str := ["first", "second", "many"]
theorem sc_is_prefix : FnScope N_is_prefix ["first", "second"] (defScope s_is_prefix) := ⟨rfl, rfl, rfl, by decide +kernel, rfl, by decide +kernel, by decide +kernel⟩
abbrev s_overlap : Stmt := top 14
abbrev N_overlap : List Str := ["first", "second"]
theorem sc_overlap : FnScope N_overlap ["first", "second"] (defScope s_overlap) := ⟨rfl, rfl, rfl, by decide +kernel, rfl, by decide +kernel, by decide +kernel⟩
abbrev s_kinds_along : Stmt := top 15
abbrev N_kinds_along : List Str := ["place", "records", "kinds", "kind", "found", "step"]
theorem sc_kinds_along : FnScope N_kinds_along ["place", "records", "kinds"] (defScope s_kinds_along) := ⟨rfl, rfl, rfl, by decide +kernel, rfl, by decide +kernel, by decide +kernel⟩
abbrev s_kind_at : Stmt := top 16
abbrev N_kind_at : List Str := ["place", "records", "kinds"]
theorem sc_kind_at : FnScope N_kind_at ["place", "records", "kinds"] (defScope s_kind_at) := ⟨rfl, rfl, rfl, by decide +kernel, rfl, by decide +kernel, by decide +kernel⟩
abbrev s_crossed : Stmt := top 17
abbrev N_crossed : List Str := ["place", "records", "kinds", "along", "index", "step"]
theorem sc_crossed : FnScope N_crossed ["place", "records", "kinds"] (defScope s_crossed) := ⟨rfl, rfl, rfl, by decide +kernel, rfl, by decide +kernel, by decide +kernel⟩
abbrev s_l_tape : Stmt := top 19
abbrev N_l_tape : List Str := ["script", "numbers", "total", "cell", "rest", "k"]
theorem sc_l_tape : FnScope N_l_tape ["script"] (defScope s_l_tape) := ⟨rfl, rfl, rfl, by decide +kernel, rfl, by decide +kernel, by decide +kernel⟩
abbrev s_l_next : Stmt := top 20
abbrev N_l_next : List Str := ["tape", "many", "at"]
theorem sc_l_next : FnScope N_l_next ["tape", "many"] (defScope s_l_next) := ⟨rfl, rfl, rfl, by decide +kernel, rfl, by decide +kernel, by decide +kernel⟩
abbrev s_l_fields : Stmt := top 21
abbrev N_l_fields : List Str := ["name"]
theorem sc_l_fields : FnScope N_l_fields ["name"] (defScope s_l_fields) := ⟨rfl, rfl, rfl, by decide +kernel, rfl, by decide +kernel, by decide +kernel⟩
abbrev s_l_records : Stmt := top 22
abbrev N_l_records : List Str := ["tape", "names", "at", "name"]
theorem sc_l_records : FnScope N_l_records ["tape"] (defScope s_l_records) := ⟨rfl, rfl, rfl, by decide +kernel, rfl, by decide +kernel, by decide +kernel⟩
abbrev s_l_cells : Stmt := top 23
abbrev N_l_cells : List Str := ["kind", "item"]
theorem sc_l_cells : FnScope N_l_cells ["kind"] (defScope s_l_cells) := ⟨rfl, rfl, rfl, by decide +kernel, rfl, by decide +kernel, by decide +kernel⟩
abbrev s_l_fitting : Stmt := top 24
abbrev N_l_fitting : List Str := ["items", "most", "found", "cells", "k", "item"]
theorem sc_l_fitting : FnScope N_l_fitting ["items", "most"] (defScope s_l_fitting) := ⟨rfl, rfl, rfl, by decide +kernel, rfl, by decide +kernel, by decide +kernel⟩
abbrev s_l_kind : Stmt := top 25
abbrev N_l_kind : List Str := ["tape", "depth", "plain", "choice", "name", "many", "k"]
theorem sc_l_kind : FnScope N_l_kind ["tape", "depth", "plain"] (defScope s_l_kind) := ⟨rfl, rfl, rfl, by decide +kernel, rfl, by decide +kernel, by decide +kernel⟩
abbrev s_l_step : Stmt := top 26
abbrev N_l_step : List Str := ["tape", "kind", "fields"]
theorem sc_l_step : FnScope N_l_step ["tape", "kind"] (defScope s_l_step) := ⟨rfl, rfl, rfl, by decide +kernel, rfl, by decide +kernel, by decide +kernel⟩
abbrev s_l_after : Stmt := top 27
abbrev N_l_after : List Str := ["kind", "step", "name", "inner"]
theorem sc_l_after : FnScope N_l_after ["kind", "step"] (defScope s_l_after) := ⟨rfl, rfl, rfl, by decide +kernel, rfl, by decide +kernel, by decide +kernel⟩
abbrev s_l_caught : Stmt := top 28
abbrev N_l_caught : List Str := ["problem"]
theorem sc_l_caught : FnScope N_l_caught ["problem"] (defScope s_l_caught) := ⟨rfl, rfl, rfl, by decide +kernel, rfl, by decide +kernel, by decide +kernel⟩
abbrev s_l_told : Stmt := top 29
abbrev N_l_told : List Str := ["choice", "records", "kinds", "place", "kind", "step", "problem"]
theorem sc_l_told : FnScope N_l_told ["choice", "records", "kinds", "place", "kind", "step"] (defScope s_l_told) := ⟨rfl, rfl, rfl, by decide +kernel, rfl, by decide +kernel, by decide +kernel⟩
abbrev s_l_is : Stmt := top 30
abbrev N_l_is : List Str := ["answer", "due"]
theorem sc_l_is : FnScope N_l_is ["answer", "due"] (defScope s_l_is) := ⟨rfl, rfl, rfl, by decide +kernel, rfl, by decide +kernel, by decide +kernel⟩
abbrev s_l_unknown : Stmt := top 31
abbrev N_l_unknown : List Str := ["records", "kinds", "steps", "strange", "choice"]
theorem sc_l_unknown : FnScope N_l_unknown ["records", "kinds", "steps"] (defScope s_l_unknown) := ⟨rfl, rfl, rfl, by decide +kernel, rfl, by decide +kernel, by decide +kernel⟩
abbrev s_law : Stmt := top 32
abbrev N_law : List Str := ["script", "tape", "records", "kind", "kinds", "steps", "cross", "here", "k", "step", "due", "place", "other", "first", "second"]
theorem sc_law : FnScope N_law ["script"] (defScope s_law) := ⟨rfl, rfl, rfl, by decide +kernel, rfl, by decide +kernel, by decide +kernel⟩

/-- what _law_caught says of an error of the class at x -/
def caughtR (A : Ad) (x : Addr) : Option Str := if x = A.c_NoSuchStep then some ("step" : Str) else if x = A.c_NoSuchVariable then some ("variable" : Str) else none
def h_told (A : Ad) (x : Addr) : XS := fun env g => if 6 < env.length then match caughtR A x with
    | some s => .rt (.p (.str s)) g
    | none => .fail
  else .fail
def sp_l_caught (_ : PySem.W.Frag) (A : Ad) : SpX := fun a cls d vs H Q _ => ∃ (x : Addr) (s : Str), vs = [.ref a] ∧ cls = .ref x ∧ d = none ∧ caughtR A x = some s ∧ Q (.str s) H
def sp_law (K : PySem.W.Frag) : Sp := fun vs H Q _ => ∃ (a : Addr) (ns : List Int), vs = [.ref a] ∧ SqL K H a (ns.map V.int) ∧ ns.length ≤ 63 ∧ ∀ H', Q (.bl true) H'

def b_fields_of (A : Ad)  : XS :=
  (xSeq (xFor (iT (xVar 0)) (gN 2) (xIf (xTst (xOp fEq (xOp fIx (xVar 2) (xC (.int 0))) (xVar 1))) (xRet (xOp fIx (xVar 2) (xC (.int 1)))) xNext))
    (xRet (xC .non)))
def F_fields_of (A : Ad) : XF := runF 3 2 0 (b_fields_of A)
theorem nF_fields_of (A : Ad) : ∀ es g, es.length ≠ 2 → F_fields_of A es g = .fail := runF_no
def b_kind_after (A : Ad)  : XS :=
  (xSeq (xIf (xTst (xOp fEq (xVar 2) (xC (.str "?")))) (xIf (xTst (xOp fEq (xOp fIx (xVar 1) (xC (.int 0))) (xC (.str "maybe")))) (xRet (xOp fIx (xVar 1) (xC (.int 1)))) xNext) (xIf (xTst (xOp fEq (xVar 2) (xC (.str "^")))) (xIf (xTst (xOp (fIn false) (xOp fIx (xVar 1) (xC (.int 0))) (xTup (xCons (xC (.str "box")) (xCons (xC (.str "shared")) (xCons (xC (.str "exclusive")) xNil)))))) (xRet (xOp fIx (xVar 1) (xC (.int 1)))) xNext) (xIf (xTst (xOp fEq (xOp fIx (xVar 1) (xC (.int 0))) (xC (.str "tuple")))) (xIf (xAnd (xTst (xB (fIsi "int") (xVar 2))) (xTst (xChain fLe fLt (xC (.int 0)) (xVar 2) (xB fLen (xOp fIx (xVar 1) (xC (.int 1))))))) (xRet (xOp fIx (xOp fIx (xVar 1) (xC (.int 1))) (xVar 2))) xNext) (xIf (xTst (xOp fEq (xOp fIx (xVar 1) (xC (.int 0))) (xC (.str "record")))) (xFor (iT (xCallN (F_fields_of A) (xCons (xVar 0) (xCons (xOp fIx (xVar 1) (xC (.int 1))) xNil)))) (gT [(gN 3), (gN 4)]) (xIf (xTst (xOp fEq (xVar 3) (xVar 2))) (xRet (xVar 4)) xNext)) xNext))))
    (xRaise A.c_NoSuchStep))
def F_kind_after (A : Ad) : XF := runF 5 3 0 (b_kind_after A)
theorem nF_kind_after (A : Ad) : ∀ es g, es.length ≠ 3 → F_kind_after A es g = .fail := runF_no
def b_is_prefix (A : Ad)  : XS :=
  (xSeq (xAsg 2 (xB fLen (xOp fIx (xVar 0) (xC (.int 1)))))
    (xRet (xAndV (xOp fEq (xOp fIx (xVar 0) (xC (.int 0))) (xOp fIx (xVar 1) (xC (.int 0)))) (xOp fEq (xOp fIx (xVar 0) (xC (.int 1))) (xSl (xOp fIx (xVar 1) (xC (.int 1))) xNoPart (xPart (xVar 2)))))))
def F_is_prefix (A : Ad) : XF := runF 3 2 0 (b_is_prefix A)
theorem nF_is_prefix (A : Ad) : ∀ es g, es.length ≠ 2 → F_is_prefix A es g = .fail := runF_no
def b_overlap (A : Ad)  : XS :=
  (xRet (xOrV (xCallN (F_is_prefix A) (xCons (xVar 0) (xCons (xVar 1) xNil))) (xCallN (F_is_prefix A) (xCons (xVar 1) (xCons (xVar 0) xNil)))))
def F_overlap (A : Ad) : XF := runF 2 2 0 (b_overlap A)
theorem nF_overlap (A : Ad) : ∀ es g, es.length ≠ 2 → F_overlap A es g = .fail := runF_no
def b_kinds_along (A : Ad)  : XS :=
  (xSeq (xIf (xTst (xOp (fDIn true) (xOp fIx (xVar 0) (xC (.int 0))) (xVar 2))) (xRaise A.c_NoSuchVariable) xNext)
    (xSeq (xAsg 3 (xOp fDGet (xVar 2) (xOp fIx (xVar 0) (xC (.int 0)))))
    (xSeq (xOwn 4 (mLst (xCons (xVar 3) xNil)))
    (xSeq (xFor (iT (xOp fIx (xVar 0) (xC (.int 1)))) (gN 5) (xSeq (xAsg 3 (xCall (F_kind_after A) (xCons (xVar 1) (xCons (xVar 3) (xCons (xVar 5) xNil)))))
    (xDrop (xMut fApp (xVar 4) (xCons (xVar 3) xNil)))))
    (xRet (xVar 4))))))
def F_kinds_along (A : Ad) : XF := runF 6 3 0 (b_kinds_along A)
theorem nF_kinds_along (A : Ad) : ∀ es g, es.length ≠ 3 → F_kinds_along A es g = .fail := runF_no
def b_kind_at (A : Ad)  : XS :=
  (xRet (xOp fIx (xCallK 1 (F_kinds_along A) (xCons (xVar 0) xNil) (xCons (xVar 1) (xCons (xVar 2) xNil))) (xB fNeg (xC (.int 1)))))
def F_kind_at (A : Ad) : XF := runF 3 3 0 (b_kind_at A)
theorem nF_kind_at (A : Ad) : ∀ es g, es.length ≠ 3 → F_kind_at A es g = .fail := runF_no
def b_crossed (A : Ad)  : XS :=
  (xSeq (xAsg 3 (xCallK 1 (F_kinds_along A) (xCons (xVar 0) xNil) (xCons (xVar 1) (xCons (xVar 2) xNil))))
    (xSeq (xFor (iE (xOp fIx (xVar 0) (xC (.int 1)))) (gT [(gN 4), (gN 5)]) (xIf (xAnd (xTst (xOp fEq (xVar 5) (xC (.str "^")))) (xTst (xOp (fIn false) (xOp fIx (xOp fIx (xVar 3) (xVar 4)) (xC (.int 0))) (xC c_BORROWS.pv)))) (xRet (xTup (xCons (xOp fIx (xVar 0) (xC (.int 0))) (xCons (xSl (xOp fIx (xVar 0) (xC (.int 1))) xNoPart (xPart (xVar 4))) xNil)))) xNext))
    (xRet (xC .non))))
def F_crossed (A : Ad) : XF := runF 6 3 0 (b_crossed A)
theorem nF_crossed (A : Ad) : ∀ es g, es.length ≠ 3 → F_crossed A es g = .fail := runF_no
def b_l_tape (A : Ad)  : XS :=
  (xSeq (xOwn 1 (mLst xNil))
    (xSeq (xAsg 2 (xC (.int 1)))
    (xSeq (xFor (iL (xFrz (mSl (xVar 0) xNoPart (xPart (xC (.int 63)))))) (gN 3) (xSeq (xAsg 4 (xB fAbs (xB fInt1 (xVar 3))))
    (xSeq (xAsg 2 (xOp fAdd (xVar 2) (xVar 4)))
    (xFor (iR1 (xC (.int 24))) (gN 5) (xSeq (xDrop (xMut fApp (xVar 1) (xCons (xOp fMod (xB fInt1 (xVar 4)) (xC (.int 60))) xNil)))
    (xSeq (xAsg 4 (xOp fDiv (xVar 4) (xC (.int 60))))
    (xIf (xTst (xOp fEq (xVar 4) (xC (.int 0)))) xBreak xNext)))))))
    (xSeq (xFz 0 1) (xRetM (mLst (xCons (xC (.int 0)) (xCons (xVar 1) (xCons (xOp fMod (xB fInt1 (xVar 2)) (xC (.int 1000003))) xNil)))))))))
def F_l_tape (A : Ad) : XN := runN 6 1 0 (b_l_tape A)
theorem nF_l_tape (A : Ad) : ∀ es g, es.length ≠ 1 → F_l_tape A es g = .fail := runN_no
def b_l_next (A : Ad)  : XS :=
  (xSeq (xAsg 2 (xOp fIx (xVar 0) (xC (.int 0))))
    (xSeq (xSetI (xOp fAdd (xVar 2) (xC (.int 1))) (xVar 0) (xC (.int 0)))
    (xSeq (xIf (xTst (xOp fLt (xVar 2) (xB fLen (xOp fIx (xVar 0) (xC (.int 1)))))) (xRet (xOp fMod (xB fInt1 (xOp fIx (xOp fIx (xVar 0) (xC (.int 1))) (xVar 2))) (xVar 1))) xNext)
    (xRet (xOp fMod (xOp fDiv (xOp fMod (xB fInt1 (xOp fAdd (xOp fMul (xOp fAdd (xVar 2) (xC (.int 1))) (xC (.int 48271))) (xOp fMul (xOp fIx (xVar 0) (xC (.int 2))) (xC (.int 69621))))) (xC (.int 2147483647))) (xC (.int 11))) (xVar 1))))))
def F_l_next (A : Ad) : XF := runF 3 2 1 (b_l_next A)
theorem nF_l_next (A : Ad) : ∀ es g, es.length ≠ 2 → F_l_next A es g = .fail := runF_no
def b_l_fields (A : Ad)  : XS :=
  (xSeq (xIf (xTst (xOp fEq (xVar 0) (xC (.str "Node")))) (xRet (xTup (xCons (xTup (xCons (xC (.str "n")) (xCons (xTup (xCons (xC (.str "int")) xNil)) xNil))) (xCons (xTup (xCons (xC (.str "next")) (xCons (xTup (xCons (xC (.str "maybe")) (xCons (xTup (xCons (xC (.str "box")) (xCons (xTup (xCons (xC (.str "record")) (xCons (xC (.str "Node")) xNil))) xNil))) xNil))) xNil))) xNil)))) xNext)
    (xSeq (xIf (xTst (xOp fEq (xVar 0) (xC (.str "Pair")))) (xRet (xTup (xCons (xTup (xCons (xC (.str "n")) (xCons (xTup (xCons (xC (.str "bool")) xNil)) xNil))) (xCons (xTup (xCons (xC (.str "b")) (xCons (xTup (xCons (xC (.str "maybe")) (xCons (xTup (xCons (xC (.str "box")) (xCons (xTup (xCons (xC (.str "record")) (xCons (xC (.str "Wide")) xNil))) xNil))) xNil))) xNil))) xNil)))) xNext)
    (xRet (xTup (xCons (xTup (xCons (xC (.str "a")) (xCons (xTup (xCons (xC (.str "int")) xNil)) xNil))) (xCons (xTup (xCons (xC (.str "next")) (xCons (xTup (xCons (xC (.str "record")) (xCons (xC (.str "Pair")) xNil))) xNil))) (xCons (xTup (xCons (xC (.str "n")) (xCons (xTup (xCons (xC (.str "tuple")) (xCons (xTup (xCons (xTup (xCons (xC (.str "int")) xNil)) (xCons (xTup (xCons (xC (.str "bool")) xNil)) xNil))) xNil))) xNil))) xNil)))))))
def F_l_fields (A : Ad) : XF := runF 1 1 0 (b_l_fields A)
theorem nF_l_fields (A : Ad) : ∀ es g, es.length ≠ 1 → F_l_fields A es g = .fail := runF_no
def b_l_records (A : Ad)  : XS :=
  (xSeq (xAsg 1 (xFrz (mLst (xCons (xC (.str "Node")) (xCons (xC (.str "Pair")) (xCons (xC (.str "Wide")) xNil))))))
    (xSeq (xAsg 2 (xCallN (F_l_next A) (xCons (xVar 0) (xCons (xC (.int 3)) xNil))))
    (xSeq (xAsg 1 (xFrz (mCat (xFrz (mSl (xVar 1) (xPart (xVar 2)) xNoPart)) (xFrz (mSl (xVar 1) xNoPart (xPart (xVar 2)))))))
    (xSeq (xIf (xTst (xOp fEq (xCallN (F_l_next A) (xCons (xVar 0) (xCons (xC (.int 2)) xNil))) (xC (.int 0)))) (xAsg 1 (xFrz (mRev (xVar 1)))) xNext)
    (xRet (xB fTupOf (xFrz (mComp (iL (xVar 1)) (gN 3) xYes (xTup (xCons (xVar 3) (xCons (xCallN (F_l_fields A) (xCons (xVar 3) xNil)) xNil))) [3]))))))))
def F_l_records (A : Ad) : XF := runF 4 1 1 (b_l_records A)
theorem nF_l_records (A : Ad) : ∀ es g, es.length ≠ 1 → F_l_records A es g = .fail := runF_no
def b_l_cells (A : Ad) (G_l_cells : XF) : XS :=
  (xSeq (xIf (xTst (xOp fEq (xOp fIx (xVar 0) (xC (.int 0))) (xC (.str "maybe")))) (xRet (xOp fAdd (xC (.int 1)) (xCallN G_l_cells (xCons (xOp fIx (xVar 0) (xC (.int 1))) xNil)))) xNext)
    (xSeq (xIf (xTst (xOp fEq (xOp fIx (xVar 0) (xC (.int 0))) (xC (.str "tuple")))) (xRet (xB fSum (xFrz (mComp (iT (xOp fIx (xVar 0) (xC (.int 1)))) (gN 1) xYes (xCallN G_l_cells (xCons (xVar 1) xNil)) [1])))) xNext)
    (xSeq (xIf (xTst (xOp fEq (xOp fIx (xVar 0) (xC (.int 0))) (xC (.str "record")))) (xRet (xIfE (xTst (xOp fEq (xOp fIx (xVar 0) (xC (.int 1))) (xC (.str "Wide")))) (xC (.int 6)) (xC (.int 3)))) xNext)
    (xRet (xC (.int 1))))))
def F_l_cells (A : Ad) : Nat → XF
  | 0 => noF
  | n + 1 => runF 2 1 0 (b_l_cells A (F_l_cells A n))
theorem nF_l_cells (A : Ad) : ∀ (n : Nat) es g, es.length ≠ 1 → F_l_cells A n es g = .fail
  | 0 => noF_no
  | n + 1 => by unfold F_l_cells; exact runF_no
def b_l_fitting (A : Ad)  : XS :=
  (xSeq (xOwn 2 (mLst xNil))
    (xSeq (xAsg 3 (xC (.int 0)))
    (xSeq (xFor (iR1 (xB fLen (xVar 0))) (gN 4) (xSeq (xAsg 5 (xOp fIx (xVar 0) (xVar 4)))
    (xSeq (xIf (xTst (xOp fGt (xOp fSub (xOp fSub (xOp fAdd (xOp fAdd (xVar 3) (xCallN (F_l_cells A 12) (xCons (xVar 5) xNil))) (xB fLen (xVar 0))) (xC (.int 1))) (xVar 4)) (xVar 1))) (xAsg 5 (xTup (xCons (xC (.str "int")) xNil))) xNext)
    (xSeq (xAsg 3 (xOp fAdd (xVar 3) (xCallN (F_l_cells A 12) (xCons (xVar 5) xNil))))
    (xDrop (xMut fApp (xVar 2) (xCons (xVar 5) xNil)))))))
    (xRet (xB fTupOf (xVar 2))))))
def F_l_fitting (A : Ad) : XF := runF 6 2 0 (b_l_fitting A)
theorem nF_l_fitting (A : Ad) : ∀ es g, es.length ≠ 2 → F_l_fitting A es g = .fail := runF_no
def b_l_kind (A : Ad) (G_l_kind : XF) : XS :=
  (xSeq (xAsg 3 (xCallN (F_l_next A) (xCons (xVar 0) (xCons (xC (.int 11)) xNil))))
    (xSeq (xIf (xOr (xTst (xOp fLe (xVar 1) (xC (.int 1)))) (xTst (xOp fLt (xVar 3) (xC (.int 2))))) (xSeq (xAsg 4 (xOp fIx (xFrz (mLst (xCons (xC (.str "Node")) (xCons (xC (.str "Pair")) (xCons (xC (.str "Wide")) xNil))))) (xCallN (F_l_next A) (xCons (xVar 0) (xCons (xC (.int 3)) xNil)))))
    (xRet (xOp fIx (xFrz (mLst (xCons (xTup (xCons (xC (.str "int")) xNil)) (xCons (xTup (xCons (xC (.str "bool")) xNil)) (xCons (xTup (xCons (xC (.str "unit")) xNil)) (xCons (xTup (xCons (xC (.str "record")) (xCons (xVar 4) xNil))) (xCons (xTup (xCons (xC (.str "record")) (xCons (xVar 4) xNil))) xNil))))))) (xCallN (F_l_next A) (xCons (xVar 0) (xCons (xC (.int 5)) xNil)))))) xNext)
    (xSeq (xIf (xTst (xOp fLt (xVar 3) (xC (.int 4)))) (xRet (xTup (xCons (xC (.str "box")) (xCons (xCallN G_l_kind (xCons (xVar 0) (xCons (xOp fSub (xVar 1) (xC (.int 1))) (xCons (xC (.bl true)) xNil)))) xNil)))) xNext)
    (xSeq (xIf (xTst (xOp fLt (xVar 3) (xC (.int 6)))) (xRet (xOp fAdd (xTup (xCons (xC (.str "maybe")) xNil)) (xCallN (F_l_fitting A) (xCons (xFrz (mLst (xCons (xCallN G_l_kind (xCons (xVar 0) (xCons (xOp fSub (xVar 1) (xC (.int 1))) (xCons (xVar 2) xNil)))) xNil))) (xCons (xC (.int 59)) xNil))))) xNext)
    (xSeq (xIf (xOr (xTst (xOp fEq (xVar 3) (xC (.int 6)))) (xTst (xVar 2))) (xSeq (xAsg 5 (xOp fAdd (xC (.int 2)) (xCallN (F_l_next A) (xCons (xVar 0) (xCons (xC (.int 5)) xNil)))))
    (xRet (xTup (xCons (xC (.str "tuple")) (xCons (xCallN (F_l_fitting A) (xCons (xFrz (mComp (iR1 (xVar 5)) (gN 6) xYes (xCallN G_l_kind (xCons (xVar 0) (xCons (xOp fSub (xVar 1) (xC (.int 1))) (xCons (xVar 2) xNil)))) [6])) (xCons (xC (.int 60)) xNil))) xNil))))) xNext)
    (xRet (xTup (xCons (xOp fIx (xFrz (mLst (xCons (xC (.str "shared")) (xCons (xC (.str "exclusive")) (xCons (xC (.str "task")) (xCons (xC (.str "exclusive")) xNil)))))) (xOp fSub (xVar 3) (xC (.int 7)))) (xCons (xCallN G_l_kind (xCons (xVar 0) (xCons (xOp fSub (xVar 1) (xC (.int 1))) (xCons (xC (.bl true)) xNil)))) xNil)))))))))
def F_l_kind (A : Ad) : Nat → XF
  | 0 => noF
  | n + 1 => runF 7 3 1 (b_l_kind A (F_l_kind A n))
theorem nF_l_kind (A : Ad) : ∀ (n : Nat) es g, es.length ≠ 3 → F_l_kind A n es g = .fail
  | 0 => noF_no
  | n + 1 => by unfold F_l_kind; exact runF_no
def b_l_step (A : Ad)  : XS :=
  (xSeq (xIf (xTst (xOp fEq (xCallN (F_l_next A) (xCons (xVar 0) (xCons (xC (.int 12)) xNil))) (xC (.int 0)))) (xRet (xOp fIx (xFrz (mLst (xCons (xC (.int 0)) (xCons (xC (.int 1)) (xCons (xC (.int 2)) (xCons (xC (.int 3)) (xCons (xC (.int 5)) (xCons (xC (.int 6)) (xCons (xOp fSub (xC (.int 0)) (xC (.int 1))) (xCons (xC (.str "?")) (xCons (xC (.str "^")) (xCons (xC (.str "n")) (xCons (xC (.str "next")) (xCons (xC (.str "a")) (xCons (xC (.str "b")) (xCons (xC (.str "none")) xNil)))))))))))))))) (xCallN (F_l_next A) (xCons (xVar 0) (xCons (xC (.int 14)) xNil))))) xNext)
    (xSeq (xIf (xTst (xOp fEq (xOp fIx (xVar 1) (xC (.int 0))) (xC (.str "tuple")))) (xRet (xOp fIx (xFrz (mLst (xCons (xCallN (F_l_next A) (xCons (xVar 0) (xCons (xB fLen (xOp fIx (xVar 1) (xC (.int 1)))) xNil))) (xCons (xOp fSub (xB fLen (xOp fIx (xVar 1) (xC (.int 1)))) (xC (.int 1))) xNil)))) (xCallN (F_l_next A) (xCons (xVar 0) (xCons (xC (.int 2)) xNil))))) xNext)
    (xSeq (xIf (xTst (xOp fEq (xOp fIx (xVar 1) (xC (.int 0))) (xC (.str "record")))) (xSeq (xAsg 2 (xCallN (F_l_fields A) (xCons (xOp fIx (xVar 1) (xC (.int 1))) xNil)))
    (xRet (xOp fIx (xOp fIx (xVar 2) (xCallN (F_l_next A) (xCons (xVar 0) (xCons (xB fLen (xVar 2)) xNil)))) (xC (.int 0))))) xNext)
    (xRet (xIfE (xTst (xOp fEq (xOp fIx (xVar 1) (xC (.int 0))) (xC (.str "maybe")))) (xC (.str "?")) (xC (.str "^")))))))
def F_l_step (A : Ad) : XF := runF 3 2 1 (b_l_step A)
theorem nF_l_step (A : Ad) : ∀ es g, es.length ≠ 2 → F_l_step A es g = .fail := runF_no
def b_l_after (A : Ad)  : XS :=
  (xSeq (xIf (xTst (xOp fEq (xVar 1) (xC (.str "?")))) (xRet (xIfE (xTst (xOp fEq (xOp fIx (xVar 0) (xC (.int 0))) (xC (.str "maybe")))) (xOp fIx (xVar 0) (xC (.int 1))) (xC .non))) xNext)
    (xSeq (xIf (xTst (xOp fEq (xVar 1) (xC (.str "^")))) (xRet (xIfE (xTst (xOp (fIn false) (xOp fIx (xVar 0) (xC (.int 0))) (xFrz (mLst (xCons (xC (.str "box")) (xCons (xC (.str "shared")) (xCons (xC (.str "exclusive")) xNil))))))) (xOp fIx (xVar 0) (xC (.int 1))) (xC .non))) xNext)
    (xSeq (xIf (xTst (xB (fIsi "int") (xVar 1))) (xRet (xIfE (xAnd (xTst (xOp fEq (xOp fIx (xVar 0) (xC (.int 0))) (xC (.str "tuple")))) (xTst (xChain fLe fLt (xC (.int 0)) (xVar 1) (xB fLen (xOp fIx (xVar 0) (xC (.int 1))))))) (xOp fIx (xOp fIx (xVar 0) (xC (.int 1))) (xVar 1)) (xC .non))) xNext)
    (xSeq (xIf (xTst (xOp fNe (xOp fIx (xVar 0) (xC (.int 0))) (xC (.str "record")))) (xRet (xC .non)) xNext)
    (xSeq (xFor (iT (xCallN (F_l_fields A) (xCons (xOp fIx (xVar 0) (xC (.int 1))) xNil))) (gT [(gN 2), (gN 3)]) (xIf (xTst (xOp fEq (xVar 2) (xVar 1))) (xRet (xVar 3)) xNext))
    (xRet (xC .non)))))))
def F_l_after (A : Ad) : XF := runF 4 2 0 (b_l_after A)
theorem nF_l_after (A : Ad) : ∀ es g, es.length ≠ 2 → F_l_after A es g = .fail := runF_no
def b_l_told (A : Ad)  : XS :=
  (xTry (xSeqB (xIfB (xTst (xOp fEq (xVar 0) (xC (.int 0)))) (xRetS (F_kind_after A) (xCons (xVar 1) (xCons (xVar 4) (xCons (xVar 5) xNil)))) xNext)
    (xSeqB (xIfB (xTst (xOp fEq (xVar 0) (xC (.int 1)))) (xRetKS 1 (F_kind_at A) (xCons (xVar 3) xNil) (xCons (xVar 1) (xCons (xVar 2) xNil))) xNext)
    (xRetKS 1 (F_crossed A) (xCons (xVar 3) xNil) (xCons (xVar 1) (xCons (xVar 2) xNil))))) (h_told A))
def F_l_told (A : Ad) : XF := runF 7 6 0 (b_l_told A)
theorem nF_l_told (A : Ad) : ∀ es g, es.length ≠ 6 → F_l_told A es g = .fail := runF_no
def b_l_is (A : Ad)  : XS :=
  (xRet (xIfE (xTst (xVar 1)) (xOp fIsB (xVar 0) (xC (.bl true))) (xOp fIsB (xVar 0) (xC (.bl false)))))
def F_l_is (A : Ad) : XF := runF 2 2 0 (b_l_is A)
theorem nF_l_is (A : Ad) : ∀ es g, es.length ≠ 2 → F_l_is A es g = .fail := runF_no
def b_l_unknown (A : Ad)  : XS :=
  (xSeq (xFor (iL (xFrz (mLst (xCons (xTup (xCons (xC (.str "u")) (xCons (xTup xNil) xNil))) (xCons (xTup (xCons (xC (.str "u")) (xCons (xVar 2) xNil))) (xCons (xTup (xCons (xC (.str "u")) (xCons (xOp fAdd (xVar 2) (xTup (xCons (xC (.str "none")) xNil))) xNil))) (xCons (xTup (xCons (xC (.str "u")) (xCons (xTup (xCons (xC (.str "^")) (xCons (xC (.int 7)) xNil))) xNil))) xNil))))))) (gN 3) (xFor (iL (xFrz (mLst (xCons (xC (.int 1)) (xCons (xC (.int 2)) xNil))))) (gN 4) (xIf (xTst (xOp fNe (xCallN (F_l_told A) (xCons (xVar 4) (xCons (xVar 0) (xCons (xVar 1) (xCons (xVar 3) (xCons (xC .non) (xCons (xC .non) xNil))))))) (xC (.str "variable")))) (xRet (xC (.bl false))) xNext)))
    (xRet (xC (.bl true))))
def F_l_unknown (A : Ad) : XF := runF 5 3 0 (b_l_unknown A)
theorem nF_l_unknown (A : Ad) : ∀ es g, es.length ≠ 3 → F_l_unknown A es g = .fail := runF_no
def b_law (A : Ad)  : XS :=
  (xSeq (xOwn 1 (mCallN (F_l_tape A) (xCons (xVar 0) xNil)))
    (xSeq (xAsg 2 (xCallN (F_l_records A) (xCons (xVar 1) xNil)))
    (xSeq (xAsg 3 (xCallN (F_l_kind A 12) (xCons (xVar 1) (xCons (xC (.int 6)) (xCons (xC (.bl false)) xNil)))))
    (xSeq (xAsg 4 (xDct ["v", "w"] [(xVar 3), (xTup (xCons (xC (.str "int")) xNil))]))
    (xSeq (xOwn 5 (mLst xNil))
    (xSeq (xAsg 6 (xC .non))
    (xSeq (xAsg 7 (xVar 3))
    (xSeq (xFor (iR1 (xOp fIx (xFrz (mLst (xCons (xCallN (F_l_next A) (xCons (xVar 1) (xCons (xC (.int 6)) xNil))) (xCons (xOp fAdd (xC (.int 6)) (xCallN (F_l_next A) (xCons (xVar 1) (xCons (xC (.int 7)) xNil)))) xNil)))) (xCallN (F_l_next A) (xCons (xVar 1) (xCons (xC (.int 2)) xNil))))) (gN 8) (xIf (xTst (xOp fIsNN (xVar 7) (xC .non))) (xSeq (xAsg 9 (xCallN (F_l_step A) (xCons (xVar 1) (xCons (xVar 7) xNil))))
    (xSeq (xAsg 10 (xCallN (F_l_after A) (xCons (xVar 7) (xCons (xVar 9) xNil))))
    (xSeq (xIf (xTst (xOp fNe (xCallN (F_l_told A) (xCons (xC (.int 0)) (xCons (xVar 2) (xCons (xVar 4) (xCons (xC .non) (xCons (xVar 7) (xCons (xVar 9) xNil))))))) (xIfE (xTst (xOp fIsNo (xVar 10) (xC .non))) (xC (.str "step")) (xVar 10)))) (xRet (xC (.bl false))) xNext)
    (xSeq (xIf (xAnd (xTst (xOp fEq (xVar 9) (xC (.str "^")))) (xAnd (xTst (xOp (fIn false) (xOp fIx (xVar 7) (xC (.int 0))) (xFrz (mLst (xCons (xC (.str "shared")) (xCons (xC (.str "exclusive")) xNil)))))) (xTst (xOp fIsNo (xVar 6) (xC .non))))) (xAsg 6 (xTup (xCons (xC (.str "v")) (xCons (xB fTupOf (xVar 5)) xNil)))) xNext)
    (xSeq (xDrop (xMut fApp (xVar 5) (xCons (xVar 9) xNil)))
    (xAsg 7 (xVar 10))))))) xNext))
    (xSeq (xAsg 11 (xTup (xCons (xC (.str "v")) (xCons (xB fTupOf (xVar 5)) xNil))))
    (xSeq (xIf (xTst (xOp fNe (xCallN (F_l_told A) (xCons (xC (.int 1)) (xCons (xVar 2) (xCons (xVar 4) (xCons (xVar 11) (xCons (xC .non) (xCons (xC .non) xNil))))))) (xIfE (xTst (xOp fIsNo (xVar 7) (xC .non))) (xC (.str "step")) (xVar 7)))) (xRet (xC (.bl false))) xNext)
    (xSeq (xIf (xTst (xOp fNe (xCallN (F_l_told A) (xCons (xC (.int 2)) (xCons (xVar 2) (xCons (xVar 4) (xCons (xVar 11) (xCons (xC .non) (xCons (xC .non) xNil))))))) (xIfE (xTst (xOp fIsNo (xVar 7) (xC .non))) (xC (.str "step")) (xVar 6)))) (xRet (xC (.bl false))) xNext)
    (xSeq (xIf (xNot (xTst (xCallN (F_l_unknown A) (xCons (xVar 2) (xCons (xVar 4) (xCons (xB fTupOf (xFrz (mSl (xVar 5) xNoPart (xPart (xC (.int 11)))))) xNil)))))) (xRet (xC (.bl false))) xNext)
    (xSeq (xAsg 12 (xTup (xCons (xOp fIx (xFrz (mLst (xCons (xC (.str "v")) (xCons (xC (.str "v")) (xCons (xC (.str "w")) xNil))))) (xCallN (F_l_next A) (xCons (xVar 1) (xCons (xC (.int 3)) xNil)))) (xCons (xB fTupOf (xFrz (mSl (xVar 5) xNoPart (xPart (xCallN (F_l_next A) (xCons (xVar 1) (xCons (xC (.int 6)) xNil))))))) xNil))))
    (xSeq (xIf (xTst (xOp fEq (xCallN (F_l_next A) (xCons (xVar 1) (xCons (xC (.int 3)) xNil))) (xC (.int 0)))) (xAsg 12 (xTup (xCons (xOp fIx (xVar 12) (xC (.int 0))) (xCons (xOp fAdd (xOp fIx (xVar 12) (xC (.int 1))) (xTup (xCons (xC (.str "n")) xNil))) xNil)))) xNext)
    (xSeq (xAsg 13 (xAndV (xOp fEq (xOp fIx (xVar 12) (xC (.int 0))) (xC (.str "v"))) (xOp fEq (xOp fIx (xVar 11) (xC (.int 1))) (xSl (xOp fIx (xVar 12) (xC (.int 1))) xNoPart (xPart (xB fLen (xOp fIx (xVar 11) (xC (.int 1)))))))))
    (xSeq (xAsg 14 (xAndV (xOp fEq (xOp fIx (xVar 12) (xC (.int 0))) (xC (.str "v"))) (xOp fEq (xOp fIx (xVar 12) (xC (.int 1))) (xSl (xOp fIx (xVar 11) (xC (.int 1))) xNoPart (xPart (xB fLen (xOp fIx (xVar 12) (xC (.int 1)))))))))
    (xSeq (xIf (xOr (xNot (xTst (xCallN (F_l_is A) (xCons (xCallN (F_is_prefix A) (xCons (xVar 11) (xCons (xVar 12) xNil))) (xCons (xVar 13) xNil))))) (xNot (xTst (xCallN (F_l_is A) (xCons (xCallN (F_is_prefix A) (xCons (xVar 12) (xCons (xVar 11) xNil))) (xCons (xVar 14) xNil)))))) (xRet (xC (.bl false))) xNext)
    (xRet (xAndV (xCallN (F_l_is A) (xCons (xCallN (F_overlap A) (xCons (xVar 11) (xCons (xVar 12) xNil))) (xCons (xOrV (xVar 13) (xVar 14)) xNil))) (xOp fEqDct (xVar 4) (xDct ["v", "w"] [(xVar 3), (xTup (xCons (xC (.str "int")) xNil))])))))))))))))))))))))
def F_law (A : Ad) : XF := runF 15 1 0 (b_law A)
theorem nF_law (A : Ad) : ∀ es g, es.length ≠ 1 → F_law A es g = .fail := runF_no

def t_fields_of (K : PySem.W.Frag) (A : Ad) : TS :=
  (tSeqJ (tFor (iTup K (tVar 0)) (gName 2) (tIfS (tTest (tOp (rEqG K) (tOp (rIx K) (tVar 2) (tC (.int 0))) (tVar 1))) (tRet (tOp (rIx K) (tVar 2) (tC (.int 1)))) tNext))
    (tRet (tC .non)))
def t_kind_after (K : PySem.W.Frag) (A : Ad) (E : XK) : TS :=
  (tSeqJ (tIfS (tTest (tOp (rEqG K) (tVar 2) (tC (.str "?")))) (tIfS (tTest (tOp (rEqG K) (tOp (rIx K) (tVar 1) (tC (.int 0))) (tC (.str "maybe")))) (tRet (tOp (rIx K) (tVar 1) (tC (.int 1)))) tNext) (tIfS (tTest (tOp (rEqG K) (tVar 2) (tC (.str "^")))) (tIfS (tTest (tOp (rIn K false) (tOp (rIx K) (tVar 1) (tC (.int 0))) (tTupK K (tCons (tC (.str "box")) (tCons (tC (.str "shared")) (tCons (tC (.str "exclusive")) tNil)))))) (tRet (tOp (rIx K) (tVar 1) (tC (.int 1)))) tNext) (tIfS (tTest (tOp (rEqG K) (tOp (rIx K) (tVar 1) (tC (.int 0))) (tC (.str "tuple")))) (tIfS (tAnd (tB (tCB (rIsi K) (tCons (tVar 2) (tCons (tC (.ty "int")) tNil)))) (tTest (tChain rLeI rLtI (tC (.int 0)) (tVar 2) (tCB (Go.rLen K) (tCons (tOp (rIx K) (tVar 1) (tC (.int 1))) tNil))))) (tRet (tOp (rIx K) (tOp (rIx K) (tVar 1) (tC (.int 1))) (tVar 2))) tNext) (tIfS (tTest (tOp (rEqG K) (tOp (rIx K) (tVar 1) (tC (.int 0))) (tC (.str "record")))) (tFor (iTup K (tCall (sp_P K 2 (F_fields_of A)) [] E0 (tCons (tVar 0) (tCons (tOp (rIx K) (tVar 1) (tC (.int 1))) tNil)))) (gTup K 2 (gCons (gName 3) (gCons (gName 4) gNil))) (tIfS (tTest (tOp (rEqG K) (tVar 3) (tVar 2))) (tRet (tVar 4)) tNext)) tNext))))
    (tRaiseC A.c_NoSuchStep E))
def t_is_prefix (K : PySem.W.Frag) (A : Ad) : TS :=
  (tSeqJ (tAsg (tCB (Go.rLen K) (tCons (tOp (rIx K) (tVar 0) (tC (.int 1))) tNil)) (gName 2))
    (tRet (tAndV (tOp (rEqG K) (tOp (rIx K) (tVar 0) (tC (.int 0))) (tOp (rIx K) (tVar 1) (tC (.int 0)))) (tOp (rEqG K) (tOp (rIx K) (tVar 0) (tC (.int 1))) (tSl (rSlG K) (tOp (rIx K) (tVar 1) (tC (.int 1))) tNoPart (tPart (tVar 2)))))))
def t_overlap (K : PySem.W.Frag) (A : Ad) : TS :=
  (tRet (tOrV (tCall (sp_P K 2 (F_is_prefix A)) [] E0 (tCons (tVar 0) (tCons (tVar 1) tNil))) (tCall (sp_P K 2 (F_is_prefix A)) [] E0 (tCons (tVar 1) (tCons (tVar 0) tNil)))))
def t_kinds_along (K : PySem.W.Frag) (A : Ad) (E : XK) : TS :=
  (tSeqJ (tIfS (tB (tDNotIn (tOp (rIx K) (tVar 0) (tC (.int 0))) (tVar 2))) (tRaiseC A.c_NoSuchVariable E) tNext)
    (tSeqJ (tAsg (tDGet (tVar 2) (tOp (rIx K) (tVar 0) (tC (.int 0)))) (gName 3))
    (tSeqJ (tAsg (tLst (tCons (tVar 3) tNil)) (gName 4))
    (tSeqJ (tFor (iTup K (tOp (rIx K) (tVar 0) (tC (.int 1)))) (gName 5) (tSeqJ (tAsg (tCall (sp_P K 3 (F_kind_after A)) [] E (tCons (tVar 1) (tCons (tVar 3) (tCons (tVar 5) tNil)))) (gName 3))
    (tDrop (tBM K "list" rAppend (tVar 4) (tCons (tVar 3) tNil)))))
    (tRet (tVar 4))))))
def t_kind_at (K : PySem.W.Frag) (A : Ad) (E : XK) : TS :=
  (tRet (tOp (rIx K) (tCallK (sp_P K 3 (F_kinds_along A)) (gK 1) E (tCons (tVar 0) tNil) (tCons (tVar 1) (tCons (tVar 2) tNil))) (tUn (rU fun i => .int (-i)) (tC (.int 1)))))
def t_crossed (K : PySem.W.Frag) (A : Ad) (E : XK) : TS :=
  (tSeqJ (tAsg (tCallK (sp_P K 3 (F_kinds_along A)) (gK 1) E (tCons (tVar 0) tNil) (tCons (tVar 1) (tCons (tVar 2) tNil))) (gName 3))
    (tSeqJ (tFor (iEnumT K (tCons (tOp (rIx K) (tVar 0) (tC (.int 1))) tNil)) (gTup K 2 (gCons (gName 4) (gCons (gName 5) gNil))) (tIfS (tAnd (tTest (tOp (rEqG K) (tVar 5) (tC (.str "^")))) (tTest (tOp (rIn K false) (tOp (rIx K) (tOp (rIx K) (tVar 3) (tVar 4)) (tC (.int 0))) (tConst K c_BORROWS)))) (tRet (tTupK K (tCons (tOp (rIx K) (tVar 0) (tC (.int 0))) (tCons (tSl (rSlG K) (tOp (rIx K) (tVar 0) (tC (.int 1))) tNoPart (tPart (tVar 4))) tNil)))) tNext))
    (tRet (tC .non))))
def t_l_tape (K : PySem.W.Frag) (A : Ad) : TS :=
  (tSeqJ (tAsg (tLst tNil) (gName 1))
    (tSeqJ (tAsg (tC (.int 1)) (gName 2))
    (tSeqJ (tFor (iList K (tSl (rSlG K) (tVar 0) tNoPart (tPart (tC (.int 63))))) (gName 3) (tSeqJ (tAsg (tCB rAbs (tCons (tCB rInt1 (tCons (tVar 3) tNil)) tNil)) (gName 4))
    (tSeqJ (tAsg (tOp (rAddG K) (tVar 2) (tVar 4)) (gName 2))
    (tFor (iRng1 (tCons (tC (.int 24)) tNil)) (gName 5) (tSeqJ (tDrop (tBM K "list" rAppend (tVar 1) (tCons (tOp rModI (tCB rInt1 (tCons (tVar 4) tNil)) (tC (.int 60))) tNil)))
    (tSeqJ (tAsg (tOp rDivI (tVar 4) (tC (.int 60))) (gName 4))
    (tIfS (tTest (tOp (rEqG K) (tVar 4) (tC (.int 0)))) tBreak tNext)))))))
    (tRet (tLst (tCons (tC (.int 0)) (tCons (tVar 1) (tCons (tOp rModI (tCB rInt1 (tCons (tVar 2) tNil)) (tC (.int 1000003))) tNil))))))))
def t_l_next (K : PySem.W.Frag) (A : Ad) : TS :=
  (tSeqJ (tAsg (tOp (rIx K) (tVar 0) (tC (.int 0))) (gName 2))
    (tSeqJ (tAsg (tOp (rAddG K) (tVar 2) (tC (.int 1))) (gSub (tVar 0) (tC (.int 0)) rSetL))
    (tSeqJ (tIfS (tTest (tOp rLtI (tVar 2) (tCB (Go.rLen K) (tCons (tOp (rIx K) (tVar 0) (tC (.int 1))) tNil)))) (tRet (tOp rModI (tCB rInt1 (tCons (tOp (rIx K) (tOp (rIx K) (tVar 0) (tC (.int 1))) (tVar 2)) tNil)) (tVar 1))) tNext)
    (tRet (tOp rModI (tOp rDivI (tOp rModI (tCB rInt1 (tCons (tOp (rAddG K) (tOp rMulI (tOp (rAddG K) (tVar 2) (tC (.int 1))) (tC (.int 48271))) (tOp rMulI (tOp (rIx K) (tVar 0) (tC (.int 2))) (tC (.int 69621)))) tNil)) (tC (.int 2147483647))) (tC (.int 11))) (tVar 1))))))
def t_l_fields (K : PySem.W.Frag) (A : Ad) : TS :=
  (tSeqJ (tIfS (tTest (tOp (rEqG K) (tVar 0) (tC (.str "Node")))) (tRet (tTupK K (tCons (tTupK K (tCons (tC (.str "n")) (tCons (tTupK K (tCons (tC (.str "int")) tNil)) tNil))) (tCons (tTupK K (tCons (tC (.str "next")) (tCons (tTupK K (tCons (tC (.str "maybe")) (tCons (tTupK K (tCons (tC (.str "box")) (tCons (tTupK K (tCons (tC (.str "record")) (tCons (tC (.str "Node")) tNil))) tNil))) tNil))) tNil))) tNil)))) tNext)
    (tSeqJ (tIfS (tTest (tOp (rEqG K) (tVar 0) (tC (.str "Pair")))) (tRet (tTupK K (tCons (tTupK K (tCons (tC (.str "n")) (tCons (tTupK K (tCons (tC (.str "bool")) tNil)) tNil))) (tCons (tTupK K (tCons (tC (.str "b")) (tCons (tTupK K (tCons (tC (.str "maybe")) (tCons (tTupK K (tCons (tC (.str "box")) (tCons (tTupK K (tCons (tC (.str "record")) (tCons (tC (.str "Wide")) tNil))) tNil))) tNil))) tNil))) tNil)))) tNext)
    (tRet (tTupK K (tCons (tTupK K (tCons (tC (.str "a")) (tCons (tTupK K (tCons (tC (.str "int")) tNil)) tNil))) (tCons (tTupK K (tCons (tC (.str "next")) (tCons (tTupK K (tCons (tC (.str "record")) (tCons (tC (.str "Pair")) tNil))) tNil))) (tCons (tTupK K (tCons (tC (.str "n")) (tCons (tTupK K (tCons (tC (.str "tuple")) (tCons (tTupK K (tCons (tTupK K (tCons (tC (.str "int")) tNil)) (tCons (tTupK K (tCons (tC (.str "bool")) tNil)) tNil))) tNil))) tNil))) tNil)))))))
def t_l_records (K : PySem.W.Frag) (A : Ad) : TS :=
  (tSeqJ (tAsg (tLst (tCons (tC (.str "Node")) (tCons (tC (.str "Pair")) (tCons (tC (.str "Wide")) tNil)))) (gName 1))
    (tSeqJ (tAsg (tCall (sp_P K 2 (F_l_next A)) [] E0 (tCons (tVar 0) (tCons (tC (.int 3)) tNil))) (gName 2))
    (tSeqJ (tAsg (tOp (rAddG K) (tSl (rSlG K) (tVar 1) (tPart (tVar 2)) tNoPart) (tSl (rSlG K) (tVar 1) tNoPart (tPart (tVar 2)))) (gName 1))
    (tSeqJ (tIfS (tTest (tOp (rEqG K) (tCall (sp_P K 2 (F_l_next A)) [] E0 (tCons (tVar 0) (tCons (tC (.int 2)) tNil))) (tC (.int 0)))) (tAsg (tRevL K (tVar 1)) (gName 1)) tNext)
    (tRet (tCB (rTupOf K) (tCons (tLc (iList K (tVar 1)) (gName 3) tYes (tTupK K (tCons (tVar 3) (tCons (tCall (sp_P K 1 (F_l_fields A)) [] E0 (tCons (tVar 3) tNil)) tNil))) [3]) tNil)))))))
def t_l_cells (K : PySem.W.Frag) (A : Ad) (n : Nat) : TS :=
  (tSeqJ (tIfS (tTest (tOp (rEqG K) (tOp (rIx K) (tVar 0) (tC (.int 0))) (tC (.str "maybe")))) (tRet (tOp (rAddG K) (tC (.int 1)) (tCall (sp_P K 1 (F_l_cells A n)) [] E0 (tCons (tOp (rIx K) (tVar 0) (tC (.int 1))) tNil)))) tNext)
    (tSeqJ (tIfS (tTest (tOp (rEqG K) (tOp (rIx K) (tVar 0) (tC (.int 0))) (tC (.str "tuple")))) (tRet (tCB (rSum K) (tCons (tLc (iTup K (tOp (rIx K) (tVar 0) (tC (.int 1)))) (gName 1) tYes (tCall (sp_P K 1 (F_l_cells A n)) [] E0 (tCons (tVar 1) tNil)) [1]) tNil))) tNext)
    (tSeqJ (tIfS (tTest (tOp (rEqG K) (tOp (rIx K) (tVar 0) (tC (.int 0))) (tC (.str "record")))) (tRet (tIf (tTest (tOp (rEqG K) (tOp (rIx K) (tVar 0) (tC (.int 1))) (tC (.str "Wide")))) (tC (.int 6)) (tC (.int 3)))) tNext)
    (tRet (tC (.int 1))))))
def t_l_fitting (K : PySem.W.Frag) (A : Ad) : TS :=
  (tSeqJ (tAsg (tLst tNil) (gName 2))
    (tSeqJ (tAsg (tC (.int 0)) (gName 3))
    (tSeqJ (tFor (iRng1 (tCons (tCB (Go.rLen K) (tCons (tVar 0) tNil)) tNil)) (gName 4) (tSeqJ (tAsg (tOp (rIx K) (tVar 0) (tVar 4)) (gName 5))
    (tSeqJ (tIfS (tTest (tOp rGtI (tOp rSubI (tOp rSubI (tOp (rAddG K) (tOp (rAddG K) (tVar 3) (tCall (sp_P K 1 (F_l_cells A 12)) [] E0 (tCons (tVar 5) tNil))) (tCB (Go.rLen K) (tCons (tVar 0) tNil))) (tC (.int 1))) (tVar 4)) (tVar 1))) (tAsg (tTupK K (tCons (tC (.str "int")) tNil)) (gName 5)) tNext)
    (tSeqJ (tAsg (tOp (rAddG K) (tVar 3) (tCall (sp_P K 1 (F_l_cells A 12)) [] E0 (tCons (tVar 5) tNil))) (gName 3))
    (tDrop (tBM K "list" rAppend (tVar 2) (tCons (tVar 5) tNil)))))))
    (tRet (tCB (rTupOf K) (tCons (tVar 2) tNil))))))
def t_l_kind (K : PySem.W.Frag) (A : Ad) (n : Nat) : TS :=
  (tSeqJ (tAsg (tCall (sp_P K 2 (F_l_next A)) [] E0 (tCons (tVar 0) (tCons (tC (.int 11)) tNil))) (gName 3))
    (tSeqJ (tIfS (tOr (tTest (tOp rLeI (tVar 1) (tC (.int 1)))) (tTest (tOp rLtI (tVar 3) (tC (.int 2))))) (tSeqJ (tAsg (tOp (rIx K) (tLst (tCons (tC (.str "Node")) (tCons (tC (.str "Pair")) (tCons (tC (.str "Wide")) tNil)))) (tCall (sp_P K 2 (F_l_next A)) [] E0 (tCons (tVar 0) (tCons (tC (.int 3)) tNil)))) (gName 4))
    (tRet (tOp (rIx K) (tLst (tCons (tTupK K (tCons (tC (.str "int")) tNil)) (tCons (tTupK K (tCons (tC (.str "bool")) tNil)) (tCons (tTupK K (tCons (tC (.str "unit")) tNil)) (tCons (tTupK K (tCons (tC (.str "record")) (tCons (tVar 4) tNil))) (tCons (tTupK K (tCons (tC (.str "record")) (tCons (tVar 4) tNil))) tNil)))))) (tCall (sp_P K 2 (F_l_next A)) [] E0 (tCons (tVar 0) (tCons (tC (.int 5)) tNil)))))) tNext)
    (tSeqJ (tIfS (tTest (tOp rLtI (tVar 3) (tC (.int 4)))) (tRet (tTupK K (tCons (tC (.str "box")) (tCons (tCall (sp_P K 3 (F_l_kind A n)) [] E0 (tCons (tVar 0) (tCons (tOp rSubI (tVar 1) (tC (.int 1))) (tCons (tC (.bl true)) tNil)))) tNil)))) tNext)
    (tSeqJ (tIfS (tTest (tOp rLtI (tVar 3) (tC (.int 6)))) (tRet (tOp (rAddG K) (tTupK K (tCons (tC (.str "maybe")) tNil)) (tCall (sp_P K 2 (F_l_fitting A)) [] E0 (tCons (tLst (tCons (tCall (sp_P K 3 (F_l_kind A n)) [] E0 (tCons (tVar 0) (tCons (tOp rSubI (tVar 1) (tC (.int 1))) (tCons (tVar 2) tNil)))) tNil)) (tCons (tC (.int 59)) tNil))))) tNext)
    (tSeqJ (tIfS (tOr (tTest (tOp (rEqG K) (tVar 3) (tC (.int 6)))) (tB (tVar 2))) (tSeqJ (tAsg (tOp (rAddG K) (tC (.int 2)) (tCall (sp_P K 2 (F_l_next A)) [] E0 (tCons (tVar 0) (tCons (tC (.int 5)) tNil)))) (gName 5))
    (tRet (tTupK K (tCons (tC (.str "tuple")) (tCons (tCall (sp_P K 2 (F_l_fitting A)) [] E0 (tCons (tLc (iRng1 (tCons (tVar 5) tNil)) (gName 6) tYes (tCall (sp_P K 3 (F_l_kind A n)) [] E0 (tCons (tVar 0) (tCons (tOp rSubI (tVar 1) (tC (.int 1))) (tCons (tVar 2) tNil)))) [6]) (tCons (tC (.int 60)) tNil))) tNil))))) tNext)
    (tRet (tTupK K (tCons (tOp (rIx K) (tLst (tCons (tC (.str "shared")) (tCons (tC (.str "exclusive")) (tCons (tC (.str "task")) (tCons (tC (.str "exclusive")) tNil))))) (tOp rSubI (tVar 3) (tC (.int 7)))) (tCons (tCall (sp_P K 3 (F_l_kind A n)) [] E0 (tCons (tVar 0) (tCons (tOp rSubI (tVar 1) (tC (.int 1))) (tCons (tC (.bl true)) tNil)))) tNil)))))))))
def t_l_step (K : PySem.W.Frag) (A : Ad) : TS :=
  (tSeqJ (tIfS (tTest (tOp (rEqG K) (tCall (sp_P K 2 (F_l_next A)) [] E0 (tCons (tVar 0) (tCons (tC (.int 12)) tNil))) (tC (.int 0)))) (tRet (tOp (rIx K) (tLst (tCons (tC (.int 0)) (tCons (tC (.int 1)) (tCons (tC (.int 2)) (tCons (tC (.int 3)) (tCons (tC (.int 5)) (tCons (tC (.int 6)) (tCons (tOp rSubI (tC (.int 0)) (tC (.int 1))) (tCons (tC (.str "?")) (tCons (tC (.str "^")) (tCons (tC (.str "n")) (tCons (tC (.str "next")) (tCons (tC (.str "a")) (tCons (tC (.str "b")) (tCons (tC (.str "none")) tNil))))))))))))))) (tCall (sp_P K 2 (F_l_next A)) [] E0 (tCons (tVar 0) (tCons (tC (.int 14)) tNil))))) tNext)
    (tSeqJ (tIfS (tTest (tOp (rEqG K) (tOp (rIx K) (tVar 1) (tC (.int 0))) (tC (.str "tuple")))) (tRet (tOp (rIx K) (tLst (tCons (tCall (sp_P K 2 (F_l_next A)) [] E0 (tCons (tVar 0) (tCons (tCB (Go.rLen K) (tCons (tOp (rIx K) (tVar 1) (tC (.int 1))) tNil)) tNil))) (tCons (tOp rSubI (tCB (Go.rLen K) (tCons (tOp (rIx K) (tVar 1) (tC (.int 1))) tNil)) (tC (.int 1))) tNil))) (tCall (sp_P K 2 (F_l_next A)) [] E0 (tCons (tVar 0) (tCons (tC (.int 2)) tNil))))) tNext)
    (tSeqJ (tIfS (tTest (tOp (rEqG K) (tOp (rIx K) (tVar 1) (tC (.int 0))) (tC (.str "record")))) (tSeqJ (tAsg (tCall (sp_P K 1 (F_l_fields A)) [] E0 (tCons (tOp (rIx K) (tVar 1) (tC (.int 1))) tNil)) (gName 2))
    (tRet (tOp (rIx K) (tOp (rIx K) (tVar 2) (tCall (sp_P K 2 (F_l_next A)) [] E0 (tCons (tVar 0) (tCons (tCB (Go.rLen K) (tCons (tVar 2) tNil)) tNil)))) (tC (.int 0))))) tNext)
    (tRet (tIf (tTest (tOp (rEqG K) (tOp (rIx K) (tVar 1) (tC (.int 0))) (tC (.str "maybe")))) (tC (.str "?")) (tC (.str "^")))))))
def t_l_after (K : PySem.W.Frag) (A : Ad) : TS :=
  (tSeqJ (tIfS (tTest (tOp (rEqG K) (tVar 1) (tC (.str "?")))) (tRet (tIf (tTest (tOp (rEqG K) (tOp (rIx K) (tVar 0) (tC (.int 0))) (tC (.str "maybe")))) (tOp (rIx K) (tVar 0) (tC (.int 1))) (tC .non))) tNext)
    (tSeqJ (tIfS (tTest (tOp (rEqG K) (tVar 1) (tC (.str "^")))) (tRet (tIf (tTest (tOp (rIn K false) (tOp (rIx K) (tVar 0) (tC (.int 0))) (tLst (tCons (tC (.str "box")) (tCons (tC (.str "shared")) (tCons (tC (.str "exclusive")) tNil)))))) (tOp (rIx K) (tVar 0) (tC (.int 1))) (tC .non))) tNext)
    (tSeqJ (tIfS (tB (tCB (rIsi K) (tCons (tVar 1) (tCons (tC (.ty "int")) tNil)))) (tRet (tIf (tAnd (tTest (tOp (rEqG K) (tOp (rIx K) (tVar 0) (tC (.int 0))) (tC (.str "tuple")))) (tTest (tChain rLeI rLtI (tC (.int 0)) (tVar 1) (tCB (Go.rLen K) (tCons (tOp (rIx K) (tVar 0) (tC (.int 1))) tNil))))) (tOp (rIx K) (tOp (rIx K) (tVar 0) (tC (.int 1))) (tVar 1)) (tC .non))) tNext)
    (tSeqJ (tIfS (tTest (tOp (rNeG K) (tOp (rIx K) (tVar 0) (tC (.int 0))) (tC (.str "record")))) (tRet (tC .non)) tNext)
    (tSeqJ (tFor (iTup K (tCall (sp_P K 1 (F_l_fields A)) [] E0 (tCons (tOp (rIx K) (tVar 0) (tC (.int 1))) tNil))) (gTup K 2 (gCons (gName 2) (gCons (gName 3) gNil))) (tIfS (tTest (tOp (rEqG K) (tVar 2) (tVar 1))) (tRet (tVar 3)) tNext))
    (tRet (tC .non)))))))
def t_l_caught (K : PySem.W.Frag) (A : Ad) (a : Addr) (cls : Value) (d : Option Addr) : TS :=
  (tSeqJ (tIfS (tOr (tB (tCB (rIsX K cls d a) (tCons (tVar 0) (tCons (tC (.ref A.c_KindProblem)) tNil)))) (tB (tCB (rIsX K cls d a) (tCons (tVar 0) (tCons (tC (.ref A.c_NoSuchFunction)) tNil))))) (tRet (tC (.str "other"))) tNext)
    (tSeqJ (tIfS (tOr (tB (tCB (rIsX K cls d a) (tCons (tVar 0) (tCons (tC (.ref A.c_NotAllocated)) tNil)))) (tB (tCB (rIsX K cls d a) (tCons (tVar 0) (tCons (tC (.ref A.c_Refused)) tNil))))) (tRet (tC (.str "other"))) tNext)
    (tSeqJ (tIfS (tB (tCB (rIsX K cls d a) (tCons (tVar 0) (tCons (tC (.ref A.c_NoSuchStep)) tNil)))) (tRet (tIf (tB (tCB (rIsX K cls d a) (tCons (tVar 0) (tCons (tC (.ref A.c_NoSuchVariable)) tNil)))) (tC (.str "other")) (tC (.str "step")))) tNext)
    (tRet (tIf (tB (tCB (rIsX K cls d a) (tCons (tVar 0) (tCons (tC (.ref A.c_NoSuchVariable)) tNil)))) (tC (.str "variable")) (tC (.str "other")))))))
def t_l_told (K : PySem.W.Frag) (A : Ad) : TS :=
  (tTryAs K (.ref A.c_ForkError) 6 (fun W => (tSeqJ (tIfS (tTest (tOp (rEqG K) (tVar 0) (tC (.int 0)))) (tRet (tCallS (sp_P K 3 (F_kind_after A)) (WE W) (tCons (tVar 1) (tCons (tVar 4) (tCons (tVar 5) tNil))))) tNext)
    (tSeqJ (tIfS (tTest (tOp (rEqG K) (tVar 0) (tC (.int 1)))) (tRet (tCallKS (sp_P K 3 (F_kind_at A)) (gK 1) (WE W) (tCons (tVar 3) tNil) (tCons (tVar 1) (tCons (tVar 2) tNil)))) tNext)
    (tRet (tCallKS (sp_P K 3 (F_crossed A)) (gK 1) (WE W) (tCons (tVar 3) tNil) (tCons (tVar 1) (tCons (tVar 2) tNil))))))) (fun a cls d => (tRet (tCallP (sp_l_caught K A) a cls d (tCons (tVar 6) tNil)))))
def t_l_is (K : PySem.W.Frag) (A : Ad) : TS :=
  (tRet (tIf (tB (tVar 1)) (tOp rIsB (tVar 0) (tC (.bl true))) (tOp rIsB (tVar 0) (tC (.bl false)))))
def t_l_unknown (K : PySem.W.Frag) (A : Ad) : TS :=
  (tSeqJ (tFor (iList K (tLst (tCons (tTupK K (tCons (tC (.str "u")) (tCons (tTupK K tNil) tNil))) (tCons (tTupK K (tCons (tC (.str "u")) (tCons (tVar 2) tNil))) (tCons (tTupK K (tCons (tC (.str "u")) (tCons (tOp (rAddG K) (tVar 2) (tTupK K (tCons (tC (.str "none")) tNil))) tNil))) (tCons (tTupK K (tCons (tC (.str "u")) (tCons (tTupK K (tCons (tC (.str "^")) (tCons (tC (.int 7)) tNil))) tNil))) tNil)))))) (gName 3) (tFor (iList K (tLst (tCons (tC (.int 1)) (tCons (tC (.int 2)) tNil)))) (gName 4) (tIfS (tTest (tOp (rNeG K) (tCall (sp_P K 6 (F_l_told A)) [] E0 (tCons (tVar 4) (tCons (tVar 0) (tCons (tVar 1) (tCons (tVar 3) (tCons (tC .non) (tCons (tC .non) tNil))))))) (tC (.str "variable")))) (tRet (tC (.bl false))) tNext)))
    (tRet (tC (.bl true))))
def t_law (K : PySem.W.Frag) (A : Ad) : TS :=
  (tSeqJ (tAsg (tCall (sp_N K 1 (F_l_tape A)) [] E0 (tCons (tVar 0) tNil)) (gName 1))
    (tSeqJ (tAsg (tCall (sp_P K 1 (F_l_records A)) [] E0 (tCons (tVar 1) tNil)) (gName 2))
    (tSeqJ (tAsg (tCall (sp_P K 3 (F_l_kind A 12)) [] E0 (tCons (tVar 1) (tCons (tC (.int 6)) (tCons (tC (.bl false)) tNil)))) (gName 3))
    (tSeqJ (tAsg (tDisp [(tC (.str "v"), (tVar 3)), (tC (.str "w"), (tTupK K (tCons (tC (.str "int")) tNil)))]) (gName 4))
    (tSeqJ (tAsg (tLst tNil) (gName 5))
    (tSeqJ (tAsg (tC .non) (gName 6))
    (tSeqJ (tAsg (tVar 3) (gName 7))
    (tSeqJ (tFor (iRng1 (tCons (tOp (rIx K) (tLst (tCons (tCall (sp_P K 2 (F_l_next A)) [] E0 (tCons (tVar 1) (tCons (tC (.int 6)) tNil))) (tCons (tOp (rAddG K) (tC (.int 6)) (tCall (sp_P K 2 (F_l_next A)) [] E0 (tCons (tVar 1) (tCons (tC (.int 7)) tNil)))) tNil))) (tCall (sp_P K 2 (F_l_next A)) [] E0 (tCons (tVar 1) (tCons (tC (.int 2)) tNil)))) tNil)) (gName 8) (tIfS (tTest (tOp rIsNN (tVar 7) (tC .non))) (tSeqJ (tAsg (tCall (sp_P K 2 (F_l_step A)) [] E0 (tCons (tVar 1) (tCons (tVar 7) tNil))) (gName 9))
    (tSeqJ (tAsg (tCall (sp_P K 2 (F_l_after A)) [] E0 (tCons (tVar 7) (tCons (tVar 9) tNil))) (gName 10))
    (tSeqJ (tIfS (tTest (tOp (rNeG K) (tCall (sp_P K 6 (F_l_told A)) [] E0 (tCons (tC (.int 0)) (tCons (tVar 2) (tCons (tVar 4) (tCons (tC .non) (tCons (tVar 7) (tCons (tVar 9) tNil))))))) (tIf (tTest (tOp rIsNo (tVar 10) (tC .non))) (tC (.str "step")) (tVar 10)))) (tRet (tC (.bl false))) tNext)
    (tSeqJ (tIfS (tAnd (tTest (tOp (rEqG K) (tVar 9) (tC (.str "^")))) (tAnd (tTest (tOp (rIn K false) (tOp (rIx K) (tVar 7) (tC (.int 0))) (tLst (tCons (tC (.str "shared")) (tCons (tC (.str "exclusive")) tNil))))) (tTest (tOp rIsNo (tVar 6) (tC .non))))) (tAsg (tTupK K (tCons (tC (.str "v")) (tCons (tCB (rTupOf K) (tCons (tVar 5) tNil)) tNil))) (gName 6)) tNext)
    (tSeqJ (tDrop (tBM K "list" rAppend (tVar 5) (tCons (tVar 9) tNil)))
    (tAsg (tVar 10) (gName 7))))))) tNext))
    (tSeqJ (tAsg (tTupK K (tCons (tC (.str "v")) (tCons (tCB (rTupOf K) (tCons (tVar 5) tNil)) tNil))) (gName 11))
    (tSeqJ (tIfS (tTest (tOp (rNeG K) (tCall (sp_P K 6 (F_l_told A)) [] E0 (tCons (tC (.int 1)) (tCons (tVar 2) (tCons (tVar 4) (tCons (tVar 11) (tCons (tC .non) (tCons (tC .non) tNil))))))) (tIf (tTest (tOp rIsNo (tVar 7) (tC .non))) (tC (.str "step")) (tVar 7)))) (tRet (tC (.bl false))) tNext)
    (tSeqJ (tIfS (tTest (tOp (rNeG K) (tCall (sp_P K 6 (F_l_told A)) [] E0 (tCons (tC (.int 2)) (tCons (tVar 2) (tCons (tVar 4) (tCons (tVar 11) (tCons (tC .non) (tCons (tC .non) tNil))))))) (tIf (tTest (tOp rIsNo (tVar 7) (tC .non))) (tC (.str "step")) (tVar 6)))) (tRet (tC (.bl false))) tNext)
    (tSeqJ (tIfS (tNot (tB (tCall (sp_P K 3 (F_l_unknown A)) [] E0 (tCons (tVar 2) (tCons (tVar 4) (tCons (tCB (rTupOf K) (tCons (tSl (rSlG K) (tVar 5) tNoPart (tPart (tC (.int 11)))) tNil)) tNil)))))) (tRet (tC (.bl false))) tNext)
    (tSeqJ (tAsg (tTupK K (tCons (tOp (rIx K) (tLst (tCons (tC (.str "v")) (tCons (tC (.str "v")) (tCons (tC (.str "w")) tNil)))) (tCall (sp_P K 2 (F_l_next A)) [] E0 (tCons (tVar 1) (tCons (tC (.int 3)) tNil)))) (tCons (tCB (rTupOf K) (tCons (tSl (rSlG K) (tVar 5) tNoPart (tPart (tCall (sp_P K 2 (F_l_next A)) [] E0 (tCons (tVar 1) (tCons (tC (.int 6)) tNil))))) tNil)) tNil))) (gName 12))
    (tSeqJ (tIfS (tTest (tOp (rEqG K) (tCall (sp_P K 2 (F_l_next A)) [] E0 (tCons (tVar 1) (tCons (tC (.int 3)) tNil))) (tC (.int 0)))) (tAsg (tTupK K (tCons (tOp (rIx K) (tVar 12) (tC (.int 0))) (tCons (tOp (rAddG K) (tOp (rIx K) (tVar 12) (tC (.int 1))) (tTupK K (tCons (tC (.str "n")) tNil))) tNil))) (gName 12)) tNext)
    (tSeqJ (tAsg (tAndV (tOp (rEqG K) (tOp (rIx K) (tVar 12) (tC (.int 0))) (tC (.str "v"))) (tOp (rEqG K) (tOp (rIx K) (tVar 11) (tC (.int 1))) (tSl (rSlG K) (tOp (rIx K) (tVar 12) (tC (.int 1))) tNoPart (tPart (tCB (Go.rLen K) (tCons (tOp (rIx K) (tVar 11) (tC (.int 1))) tNil)))))) (gName 13))
    (tSeqJ (tAsg (tAndV (tOp (rEqG K) (tOp (rIx K) (tVar 12) (tC (.int 0))) (tC (.str "v"))) (tOp (rEqG K) (tOp (rIx K) (tVar 12) (tC (.int 1))) (tSl (rSlG K) (tOp (rIx K) (tVar 11) (tC (.int 1))) tNoPart (tPart (tCB (Go.rLen K) (tCons (tOp (rIx K) (tVar 12) (tC (.int 1))) tNil)))))) (gName 14))
    (tSeqJ (tIfS (tOr (tNot (tB (tCall (sp_P K 2 (F_l_is A)) [] E0 (tCons (tCall (sp_P K 2 (F_is_prefix A)) [] E0 (tCons (tVar 11) (tCons (tVar 12) tNil))) (tCons (tVar 13) tNil))))) (tNot (tB (tCall (sp_P K 2 (F_l_is A)) [] E0 (tCons (tCall (sp_P K 2 (F_is_prefix A)) [] E0 (tCons (tVar 12) (tCons (tVar 11) tNil))) (tCons (tVar 14) tNil)))))) (tRet (tC (.bl false))) tNext)
    (tRet (tAndV (tCall (sp_P K 2 (F_l_is A)) [] E0 (tCons (tCall (sp_P K 2 (F_overlap A)) [] E0 (tCons (tVar 11) (tCons (tVar 12) tNil))) (tCons (tOrV (tVar 13) (tVar 14)) tNil))) (tOp (rEqDct K) (tVar 4) (tDisp [(tC (.str "v"), (tVar 3)), (tC (.str "w"), (tTupK K (tCons (tC (.str "int")) tNil)))])))))))))))))))))))))

section
variable {K : PySem.W.Frag}
theorem caughtR_is {A : Ad} {x : Addr} {s : Str} (h : caughtR A x = some s) : (x = A.c_NoSuchStep ∧ s = "step") ∨ (x = A.c_NoSuchVariable ∧ s = "variable") := by
  unfold caughtR at h
  split at h
  · rename_i e; cases h; exact .inl ⟨e, rfl⟩
  · split at h
    · rename_i e; cases h; exact .inr ⟨e, rfl⟩
    · cases h
theorem hh_told {E : XK} (A : Ad) (fx : Fx K A) (c : Cs) (σ : St) (env : En) (T : List (V × EV)) (H : Hp) (g : Gm) (D : Ends) (x : Addr) (hK : c.K = K) (hk : c.as.length = 0) (hE : c.E = E) (o : Ok c σ env T H g) (h : (h_told A x env g).wp (c.P T D)) :
    wAs K (.ref A.c_ForkError) 6 (fun a cls d => tRet (tCallP (sp_l_caught K A) a cls d (tCons (tVar 6) tNil))) (fun _ _ _ _ => False) D (.ref x) none σ H := by
  unfold h_told at h
  split at h
  case isFalse => exact h.elim
  rename_i hl
  split at h
  case h_2 => exact h.elim
  rename_i s hs
  have ex : PySem.W.exmOne K (.ref x) (.ref A.c_ForkError) = some true := by
    rcases caughtR_is hs with ⟨rfl, _⟩ | ⟨rfl, _⟩
    · exact fx.e_NoSuchStep_ForkError
    · exact fx.e_NoSuchVariable_ForkError
  refine ⟨true, ex, fun _ a ha => ?_, fun z => Bool.noConfusion z⟩
  have l1 : 6 < σ.length := by
    obtain ⟨_, _, o⟩ := o
    rw [o.len]; exact hl
  refine w_ret (w_callP (w_cons (w_var (v := .ref a) (by rw [List.getElem?_set_self l1]) (w_nil ?_))))
  exact ⟨x, s, rfl, rfl, rfl, hs, h _ _ (o.end_.top (e := .p (.str s)) fun _ _ _ => .str _)⟩
theorem x_is {H : Hp} {Q : VK} {D C a : Addr} {b : Bool} (xc : ExcC K D) (k : PySem.W.kitOne K (.ref D) (.ref C) = some b) (q : Q (.bl b) H) : rIsX K (.ref D) none a [.ref a, .ref C] H Q := ⟨D, _, _, b, rfl, rfl, xc, rfl, .own _, k, q⟩
theorem x_is0 {H : Hp} {Q : VK} {D a : Addr} (xc : ExcC K D) (q : Q (.bl true) H) : rIsX K (.ref D) none a [.ref a, .ref D] H Q := x_is xc (by simp [PySem.W.kitOne]) q
theorem pure_l_caught (A : Ad) (fx : Fx K A) (a : Addr) (cls : Value) (d : Option Addr) (vs : List V) (H : Hp) (Q : VK) (E : XK) (h : sp_l_caught K A a cls d vs H Q E) : t_l_caught K A a cls d (bd Q) (start N_l_caught vs) H := by
  obtain ⟨x, s, rfl, rfl, rfl, hs, q⟩ := h
  show t_l_caught K A a (.ref x) none (bd Q) [some (.ref a)] H
  unfold t_l_caught
  rcases caughtR_is hs with ⟨rfl, rfl⟩ | ⟨rfl, rfl⟩
  · repeat (walk_at "go"; first | (refine x_is fx.xc_NoSuchStep fx.k_NoSuchStep_KindProblem ?_) | (refine x_is fx.xc_NoSuchStep fx.k_NoSuchStep_NoSuchFunction ?_) | (refine x_is fx.xc_NoSuchStep fx.k_NoSuchStep_NotAllocated ?_) | (refine x_is fx.xc_NoSuchStep fx.k_NoSuchStep_Refused ?_) | (refine x_is fx.xc_NoSuchStep fx.k_NoSuchStep_NoSuchVariable ?_) | (refine x_is0 fx.xc_NoSuchStep ?_))
    walk_at "go"
    exact q
  · repeat (walk_at "go"; first | (refine x_is fx.xc_NoSuchVariable fx.k_NoSuchVariable_KindProblem ?_) | (refine x_is fx.xc_NoSuchVariable fx.k_NoSuchVariable_NoSuchFunction ?_) | (refine x_is fx.xc_NoSuchVariable fx.k_NoSuchVariable_NotAllocated ?_) | (refine x_is fx.xc_NoSuchVariable fx.k_NoSuchVariable_Refused ?_) | (refine x_is fx.xc_NoSuchVariable fx.k_NoSuchVariable_NoSuchStep ?_) | (refine x_is0 fx.xc_NoSuchVariable ?_))
    walk_at "go"
    exact q
end

section
variable {K : PySem.W.Frag}
theorem sm_fields_of (A : Ad) (E : XK) : SimS K E 0 (t_fields_of K A) (b_fields_of A) :=
  (sim_seq (sim_for (vs := [2]) (sim_iT (sim_var 0)) (sim_gN (by decide)) (sim_if (sim_tst (sim_op rd_eq (sim_op rd_ix (sim_var 2) (sim_c fun _ _ => .int _)) (sim_var 1))) (sim_ret (sim_op rd_ix (sim_var 2) (sim_c fun _ _ => .int _))) sim_next))
    (sim_ret (sim_c fun _ _ => .non)))
theorem pure_fields_of (A : Ad) (vs : List V) (H : Hp) (Q : VK) (E : XK) (h : sp_P K 2 (F_fields_of A) vs H Q E) : t_fields_of K A (bd Q) (start N_fields_of vs) H :=
  fn_pure (fb := b_fields_of A) (body := fun _ => t_fields_of K A) (fun E => sm_fields_of A E) (by decide) h
theorem sm_kind_after (A : Ad) (E : XK) : SimS K E 0 (t_kind_after K A E) (b_kind_after A) :=
  (sim_seq (sim_if (sim_tst (sim_op rd_eq (sim_var 2) (sim_c fun _ _ => .str _))) (sim_if (sim_tst (sim_op rd_eq (sim_op rd_ix (sim_var 1) (sim_c fun _ _ => .int _)) (sim_c fun _ _ => .str _))) (sim_ret (sim_op rd_ix (sim_var 1) (sim_c fun _ _ => .int _))) sim_next) (sim_if (sim_tst (sim_op rd_eq (sim_var 2) (sim_c fun _ _ => .str _))) (sim_if (sim_tst (sim_op rd_in (sim_op rd_ix (sim_var 1) (sim_c fun _ _ => .int _)) (sim_tup (sim_cons (sim_c fun _ _ => .str _) (sim_cons (sim_c fun _ _ => .str _) (sim_cons (sim_c fun _ _ => .str _) sim_nil)))))) (sim_ret (sim_op rd_ix (sim_var 1) (sim_c fun _ _ => .int _))) sim_next) (sim_if (sim_tst (sim_op rd_eq (sim_op rd_ix (sim_var 1) (sim_c fun _ _ => .int _)) (sim_c fun _ _ => .str _))) (sim_if (sim_and (sim_tB (sim_isi (sim_var 2))) (sim_tst (sim_chain rd_le rd_lt (sim_c fun _ _ => .int _) (sim_var 2) (sim_b rd_len (sim_op rd_ix (sim_var 1) (sim_c fun _ _ => .int _)))))) (sim_ret (sim_op rd_ix (sim_op rd_ix (sim_var 1) (sim_c fun _ _ => .int _)) (sim_var 2))) sim_next) (sim_if (sim_tst (sim_op rd_eq (sim_op rd_ix (sim_var 1) (sim_c fun _ _ => .int _)) (sim_c fun _ _ => .str _))) (sim_for (vs := [3, 4]) (sim_iT (sim_callN (nF_fields_of A) (sim_cons (sim_var 0) (sim_cons (sim_op rd_ix (sim_var 1) (sim_c fun _ _ => .int _)) sim_nil)))) (sim_gT rfl (sim_gCons (sim_gN (by decide)) (sim_gCons (sim_gN (by decide)) sim_gNil))) (sim_if (sim_tst (sim_op rd_eq (sim_var 3) (sim_var 2))) (sim_ret (sim_var 4)) sim_next)) sim_next))))
    sim_raise)
theorem pure_kind_after (A : Ad) (vs : List V) (H : Hp) (Q : VK) (E : XK) (h : sp_P K 3 (F_kind_after A) vs H Q E) : t_kind_after K A E (bd Q) (start N_kind_after vs) H :=
  fn_pure (fb := b_kind_after A) (body := fun E => t_kind_after K A E) (fun E => sm_kind_after A E) (by decide) h
theorem sm_is_prefix (A : Ad) (E : XK) : SimS K E 0 (t_is_prefix K A) (b_is_prefix A) :=
  (sim_seq (sim_asg (sim_b rd_len (sim_op rd_ix (sim_var 0) (sim_c fun _ _ => .int _))))
    (sim_ret (sim_andV (sim_op rd_eq (sim_op rd_ix (sim_var 0) (sim_c fun _ _ => .int _)) (sim_op rd_ix (sim_var 1) (sim_c fun _ _ => .int _))) (sim_op rd_eq (sim_op rd_ix (sim_var 0) (sim_c fun _ _ => .int _)) (sim_sl (sim_op rd_ix (sim_var 1) (sim_c fun _ _ => .int _)) sim_noPart (sim_part (sim_var 2)))))))
theorem pure_is_prefix (A : Ad) (vs : List V) (H : Hp) (Q : VK) (E : XK) (h : sp_P K 2 (F_is_prefix A) vs H Q E) : t_is_prefix K A (bd Q) (start N_is_prefix vs) H :=
  fn_pure (fb := b_is_prefix A) (body := fun _ => t_is_prefix K A) (fun E => sm_is_prefix A E) (by decide) h
theorem sm_overlap (A : Ad) (E : XK) : SimS K E 0 (t_overlap K A) (b_overlap A) :=
  (sim_ret (sim_orV (sim_callN (nF_is_prefix A) (sim_cons (sim_var 0) (sim_cons (sim_var 1) sim_nil))) (sim_callN (nF_is_prefix A) (sim_cons (sim_var 1) (sim_cons (sim_var 0) sim_nil)))))
theorem pure_overlap (A : Ad) (vs : List V) (H : Hp) (Q : VK) (E : XK) (h : sp_P K 2 (F_overlap A) vs H Q E) : t_overlap K A (bd Q) (start N_overlap vs) H :=
  fn_pure (fb := b_overlap A) (body := fun _ => t_overlap K A) (fun E => sm_overlap A E) (by decide) h
theorem sm_kinds_along (A : Ad) (E : XK) : SimS K E 0 (t_kinds_along K A E) (b_kinds_along A) :=
  (sim_seq (sim_if (sim_tB (sim_dnin (sim_op rd_ix (sim_var 0) (sim_c fun _ _ => .int _)) (sim_var 2))) sim_raise sim_next)
    (sim_seq (sim_asg (sim_dget (sim_var 2) (sim_op rd_ix (sim_var 0) (sim_c fun _ _ => .int _))))
    (sim_seq (sim_own (sim_lst (sim_cons (sim_var 3) sim_nil)))
    (sim_seq (sim_for (vs := [5]) (sim_iT (sim_op rd_ix (sim_var 0) (sim_c fun _ _ => .int _))) (sim_gN (by decide)) (sim_seq (sim_asg (sim_call (nF_kind_after A) (sim_cons (sim_var 1) (sim_cons (sim_var 3) (sim_cons (sim_var 5) sim_nil)))))
    (sim_drop (sim_mut rd_app (sim_var 4) (sim_cons (sim_var 3) sim_nil)))))
    (sim_ret (sim_var 4))))))
theorem pure_kinds_along (A : Ad) (vs : List V) (H : Hp) (Q : VK) (E : XK) (h : sp_P K 3 (F_kinds_along A) vs H Q E) : t_kinds_along K A E (bd Q) (start N_kinds_along vs) H :=
  fn_pure (fb := b_kinds_along A) (body := fun E => t_kinds_along K A E) (fun E => sm_kinds_along A E) (by decide) h
theorem sm_kind_at (A : Ad) (E : XK) : SimS K E 0 (t_kind_at K A E) (b_kind_at A) :=
  (sim_ret (sim_op rd_ix (sim_callK (nF_kinds_along A) (sim_cons (sim_var 0) sim_nil) (sim_cons (sim_var 1) (sim_cons (sim_var 2) sim_nil))) (sim_un rd_neg (sim_c fun _ _ => .int _))))
theorem pure_kind_at (A : Ad) (vs : List V) (H : Hp) (Q : VK) (E : XK) (h : sp_P K 3 (F_kind_at A) vs H Q E) : t_kind_at K A E (bd Q) (start N_kind_at vs) H :=
  fn_pure (fb := b_kind_at A) (body := fun E => t_kind_at K A E) (fun E => sm_kind_at A E) (by decide) h
theorem sm_crossed (A : Ad) (E : XK) : SimS K E 0 (t_crossed K A E) (b_crossed A) :=
  (sim_seq (sim_asg (sim_callK (nF_kinds_along A) (sim_cons (sim_var 0) sim_nil) (sim_cons (sim_var 1) (sim_cons (sim_var 2) sim_nil))))
    (sim_seq (sim_for (vs := [4, 5]) (sim_iE (sim_op rd_ix (sim_var 0) (sim_c fun _ _ => .int _))) (sim_gT rfl (sim_gCons (sim_gN (by decide)) (sim_gCons (sim_gN (by decide)) sim_gNil))) (sim_if (sim_and (sim_tst (sim_op rd_eq (sim_var 5) (sim_c fun _ _ => .str _))) (sim_tst (sim_op rd_in (sim_op rd_ix (sim_op rd_ix (sim_var 3) (sim_var 4)) (sim_c fun _ _ => .int _)) sim_const))) (sim_ret (sim_tup (sim_cons (sim_op rd_ix (sim_var 0) (sim_c fun _ _ => .int _)) (sim_cons (sim_sl (sim_op rd_ix (sim_var 0) (sim_c fun _ _ => .int _)) sim_noPart (sim_part (sim_var 4))) sim_nil)))) sim_next))
    (sim_ret (sim_c fun _ _ => .non))))
theorem pure_crossed (A : Ad) (vs : List V) (H : Hp) (Q : VK) (E : XK) (h : sp_P K 3 (F_crossed A) vs H Q E) : t_crossed K A E (bd Q) (start N_crossed vs) H :=
  fn_pure (fb := b_crossed A) (body := fun E => t_crossed K A E) (fun E => sm_crossed A E) (by decide) h
theorem sm_l_tape (A : Ad) (E : XK) : SimS K E 0 (t_l_tape K A) (b_l_tape A) :=
  (sim_seq (sim_own (sim_lst sim_nil))
    (sim_seq (sim_asg (sim_c fun _ _ => .int _))
    (sim_seq (sim_for (vs := [3]) (sim_iL (sim_frz (sim_slM (sim_var 0) sim_noPart (sim_part (sim_c fun _ _ => .int _))))) (sim_gN (by decide)) (sim_seq (sim_asg (sim_b rd_abs (sim_b rd_int1 (sim_var 3))))
    (sim_seq (sim_asg (sim_op rd_add (sim_var 2) (sim_var 4)))
    (sim_for (vs := [5]) (sim_iR1 (sim_c fun _ _ => .int _)) (sim_gN (by decide)) (sim_seq (sim_drop (sim_mut rd_app (sim_var 1) (sim_cons (sim_op rd_mod (sim_b rd_int1 (sim_var 4)) (sim_c fun _ _ => .int _)) sim_nil)))
    (sim_seq (sim_asg (sim_op rd_div (sim_var 4) (sim_c fun _ _ => .int _)))
    (sim_if (sim_tst (sim_op rd_eq (sim_var 4) (sim_c fun _ _ => .int _))) sim_break sim_next)))))))
    (sim_fz (sim_retM (sim_lst (sim_cons (sim_c fun _ _ => .int _) (sim_cons (sim_var 1) (sim_cons (sim_op rd_mod (sim_b rd_int1 (sim_var 2)) (sim_c fun _ _ => .int _)) sim_nil)))))))))
theorem pure_l_tape (A : Ad) (vs : List V) (H : Hp) (Q : VK) (E : XK) (h : sp_N K 1 (F_l_tape A) vs H Q E) : t_l_tape K A (bd Q) (start N_l_tape vs) H :=
  fn_new (fb := b_l_tape A) (body := fun _ => t_l_tape K A) (fun E => sm_l_tape A E) (by decide) h
theorem sm_l_next (A : Ad) (E : XK) : SimS K E 1 (t_l_next K A) (b_l_next A) :=
  (sim_seq (sim_asg (sim_op rd_ix (sim_var 0) (sim_c fun _ _ => .int _)))
    (sim_seq (sim_setI (sim_op rd_add (sim_var 2) (sim_c fun _ _ => .int _)) (sim_var 0) (sim_c fun _ _ => .int _))
    (sim_seq (sim_if (sim_tst (sim_op rd_lt (sim_var 2) (sim_b rd_len (sim_op rd_ix (sim_var 0) (sim_c fun _ _ => .int _))))) (sim_ret (sim_op rd_mod (sim_b rd_int1 (sim_op rd_ix (sim_op rd_ix (sim_var 0) (sim_c fun _ _ => .int _)) (sim_var 2))) (sim_var 1))) sim_next)
    (sim_ret (sim_op rd_mod (sim_op rd_div (sim_op rd_mod (sim_b rd_int1 (sim_op rd_add (sim_op rd_mul (sim_op rd_add (sim_var 2) (sim_c fun _ _ => .int _)) (sim_c fun _ _ => .int _)) (sim_op rd_mul (sim_op rd_ix (sim_var 0) (sim_c fun _ _ => .int _)) (sim_c fun _ _ => .int _)))) (sim_c fun _ _ => .int _)) (sim_c fun _ _ => .int _)) (sim_var 1))))))
theorem pure_l_next (A : Ad) (vs : List V) (H : Hp) (Q : VK) (E : XK) (h : sp_P K 2 (F_l_next A) vs H Q E) : t_l_next K A (bd Q) (start N_l_next vs) H :=
  fn_pure (fb := b_l_next A) (body := fun _ => t_l_next K A) (fun E => sm_l_next A E) (by decide) h
theorem sm_l_fields (A : Ad) (E : XK) : SimS K E 0 (t_l_fields K A) (b_l_fields A) :=
  (sim_seq (sim_if (sim_tst (sim_op rd_eq (sim_var 0) (sim_c fun _ _ => .str _))) (sim_ret (sim_tup (sim_cons (sim_tup (sim_cons (sim_c fun _ _ => .str _) (sim_cons (sim_tup (sim_cons (sim_c fun _ _ => .str _) sim_nil)) sim_nil))) (sim_cons (sim_tup (sim_cons (sim_c fun _ _ => .str _) (sim_cons (sim_tup (sim_cons (sim_c fun _ _ => .str _) (sim_cons (sim_tup (sim_cons (sim_c fun _ _ => .str _) (sim_cons (sim_tup (sim_cons (sim_c fun _ _ => .str _) (sim_cons (sim_c fun _ _ => .str _) sim_nil))) sim_nil))) sim_nil))) sim_nil))) sim_nil)))) sim_next)
    (sim_seq (sim_if (sim_tst (sim_op rd_eq (sim_var 0) (sim_c fun _ _ => .str _))) (sim_ret (sim_tup (sim_cons (sim_tup (sim_cons (sim_c fun _ _ => .str _) (sim_cons (sim_tup (sim_cons (sim_c fun _ _ => .str _) sim_nil)) sim_nil))) (sim_cons (sim_tup (sim_cons (sim_c fun _ _ => .str _) (sim_cons (sim_tup (sim_cons (sim_c fun _ _ => .str _) (sim_cons (sim_tup (sim_cons (sim_c fun _ _ => .str _) (sim_cons (sim_tup (sim_cons (sim_c fun _ _ => .str _) (sim_cons (sim_c fun _ _ => .str _) sim_nil))) sim_nil))) sim_nil))) sim_nil))) sim_nil)))) sim_next)
    (sim_ret (sim_tup (sim_cons (sim_tup (sim_cons (sim_c fun _ _ => .str _) (sim_cons (sim_tup (sim_cons (sim_c fun _ _ => .str _) sim_nil)) sim_nil))) (sim_cons (sim_tup (sim_cons (sim_c fun _ _ => .str _) (sim_cons (sim_tup (sim_cons (sim_c fun _ _ => .str _) (sim_cons (sim_c fun _ _ => .str _) sim_nil))) sim_nil))) (sim_cons (sim_tup (sim_cons (sim_c fun _ _ => .str _) (sim_cons (sim_tup (sim_cons (sim_c fun _ _ => .str _) (sim_cons (sim_tup (sim_cons (sim_tup (sim_cons (sim_c fun _ _ => .str _) sim_nil)) (sim_cons (sim_tup (sim_cons (sim_c fun _ _ => .str _) sim_nil)) sim_nil))) sim_nil))) sim_nil))) sim_nil)))))))
theorem pure_l_fields (A : Ad) (vs : List V) (H : Hp) (Q : VK) (E : XK) (h : sp_P K 1 (F_l_fields A) vs H Q E) : t_l_fields K A (bd Q) (start N_l_fields vs) H :=
  fn_pure (fb := b_l_fields A) (body := fun _ => t_l_fields K A) (fun E => sm_l_fields A E) (by decide) h
theorem sm_l_records (A : Ad) (E : XK) : SimS K E 1 (t_l_records K A) (b_l_records A) :=
  (sim_seq (sim_asg (sim_frz (sim_lst (sim_cons (sim_c fun _ _ => .str _) (sim_cons (sim_c fun _ _ => .str _) (sim_cons (sim_c fun _ _ => .str _) sim_nil))))))
    (sim_seq (sim_asg (sim_callN (nF_l_next A) (sim_cons (sim_var 0) (sim_cons (sim_c fun _ _ => .int _) sim_nil))))
    (sim_seq (sim_asg (sim_frz (sim_cat (sim_frz (sim_slM (sim_var 1) (sim_part (sim_var 2)) sim_noPart)) (sim_frz (sim_slM (sim_var 1) sim_noPart (sim_part (sim_var 2)))))))
    (sim_seq (sim_if (sim_tst (sim_op rd_eq (sim_callN (nF_l_next A) (sim_cons (sim_var 0) (sim_cons (sim_c fun _ _ => .int _) sim_nil))) (sim_c fun _ _ => .int _))) (sim_asg (sim_frz (sim_rev (sim_var 1)))) sim_next)
    (sim_ret (sim_b rd_tupOf (sim_frz (sim_comp (vs := [3]) (sim_iL (sim_var 1)) (sim_gN (by decide)) sim_yes (sim_tup (sim_cons (sim_var 3) (sim_cons (sim_callN (nF_l_fields A) (sim_cons (sim_var 3) sim_nil)) sim_nil)))))))))))
theorem pure_l_records (A : Ad) (vs : List V) (H : Hp) (Q : VK) (E : XK) (h : sp_P K 1 (F_l_records A) vs H Q E) : t_l_records K A (bd Q) (start N_l_records vs) H :=
  fn_pure (fb := b_l_records A) (body := fun _ => t_l_records K A) (fun E => sm_l_records A E) (by decide) h
theorem sm_l_cells (A : Ad) (n : Nat) (E : XK) : SimS K E 0 (t_l_cells K A n) (b_l_cells A (F_l_cells A n)) :=
  (sim_seq (sim_if (sim_tst (sim_op rd_eq (sim_op rd_ix (sim_var 0) (sim_c fun _ _ => .int _)) (sim_c fun _ _ => .str _))) (sim_ret (sim_op rd_add (sim_c fun _ _ => .int _) (sim_callN (nF_l_cells A n) (sim_cons (sim_op rd_ix (sim_var 0) (sim_c fun _ _ => .int _)) sim_nil)))) sim_next)
    (sim_seq (sim_if (sim_tst (sim_op rd_eq (sim_op rd_ix (sim_var 0) (sim_c fun _ _ => .int _)) (sim_c fun _ _ => .str _))) (sim_ret (sim_b rd_sum (sim_frz (sim_comp (vs := [1]) (sim_iT (sim_op rd_ix (sim_var 0) (sim_c fun _ _ => .int _))) (sim_gN (by decide)) sim_yes (sim_callN (nF_l_cells A n) (sim_cons (sim_var 1) sim_nil)))))) sim_next)
    (sim_seq (sim_if (sim_tst (sim_op rd_eq (sim_op rd_ix (sim_var 0) (sim_c fun _ _ => .int _)) (sim_c fun _ _ => .str _))) (sim_ret (sim_ifE (sim_tst (sim_op rd_eq (sim_op rd_ix (sim_var 0) (sim_c fun _ _ => .int _)) (sim_c fun _ _ => .str _))) (sim_c fun _ _ => .int _) (sim_c fun _ _ => .int _))) sim_next)
    (sim_ret (sim_c fun _ _ => .int _)))))
theorem pure_l_cells (A : Ad) (n : Nat) (vs : List V) (H : Hp) (Q : VK) (E : XK) (h : sp_P K 1 (F_l_cells A (n + 1)) vs H Q E) : t_l_cells K A n (bd Q) (start N_l_cells vs) H :=
  fn_pure (fb := b_l_cells A (F_l_cells A n)) (body := fun _ => t_l_cells K A n) (fun E => sm_l_cells A n E) (by decide) h
theorem sm_l_fitting (A : Ad) (E : XK) : SimS K E 0 (t_l_fitting K A) (b_l_fitting A) :=
  (sim_seq (sim_own (sim_lst sim_nil))
    (sim_seq (sim_asg (sim_c fun _ _ => .int _))
    (sim_seq (sim_for (vs := [4]) (sim_iR1 (sim_b rd_len (sim_var 0))) (sim_gN (by decide)) (sim_seq (sim_asg (sim_op rd_ix (sim_var 0) (sim_var 4)))
    (sim_seq (sim_if (sim_tst (sim_op rd_gt (sim_op rd_sub (sim_op rd_sub (sim_op rd_add (sim_op rd_add (sim_var 3) (sim_callN (nF_l_cells A 12) (sim_cons (sim_var 5) sim_nil))) (sim_b rd_len (sim_var 0))) (sim_c fun _ _ => .int _)) (sim_var 4)) (sim_var 1))) (sim_asg (sim_tup (sim_cons (sim_c fun _ _ => .str _) sim_nil))) sim_next)
    (sim_seq (sim_asg (sim_op rd_add (sim_var 3) (sim_callN (nF_l_cells A 12) (sim_cons (sim_var 5) sim_nil))))
    (sim_drop (sim_mut rd_app (sim_var 2) (sim_cons (sim_var 5) sim_nil)))))))
    (sim_ret (sim_b rd_tupOf (sim_var 2))))))
theorem pure_l_fitting (A : Ad) (vs : List V) (H : Hp) (Q : VK) (E : XK) (h : sp_P K 2 (F_l_fitting A) vs H Q E) : t_l_fitting K A (bd Q) (start N_l_fitting vs) H :=
  fn_pure (fb := b_l_fitting A) (body := fun _ => t_l_fitting K A) (fun E => sm_l_fitting A E) (by decide) h
theorem sm_l_kind (A : Ad) (n : Nat) (E : XK) : SimS K E 1 (t_l_kind K A n) (b_l_kind A (F_l_kind A n)) :=
  (sim_seq (sim_asg (sim_callN (nF_l_next A) (sim_cons (sim_var 0) (sim_cons (sim_c fun _ _ => .int _) sim_nil))))
    (sim_seq (sim_if (sim_or (sim_tst (sim_op rd_le (sim_var 1) (sim_c fun _ _ => .int _))) (sim_tst (sim_op rd_lt (sim_var 3) (sim_c fun _ _ => .int _)))) (sim_seq (sim_asg (sim_op rd_ix (sim_frz (sim_lst (sim_cons (sim_c fun _ _ => .str _) (sim_cons (sim_c fun _ _ => .str _) (sim_cons (sim_c fun _ _ => .str _) sim_nil))))) (sim_callN (nF_l_next A) (sim_cons (sim_var 0) (sim_cons (sim_c fun _ _ => .int _) sim_nil)))))
    (sim_ret (sim_op rd_ix (sim_frz (sim_lst (sim_cons (sim_tup (sim_cons (sim_c fun _ _ => .str _) sim_nil)) (sim_cons (sim_tup (sim_cons (sim_c fun _ _ => .str _) sim_nil)) (sim_cons (sim_tup (sim_cons (sim_c fun _ _ => .str _) sim_nil)) (sim_cons (sim_tup (sim_cons (sim_c fun _ _ => .str _) (sim_cons (sim_var 4) sim_nil))) (sim_cons (sim_tup (sim_cons (sim_c fun _ _ => .str _) (sim_cons (sim_var 4) sim_nil))) sim_nil))))))) (sim_callN (nF_l_next A) (sim_cons (sim_var 0) (sim_cons (sim_c fun _ _ => .int _) sim_nil)))))) sim_next)
    (sim_seq (sim_if (sim_tst (sim_op rd_lt (sim_var 3) (sim_c fun _ _ => .int _))) (sim_ret (sim_tup (sim_cons (sim_c fun _ _ => .str _) (sim_cons (sim_callN (nF_l_kind A n) (sim_cons (sim_var 0) (sim_cons (sim_op rd_sub (sim_var 1) (sim_c fun _ _ => .int _)) (sim_cons (sim_c fun _ _ => .bl _) sim_nil)))) sim_nil)))) sim_next)
    (sim_seq (sim_if (sim_tst (sim_op rd_lt (sim_var 3) (sim_c fun _ _ => .int _))) (sim_ret (sim_op rd_add (sim_tup (sim_cons (sim_c fun _ _ => .str _) sim_nil)) (sim_callN (nF_l_fitting A) (sim_cons (sim_frz (sim_lst (sim_cons (sim_callN (nF_l_kind A n) (sim_cons (sim_var 0) (sim_cons (sim_op rd_sub (sim_var 1) (sim_c fun _ _ => .int _)) (sim_cons (sim_var 2) sim_nil)))) sim_nil))) (sim_cons (sim_c fun _ _ => .int _) sim_nil))))) sim_next)
    (sim_seq (sim_if (sim_or (sim_tst (sim_op rd_eq (sim_var 3) (sim_c fun _ _ => .int _))) (sim_tB (sim_var 2))) (sim_seq (sim_asg (sim_op rd_add (sim_c fun _ _ => .int _) (sim_callN (nF_l_next A) (sim_cons (sim_var 0) (sim_cons (sim_c fun _ _ => .int _) sim_nil)))))
    (sim_ret (sim_tup (sim_cons (sim_c fun _ _ => .str _) (sim_cons (sim_callN (nF_l_fitting A) (sim_cons (sim_frz (sim_comp (vs := [6]) (sim_iR1 (sim_var 5)) (sim_gN (by decide)) sim_yes (sim_callN (nF_l_kind A n) (sim_cons (sim_var 0) (sim_cons (sim_op rd_sub (sim_var 1) (sim_c fun _ _ => .int _)) (sim_cons (sim_var 2) sim_nil)))))) (sim_cons (sim_c fun _ _ => .int _) sim_nil))) sim_nil))))) sim_next)
    (sim_ret (sim_tup (sim_cons (sim_op rd_ix (sim_frz (sim_lst (sim_cons (sim_c fun _ _ => .str _) (sim_cons (sim_c fun _ _ => .str _) (sim_cons (sim_c fun _ _ => .str _) (sim_cons (sim_c fun _ _ => .str _) sim_nil)))))) (sim_op rd_sub (sim_var 3) (sim_c fun _ _ => .int _))) (sim_cons (sim_callN (nF_l_kind A n) (sim_cons (sim_var 0) (sim_cons (sim_op rd_sub (sim_var 1) (sim_c fun _ _ => .int _)) (sim_cons (sim_c fun _ _ => .bl _) sim_nil)))) sim_nil)))))))))
theorem pure_l_kind (A : Ad) (n : Nat) (vs : List V) (H : Hp) (Q : VK) (E : XK) (h : sp_P K 3 (F_l_kind A (n + 1)) vs H Q E) : t_l_kind K A n (bd Q) (start N_l_kind vs) H :=
  fn_pure (fb := b_l_kind A (F_l_kind A n)) (body := fun _ => t_l_kind K A n) (fun E => sm_l_kind A n E) (by decide) h
theorem sm_l_step (A : Ad) (E : XK) : SimS K E 1 (t_l_step K A) (b_l_step A) :=
  (sim_seq (sim_if (sim_tst (sim_op rd_eq (sim_callN (nF_l_next A) (sim_cons (sim_var 0) (sim_cons (sim_c fun _ _ => .int _) sim_nil))) (sim_c fun _ _ => .int _))) (sim_ret (sim_op rd_ix (sim_frz (sim_lst (sim_cons (sim_c fun _ _ => .int _) (sim_cons (sim_c fun _ _ => .int _) (sim_cons (sim_c fun _ _ => .int _) (sim_cons (sim_c fun _ _ => .int _) (sim_cons (sim_c fun _ _ => .int _) (sim_cons (sim_c fun _ _ => .int _) (sim_cons (sim_op rd_sub (sim_c fun _ _ => .int _) (sim_c fun _ _ => .int _)) (sim_cons (sim_c fun _ _ => .str _) (sim_cons (sim_c fun _ _ => .str _) (sim_cons (sim_c fun _ _ => .str _) (sim_cons (sim_c fun _ _ => .str _) (sim_cons (sim_c fun _ _ => .str _) (sim_cons (sim_c fun _ _ => .str _) (sim_cons (sim_c fun _ _ => .str _) sim_nil)))))))))))))))) (sim_callN (nF_l_next A) (sim_cons (sim_var 0) (sim_cons (sim_c fun _ _ => .int _) sim_nil))))) sim_next)
    (sim_seq (sim_if (sim_tst (sim_op rd_eq (sim_op rd_ix (sim_var 1) (sim_c fun _ _ => .int _)) (sim_c fun _ _ => .str _))) (sim_ret (sim_op rd_ix (sim_frz (sim_lst (sim_cons (sim_callN (nF_l_next A) (sim_cons (sim_var 0) (sim_cons (sim_b rd_len (sim_op rd_ix (sim_var 1) (sim_c fun _ _ => .int _))) sim_nil))) (sim_cons (sim_op rd_sub (sim_b rd_len (sim_op rd_ix (sim_var 1) (sim_c fun _ _ => .int _))) (sim_c fun _ _ => .int _)) sim_nil)))) (sim_callN (nF_l_next A) (sim_cons (sim_var 0) (sim_cons (sim_c fun _ _ => .int _) sim_nil))))) sim_next)
    (sim_seq (sim_if (sim_tst (sim_op rd_eq (sim_op rd_ix (sim_var 1) (sim_c fun _ _ => .int _)) (sim_c fun _ _ => .str _))) (sim_seq (sim_asg (sim_callN (nF_l_fields A) (sim_cons (sim_op rd_ix (sim_var 1) (sim_c fun _ _ => .int _)) sim_nil)))
    (sim_ret (sim_op rd_ix (sim_op rd_ix (sim_var 2) (sim_callN (nF_l_next A) (sim_cons (sim_var 0) (sim_cons (sim_b rd_len (sim_var 2)) sim_nil)))) (sim_c fun _ _ => .int _)))) sim_next)
    (sim_ret (sim_ifE (sim_tst (sim_op rd_eq (sim_op rd_ix (sim_var 1) (sim_c fun _ _ => .int _)) (sim_c fun _ _ => .str _))) (sim_c fun _ _ => .str _) (sim_c fun _ _ => .str _))))))
theorem pure_l_step (A : Ad) (vs : List V) (H : Hp) (Q : VK) (E : XK) (h : sp_P K 2 (F_l_step A) vs H Q E) : t_l_step K A (bd Q) (start N_l_step vs) H :=
  fn_pure (fb := b_l_step A) (body := fun _ => t_l_step K A) (fun E => sm_l_step A E) (by decide) h
theorem sm_l_after (A : Ad) (E : XK) : SimS K E 0 (t_l_after K A) (b_l_after A) :=
  (sim_seq (sim_if (sim_tst (sim_op rd_eq (sim_var 1) (sim_c fun _ _ => .str _))) (sim_ret (sim_ifE (sim_tst (sim_op rd_eq (sim_op rd_ix (sim_var 0) (sim_c fun _ _ => .int _)) (sim_c fun _ _ => .str _))) (sim_op rd_ix (sim_var 0) (sim_c fun _ _ => .int _)) (sim_c fun _ _ => .non))) sim_next)
    (sim_seq (sim_if (sim_tst (sim_op rd_eq (sim_var 1) (sim_c fun _ _ => .str _))) (sim_ret (sim_ifE (sim_tst (sim_op rd_in (sim_op rd_ix (sim_var 0) (sim_c fun _ _ => .int _)) (sim_frz (sim_lst (sim_cons (sim_c fun _ _ => .str _) (sim_cons (sim_c fun _ _ => .str _) (sim_cons (sim_c fun _ _ => .str _) sim_nil))))))) (sim_op rd_ix (sim_var 0) (sim_c fun _ _ => .int _)) (sim_c fun _ _ => .non))) sim_next)
    (sim_seq (sim_if (sim_tB (sim_isi (sim_var 1))) (sim_ret (sim_ifE (sim_and (sim_tst (sim_op rd_eq (sim_op rd_ix (sim_var 0) (sim_c fun _ _ => .int _)) (sim_c fun _ _ => .str _))) (sim_tst (sim_chain rd_le rd_lt (sim_c fun _ _ => .int _) (sim_var 1) (sim_b rd_len (sim_op rd_ix (sim_var 0) (sim_c fun _ _ => .int _)))))) (sim_op rd_ix (sim_op rd_ix (sim_var 0) (sim_c fun _ _ => .int _)) (sim_var 1)) (sim_c fun _ _ => .non))) sim_next)
    (sim_seq (sim_if (sim_tst (sim_op rd_ne (sim_op rd_ix (sim_var 0) (sim_c fun _ _ => .int _)) (sim_c fun _ _ => .str _))) (sim_ret (sim_c fun _ _ => .non)) sim_next)
    (sim_seq (sim_for (vs := [2, 3]) (sim_iT (sim_callN (nF_l_fields A) (sim_cons (sim_op rd_ix (sim_var 0) (sim_c fun _ _ => .int _)) sim_nil))) (sim_gT rfl (sim_gCons (sim_gN (by decide)) (sim_gCons (sim_gN (by decide)) sim_gNil))) (sim_if (sim_tst (sim_op rd_eq (sim_var 2) (sim_var 1))) (sim_ret (sim_var 3)) sim_next))
    (sim_ret (sim_c fun _ _ => .non)))))))
theorem pure_l_after (A : Ad) (vs : List V) (H : Hp) (Q : VK) (E : XK) (h : sp_P K 2 (F_l_after A) vs H Q E) : t_l_after K A (bd Q) (start N_l_after vs) H :=
  fn_pure (fb := b_l_after A) (body := fun _ => t_l_after K A) (fun E => sm_l_after A E) (by decide) h
theorem sm_l_told (A : Ad) (fx : Fx K A) (E : XK) : SimS K E 0 (t_l_told K A) (b_l_told A) :=
  (sim_try (sim_seqB (sim_ifB (sim_tst (sim_op rd_eq (sim_var 0) (sim_c fun _ _ => .int _))) (sim_retS (nF_kind_after A) (sim_cons (sim_var 1) (sim_cons (sim_var 4) (sim_cons (sim_var 5) sim_nil)))) sim_nextB)
    (sim_seqB (sim_ifB (sim_tst (sim_op rd_eq (sim_var 0) (sim_c fun _ _ => .int _))) (sim_retKS (nF_kind_at A) (sim_cons (sim_var 3) sim_nil) (sim_cons (sim_var 1) (sim_cons (sim_var 2) sim_nil))) sim_nextB)
    (sim_retKS (nF_crossed A) (sim_cons (sim_var 3) sim_nil) (sim_cons (sim_var 1) (sim_cons (sim_var 2) sim_nil))))) (hh_told A fx))
theorem pure_l_told (A : Ad) (fx : Fx K A) (vs : List V) (H : Hp) (Q : VK) (E : XK) (h : sp_P K 6 (F_l_told A) vs H Q E) : t_l_told K A (bd Q) (start N_l_told vs) H :=
  fn_pure (fb := b_l_told A) (body := fun _ => t_l_told K A) (fun E => sm_l_told A fx E) (by decide) h
theorem sm_l_is (A : Ad) (E : XK) : SimS K E 0 (t_l_is K A) (b_l_is A) :=
  (sim_ret (sim_ifE (sim_tB (sim_var 1)) (sim_op rd_isb (sim_var 0) (sim_c fun _ _ => .bl _)) (sim_op rd_isb (sim_var 0) (sim_c fun _ _ => .bl _))))
theorem pure_l_is (A : Ad) (vs : List V) (H : Hp) (Q : VK) (E : XK) (h : sp_P K 2 (F_l_is A) vs H Q E) : t_l_is K A (bd Q) (start N_l_is vs) H :=
  fn_pure (fb := b_l_is A) (body := fun _ => t_l_is K A) (fun E => sm_l_is A E) (by decide) h
theorem sm_l_unknown (A : Ad) (E : XK) : SimS K E 0 (t_l_unknown K A) (b_l_unknown A) :=
  (sim_seq (sim_for (vs := [3]) (sim_iL (sim_frz (sim_lst (sim_cons (sim_tup (sim_cons (sim_c fun _ _ => .str _) (sim_cons (sim_tup sim_nil) sim_nil))) (sim_cons (sim_tup (sim_cons (sim_c fun _ _ => .str _) (sim_cons (sim_var 2) sim_nil))) (sim_cons (sim_tup (sim_cons (sim_c fun _ _ => .str _) (sim_cons (sim_op rd_add (sim_var 2) (sim_tup (sim_cons (sim_c fun _ _ => .str _) sim_nil))) sim_nil))) (sim_cons (sim_tup (sim_cons (sim_c fun _ _ => .str _) (sim_cons (sim_tup (sim_cons (sim_c fun _ _ => .str _) (sim_cons (sim_c fun _ _ => .int _) sim_nil))) sim_nil))) sim_nil))))))) (sim_gN (by decide)) (sim_for (vs := [4]) (sim_iL (sim_frz (sim_lst (sim_cons (sim_c fun _ _ => .int _) (sim_cons (sim_c fun _ _ => .int _) sim_nil))))) (sim_gN (by decide)) (sim_if (sim_tst (sim_op rd_ne (sim_callN (nF_l_told A) (sim_cons (sim_var 4) (sim_cons (sim_var 0) (sim_cons (sim_var 1) (sim_cons (sim_var 3) (sim_cons (sim_c fun _ _ => .non) (sim_cons (sim_c fun _ _ => .non) sim_nil))))))) (sim_c fun _ _ => .str _))) (sim_ret (sim_c fun _ _ => .bl _)) sim_next)))
    (sim_ret (sim_c fun _ _ => .bl _)))
theorem pure_l_unknown (A : Ad) (vs : List V) (H : Hp) (Q : VK) (E : XK) (h : sp_P K 3 (F_l_unknown A) vs H Q E) : t_l_unknown K A (bd Q) (start N_l_unknown vs) H :=
  fn_pure (fb := b_l_unknown A) (body := fun _ => t_l_unknown K A) (fun E => sm_l_unknown A E) (by decide) h
theorem sm_law (A : Ad) (fx : Fx K A) (E : XK) : SimS K E 0 (t_law K A) (b_law A) :=
  (sim_seq (sim_own (sim_mcallN (nF_l_tape A) (sim_cons (sim_var 0) sim_nil)))
    (sim_seq (sim_asg (sim_callN (nF_l_records A) (sim_cons (sim_var 1) sim_nil)))
    (sim_seq (sim_asg (sim_callN (nF_l_kind A 12) (sim_cons (sim_var 1) (sim_cons (sim_c fun _ _ => .int _) (sim_cons (sim_c fun _ _ => .bl _) sim_nil)))))
    (sim_seq (sim_asg (sim_dct (simps_cons (sim_var 3) (simps_cons (sim_tup (sim_cons (sim_c fun _ _ => .str _) sim_nil)) simps_nil))))
    (sim_seq (sim_own (sim_lst sim_nil))
    (sim_seq (sim_asg (sim_c fun _ _ => .non))
    (sim_seq (sim_asg (sim_var 3))
    (sim_seq (sim_for (vs := [8]) (sim_iR1 (sim_op rd_ix (sim_frz (sim_lst (sim_cons (sim_callN (nF_l_next A) (sim_cons (sim_var 1) (sim_cons (sim_c fun _ _ => .int _) sim_nil))) (sim_cons (sim_op rd_add (sim_c fun _ _ => .int _) (sim_callN (nF_l_next A) (sim_cons (sim_var 1) (sim_cons (sim_c fun _ _ => .int _) sim_nil)))) sim_nil)))) (sim_callN (nF_l_next A) (sim_cons (sim_var 1) (sim_cons (sim_c fun _ _ => .int _) sim_nil))))) (sim_gN (by decide)) (sim_if (sim_tst (sim_op rd_isnn (sim_var 7) (sim_c fun _ _ => .non))) (sim_seq (sim_asg (sim_callN (nF_l_step A) (sim_cons (sim_var 1) (sim_cons (sim_var 7) sim_nil))))
    (sim_seq (sim_asg (sim_callN (nF_l_after A) (sim_cons (sim_var 7) (sim_cons (sim_var 9) sim_nil))))
    (sim_seq (sim_if (sim_tst (sim_op rd_ne (sim_callN (nF_l_told A) (sim_cons (sim_c fun _ _ => .int _) (sim_cons (sim_var 2) (sim_cons (sim_var 4) (sim_cons (sim_c fun _ _ => .non) (sim_cons (sim_var 7) (sim_cons (sim_var 9) sim_nil))))))) (sim_ifE (sim_tst (sim_op rd_isno (sim_var 10) (sim_c fun _ _ => .non))) (sim_c fun _ _ => .str _) (sim_var 10)))) (sim_ret (sim_c fun _ _ => .bl _)) sim_next)
    (sim_seq (sim_if (sim_and (sim_tst (sim_op rd_eq (sim_var 9) (sim_c fun _ _ => .str _))) (sim_and (sim_tst (sim_op rd_in (sim_op rd_ix (sim_var 7) (sim_c fun _ _ => .int _)) (sim_frz (sim_lst (sim_cons (sim_c fun _ _ => .str _) (sim_cons (sim_c fun _ _ => .str _) sim_nil)))))) (sim_tst (sim_op rd_isno (sim_var 6) (sim_c fun _ _ => .non))))) (sim_asg (sim_tup (sim_cons (sim_c fun _ _ => .str _) (sim_cons (sim_b rd_tupOf (sim_var 5)) sim_nil)))) sim_next)
    (sim_seq (sim_drop (sim_mut rd_app (sim_var 5) (sim_cons (sim_var 9) sim_nil)))
    (sim_asg (sim_var 10))))))) sim_next))
    (sim_seq (sim_asg (sim_tup (sim_cons (sim_c fun _ _ => .str _) (sim_cons (sim_b rd_tupOf (sim_var 5)) sim_nil))))
    (sim_seq (sim_if (sim_tst (sim_op rd_ne (sim_callN (nF_l_told A) (sim_cons (sim_c fun _ _ => .int _) (sim_cons (sim_var 2) (sim_cons (sim_var 4) (sim_cons (sim_var 11) (sim_cons (sim_c fun _ _ => .non) (sim_cons (sim_c fun _ _ => .non) sim_nil))))))) (sim_ifE (sim_tst (sim_op rd_isno (sim_var 7) (sim_c fun _ _ => .non))) (sim_c fun _ _ => .str _) (sim_var 7)))) (sim_ret (sim_c fun _ _ => .bl _)) sim_next)
    (sim_seq (sim_if (sim_tst (sim_op rd_ne (sim_callN (nF_l_told A) (sim_cons (sim_c fun _ _ => .int _) (sim_cons (sim_var 2) (sim_cons (sim_var 4) (sim_cons (sim_var 11) (sim_cons (sim_c fun _ _ => .non) (sim_cons (sim_c fun _ _ => .non) sim_nil))))))) (sim_ifE (sim_tst (sim_op rd_isno (sim_var 7) (sim_c fun _ _ => .non))) (sim_c fun _ _ => .str _) (sim_var 6)))) (sim_ret (sim_c fun _ _ => .bl _)) sim_next)
    (sim_seq (sim_if (sim_not (sim_tB (sim_callN (nF_l_unknown A) (sim_cons (sim_var 2) (sim_cons (sim_var 4) (sim_cons (sim_b rd_tupOf (sim_frz (sim_slM (sim_var 5) sim_noPart (sim_part (sim_c fun _ _ => .int _))))) sim_nil)))))) (sim_ret (sim_c fun _ _ => .bl _)) sim_next)
    (sim_seq (sim_asg (sim_tup (sim_cons (sim_op rd_ix (sim_frz (sim_lst (sim_cons (sim_c fun _ _ => .str _) (sim_cons (sim_c fun _ _ => .str _) (sim_cons (sim_c fun _ _ => .str _) sim_nil))))) (sim_callN (nF_l_next A) (sim_cons (sim_var 1) (sim_cons (sim_c fun _ _ => .int _) sim_nil)))) (sim_cons (sim_b rd_tupOf (sim_frz (sim_slM (sim_var 5) sim_noPart (sim_part (sim_callN (nF_l_next A) (sim_cons (sim_var 1) (sim_cons (sim_c fun _ _ => .int _) sim_nil))))))) sim_nil))))
    (sim_seq (sim_if (sim_tst (sim_op rd_eq (sim_callN (nF_l_next A) (sim_cons (sim_var 1) (sim_cons (sim_c fun _ _ => .int _) sim_nil))) (sim_c fun _ _ => .int _))) (sim_asg (sim_tup (sim_cons (sim_op rd_ix (sim_var 12) (sim_c fun _ _ => .int _)) (sim_cons (sim_op rd_add (sim_op rd_ix (sim_var 12) (sim_c fun _ _ => .int _)) (sim_tup (sim_cons (sim_c fun _ _ => .str _) sim_nil))) sim_nil)))) sim_next)
    (sim_seq (sim_asg (sim_andV (sim_op rd_eq (sim_op rd_ix (sim_var 12) (sim_c fun _ _ => .int _)) (sim_c fun _ _ => .str _)) (sim_op rd_eq (sim_op rd_ix (sim_var 11) (sim_c fun _ _ => .int _)) (sim_sl (sim_op rd_ix (sim_var 12) (sim_c fun _ _ => .int _)) sim_noPart (sim_part (sim_b rd_len (sim_op rd_ix (sim_var 11) (sim_c fun _ _ => .int _))))))))
    (sim_seq (sim_asg (sim_andV (sim_op rd_eq (sim_op rd_ix (sim_var 12) (sim_c fun _ _ => .int _)) (sim_c fun _ _ => .str _)) (sim_op rd_eq (sim_op rd_ix (sim_var 12) (sim_c fun _ _ => .int _)) (sim_sl (sim_op rd_ix (sim_var 11) (sim_c fun _ _ => .int _)) sim_noPart (sim_part (sim_b rd_len (sim_op rd_ix (sim_var 12) (sim_c fun _ _ => .int _))))))))
    (sim_seq (sim_if (sim_or (sim_not (sim_tB (sim_callN (nF_l_is A) (sim_cons (sim_callN (nF_is_prefix A) (sim_cons (sim_var 11) (sim_cons (sim_var 12) sim_nil))) (sim_cons (sim_var 13) sim_nil))))) (sim_not (sim_tB (sim_callN (nF_l_is A) (sim_cons (sim_callN (nF_is_prefix A) (sim_cons (sim_var 12) (sim_cons (sim_var 11) sim_nil))) (sim_cons (sim_var 14) sim_nil)))))) (sim_ret (sim_c fun _ _ => .bl _)) sim_next)
    (sim_ret (sim_andV (sim_callN (nF_l_is A) (sim_cons (sim_callN (nF_overlap A) (sim_cons (sim_var 11) (sim_cons (sim_var 12) sim_nil))) (sim_cons (sim_orV (sim_var 13) (sim_var 14)) sim_nil))) (sim_op rd_eqDct (sim_var 4) (sim_dct (simps_cons (sim_var 3) (simps_cons (sim_tup (sim_cons (sim_c fun _ _ => .str _) sim_nil)) simps_nil)))))))))))))))))))))))
theorem pure0_law (A : Ad) (fx : Fx K A) (vs : List V) (H : Hp) (Q : VK) (E : XK) (h : sp_P K 1 (F_law A) vs H Q E) : t_law K A (bd Q) (start N_law vs) H :=
  fn_pure (fb := b_law A) (body := fun _ => t_law K A) (fun E => sm_law A fx E) (by decide) h
end

section
variable (A : Ad)
/-- a tape: its place, its numbers, its total -/
def IsTape (tp : List PV) : Prop := ∃ (i : Int) (ns : List Int) (t : Int), 0 ≤ i ∧ tp = [.int i, .lst (ns.map PV.int), .int t]
theorem next_ok {tp : List PV} {m : Int} (h : IsTape tp) (hm : 0 < m) : ∃ r tp', 0 ≤ r ∧ r < m ∧ IsTape tp' ∧ F_l_next A [.own 0, .p (.int m)] [some tp] = .ok (.int r) [some tp'] := by
  obtain ⟨i, ns, t, hi, rfl⟩ := h
  have tp' : IsTape [.int (i + 1), .lst (ns.map PV.int), .int t] := ⟨i + 1, ns, t, by omega, rfl⟩
  unfold F_l_next b_l_next
  walk_at "ev"
  rw [List.length_map]
  by_cases hl : i < (ns.length : Int)
  · have hk : atI (ns.map PV.int) i = some (.int (ns[i.toNat]'(by omega))) := at_nat (j := i.toNat) (by omega) (by rw [List.getElem?_map, List.getElem?_eq_getElem (by omega)]; rfl)
    simp only [hl, decide_true]
    walk_at "ev"
    rw [hk]
    walk_at "ev"
    simp only [hm, decide_true]
    walk_at "ev"
    refine ⟨_, _, Int.emod_nonneg _ (by omega), Int.emod_lt_of_pos _ hm, tp', rfl⟩
  · simp only [hl, decide_false]
    walk_at "ev"
    simp only [hm, decide_true]
    walk_at "ev"
    refine ⟨_, _, Int.emod_nonneg _ (by omega), Int.emod_lt_of_pos _ hm, tp', rfl⟩

theorem tape_ok (ns : List Int) : ∃ tp, IsTape tp ∧ F_l_tape A [.p (.scr (ns.map PV.int))] [] = .ok tp [] := by
  unfold F_l_tape b_l_tape
  walk_at "ev"
  have hc : ∃ ks : List Int, cutD (ns.map PV.int) none (some 63) = ks.map PV.int ∧ ks.length ≤ 63 := by
    refine ⟨ns.take 63, ?_, by simp; omega⟩
    rw [cut_to _ (by omega)]
    simp
  obtain ⟨ks, ek, lk⟩ := hc
  rw [ek]
  generalize hF : forL _ _ _ _ _ = r
  refine Exists.elim (forL_at hF (fun ds e g => ∃ (ms : List Int) (t : Int) (v3 v4 v5 : EV), e = [.p (.scr (ns.map PV.int)), .own 0, .p (.int t), v3, v4, v5] ∧ g = [some (ms.map PV.int)] ∧ ms.length + 24 * ds.length ≤ 24 * 63 ∧ ∀ d, d ∈ ds → ∃ i, d = .int i)
    (fun e g => ∃ (ms : List Int) (t : Int) (v3 v4 v5 : EV), e = [.p (.scr (ns.map PV.int)), .own 0, .p (.int t), v3, v4, v5] ∧ g = [some (ms.map PV.int)]) ⟨[], 1, .no, .no, .no, rfl, rfl, by simp; omega, fun d hd => by obtain ⟨i, _, rfl⟩ := List.mem_map.mp hd; exact ⟨i, rfl⟩⟩ ?_ ?_) fun e q => ?_
  · rintro e g ⟨ms, t, v3, v4, v5, h1, h2, _⟩
    exact ⟨ms, t, v3, v4, v5, h1, h2⟩
  · rintro d ds env g ⟨ms, t, v3, v4, v5, rfl, rfl, hl, hd⟩
    obtain ⟨x, rfl⟩ := hd d List.mem_cons_self
    refine ⟨_, rfl, ?_⟩
    walk_at "ev"
    generalize hR : rngL 0 24 = R
    have lR : R.length = 24 := by rw [← hR]; simp [rngL]
    rw [List.length_cons] at hl
    generalize hF2 : forL _ _ _ _ _ = r2
    refine Exists.elim (forL_at hF2 (fun rs e g => ∃ (ms' : List Int) (y : Int) (v5 : EV), e = [.p (.scr (ns.map PV.int)), .own 0, .p (.int (t + if x < 0 then -x else x)), .p (.int x), .p (.int y), v5] ∧ g = [some (ms'.map PV.int)] ∧ ms'.length + rs.length ≤ ms.length + 24)
      (fun e g => ∃ (ms' : List Int) (y : Int) (v5 : EV), e = [.p (.scr (ns.map PV.int)), .own 0, .p (.int (t + if x < 0 then -x else x)), .p (.int x), .p (.int y), v5] ∧ g = [some (ms'.map PV.int)] ∧ ms'.length ≤ ms.length + 24) ⟨ms, _, _, rfl, rfl, by omega⟩ ?_ ?_) fun e q => ?_
    · rintro e g ⟨ms', y, v5, h1, h2, h3⟩
      exact ⟨ms', y, v5, h1, h2, by simpa using h3⟩
    · rintro d rs env g ⟨ms', y, v5, rfl, rfl, h3⟩
      refine ⟨_, rfl, ?_⟩
      walk_at "ev"
      rw [List.length_map]
      simp only [show ms'.length < 16777216 by omega]
      walk_at "ev"
      have e2 : ms'.map PV.int ++ [PV.int (y % 60)] = (ms' ++ [y % 60]).map PV.int := by simp
      rw [e2]
      rw [List.length_cons] at h3
      by_cases hy : y / 60 = 0
      · simp only [hy, decide_true]
        walk_at "ev"
        exact ⟨_, _, ⟨_, _, _, rfl, rfl, by simp; omega⟩, rfl⟩
      · simp only [hy, decide_false]
        walk_at "ev"
        exact ⟨_, _, ⟨_, _, _, rfl, rfl, by simp; omega⟩, rfl⟩
    · obtain ⟨g, rfl, ms, y, v5, h2, h3, h4⟩ := q
      exact ⟨_, _, .inl ⟨⟨ms, _, _, _, _, h2, h3, by omega, fun d hd' => hd d (List.mem_cons_of_mem _ hd')⟩, .inl rfl⟩⟩
  · obtain ⟨g, rfl, ms, t, v3, v4, v5, h2, h3⟩ := q
    subst h2 h3
    walk_at "ev"
    exact ⟨_, ⟨0, ms, _, by omega, rfl⟩, finN_own rfl (by omega)⟩
end

/-! kinds of k02 -/
inductive Nm where
  | node | pair | wide
inductive Un where
  | box | maybe | shr | exc | task
def Nm.s : Nm → Str
  | .node => "Node"
  | .pair => "Pair"
  | .wide => "Wide"
def Un.s : Un → Str
  | .box => "box"
  | .maybe => "maybe"
  | .shr => "shared"
  | .exc => "exclusive"
  | .task => "task"
inductive Kn where
  | int | bool | unit | recd (n : Nm) | un (u : Un) (k : Kn) | tup (ks : List Kn)
mutual
def Kn.pv : Kn → PV
  | .int => .tup [.str "int"]
  | .bool => .tup [.str "bool"]
  | .unit => .tup [.str "unit"]
  | .recd n => .tup [.str "record", .str n.s]
  | .un u k => .tup [.str u.s, k.pv]
  | .tup ks => .tup [.str "tuple", .tup (Kn.pvs ks)]
def Kn.pvs : List Kn → List PV
  | [] => []
  | k :: ks => k.pv :: Kn.pvs ks
end
mutual
def Kn.lev : Kn → Nat
  | .un _ k => k.lev + 1
  | .tup ks => Kn.levs ks + 1
  | _ => 1
def Kn.levs : List Kn → Nat
  | [] => 0
  | k :: ks => max k.lev (Kn.levs ks)
end
mutual
/-- its tuples have from 1 to 6 items -/
def Kn.wf : Kn → Bool
  | .un _ k => k.wf
  | .tup ks => decide (0 < ks.length) && decide (ks.length ≤ 6) && Kn.wfs ks
  | _ => true
def Kn.wfs : List Kn → Bool
  | [] => true
  | k :: ks => k.wf && Kn.wfs ks
end
theorem Kn.pvs_map (ks : List Kn) : Kn.pvs ks = ks.map Kn.pv := by induction ks with
  | nil => simp [Kn.pvs]
  | cons k ks ih => rw [Kn.pvs, List.map_cons, ih]
theorem Kn.levs_mem {ks : List Kn} {k : Kn} (h : k ∈ ks) : k.lev ≤ Kn.levs ks := by
  induction ks with
  | nil => simp at h
  | cons a ks ih =>
    rw [Kn.levs]
    rcases List.mem_cons.mp h with e | e
    · subst e; exact Nat.le_max_left _ _
    · exact Nat.le_trans (ih e) (Nat.le_max_right _ _)
theorem Kn.levs_le {ks : List Kn} {n : Nat} (h : ∀ k, k ∈ ks → k.lev ≤ n) : Kn.levs ks ≤ n := by
  induction ks with
  | nil => simp [Kn.levs]
  | cons a ks ih =>
    rw [Kn.levs]
    exact Nat.max_le.mpr ⟨h a List.mem_cons_self, ih fun k hk => h k (List.mem_cons_of_mem _ hk)⟩
theorem Kn.wfs_iff {ks : List Kn} : Kn.wfs ks = true ↔ ∀ k, k ∈ ks → k.wf = true := by
  induction ks with
  | nil => simp [Kn.wfs]
  | cons a ks ih => simp [Kn.wfs, ih]
theorem Kn.lev_pos : ∀ k : Kn, 1 ≤ k.lev
  | .int | .bool | .unit | .recd _ => by simp [Kn.lev]
  | .un _ k => by simp [Kn.lev]
  | .tup ks => by simp [Kn.lev]
theorem ints_of {ds ys : List PV} (h : All2 (fun _ y => ∃ c, y = .int c) ds ys) : ∃ ns, intsP ys = some ns := by
  induction h with
  | nil => exact ⟨[], rfl⟩
  | cons h1 _ ih =>
    obtain ⟨c, rfl⟩ := h1
    obtain ⟨ns, e⟩ := ih
    exact ⟨c :: ns, by rw [intsP, e]; rfl⟩
section
variable (A : Ad)
theorem cells_ok : ∀ (n : Nat) (k : Kn), k.lev ≤ n → k.wf = true → ∃ c, F_l_cells A n [.p k.pv] [] = .ok (.int c) []
  | 0, k, h, _ => by have := k.lev_pos; omega
  | n + 1, k, h, w => by
    cases k with
    | int => exact ⟨1, by unfold F_l_cells b_l_cells; simp only [Kn.pv]; walk_at "ev"⟩
    | bool => exact ⟨1, by unfold F_l_cells b_l_cells; simp only [Kn.pv]; walk_at "ev"⟩
    | unit => exact ⟨1, by unfold F_l_cells b_l_cells; simp only [Kn.pv]; walk_at "ev"⟩
    | recd nm => cases nm <;> exact ⟨_, by unfold F_l_cells b_l_cells; simp only [Kn.pv, Nm.s]; walk_at "ev"; rfl⟩
    | un u k =>
      rw [Kn.lev] at h
      obtain ⟨c, hc⟩ := cells_ok n k (by omega) w
      cases u with
      | maybe => exact ⟨1 + c, by unfold F_l_cells b_l_cells; simp only [Kn.pv, Un.s]; walk_at "ev"; rw [hc]; walk_at "ev"⟩
      | _ => exact ⟨1, by unfold F_l_cells b_l_cells; simp only [Kn.pv, Un.s]; walk_at "ev"⟩
    | tup ks =>
      rw [Kn.lev] at h
      simp only [Kn.wf, Bool.and_eq_true, decide_eq_true_eq] at w
      unfold F_l_cells b_l_cells
      simp only [Kn.pv, Kn.pvs_map]
      walk_at "ev"
      simp only [List.length_map, show ks.length < 16777216 by omega]
      walk_at "ev"
      generalize hF : compL _ _ _ _ _ _ = r
      refine Exists.elim (compL_at hF (fun g => g = []) (fun _ y => ∃ c, y = .int c) rfl ?_) fun ys q => ?_
      · rintro d hd g rfl
        obtain ⟨k, hk, rfl⟩ := List.mem_map.mp hd
        obtain ⟨c, hc⟩ := cells_ok n k (by have := Kn.levs_mem hk; omega) (Kn.wfs_iff.mp w.2 k hk)
        exact ⟨_, rfl, .int c, [], rfl, ⟨c, rfl⟩, by walk_at "ev"; rw [hc] <;> walk_at "ev"⟩
      · obtain ⟨g, rfl, rfl, h2⟩ := q
        have hi := ints_of h2
        obtain ⟨ns, e⟩ := hi
        exact ⟨ns.sum, by walk_at "ev"; simp only [fSum, e]; walk_at "ev"⟩
theorem fitting_ok {ks : List Kn} {most : Int} {L : Nat} (hl : ks.length ≤ 6) (h : ∀ k, k ∈ ks → k.lev ≤ L ∧ k.wf = true) (hL : 1 ≤ L ∧ L ≤ 12) : ∃ ks' : List Kn, ks'.length = ks.length ∧ (∀ k, k ∈ ks' → k.lev ≤ L ∧ k.wf = true) ∧ F_l_fitting A [.p (.lst (ks.map Kn.pv)), .p (.int most)] [] = .ok (.tup (ks'.map Kn.pv)) [] := by
  unfold F_l_fitting b_l_fitting
  walk_at "ev"
  rw [List.length_map]
  simp only [show (-4611686018427387904 ≤ (ks.length : Int) ∧ (ks.length : Int) < 4611686018427387904) by omega]
  walk_at "ev"
  rw [Int.toNat_natCast]
  generalize hF : forL _ _ _ _ _ = r
  refine Exists.elim (forL_at hF (fun ds e g => ∃ (i : Int) (m : Nat) (c : Int) (ks' : List Kn) (v4 v5 : EV), ds = rngL i m ∧ 0 ≤ i ∧ i + m = ks.length ∧ (ks'.length : Int) = i ∧ (∀ k, k ∈ ks' → k.lev ≤ L ∧ k.wf = true) ∧ e = [.p (.lst (ks.map Kn.pv)), .p (.int most), .own 0, .p (.int c), v4, v5] ∧ g = [some (ks'.map Kn.pv)])
    (fun e g => ∃ (c : Int) (ks' : List Kn) (v4 v5 : EV), ks'.length = ks.length ∧ (∀ k, k ∈ ks' → k.lev ≤ L ∧ k.wf = true) ∧ e = [.p (.lst (ks.map Kn.pv)), .p (.int most), .own 0, .p (.int c), v4, v5] ∧ g = [some (ks'.map Kn.pv)])
    ⟨0, ks.length, 0, [], .no, .no, rfl, by omega, by omega, rfl, fun k hk => by simp at hk, rfl, rfl⟩ ?_ ?_) fun e q => ?_
  · rintro e g ⟨i, m, c, ks', v4, v5, e0, h0, h1, h2, h3, h4, h5⟩
    cases m with
    | zero => exact ⟨c, ks', v4, v5, by omega, h3, h4, h5⟩
    | succ m => rw [rngL_succ] at e0; cases e0
  · rintro d ds env g ⟨i, m, c, ks', v4, v5, e0, h0, h1, h2, h3, rfl, rfl⟩
    cases m with
    | zero => cases e0
    | succ m =>
    rw [rngL_succ] at e0
    cases e0
    refine ⟨_, rfl, ?_⟩
    obtain ⟨d, d1, d2⟩ := at_i (ds := ks.map Kn.pv) h0 (by simp; omega)
    rw [List.getElem?_map] at d1
    obtain ⟨k, hk, rfl⟩ := Option.map_eq_some_iff.mp d1
    obtain ⟨l1, w1⟩ := h k (List.mem_of_getElem? hk)
    obtain ⟨c1, hc1⟩ := cells_ok A 12 k (by omega) w1
    obtain ⟨c2, hc2⟩ := cells_ok A 12 .int (by simp [Kn.lev]) rfl
    simp only [Kn.pv] at hc2
    walk_at "ev"
    simp only [d2]
    walk_at "ev"
    simp only [hc1]
    walk_at "ev"
    simp only [List.length_map]
    by_cases hm : most < c + c1 + (ks.length : Int) - 1 - i
    · simp only [hm, decide_true]
      walk_at "ev"
      simp only [hc2]
      walk_at "ev"
      simp only [List.length_map, show ks'.length < 16777216 by omega]
      walk_at "ev"
      exact ⟨_, _, ⟨i + 1, m, _, ks' ++ [.int], _, _, rfl, by omega, by omega, by simp; omega, fun k hk => by
        rcases List.mem_append.mp hk with z | z
        · exact h3 k z
        · simp at z; subst z; exact ⟨by simp [Kn.lev]; omega, rfl⟩, rfl, by simp [Kn.pv]⟩, rfl⟩
    · simp only [hm, decide_false]
      walk_at "ev"
      simp only [hc1]
      walk_at "ev"
      simp only [List.length_map, show ks'.length < 16777216 by omega]
      walk_at "ev"
      exact ⟨_, _, ⟨i + 1, m, _, ks' ++ [k], _, _, rfl, by omega, by omega, by simp; omega, fun k' hk => by
        rcases List.mem_append.mp hk with z | z
        · exact h3 k' z
        · simp at z; subst z; exact ⟨l1, w1⟩, rfl, by simp⟩, rfl⟩
  · obtain ⟨g, rfl, c, ks', v4, v5, h1, h2, rfl, rfl⟩ := q
    walk_at "ev"
    exact ⟨ks', h1, h2, rfl⟩
end

theorem all2_len {R : PV → PV → Prop} {xs ys : List PV} (h : All2 R xs ys) : xs.length = ys.length := by
  induction h with
  | nil => rfl
  | cons _ _ ih => simp [ih]
theorem kinds_of {P : Kn → Prop} {xs ys : List PV} (h : All2 (fun _ y => ∃ k : Kn, y = k.pv ∧ P k) xs ys) : ∃ ks : List Kn, ys = ks.map Kn.pv ∧ ∀ k, k ∈ ks → P k := by
  induction h with
  | nil => exact ⟨[], rfl, fun k hk => by simp at hk⟩
  | cons h1 _ ih =>
    obtain ⟨k, rfl, p⟩ := h1
    obtain ⟨ks, rfl, q⟩ := ih
    exact ⟨k :: ks, rfl, fun k' hk => (List.mem_cons.mp hk).elim (fun e => e ▸ p) (q k')⟩
theorem rngL_len {lo : Int} {n : Nat} : (rngL lo n).length = n := by simp [rngL]
section
variable (A : Ad)
theorem kind_ok : ∀ (n : Nat) (D : Int) (plain : Bool) (tp : List PV), 1 ≤ D → D ≤ n → D ≤ 6 → IsTape tp → ∃ (k : Kn) (tp' : List PV), IsTape tp' ∧ k.lev ≤ D.toNat ∧ k.wf = true ∧ F_l_kind A n [.own 0, .p (.int D), .p (.bl plain)] [some tp] = .ok k.pv [some tp']
  | 0, D, plain, tp, h1, h2, h3, ht => by omega
  | n + 1, D, plain, tp, h1, h2, h3, ht => by
    have ih : ∀ (b : Bool) (t : List PV), 2 ≤ D → IsTape t → ∃ (k : Kn) (tp' : List PV), IsTape tp' ∧ k.lev ≤ D.toNat - 1 ∧ k.wf = true ∧ F_l_kind A n [.own 0, .p (.int (D - 1)), .p (.bl b)] [some t] = .ok k.pv [some tp'] := fun b t h2 ht => by
      obtain ⟨k, t', a1, a2, a3, a4⟩ := kind_ok n (D - 1) b t (by omega) (by omega) (by omega) ht
      exact ⟨k, t', a1, by omega, a3, a4⟩
    have nx : ∀ (tp : List PV) (m : Int), IsTape tp → 0 < m → ∃ r tp', 0 ≤ r ∧ r < m ∧ IsTape tp' ∧ F_l_next A [.own 0, .p (.int m)] [some tp] = .ok (.int r) [some tp'] := fun tp m h hm => next_ok A h hm
    have fit : ∀ (ks : List Kn) (most : Int) (L : Nat), ks.length ≤ 6 → (∀ k, k ∈ ks → k.lev ≤ L ∧ k.wf = true) → (1 ≤ L ∧ L ≤ 12) → ∃ ks' : List Kn, ks'.length = ks.length ∧ (∀ k, k ∈ ks' → k.lev ≤ L ∧ k.wf = true) ∧ F_l_fitting A [.p (.lst (ks.map Kn.pv)), .p (.int most)] [] = .ok (.tup (ks'.map Kn.pv)) [] := fun ks most L a b c => fitting_ok A a b c
    unfold F_l_kind b_l_kind
    generalize F_l_next A = Gn at *
    generalize F_l_fitting A = Gf at *
    generalize F_l_kind A n = Gk at *
    obtain ⟨ch, t1, c0, c1, ht1, e1⟩ := nx tp 11 ht (by omega)
    walk_at "ev"
    simp only [e1]
    walk_at "ev"
    by_cases hb : D ≤ 1 ∨ ch < 2
    · have hor : ∀ G : Gm, (if decide (D ≤ 1) = true then XR.ok true G else XR.ok (decide (ch < 2)) G) = XR.ok true G := fun G => by
        by_cases h : D ≤ 1
        · simp [h]
        · simp [h, hb.resolve_left h]
      simp only [hor]
      obtain ⟨r2, t2, d0, d1, ht2, e2⟩ := nx t1 3 ht1 (by omega)
      obtain ⟨r3, t3, f0, f1, ht3, e3⟩ := nx t2 5 ht2 (by omega)
      walk_at "ev"
      simp only [e2]
      walk_at "ev"
      have hr2 : r2 = 0 ∨ r2 = 1 ∨ r2 = 2 := by omega
      have hr3 : r3 = 0 ∨ r3 = 1 ∨ r3 = 2 ∨ r3 = 3 ∨ r3 = 4 := by omega
      rcases hr2 with rfl | rfl | rfl <;> rcases hr3 with rfl | rfl | rfl | rfl | rfl <;> (
        walk_at "ev"
        simp only [e3]
        walk_at "ev"
        first
        | exact ⟨.int, t3, ht3, by simp [Kn.lev]; omega, rfl, rfl⟩
        | exact ⟨.bool, t3, ht3, by simp [Kn.lev]; omega, rfl, rfl⟩
        | exact ⟨.unit, t3, ht3, by simp [Kn.lev]; omega, rfl, rfl⟩
        | exact ⟨.recd .node, t3, ht3, by simp [Kn.lev]; omega, rfl, rfl⟩
        | exact ⟨.recd .pair, t3, ht3, by simp [Kn.lev]; omega, rfl, rfl⟩
        | exact ⟨.recd .wide, t3, ht3, by simp [Kn.lev]; omega, rfl, rfl⟩)
    · have hd2 : 2 ≤ D := by omega
      have hor : ∀ G : Gm, (if decide (D ≤ 1) = true then XR.ok true G else XR.ok (decide (ch < 2)) G) = XR.ok false G := fun G => by
        have h1 : ¬ D ≤ 1 := fun h => hb (.inl h)
        have h2 : ¬ ch < 2 := fun h => hb (.inr h)
        simp [h1, h2]
      simp only [hor]
      walk_at "ev"
      by_cases h4 : ch < 4
      · simp only [h4, decide_true]
        obtain ⟨k, t2, ht2, l, w, e2⟩ := ih true t1 hd2 ht1
        walk_at "ev"
        simp only [e2]
        walk_at "ev"
        exact ⟨.un .box k, t2, ht2, by simp [Kn.lev]; omega, by simpa [Kn.wf] using w, rfl⟩
      simp only [h4, decide_false]
      walk_at "ev"
      by_cases h6 : ch < 6
      · simp only [h6, decide_true]
        obtain ⟨k, t2, ht2, l, w, e2⟩ := ih plain t1 hd2 ht1
        walk_at "ev"
        simp only [e2]
        walk_at "ev"
        obtain ⟨ks', q1, q2, q3⟩ := fit [k] 59 (D.toNat - 1) (by simp) (fun k' hk => by simp at hk; subst hk; exact ⟨l, w⟩) (by omega)
        match ks', q1 with
        | [k'], _ =>
        simp only [List.map_cons, List.map_nil] at q3
        simp only [q3]
        walk_at "ev"
        obtain ⟨l', w'⟩ := q2 k' (by simp)
        exact ⟨.un .maybe k', t2, ht2, by simp [Kn.lev]; omega, by simpa [Kn.wf] using w', rfl⟩
      simp only [h6, decide_false]
      walk_at "ev"
      by_cases hb2 : ch = 6 ∨ plain = true
      · have hor2 : ∀ G : Gm, (if decide (ch = 6) = true then XR.ok true G else XR.ok plain G) = XR.ok true G := fun G => by
          by_cases h : ch = 6
          · simp [h]
          · simp [h, hb2.resolve_left h]
        simp only [hor2]
        obtain ⟨r2, t2, d0, d1, ht2, e2⟩ := nx t1 5 ht1 (by omega)
        walk_at "ev"
        simp only [e2]
        walk_at "ev"
        simp only [show (-4611686018427387904 ≤ 2 + r2 ∧ 2 + r2 < 4611686018427387904) by omega]
        walk_at "ev"
        simp only [rngL_len, show (2 + r2).toNat < 16777216 by omega]
        walk_at "ev"
        generalize hF : compL _ _ _ _ _ _ = r
        refine Exists.elim (compL_at hF (fun g => ∃ t, IsTape t ∧ g = [some t]) (fun _ y => ∃ k : Kn, y = k.pv ∧ k.lev ≤ D.toNat - 1 ∧ k.wf = true) ⟨t2, ht2, rfl⟩ ?_) fun ys q => ?_
        · rintro d hd g ⟨t, hti, rfl⟩
          obtain ⟨k, t', ht', l, w, e2⟩ := ih plain t hd2 hti
          exact ⟨_, rfl, k.pv, _, ⟨t', ht', rfl⟩, ⟨k, rfl, l, w⟩, by walk_at "ev"; simp only [e2]; try walk_at "ev"⟩
        · obtain ⟨g, rfl, ⟨t, hti, rfl⟩, q2⟩ := q
          have ql := all2_len q2
          obtain ⟨ks, rfl, q3⟩ := kinds_of q2
          rw [rngL_len, List.length_map] at ql
          obtain ⟨ks', p1, p2, p3⟩ := fit ks 60 (D.toNat - 1) (by omega) q3 (by omega)
          walk_at "ev"
          simp only [p3]
          walk_at "ev"
          refine ⟨.tup ks', t, hti, ?_, ?_, by rw [Kn.pv, Kn.pvs_map]⟩
          · have := Kn.levs_le fun k hk => (p2 k hk).1
            simp only [Kn.lev]
            omega
          · simp only [Kn.wf, Bool.and_eq_true, decide_eq_true_eq]
            exact ⟨⟨by omega, by omega⟩, Kn.wfs_iff.mpr fun k hk => (p2 k hk).2⟩
      · have hor2 : ∀ G : Gm, (if decide (ch = 6) = true then XR.ok true G else XR.ok plain G) = XR.ok false G := fun G => by
          have h1 : ¬ ch = 6 := fun h => hb2 (.inl h)
          have h2 : plain = false := by simpa using fun h => hb2 (.inr h)
          simp [h1, h2]
        simp only [hor2]
        obtain ⟨k, t2, ht2, l, w, e2⟩ := ih true t1 hd2 ht1
        have hc : ch = 7 ∨ ch = 8 ∨ ch = 9 ∨ ch = 10 := by omega
        rcases hc with rfl | rfl | rfl | rfl <;> (
          walk_at "ev"
          simp only [e2]
          walk_at "ev"
          first
          | exact ⟨.un .shr k, t2, ht2, by simp [Kn.lev]; omega, by simpa [Kn.wf] using w, rfl⟩
          | exact ⟨.un .exc k, t2, ht2, by simp [Kn.lev]; omega, by simpa [Kn.wf] using w, rfl⟩
          | exact ⟨.un .task k, t2, ht2, by simp [Kn.lev]; omega, by simpa [Kn.wf] using w, rfl⟩)
end

def fieldsK : Nm → List (Str × Kn)
  | .node => [("n", .int), ("next", .un .maybe (.un .box (.recd .node)))]
  | .pair => [("n", .bool), ("b", .un .maybe (.un .box (.recd .wide)))]
  | .wide => [("a", .int), ("next", .recd .pair), ("n", .tup [.int, .bool])]
def fieldsP (n : Nm) : PV := .tup ((fieldsK n).map fun p => .tup [.str p.1, p.2.pv])
def rowP (n : Nm) : PV := .tup [.str n.s, fieldsP n]
def rowsP (ns : List Nm) : PV := .tup (ns.map rowP)
section
variable (A : Ad)
theorem fields_ok (n : Nm) : F_l_fields A [.p (.str n.s)] [] = .ok (fieldsP n) [] := by
  cases n <;> (unfold F_l_fields b_l_fields; simp only [Nm.s]; walk_at "ev"; rfl)
theorem records_ok {tp : List PV} (h : IsTape tp) : ∃ ns tp', (∀ n : Nm, n ∈ ns) ∧ IsTape tp' ∧ F_l_records A [.own 0] [some tp] = .ok (rowsP ns) [some tp'] := by
  obtain ⟨r1, t1, a0, a1, ht1, e1⟩ := next_ok A h (m := 3) (by omega)
  obtain ⟨r2, t2, b0, b1, ht2, e2⟩ := next_ok A ht1 (m := 2) (by omega)
  have fld := fields_ok A
  unfold F_l_records b_l_records
  generalize F_l_next A = Gn at *
  generalize F_l_fields A = Gf at *
  walk_at "ev"
  simp only [e1]
  have hr1 : r1 = 0 ∨ r1 = 1 ∨ r1 = 2 := by omega
  have hr2 : r2 = 0 ∨ r2 = 1 := by omega
  have c0 : ∀ x y z : PV, cutD [x, y, z] (some 0) none = [x, y, z] := fun x y z => by rw [cut_from _ (by decide)]; rfl
  have c1 : ∀ x y z : PV, cutD [x, y, z] (some 1) none = [y, z] := fun x y z => by rw [cut_from _ (by decide)]; rfl
  have c2 : ∀ x y z : PV, cutD [x, y, z] (some 2) none = [z] := fun x y z => by rw [cut_from _ (by decide)]; rfl
  have c3 : ∀ x y z : PV, cutD [x, y, z] none (some 0) = [] := fun x y z => by rw [cut_to _ (by decide)]; rfl
  have c4 : ∀ x y z : PV, cutD [x, y, z] none (some 1) = [x] := fun x y z => by rw [cut_to _ (by decide)]; rfl
  have c5 : ∀ x y z : PV, cutD [x, y, z] none (some 2) = [x, y] := fun x y z => by rw [cut_to _ (by decide)]; rfl
  have f1 := fld .node
  have f2 := fld .pair
  have f3 := fld .wide
  simp only [Nm.s] at f1 f2 f3
  rcases hr1 with rfl | rfl | rfl <;> rcases hr2 with rfl | rfl <;> (
    walk_at "ev"
    simp only [c0, c1, c2, c3, c4, c5]
    walk_at "ev"
    simp only [e2]
    walk_at "ev"
    try simp only [rev3]
    try walk_at "ev"
    simp only [f1, f2, f3]
    walk_at "ev"
    first
    | exact ⟨[.node, .pair, .wide], t2, fun n => by cases n <;> simp, ht2, rfl⟩
    | exact ⟨[.wide, .pair, .node], t2, fun n => by cases n <;> simp, ht2, rfl⟩
    | exact ⟨[.pair, .wide, .node], t2, fun n => by cases n <;> simp, ht2, rfl⟩
    | exact ⟨[.node, .wide, .pair], t2, fun n => by cases n <;> simp, ht2, rfl⟩
    | exact ⟨[.wide, .node, .pair], t2, fun n => by cases n <;> simp, ht2, rfl⟩
    | exact ⟨[.pair, .node, .wide], t2, fun n => by cases n <;> simp, ht2, rfl⟩)
theorem fieldsof_ok (m : Nm) : ∀ ns : List Nm, m ∈ ns → F_fields_of A [.p (rowsP ns), .p (.str m.s)] [] = .ok (fieldsP m) [] := by
  have go : ∀ (ns : List Nm) (w : PV) (v : EV), m ∈ ns → ∃ z, forL (gN 2) (xIf (xTst (xOp fEq (xOp fIx (xVar 2) (xC (.int 0))) (xVar 1))) (xRet (xOp fIx (xVar 2) (xC (.int 1)))) xNext) (ns.map rowP) [.p w, .p (.str m.s), v] [] = .rt (.p (fieldsP m)) z ∧ z = [] := by
    intro ns
    induction ns with
    | nil => intro w v h; simp at h
    | cons n ns ih =>
      intro w v h
      by_cases e : n = m
      · subst e
        refine ⟨[], ?_, rfl⟩
        simp only [List.map_cons, rowP]
        walk_at "ev"
      · obtain ⟨z, h1, h2⟩ := ih w (.p (rowP n)) (by rcases List.mem_cons.mp h with q | q; exact absurd q.symm e; exact q)
        refine ⟨z, ?_, h2⟩
        rw [List.map_cons, forL_name]
        have hne : decide (n.s = m.s) = false := by
          cases n <;> cases m <;> first | exact absurd rfl e | (simp only [Nm.s]; decide +kernel)
        simp only [rowP] at h1 ⊢
        walk_at "ev"
        simp only [hne]
        walk_at "ev"
        exact h1
  intro ns h
  obtain ⟨z, h1, rfl⟩ := go ns (rowsP ns) .no h
  unfold F_fields_of b_fields_of
  simp only [rowsP] at h1 ⊢
  walk_at "ev"
  simp only [h1]
  walk_at "ev"
end

def afterF : Kn → PV → Option Kn
  | .un .maybe k, .str t => if t = "?" then some k else none
  | .un .box k, .str t => if t = "^" then some k else none
  | .un .shr k, .str t => if t = "^" then some k else none
  | .un .exc k, .str t => if t = "^" then some k else none
  | .tup ks, .int i => if 0 ≤ i ∧ i < ks.length then ks[i.toNat]? else none
  | .recd n, .str t => ((fieldsK n).find? fun p => decide (p.1 = t)).map Prod.snd
  | _, _ => none
def optP : Option Kn → PV
  | some k => k.pv
  | none => .non
def optX (A : Ad) : Option Kn → XR PV
  | some k => .ok k.pv []
  | none => .exn A.c_NoSuchStep []
/-- a step: a number, or a text that can be laid -/
def StepP (s : PV) : Prop := (∃ i, s = .int i) ∨ ∃ t, s = .str t ∧ PyData.strOk t = true
section
variable (A : Ad)
theorem kafter_ok {ns : List Nm} (hns : ∀ n : Nm, n ∈ ns) (k : Kn) (s : PV) (hs : (∃ i, s = .int i) ∨ ∃ t, s = .str t) : F_kind_after A [.p (rowsP ns), .p k.pv, .p s] [] = optX A (afterF k s) := by
  have fo : ∀ m : Nm, F_fields_of A [.p (rowsP ns), .p (.str m.s)] [] = .ok (fieldsP m) [] := fun m => fieldsof_ok A m ns (hns m)
  unfold F_kind_after b_kind_after
  generalize F_fields_of A = Gf at *
  generalize rowsP ns = rs at *
  rcases hs with ⟨i, rfl⟩ | ⟨t, rfl⟩
  · cases k with
    | int => simp only [Kn.pv, afterF, optX]; walk_at "ev"
    | bool => simp only [Kn.pv, afterF, optX]; walk_at "ev"
    | unit => simp only [Kn.pv, afterF, optX]; walk_at "ev"
    | un u k => cases u <;> (simp only [Kn.pv, Un.s, afterF, optX]; walk_at "ev")
    | recd n =>
      have f := fo n
      cases n <;> (simp only [Kn.pv, Nm.s, afterF, optX] at f ⊢; walk_at "ev"; simp only [f, fieldsP, fieldsK]; walk_at "ev")
    | tup ks =>
      simp only [Kn.pv, Kn.pvs_map, afterF]
      walk_at "ev"
      simp only [List.length_map]
      by_cases h0 : 0 ≤ i
      · by_cases h1 : i < ks.length
        · obtain ⟨d, d1, d2⟩ := at_i (ds := ks.map Kn.pv) h0 (by simpa using h1)
          rw [List.getElem?_map] at d1
          obtain ⟨k, hk, rfl⟩ := Option.map_eq_some_iff.mp d1
          simp only [h0, h1, decide_true, hk]
          walk_at "ev"
          simp only [d2, optX]
          walk_at "ev"
        · simp only [h0, h1, decide_true, decide_false]
          walk_at "ev"
          simp only [optX]
      · simp only [h0, decide_false]
        walk_at "ev"
        simp only [optX]
  · have qc : ¬ (Str.ofString "?" = Str.ofString "^") := by rw [ofStr_eq]; decide
    by_cases hq : t = "?"
    · subst hq
      cases k with
      | int => simp only [Kn.pv, afterF, optX]; walk_at "ev"
      | bool => simp only [Kn.pv, afterF, optX]; walk_at "ev"
      | unit => simp only [Kn.pv, afterF, optX]; walk_at "ev"
      | un u k => cases u <;> (simp only [Kn.pv, Un.s, afterF, optX]; walk_at "ev")
      | recd n => cases n <;> (simp only [Kn.pv, Nm.s, afterF, optX, fieldsK, List.find?]; walk_at "ev")
      | tup ks => simp only [Kn.pv, afterF, optX]; walk_at "ev"
    · by_cases hc : t = "^"
      · subst hc
        cases k with
        | int => simp only [Kn.pv, afterF, optX]; walk_at "ev"
        | bool => simp only [Kn.pv, afterF, optX]; walk_at "ev"
        | unit => simp only [Kn.pv, afterF, optX]; walk_at "ev"
        | un u k => cases u <;> (simp only [Kn.pv, Un.s, afterF, optX]; walk_at "ev")
        | recd n => cases n <;> (simp only [Kn.pv, Nm.s, afterF, optX, fieldsK, List.find?]; walk_at "ev")
        | tup ks => simp only [Kn.pv, afterF, optX]; walk_at "ev"
      · cases k with
        | int => simp only [Kn.pv, afterF, optX, hq, hc]; walk_at "ev"; simp only [hq, hc, decide_false]; walk_at "ev"
        | bool => simp only [Kn.pv, afterF, optX, hq, hc]; walk_at "ev"; simp only [hq, hc, decide_false]; walk_at "ev"
        | unit => simp only [Kn.pv, afterF, optX, hq, hc]; walk_at "ev"; simp only [hq, hc, decide_false]; walk_at "ev"
        | un u k => cases u <;> (simp only [Kn.pv, Un.s, afterF, optX, hq, hc]; walk_at "ev"; simp only [hq, hc, decide_false]; walk_at "ev")
        | recd n =>
          have f := fo n
          cases n with
          | node =>
            simp only [Kn.pv, Nm.s, afterF, fieldsK, List.find?] at f ⊢
            walk_at "ev"
            simp only [hq, hc, decide_false]
            walk_at "ev"
            simp only [f, fieldsP, fieldsK]
            walk_at "ev"
            by_cases h1 : Str.ofString "n" = t
            · simp only [h1, decide_true]; walk_at "ev"; (try (simp only [h1, decide_true]; walk_at "ev")); (try (simp only [h1, decide_true]; walk_at "ev")); simp only [optX]
            · by_cases h2 : Str.ofString "next" = t
              · simp only [h1, h2, decide_true, decide_false]; walk_at "ev"; (try (simp only [h1, h2, decide_true, decide_false]; walk_at "ev")); (try (simp only [h1, h2, decide_true, decide_false]; walk_at "ev")); simp only [optX]
              · simp only [h1, h2, decide_false]; walk_at "ev"; (try (simp only [h1, h2, decide_false]; walk_at "ev")); (try (simp only [h1, h2, decide_false]; walk_at "ev")); simp only [optX]
          | pair =>
            simp only [Kn.pv, Nm.s, afterF, fieldsK, List.find?] at f ⊢
            walk_at "ev"
            simp only [hq, hc, decide_false]
            walk_at "ev"
            simp only [f, fieldsP, fieldsK]
            walk_at "ev"
            by_cases h1 : Str.ofString "n" = t
            · simp only [h1, decide_true]; walk_at "ev"; (try (simp only [h1, decide_true]; walk_at "ev")); (try (simp only [h1, decide_true]; walk_at "ev")); simp only [optX]
            · by_cases h2 : Str.ofString "b" = t
              · simp only [h1, h2, decide_true, decide_false]; walk_at "ev"; (try (simp only [h1, h2, decide_true, decide_false]; walk_at "ev")); (try (simp only [h1, h2, decide_true, decide_false]; walk_at "ev")); simp only [optX]
              · simp only [h1, h2, decide_false]; walk_at "ev"; (try (simp only [h1, h2, decide_false]; walk_at "ev")); (try (simp only [h1, h2, decide_false]; walk_at "ev")); simp only [optX]
          | wide =>
            simp only [Kn.pv, Nm.s, afterF, fieldsK, List.find?] at f ⊢
            walk_at "ev"
            simp only [hq, hc, decide_false]
            walk_at "ev"
            simp only [f, fieldsP, fieldsK]
            walk_at "ev"
            by_cases h1 : Str.ofString "a" = t
            · simp only [h1, decide_true]; walk_at "ev"; (try (simp only [h1, decide_true]; walk_at "ev")); (try (simp only [h1, decide_true]; walk_at "ev")); simp only [optX]
            · by_cases h2 : Str.ofString "next" = t
              · simp only [h1, h2, decide_true, decide_false]; walk_at "ev"; (try (simp only [h1, h2, decide_true, decide_false]; walk_at "ev")); (try (simp only [h1, h2, decide_true, decide_false]; walk_at "ev")); simp only [optX]
              · by_cases h3 : Str.ofString "n" = t
                · simp only [h1, h2, h3, decide_true, decide_false]; walk_at "ev"; (try (simp only [h1, h2, h3, decide_true, decide_false]; walk_at "ev")); (try (simp only [h1, h2, h3, decide_true, decide_false]; walk_at "ev")); simp only [optX]
                · simp only [h1, h2, h3, decide_false]; walk_at "ev"; (try (simp only [h1, h2, h3, decide_false]; walk_at "ev")); (try (simp only [h1, h2, h3, decide_false]; walk_at "ev")); simp only [optX]
        | tup ks => simp only [Kn.pv, afterF, optX]; walk_at "ev"; simp only [hq, hc, decide_false]; walk_at "ev"
theorem lafter_ok (k : Kn) (s : PV) (hs : (∃ i, s = .int i) ∨ ∃ t, s = .str t) : F_l_after A [.p k.pv, .p s] [] = .ok (optP (afterF k s)) [] := by
  have fo : ∀ m : Nm, F_l_fields A [.p (.str m.s)] [] = .ok (fieldsP m) [] := fields_ok A
  unfold F_l_after b_l_after
  generalize F_l_fields A = Gf at *
  rcases hs with ⟨i, rfl⟩ | ⟨t, rfl⟩
  · cases k with
    | int => simp only [Kn.pv, afterF, optP]; walk_at "ev"
    | bool => simp only [Kn.pv, afterF, optP]; walk_at "ev"
    | unit => simp only [Kn.pv, afterF, optP]; walk_at "ev"
    | un u k => cases u <;> (simp only [Kn.pv, Un.s, afterF, optP]; walk_at "ev")
    | recd n =>
      have f := fo n
      cases n <;> (simp only [Kn.pv, Nm.s, afterF, optP] at f ⊢; walk_at "ev"; try (simp only [f, fieldsP, fieldsK]; walk_at "ev"))
    | tup ks =>
      simp only [Kn.pv, Kn.pvs_map, afterF]
      walk_at "ev"
      simp only [List.length_map]
      by_cases h0 : 0 ≤ i
      · by_cases h1 : i < ks.length
        · obtain ⟨d, d1, d2⟩ := at_i (ds := ks.map Kn.pv) h0 (by simpa using h1)
          rw [List.getElem?_map] at d1
          obtain ⟨k, hk, rfl⟩ := Option.map_eq_some_iff.mp d1
          simp only [h0, h1, decide_true, hk]
          walk_at "ev"
          simp only [d2, optP]
          walk_at "ev"
        · simp only [h0, h1, decide_true, decide_false]
          walk_at "ev"
          simp only [optP]
      · simp only [h0, decide_false]
        walk_at "ev"
        simp only [optP]
  · have qc : ¬ (Str.ofString "?" = Str.ofString "^") := by rw [ofStr_eq]; decide
    by_cases hq : t = "?"
    · subst hq
      cases k with
      | int => simp only [Kn.pv, afterF, optP]; walk_at "ev"
      | bool => simp only [Kn.pv, afterF, optP]; walk_at "ev"
      | unit => simp only [Kn.pv, afterF, optP]; walk_at "ev"
      | un u k => cases u <;> (simp only [Kn.pv, Un.s, afterF, optP]; walk_at "ev")
      | recd n => cases n <;> (simp only [Kn.pv, Nm.s, afterF, optP, fieldsK, List.find?]; walk_at "ev")
      | tup ks => simp only [Kn.pv, afterF, optP]; walk_at "ev"
    · by_cases hc : t = "^"
      · subst hc
        cases k with
        | int => simp only [Kn.pv, afterF, optP]; walk_at "ev"
        | bool => simp only [Kn.pv, afterF, optP]; walk_at "ev"
        | unit => simp only [Kn.pv, afterF, optP]; walk_at "ev"
        | un u k => cases u <;> (simp only [Kn.pv, Un.s, afterF, optP]; walk_at "ev")
        | recd n => cases n <;> (simp only [Kn.pv, Nm.s, afterF, optP, fieldsK, List.find?]; walk_at "ev")
        | tup ks => simp only [Kn.pv, afterF, optP]; walk_at "ev"
      · cases k with
        | int => simp only [Kn.pv, afterF, optP, hq, hc]; walk_at "ev"; simp only [hq, hc, decide_false]; walk_at "ev"; try (simp only [hq, hc, decide_false]; walk_at "ev")
        | bool => simp only [Kn.pv, afterF, optP, hq, hc]; walk_at "ev"; simp only [hq, hc, decide_false]; walk_at "ev"; try (simp only [hq, hc, decide_false]; walk_at "ev")
        | unit => simp only [Kn.pv, afterF, optP, hq, hc]; walk_at "ev"; simp only [hq, hc, decide_false]; walk_at "ev"; try (simp only [hq, hc, decide_false]; walk_at "ev")
        | un u k => cases u <;> (simp only [Kn.pv, Un.s, afterF, optP, hq, hc]; walk_at "ev"; simp only [hq, hc, decide_false]; walk_at "ev"; try (simp only [hq, hc, decide_false]; walk_at "ev"))
        | recd n =>
          have f := fo n
          cases n with
          | node =>
            simp only [Kn.pv, Nm.s, afterF, fieldsK, List.find?] at f ⊢
            walk_at "ev"
            simp only [hq, hc, decide_false]
            walk_at "ev"
            try (simp only [hq, hc, decide_false]; walk_at "ev")
            simp only [f, fieldsP, fieldsK]
            walk_at "ev"
            by_cases h1 : Str.ofString "n" = t
            · simp only [h1, decide_true]; walk_at "ev"; (try (simp only [h1, decide_true]; walk_at "ev")); (try (simp only [h1, decide_true]; walk_at "ev")); simp only [optP]
            · by_cases h2 : Str.ofString "next" = t
              · simp only [h1, h2, decide_true, decide_false]; walk_at "ev"; (try (simp only [h1, h2, decide_true, decide_false]; walk_at "ev")); (try (simp only [h1, h2, decide_true, decide_false]; walk_at "ev")); simp only [optP]
              · simp only [h1, h2, decide_false]; walk_at "ev"; (try (simp only [h1, h2, decide_false]; walk_at "ev")); (try (simp only [h1, h2, decide_false]; walk_at "ev")); simp only [optP]
          | pair =>
            simp only [Kn.pv, Nm.s, afterF, fieldsK, List.find?] at f ⊢
            walk_at "ev"
            simp only [hq, hc, decide_false]
            walk_at "ev"
            try (simp only [hq, hc, decide_false]; walk_at "ev")
            simp only [f, fieldsP, fieldsK]
            walk_at "ev"
            by_cases h1 : Str.ofString "n" = t
            · simp only [h1, decide_true]; walk_at "ev"; (try (simp only [h1, decide_true]; walk_at "ev")); (try (simp only [h1, decide_true]; walk_at "ev")); simp only [optP]
            · by_cases h2 : Str.ofString "b" = t
              · simp only [h1, h2, decide_true, decide_false]; walk_at "ev"; (try (simp only [h1, h2, decide_true, decide_false]; walk_at "ev")); (try (simp only [h1, h2, decide_true, decide_false]; walk_at "ev")); simp only [optP]
              · simp only [h1, h2, decide_false]; walk_at "ev"; (try (simp only [h1, h2, decide_false]; walk_at "ev")); (try (simp only [h1, h2, decide_false]; walk_at "ev")); simp only [optP]
          | wide =>
            simp only [Kn.pv, Nm.s, afterF, fieldsK, List.find?] at f ⊢
            walk_at "ev"
            simp only [hq, hc, decide_false]
            walk_at "ev"
            try (simp only [hq, hc, decide_false]; walk_at "ev")
            simp only [f, fieldsP, fieldsK]
            walk_at "ev"
            by_cases h1 : Str.ofString "a" = t
            · simp only [h1, decide_true]; walk_at "ev"; (try (simp only [h1, decide_true]; walk_at "ev")); (try (simp only [h1, decide_true]; walk_at "ev")); simp only [optP]
            · by_cases h2 : Str.ofString "next" = t
              · simp only [h1, h2, decide_true, decide_false]; walk_at "ev"; (try (simp only [h1, h2, decide_true, decide_false]; walk_at "ev")); (try (simp only [h1, h2, decide_true, decide_false]; walk_at "ev")); simp only [optP]
              · by_cases h3 : Str.ofString "n" = t
                · simp only [h1, h2, h3, decide_true, decide_false]; walk_at "ev"; (try (simp only [h1, h2, h3, decide_true, decide_false]; walk_at "ev")); (try (simp only [h1, h2, h3, decide_true, decide_false]; walk_at "ev")); simp only [optP]
                · simp only [h1, h2, h3, decide_false]; walk_at "ev"; (try (simp only [h1, h2, h3, decide_false]; walk_at "ev")); (try (simp only [h1, h2, h3, decide_false]; walk_at "ev")); simp only [optP]
        | tup ks => simp only [Kn.pv, afterF, optP]; walk_at "ev"; simp only [hq, hc, decide_false]; walk_at "ev"; try (simp only [hq, hc, decide_false]; walk_at "ev")
end

theorem fields_str (n : Nm) : ∀ p, p ∈ fieldsK n → PyData.strOk p.1 = true := by
  cases n <;> (intro p hp; simp only [fieldsK, List.mem_cons, List.not_mem_nil, or_false] at hp) <;> (rcases hp with rfl | rfl | rfl) <;> decide +kernel
section
variable (A : Ad)
theorem step_ok {k : Kn} (w : k.wf = true) {tp : List PV} (h : IsTape tp) : ∃ s tp', StepP s ∧ IsTape tp' ∧ F_l_step A [.own 0, .p k.pv] [some tp] = .ok s [some tp'] := by
  have nx : ∀ (tp : List PV) (m : Int), IsTape tp → 0 < m → ∃ r tp', 0 ≤ r ∧ r < m ∧ IsTape tp' ∧ F_l_next A [.own 0, .p (.int m)] [some tp] = .ok (.int r) [some tp'] := fun tp m h hm => next_ok A h hm
  have fo : ∀ m : Nm, F_l_fields A [.p (.str m.s)] [] = .ok (fieldsP m) [] := fields_ok A
  unfold F_l_step b_l_step
  generalize F_l_next A = Gn at *
  generalize F_l_fields A = Gf at *
  obtain ⟨r1, t1, a0, a1, ht1, e1⟩ := nx tp 12 h (by omega)
  walk_at "ev"
  simp only [e1]
  walk_at "ev"
  by_cases h0 : r1 = 0
  · obtain ⟨r2, t2, b0, b1, ht2, e2⟩ := nx t1 14 ht1 (by omega)
    simp only [h0, decide_true]
    walk_at "ev"
    simp only [e2]
    walk_at "ev"
    obtain ⟨d, d1, d2⟩ := at_i (ds := [PV.int 0, .int 1, .int 2, .int 3, .int 5, .int 6, .int (-1), .str "?", .str "^", .str "n", .str "next", .str "a", .str "b", .str "none"]) b0 (by simpa using b1)
    simp only [d2]
    walk_at "ev"
    refine ⟨d, t2, ?_, ht2, rfl⟩
    have := List.mem_of_getElem? d1
    simp only [List.mem_cons, List.not_mem_nil, or_false] at this
    rcases this with rfl | rfl | rfl | rfl | rfl | rfl | rfl | rfl | rfl | rfl | rfl | rfl | rfl | rfl <;> first | exact .inl ⟨_, rfl⟩ | exact .inr ⟨_, rfl, by decide +kernel⟩
  · simp only [h0, decide_false]
    walk_at "ev"
    cases k with
    | int => simp only [Kn.pv]; walk_at "ev"; exact ⟨_, t1, .inr ⟨_, rfl, by decide +kernel⟩, ht1, rfl⟩
    | bool => simp only [Kn.pv]; walk_at "ev"; exact ⟨_, t1, .inr ⟨_, rfl, by decide +kernel⟩, ht1, rfl⟩
    | unit => simp only [Kn.pv]; walk_at "ev"; exact ⟨_, t1, .inr ⟨_, rfl, by decide +kernel⟩, ht1, rfl⟩
    | un u k => cases u <;> (simp only [Kn.pv, Un.s]; walk_at "ev"; exact ⟨_, t1, .inr ⟨_, rfl, by decide +kernel⟩, ht1, rfl⟩)
    | recd n =>
      have f := fo n
      have fs := fields_str n
      obtain ⟨r2, t2, b0, b1, ht2, e2⟩ := nx t1 (fieldsK n).length ht1 (by cases n <;> simp [fieldsK])
      simp only [Kn.pv]
      walk_at "ev"
      simp only [f, fieldsP]
      walk_at "ev"
      simp only [List.length_map, e2]
      walk_at "ev"
      obtain ⟨d, d1, d2⟩ := at_i (ds := (fieldsK n).map fun p => PV.tup [.str p.1, p.2.pv]) b0 (by simpa using b1)
      rw [List.getElem?_map] at d1
      obtain ⟨p, hp, rfl⟩ := Option.map_eq_some_iff.mp d1
      simp only [d2]
      walk_at "ev"
      exact ⟨_, t2, .inr ⟨_, rfl, fs p (List.mem_of_getElem? hp)⟩, ht2, rfl⟩
    | tup ks =>
      simp only [Kn.wf, Bool.and_eq_true, decide_eq_true_eq] at w
      simp only [Kn.pv, Kn.pvs_map]
      obtain ⟨r2, t2, b0, b1, ht2, e2⟩ := nx t1 (ks.length : Int) ht1 (by omega)
      obtain ⟨r3, t3, c0, c1, ht3, e3⟩ := nx t2 2 ht2 (by omega)
      walk_at "ev"
      simp only [List.length_map, e2]
      walk_at "ev"
      simp only [e3]
      walk_at "ev"
      have hr : r3 = 0 ∨ r3 = 1 := by omega
      rcases hr with rfl | rfl <;> (walk_at "ev"; exact ⟨_, t3, .inl ⟨_, rfl⟩, ht3, rfl⟩)
/-! along a place -/
def chainF : Kn → List PV → Option (List Kn)
  | _, [] => some []
  | k, s :: ss => match afterF k s with
    | some k' => (chainF k' ss).map (k' :: ·)
    | none => none
def dctP (k : Kn) : PV := .dct [(.inr "v", k.pv), (.inr "w", .tup [.str "int"])]
theorem look_vv (k : Kn) : look [((.inr "v" : Key), k.pv), (.inr "w", .tup [.str "int"])] (.inr "v") = some k.pv := by simp [look]
theorem look_u (k : Kn) : look [((.inr "v" : Key), k.pv), (.inr "w", .tup [.str "int"])] (.inr "u") = none := by
  simp [look, ofStr_eq]
def alongR (A : Ad) (k : Kn) : Option (List Kn) → XR PV
  | some l => .ok (.lst ((k :: l).map Kn.pv)) []
  | none => .exn A.c_NoSuchStep []
theorem along_ok {ns : List Nm} (hns : ∀ n : Nm, n ∈ ns) (k : Kn) (ss : List PV) (hs : ∀ s, s ∈ ss → StepP s) (hl : ss.length ≤ 100) : F_kinds_along A [.p (.tup [.str "v", .tup ss]), .p (rowsP ns), .p (dctP k)] [] = alongR A k (chainF k ss) := by
  have ka : ∀ k s, StepP s → F_kind_after A [.p (rowsP ns), .p k.pv, .p s] [] = optX A (afterF k s) := fun k s hs => kafter_ok A hns k s (hs.imp id fun ⟨t, h, _⟩ => ⟨t, h⟩)
  unfold F_kinds_along b_kinds_along
  generalize F_kind_after A = Gk at *
  generalize rowsP ns = rs at *
  have go : ∀ (ss : List PV) (k' : Kn) (acc : List PV) (e0 e2 v5 : EV), (∀ s, s ∈ ss → StepP s) → acc.length + ss.length ≤ 1000 →
      (∀ l, chainF k' ss = some l → ∃ v3 v5', forL (gN 5) (xSeq (xAsg 3 (xCall Gk (xCons (xVar 1) (xCons (xVar 3) (xCons (xVar 5) xNil))))) (xDrop (xMut fApp (xVar 4) (xCons (xVar 3) xNil)))) ss [e0, .p rs, e2, .p k'.pv, .own 0, v5] [some acc] = .nx [e0, .p rs, e2, v3, .own 0, v5'] [some (acc ++ l.map Kn.pv)]) ∧
      (chainF k' ss = none → ∃ g', forL (gN 5) (xSeq (xAsg 3 (xCall Gk (xCons (xVar 1) (xCons (xVar 3) (xCons (xVar 5) xNil))))) (xDrop (xMut fApp (xVar 4) (xCons (xVar 3) xNil)))) ss [e0, .p rs, e2, .p k'.pv, .own 0, v5] [some acc] = .exn A.c_NoSuchStep g') := by
    intro ss
    induction ss with
    | nil =>
      intro k' acc e0 e2 v5 _ _
      refine ⟨fun l h => ?_, fun h => (by cases h)⟩
      cases h
      exact ⟨.p k'.pv, v5, by rw [forL_nil]; simp⟩
    | cons s ss ih =>
      intro k' acc e0 e2 v5 hs hl
      rw [List.length_cons] at hl
      have e := ka k' s (hs s List.mem_cons_self)
      cases ha : afterF k' s with
      | none =>
        rw [ha] at e
        simp only [optX] at e
        have c : chainF k' (s :: ss) = none := by simp only [chainF, ha]
        rw [c]
        refine ⟨fun l h => (by cases h), fun _ => ⟨[some acc], ?_⟩⟩
        walk_at "ev"
        simp only [e]
        try walk_at "ev"
      | some k2 =>
        rw [ha] at e
        simp only [optX] at e
        have c : chainF k' (s :: ss) = (chainF k2 ss).map (k2 :: ·) := by simp only [chainF, ha]
        rw [c]
        obtain ⟨i1, i2⟩ := ih k2 (acc ++ [k2.pv]) e0 e2 (.p s) (fun s hs' => hs s (List.mem_cons_of_mem _ hs')) (by simp; omega)
        have st : forL (gN 5) (xSeq (xAsg 3 (xCall Gk (xCons (xVar 1) (xCons (xVar 3) (xCons (xVar 5) xNil))))) (xDrop (xMut fApp (xVar 4) (xCons (xVar 3) xNil)))) (s :: ss) [e0, .p rs, e2, .p k'.pv, .own 0, v5] [some acc] = forL (gN 5) (xSeq (xAsg 3 (xCall Gk (xCons (xVar 1) (xCons (xVar 3) (xCons (xVar 5) xNil))))) (xDrop (xMut fApp (xVar 4) (xCons (xVar 3) xNil)))) ss [e0, .p rs, e2, .p k2.pv, .own 0, .p s] [some (acc ++ [k2.pv])] := by
          walk_at "ev"
          simp only [e]
          walk_at "ev"
          simp only [show acc.length < 16777216 by omega]
          walk_at "ev"
        rw [st]
        refine ⟨fun l h => ?_, fun h => ?_⟩
        · obtain ⟨l', h1, rfl⟩ := Option.map_eq_some_iff.mp h
          obtain ⟨v3, v5', h2⟩ := i1 l' h1
          exact ⟨v3, v5', by rw [h2]; simp⟩
        · exact i2 (by simpa using h)
  obtain ⟨g1, g2⟩ := go ss k [k.pv] (.p (.tup [.str "v", .tup ss])) (.p (dctP k)) .no hs (by simp; omega)
  simp only [dctP] at g1 g2 ⊢
  walk_at "ev"
  rw [look_vv]
  walk_at "ev"
  rw [look_vv]
  walk_at "ev"
  cases hc : chainF k ss with
  | some l =>
    obtain ⟨v3, v5, e⟩ := g1 l hc
    rw [e]
    walk_at "ev"
    simp only [alongR]
    exact fin_own rfl (by omega)
  | none =>
    obtain ⟨g', e⟩ := g2 hc
    rw [e]
    walk_at "ev"
    simp only [alongR]
end

def lastK : Kn → List Kn → Kn
  | k, [] => k
  | _, k' :: l => lastK k' l
theorem lastK_at (k : Kn) : ∀ l : List Kn, ∃ ini, (k :: l).map Kn.pv = ini ++ [(lastK k l).pv] := fun l => by
  induction l generalizing k with
  | nil => exact ⟨[], rfl⟩
  | cons k' l ih =>
    obtain ⟨ini, h⟩ := ih k'
    exact ⟨k.pv :: ini, by rw [List.map_cons, h]; rfl⟩
def isBor : Kn → Bool
  | .un .shr _ => true
  | .un .exc _ => true
  | _ => false
def isCar : PV → Bool
  | .str t => decide (t = "^")
  | _ => false
def crossI : Kn → List PV → Option Nat
  | _, [] => none
  | k, s :: ss => if isCar s && isBor k then some 0 else match afterF k s with
    | some k' => (crossI k' ss).map (· + 1)
    | none => none
def crossP (ss : List PV) : Option Nat → PV
  | some i => .tup [.str "v", .tup (ss.take i)]
  | none => .non
def numFrom : Int → List PV → List PV
  | _, [] => []
  | i, d :: ds => .tup [.int i, d] :: numFrom (i + 1) ds
theorem numL_from (ds : List PV) : numL ds = numFrom 0 ds := by
  have go : ∀ (ds : List PV) (s : Nat), (List.range' s ds.length).zipWith (fun (i : Nat) d => PV.tup [.int (i : Int), d]) ds = numFrom s ds := by
    intro ds
    induction ds with
    | nil => intro s; rfl
    | cons d ds ih =>
      intro s
      rw [List.length_cons, List.range'_succ, List.zipWith_cons_cons, ih, numFrom]
      rfl
  unfold numL
  rw [List.range_eq_range']
  exact go ds 0
section
variable (A : Ad)
def atR (A : Ad) (k : Kn) : Option (List Kn) → XR PV
  | some l => .ok (lastK k l).pv []
  | none => .exn A.c_NoSuchStep []
theorem kindat_ok {ns : List Nm} (hns : ∀ n : Nm, n ∈ ns) (k : Kn) (ss : List PV) (hs : ∀ s, s ∈ ss → StepP s) (hl : ss.length ≤ 100) : F_kind_at A [.p (.tup [.str "v", .tup ss]), .p (rowsP ns), .p (dctP k)] [] = atR A k (chainF k ss) := by
  have al := along_ok A hns k ss hs hl
  unfold F_kind_at b_kind_at
  generalize F_kinds_along A = Ga at *
  generalize dctP k = dc at *
  generalize rowsP ns = rs at *
  cases hc : chainF k ss with
  | some l =>
    rw [hc] at al
    simp only [alongR] at al
    obtain ⟨ini, hi⟩ := lastK_at k l
    rw [hi] at al
    simp only [atR]
    walk_at "ev"
    simp only [al]
    walk_at "ev"
  | none =>
    rw [hc] at al
    simp only [alongR] at al
    simp only [atR]
    walk_at "ev"
    simp only [al]
    walk_at "ev"
def crR (A : Ad) (k : Kn) (ss : List PV) : Option (List Kn) → XR PV
  | some _ => .ok (crossP ss (crossI k ss)) []
  | none => .exn A.c_NoSuchStep []
theorem bor_in (k : Kn) : (fIx k.pv (.int 0)).bind (fun w => fIn false w (.tup [.str "shared", .str "exclusive"])) = some (.bl (isBor k)) := by
  cases k with
  | int => simp only [Kn.pv, isBor]; walk_at "ev"
  | bool => simp only [Kn.pv, isBor]; walk_at "ev"
  | unit => simp only [Kn.pv, isBor]; walk_at "ev"
  | un u k => cases u <;> (simp only [Kn.pv, Un.s, isBor]; walk_at "ev")
  | recd n => simp only [Kn.pv, isBor]; walk_at "ev"
  | tup ks => simp only [Kn.pv, isBor]; walk_at "ev"
end

section
variable (A : Ad)
abbrev crBody : XS := xIf (xAnd (xTst (xOp fEq (xVar 5) (xC (.str "^")))) (xTst (xOp (fIn false) (xOp fIx (xOp fIx (xVar 3) (xVar 4)) (xC (.int 0))) (xC (.tup [.str "shared", .str "exclusive"]))))) (xRet (xTup (xCons (xOp fIx (xVar 0) (xC (.int 0))) (xCons (xSl (xOp fIx (xVar 0) (xC (.int 1))) xNoPart (xPart (xVar 4))) xNil)))) xNext
theorem cr_turn (full L : List PV) (e1 e2 : EV) (kd : Kn) (s : PV) (i : Int) (h0 : 0 ≤ i) (hL : atI L i = some kd.pv) (hs : StepP s) : crBody [.p (.tup [.str "v", .tup full]), e1, e2, .p (.lst L), .p (.int i), .p s] [] = if isCar s && isBor kd then .rt (.p (.tup [.str "v", .tup (full.take i.toNat)])) [] else .nx [.p (.tup [.str "v", .tup full]), e1, e2, .p (.lst L), .p (.int i), .p s] [] := by
  unfold crBody
  rcases hs with ⟨j, rfl⟩ | ⟨t, rfl, _⟩
  · simp only [isCar, Bool.false_and]
    walk_at "ev"
  · simp only [isCar]
    by_cases ht : t = "^"
    · subst ht
      have cu := cut_to full h0
      cases kd with
      | un u k => cases u <;> (simp only [Kn.pv, Un.s, isBor, Bool.and_true, Bool.and_false] at hL ⊢; walk_at "ev"; simp only [hL]; walk_at "ev"; try simp only [cu])
      | recd n => cases n <;> (simp only [Kn.pv, Nm.s, isBor, Bool.and_true, Bool.and_false] at hL ⊢; walk_at "ev"; simp only [hL]; walk_at "ev")
      | tup ks => simp only [Kn.pv, isBor, Bool.and_true, Bool.and_false] at hL ⊢; walk_at "ev"; simp only [hL]; walk_at "ev"
      | int => simp only [Kn.pv, isBor, Bool.and_true, Bool.and_false] at hL ⊢; walk_at "ev"; simp only [hL]; walk_at "ev"
      | bool => simp only [Kn.pv, isBor, Bool.and_true, Bool.and_false] at hL ⊢; walk_at "ev"; simp only [hL]; walk_at "ev"
      | unit => simp only [Kn.pv, isBor, Bool.and_true, Bool.and_false] at hL ⊢; walk_at "ev"; simp only [hL]; walk_at "ev"
    · simp only [ht, decide_false, Bool.false_and]
      walk_at "ev"
      simp only [ht, decide_false]
      walk_at "ev"
theorem cr_loop (full L : List PV) (e1 e2 : EV) : ∀ (rem : List PV) (kd : Kn) (l : List Kn) (i : Int) (pre : List PV) (v4 v5 : EV), 0 ≤ i → (pre.length : Int) = i → L = pre ++ (kd :: l).map Kn.pv → chainF kd rem = some l → (∀ s, s ∈ rem → StepP s) →
    match crossI kd rem with
    | some j => forL (gT [gN 4, gN 5]) crBody (numFrom i rem) [.p (.tup [.str "v", .tup full]), e1, e2, .p (.lst L), v4, v5] [] = .rt (.p (.tup [.str "v", .tup (full.take (i.toNat + j))])) []
    | none => ∃ v4' v5', forL (gT [gN 4, gN 5]) crBody (numFrom i rem) [.p (.tup [.str "v", .tup full]), e1, e2, .p (.lst L), v4, v5] [] = .nx [.p (.tup [.str "v", .tup full]), e1, e2, .p (.lst L), v4', v5'] [] := by
  intro rem
  induction rem with
  | nil => intro kd l i pre v4 v5 h0 hp hL hc hs; exact ⟨v4, v5, rfl⟩
  | cons s rem ih =>
    intro kd l i pre v4 v5 h0 hp hL hc hs
    have at_ : atI L i = some kd.pv := by
      refine at_nat (j := pre.length) hp.symm ?_
      rw [hL, List.getElem?_append_right (Nat.le_refl _)]
      simp
    have t := cr_turn full L e1 e2 kd s i h0 at_ (hs s List.mem_cons_self)
    have st : forL (gT [gN 4, gN 5]) crBody (numFrom i (s :: rem)) [.p (.tup [.str "v", .tup full]), e1, e2, .p (.lst L), v4, v5] [] = (crBody [.p (.tup [.str "v", .tup full]), e1, e2, .p (.lst L), .p (.int i), .p s] []).turn (forL (gT [gN 4, gN 5]) crBody (numFrom (i + 1) rem)) := rfl
    rw [st, t, crossI]
    by_cases c : (isCar s && isBor kd) = true
    · rw [if_pos c, if_pos c]
      show _ = _
      rw [turn_rt]
      simp
    · rw [if_neg c, if_neg c, turn_nx]
      cases ha : afterF kd s with
      | none => simp only [chainF, ha] at hc; cases hc
      | some k2 =>
        simp only [chainF, ha] at hc
        obtain ⟨l', hl', rfl⟩ := Option.map_eq_some_iff.mp hc
        have r := ih k2 l' (i + 1) (pre ++ [kd.pv]) (.p (.int i)) (.p s) (by omega) (by simp; omega) (by rw [hL]; simp) hl' (fun s hs' => hs s (List.mem_cons_of_mem _ hs'))
        cases hx : crossI k2 rem with
        | none => rw [hx] at r; simp only [hx, Option.map_none]; exact r
        | some j =>
          rw [hx] at r
          simp only [hx, Option.map_some]
          rw [r]
          have : (i + 1).toNat + j = i.toNat + (j + 1) := by omega
          rw [this]
theorem crossed_ok {ns : List Nm} (hns : ∀ n : Nm, n ∈ ns) (k : Kn) (ss : List PV) (hs : ∀ s, s ∈ ss → StepP s) (hl : ss.length ≤ 100) : F_crossed A [.p (.tup [.str "v", .tup ss]), .p (rowsP ns), .p (dctP k)] [] = crR A k ss (chainF k ss) := by
  have al := along_ok A hns k ss hs hl
  unfold F_crossed b_crossed
  generalize F_kinds_along A = Ga at *
  generalize dctP k = dc at *
  generalize rowsP ns = rs at *
  cases hc : chainF k ss with
  | some l =>
    rw [hc] at al
    simp only [alongR] at al
    have lp := cr_loop ss ((k :: l).map Kn.pv) (.p rs) (.p dc) ss k l 0 [] .no .no (by omega) rfl rfl hc hs
    simp only [crR]
    simp only [c_BORROWS, D.pv, D.pvs]
    walk_at "ev"
    simp only [al]
    walk_at "ev"
    rw [numL_from]
    cases hx : crossI k ss with
    | some j =>
      rw [hx] at lp
      have lp := lp
      simp only [crBody, List.map_cons] at lp
      rw [lp]
      walk_at "ev"
      simp [crossP]
    | none =>
      rw [hx] at lp
      obtain ⟨v4, v5, lp⟩ := lp
      simp only [crBody, List.map_cons] at lp
      rw [lp]
      walk_at "ev"
      simp only [crossP]
  | none =>
    rw [hc] at al
    simp only [alongR] at al
    simp only [crR]
    walk_at "ev"
    simp only [al]
    walk_at "ev"
end

section
variable (A : Ad)
theorem cau_step : caughtR A A.c_NoSuchStep = some ("step" : Str) := by simp [caughtR]
theorem cau_var (hne : A.c_NoSuchVariable ≠ A.c_NoSuchStep) : caughtR A A.c_NoSuchVariable = some ("variable" : Str) := by simp [caughtR, hne]
def toldP {α : Type} (f : α → PV) : Option α → PV
  | some k => f k
  | none => .str "step"
theorem told0_ok {ns : List Nm} (hns : ∀ n : Nm, n ∈ ns) (k : Kn) (s : PV) (hs : StepP s) (dc : PV) : F_l_told A [.p (.int 0), .p (rowsP ns), .p dc, .p .non, .p k.pv, .p s] [] = .ok (toldP Kn.pv (afterF k s)) [] := by
  have ka := kafter_ok A hns k s (hs.imp id fun ⟨t, h, _⟩ => ⟨t, h⟩)
  have cs := cau_step A
  unfold F_l_told b_l_told
  generalize F_kind_after A = Gk at *
  generalize F_kind_at A = Ga at *
  generalize F_crossed A = Gc at *
  generalize rowsP ns = rs at *
  cases ha : afterF k s with
  | some k' =>
    rw [ha] at ka
    simp only [optX, toldP] at ka ⊢
    walk_at "ev"
    simp only [ka]
    walk_at "ev"
  | none =>
    rw [ha] at ka
    simp only [optX, toldP] at ka ⊢
    walk_at "ev"
    simp only [ka]
    walk_at "ev"
    simp only [h_told, cs]
    walk_at "ev"
theorem told1_ok {ns : List Nm} (hns : ∀ n : Nm, n ∈ ns) (k : Kn) (ss : List PV) (hs : ∀ s, s ∈ ss → StepP s) (hl : ss.length ≤ 100) : F_l_told A [.p (.int 1), .p (rowsP ns), .p (dctP k), .p (.tup [.str "v", .tup ss]), .p .non, .p .non] [] = .ok (toldP (fun l => (lastK k l).pv) (chainF k ss)) [] := by
  have ka := kindat_ok A hns k ss hs hl
  have cs := cau_step A
  unfold F_l_told b_l_told
  generalize F_kind_after A = Gk at *
  generalize F_kind_at A = Ga at *
  generalize F_crossed A = Gc at *
  generalize rowsP ns = rs at *
  generalize dctP k = dc at *
  cases ha : chainF k ss with
  | some k' =>
    rw [ha] at ka
    simp only [atR, toldP] at ka ⊢
    walk_at "ev"
    simp only [ka]
    walk_at "ev"
  | none =>
    rw [ha] at ka
    simp only [atR, toldP] at ka ⊢
    walk_at "ev"
    simp only [ka]
    walk_at "ev"
    simp only [h_told, cs]
    walk_at "ev"
theorem told2_ok {ns : List Nm} (hns : ∀ n : Nm, n ∈ ns) (k : Kn) (ss : List PV) (hs : ∀ s, s ∈ ss → StepP s) (hl : ss.length ≤ 100) : F_l_told A [.p (.int 2), .p (rowsP ns), .p (dctP k), .p (.tup [.str "v", .tup ss]), .p .non, .p .non] [] = .ok (toldP (fun _ => crossP ss (crossI k ss)) (chainF k ss)) [] := by
  have ka := crossed_ok A hns k ss hs hl
  have cs := cau_step A
  unfold F_l_told b_l_told
  generalize F_kind_after A = Gk at *
  generalize F_kind_at A = Ga at *
  generalize F_crossed A = Gc at *
  generalize rowsP ns = rs at *
  generalize dctP k = dc at *
  cases ha : chainF k ss with
  | some k' =>
    rw [ha] at ka
    simp only [crR, toldP] at ka ⊢
    walk_at "ev"
    simp only [ka]
    walk_at "ev"
  | none =>
    rw [ha] at ka
    simp only [crR, toldP] at ka ⊢
    walk_at "ev"
    simp only [ka]
    walk_at "ev"
    simp only [h_told, cs]
    walk_at "ev"
/-- a variable that is not there -/
theorem strange_ok (hne : A.c_NoSuchVariable ≠ A.c_NoSuchStep) (rs : PV) (k : Kn) (ss : PV) (c : Int) (hc : c = 1 ∨ c = 2) : F_l_told A [.p (.int c), .p rs, .p (dctP k), .p (.tup [.str "u", ss]), .p .non, .p .non] [] = .ok (.str "variable") [] := by
  have cs := cau_var A hne
  have al : F_kinds_along A [.p (.tup [.str "u", ss]), .p rs, .p (dctP k)] [] = .exn A.c_NoSuchVariable [] := by
    unfold F_kinds_along b_kinds_along
    simp only [dctP]
    walk_at "ev"
    rw [look_u]
    walk_at "ev"
  have a1 : F_kind_at A [.p (.tup [.str "u", ss]), .p rs, .p (dctP k)] [] = .exn A.c_NoSuchVariable [] := by
    unfold F_kind_at b_kind_at
    generalize F_kinds_along A = Ga at *
    walk_at "ev"
    simp only [al]
    walk_at "ev"
  have a2 : F_crossed A [.p (.tup [.str "u", ss]), .p rs, .p (dctP k)] [] = .exn A.c_NoSuchVariable [] := by
    unfold F_crossed b_crossed
    generalize F_kinds_along A = Ga at *
    walk_at "ev"
    simp only [al]
    walk_at "ev"
  clear al
  unfold F_l_told b_l_told
  generalize F_kind_after A = Gk at *
  generalize F_kind_at A = Ga at *
  generalize F_crossed A = Gc at *
  generalize dctP k = dc at *
  rcases hc with rfl | rfl
  · walk_at "ev"
    simp only [a1]
    walk_at "ev"
    simp only [h_told, cs]
    walk_at "ev"
  · walk_at "ev"
    simp only [a2]
    walk_at "ev"
    simp only [h_told, cs]
    walk_at "ev"
theorem unknown_ok (hne : A.c_NoSuchVariable ≠ A.c_NoSuchStep) (rs : PV) (k : Kn) (ss : List PV) (hl : ss.length ≤ 100) : F_l_unknown A [.p rs, .p (dctP k), .p (.tup ss)] [] = .ok (.bl true) [] := by
  have st := strange_ok A hne rs k
  unfold F_l_unknown b_l_unknown
  generalize F_l_told A = Gt at *
  generalize dctP k = dc at *
  walk_at "ev"
  simp only [show ss.length ≤ 16777215 by omega]
  walk_at "ev"
  have s1 := fun ss => st ss 1 (.inl rfl)
  have s2 := fun ss => st ss 2 (.inr rfl)
  repeat (simp only [s1, s2]; walk_at "ev")
end

/-! equal data -/
mutual
theorem PV.refl : ∀ d : PV, PyData.eqv d.py d.py = true
  | .non => rfl
  | .bl b => by simp [PV.py, PyData.eqv]
  | .int i => by simp [PV.py, PyData.eqv]
  | .str s => by simp [PV.py, PyData.eqv]
  | .tup ds => by simpa [PV.py, PyData.eqv] using PV.refls ds
  | .lst ds => by simpa [PV.py, PyData.eqv] using PV.refls ds
  | .scr _ => rfl
  | .dct _ => rfl
  | .obj _ _ => rfl
theorem PV.refls : ∀ ds : List PV, PyData.eqvAll (PV.pys ds) (PV.pys ds) = true
  | [] => rfl
  | d :: ds => by simp [PV.pys, PyData.eqvAll, PV.refl d, PV.refls ds]
end
/-- data that == may be asked of, by parts -/
structure Fit (d : PV) (n : Nat) : Prop where
  nod : d.nod = true
  lay : d.py.canLay0 = true
  dep : d.py.depth ≤ n
structure Fits (ds : List PV) (n : Nat) : Prop where
  nod : PV.nods ds = true
  lay : PyData.canLayAll0 (PV.pys ds) = true
  dep : PyData.depthAll (PV.pys ds) ≤ n
theorem Fits.nil {n : Nat} : Fits [] n := ⟨rfl, rfl, by simp [PV.pys, PyData.depthAll]⟩
theorem Fits.cons {d : PV} {ds : List PV} {n : Nat} (h : Fit d n) (t : Fits ds n) : Fits (d :: ds) n :=
  ⟨by simp [PV.nods, h.nod, t.nod], by simp [PV.pys, PyData.canLayAll0, h.lay, t.lay], by simp only [PV.pys, PyData.depthAll]; exact Nat.max_le.mpr ⟨h.dep, t.dep⟩⟩
theorem Fit.tup {ds : List PV} {n : Nat} (h : Fits ds n) : Fit (.tup ds) (n + 1) := ⟨h.nod, h.lay, by simp [PV.py, PyData.depth]; exact h.dep⟩
theorem Fit.str {s : Str} (n : Nat) (h : PyData.strOk s = true) : Fit (.str s) n := ⟨rfl, h, by simp [PV.py, PyData.depth]⟩
theorem Fit.int {i : Int} (n : Nat) : Fit (.int i) n := ⟨rfl, rfl, by simp [PV.py, PyData.depth]⟩
theorem Fits.of {ds : List PV} {n : Nat} (h : ∀ d, d ∈ ds → Fit d n) : Fits ds n := by
  induction ds with
  | nil => exact .nil
  | cons d ds ih => exact .cons (h d List.mem_cons_self) (ih fun x hx => h x (List.mem_cons_of_mem _ hx))
theorem Fit.ok {d : PV} {n : Nat} (h : Fit d n) (hn : n ≤ 64) : d.eqok = true := by
  have := h.dep
  simp only [PV.eqok, Bool.and_eq_true, SeqAt.shaped, decide_eq_true_eq]
  exact ⟨h.nod, h.lay, by omega⟩
theorem StepP.fit {s : PV} (h : StepP s) (n : Nat) : Fit s n := by
  rcases h with ⟨i, rfl⟩ | ⟨t, rfl, ht⟩
  · exact .int n
  · exact .str n ht
theorem Nm.ok (n : Nm) : PyData.strOk n.s = true := by cases n <;> decide +kernel
theorem Un.ok (u : Un) : PyData.strOk u.s = true := by cases u <;> decide +kernel
theorem Fit.mono {d : PV} {n m : Nat} (h : Fit d n) (l : n ≤ m) : Fit d m := ⟨h.nod, h.lay, Nat.le_trans h.dep l⟩
mutual
theorem Kn.fit : ∀ k : Kn, Fit k.pv (2 * k.lev + 2)
  | .int => (Fit.tup (n := 1) (.cons (.str 1 (by decide +kernel)) .nil)).mono (by omega)
  | .bool => (Fit.tup (n := 1) (.cons (.str 1 (by decide +kernel)) .nil)).mono (by omega)
  | .unit => (Fit.tup (n := 1) (.cons (.str 1 (by decide +kernel)) .nil)).mono (by omega)
  | .recd n => (Fit.tup (n := 1) (.cons (.str 1 (by decide +kernel)) (.cons (.str 1 n.ok) .nil))).mono (by omega)
  | .un u k => by
    have := Kn.fit k
    rw [Kn.pv, Kn.lev]
    exact (Fit.tup (.cons (.str _ u.ok) (.cons this .nil))).mono (by omega)
  | .tup ks => by
    have := Kn.fits ks
    rw [Kn.pv, Kn.lev]
    exact (Fit.tup (.cons (.str _ (by decide +kernel)) (.cons (Fit.tup this) .nil))).mono (by omega)
theorem Kn.fits : ∀ ks : List Kn, Fits (Kn.pvs ks) (2 * Kn.levs ks + 2)
  | [] => .nil
  | k :: ks => by
    have h1 := Kn.fit k
    have h2 := Kn.fits ks
    rw [Kn.pvs, Kn.levs]
    exact .cons (h1.mono (by omega)) ⟨h2.nod, h2.lay, by have := h2.dep; omega⟩
end
theorem ne_self {d : PV} (h : d.eqok = true) : fNe d d = some (.bl false) := by
  have r := PV.refl d
  unfold fNe eqB
  split <;> simp_all

theorem chain_snoc {s : PV} : ∀ {ss : List PV} {k : Kn} {l : List Kn}, chainF k ss = some l → chainF k (ss ++ [s]) = (afterF (lastK k l) s).map fun k' => l ++ [k'] := by
  intro ss
  induction ss with
  | nil =>
    intro k l h
    cases h
    show chainF k [s] = _
    simp only [chainF, lastK]
    cases afterF k s <;> rfl
  | cons a ss ih =>
    intro k l h
    simp only [chainF, List.cons_append] at h ⊢
    cases ha : afterF k a with
    | none => rw [ha] at h; cases h
    | some k' =>
      rw [ha] at h
      simp only at h ⊢
      obtain ⟨l', hl, rfl⟩ := Option.map_eq_some_iff.mp h
      rw [ih hl]
      simp only [lastK]
      cases afterF (lastK k' l') s <;> rfl
theorem lastK_snoc {k' : Kn} : ∀ {l : List Kn} {k : Kn}, lastK k (l ++ [k']) = k' := by
  intro l
  induction l with
  | nil => intro k; rfl
  | cons a l ih => intro k; exact ih
theorem cross_lt : ∀ {ss : List PV} {k : Kn} {i : Nat}, crossI k ss = some i → i < ss.length := by
  intro ss
  induction ss with
  | nil => intro k i h; cases h
  | cons a ss ih =>
    intro k i h
    simp only [crossI] at h
    split at h
    · cases h; simp
    · split at h
      · obtain ⟨j, hj, rfl⟩ := Option.map_eq_some_iff.mp h
        have := ih hj
        simp; exact this
      · cases h
theorem cross_snoc {s : PV} : ∀ {ss : List PV} {k : Kn} {l : List Kn}, chainF k ss = some l → crossI k (ss ++ [s]) = match crossI k ss with
    | some i => some i
    | none => if isCar s && isBor (lastK k l) then some ss.length else none := by
  intro ss
  induction ss with
  | nil =>
    intro k l h
    cases h
    show (if (isCar s && isBor k) = true then some 0 else match afterF k s with | some k' => (crossI k' []).map (· + 1) | none => none) = if (isCar s && isBor k) = true then some 0 else none
    by_cases c : (isCar s && isBor k) = true
    · rw [if_pos c, if_pos c]
    · rw [if_neg c, if_neg c]
      cases afterF k s <;> rfl
  | cons a ss ih =>
    intro k l h
    simp only [chainF] at h
    cases ha : afterF k a with
    | none => rw [ha] at h; cases h
    | some k' =>
      rw [ha] at h
      simp only at h
      obtain ⟨l', hl, rfl⟩ := Option.map_eq_some_iff.mp h
      have e1 : crossI k (a :: ss) = if (isCar a && isBor k) = true then some 0 else (crossI k' ss).map (· + 1) := by simp only [crossI, ha]
      have e2 : crossI k ((a :: ss) ++ [s]) = if (isCar a && isBor k) = true then some 0 else (crossI k' (ss ++ [s])).map (· + 1) := by simp only [List.cons_append, crossI, ha]
      rw [e1, e2, ih hl]
      show _ = match (if (isCar a && isBor k) = true then some 0 else (crossI k' ss).map (· + 1)) with
        | some i => some i
        | none => if (isCar s && isBor (lastK k' l')) = true then some (ss.length + 1) else none
      by_cases c0 : (isCar a && isBor k) = true
      · rw [if_pos c0, if_pos c0]
      · rw [if_neg c0, if_neg c0]
        cases crossI k' ss with
        | some i => rfl
        | none =>
          show (if (isCar s && isBor (lastK k' l')) = true then some ss.length else none).map (· + 1) = if (isCar s && isBor (lastK k' l')) = true then some (ss.length + 1) else none
          by_cases c : (isCar s && isBor (lastK k' l')) = true
          · rw [if_pos c, if_pos c]; rfl
          · rw [if_neg c, if_neg c]; rfl
theorem after_wf : ∀ {k k' : Kn} {s : PV}, k.wf = true → afterF k s = some k' → k'.wf = true ∧ (k'.lev ≤ k.lev ∨ k'.lev ≤ 3) := by
  intro k k' s w h
  unfold afterF at h
  split at h
  · split at h
    · cases h; exact ⟨by simpa [Kn.wf] using w, .inl (by simp [Kn.lev])⟩
    · cases h
  · split at h
    · cases h; exact ⟨by simpa [Kn.wf] using w, .inl (by simp [Kn.lev])⟩
    · cases h
  · split at h
    · cases h; exact ⟨by simpa [Kn.wf] using w, .inl (by simp [Kn.lev])⟩
    · cases h
  · split at h
    · cases h; exact ⟨by simpa [Kn.wf] using w, .inl (by simp [Kn.lev])⟩
    · cases h
  · split at h
    · rename_i ks i _
      have hm := List.mem_of_getElem? h
      simp only [Kn.wf, Bool.and_eq_true] at w
      exact ⟨Kn.wfs_iff.mp w.2 _ hm, .inl (by have := Kn.levs_mem hm; simp only [Kn.lev]; omega)⟩
    · cases h
  · obtain ⟨p, hp, rfl⟩ := Option.map_eq_some_iff.mp h
    have hm := List.mem_of_find?_eq_some hp
    rename_i n t
    cases n <;> simp only [fieldsK, List.mem_cons, List.not_mem_nil, or_false] at hm <;> rcases hm with rfl | rfl | rfl <;> exact ⟨by decide, .inr (by decide)⟩
  · cases h

section
variable (A : Ad)
theorem ok_tup {a : List PV} (ha : ∀ s, s ∈ a → Fit s 1) : (PV.tup a).eqok = true := (Fit.tup (Fits.of ha)).ok (by omega)
def pfx (a b : List PV) : Bool := PyData.eqv (PV.tup a).py (PV.tup (b.take a.length)).py
theorem prefix_ok {w1 w2 : Str} {a b : List PV} (h1 : (PV.tup a).eqok = true) (h2 : (PV.tup (b.take a.length)).eqok = true) : F_is_prefix A [.p (.tup [.str w1, .tup a]), .p (.tup [.str w2, .tup b])] [] = .ok (.bl (decide (w1 = w2) && pfx a b)) [] := by
  have c : cutD b none (some (a.length : Int)) = b.take a.length := by rw [cut_to _ (by omega)]; rfl
  unfold pfx
  unfold F_is_prefix b_is_prefix
  walk_at "ev"
  by_cases e : w1 = w2
  · simp only [e, decide_true, decide_false]
    walk_at "ev"
    simp only [h1, c, h2]
    walk_at "ev"
  · simp only [e, decide_true, decide_false]
    walk_at "ev"
    simp
theorem over_ok {w1 w2 : Str} {a b : List PV} (h1 : (PV.tup a).eqok = true) (h2 : (PV.tup b).eqok = true) (h3 : (PV.tup (b.take a.length)).eqok = true) (h4 : (PV.tup (a.take b.length)).eqok = true) : F_overlap A [.p (.tup [.str w1, .tup a]), .p (.tup [.str w2, .tup b])] [] = .ok (.bl ((decide (w1 = w2) && pfx a b) || (decide (w2 = w1) && pfx b a))) [] := by
  have e1 := prefix_ok A (w1 := w1) (w2 := w2) h1 h3
  have e2 := prefix_ok A (w1 := w2) (w2 := w1) h2 h4
  unfold F_overlap b_overlap
  generalize F_is_prefix A = G at *
  generalize (decide (w1 = w2) && pfx a b) = p at *
  generalize (decide (w2 = w1) && pfx b a) = q at *
  walk_at "ev"
  simp only [e1]
  walk_at "ev"
  cases p
  · walk_at "ev"
    simp only [e2]
    walk_at "ev"
  · walk_at "ev"
theorem is_ok {p : Bool} : F_l_is A [.p (.bl p), .p (.bl p)] [] = .ok (.bl true) [] := by
  unfold F_l_is b_l_is
  cases p <;> walk_at "ev"
theorem eqB_any {d : PV} (h : d.eqok = true) : eqB d d = some true := by
  have r := PV.refl d
  unfold eqB
  split <;> simp_all
theorem dct_self {k : Kn} (h : k.lev ≤ 6) : fEqDct (dctP k) (dctP k) = some (.bl true) := by
  have f := Kn.fit k
  have g : Fit (.tup [.str "int"]) 1 := Fit.tup (.cons (.str _ (by decide +kernel)) .nil)
  have a1 := f.ok (by omega)
  have a2 := g.ok (by omega)
  have b1 : k.pv.py.depth ≤ 60 := by have := f.dep; omega
  have b2 : (PV.tup [.str "int"]).py.depth ≤ 60 := by have := g.dep; omega
  have l1 : look [((.inr "v" : Key), k.pv), (.inr "w", .tup [.str "int"])] (.inr "v") = some k.pv := by simp [look, ofStr_eq]
  have l2 : look [((.inr "v" : Key), k.pv), (.inr "w", .tup [.str "int"])] (.inr "w") = some (.tup [.str "int"]) := by simp [look, ofStr_eq]
  unfold dctP fEqDct
  simp only [List.length_cons, List.length_nil, List.all_cons, List.all_nil, l1, l2, a1, a2, b1, b2, PV.refl, decide_true, Bool.and_true, Bool.true_and, and_self, if_true]
end

theorem kn_head (h : Kn) : ∃ (z : List PV) (w : Str), h.pv = .tup z ∧ atI z 0 = some (.str w) ∧ (((Str.ofString "shared") == w) || ((Str.ofString "exclusive") == w)) = isBor h := by
  cases h with
  | un u k => cases u <;> exact ⟨_, _, rfl, at0, by simp only [Un.s, isBor]; walk_at "ev"⟩
  | recd n => exact ⟨_, _, rfl, at0, by simp only [isBor]; walk_at "ev"⟩
  | tup ks => exact ⟨_, _, rfl, at0, by simp only [isBor]; walk_at "ev"⟩
  | int => exact ⟨_, _, rfl, at0, by simp only [isBor]; walk_at "ev"⟩
  | bool => exact ⟨_, _, rfl, at0, by simp only [isBor]; walk_at "ev"⟩
  | unit => exact ⟨_, _, rfl, at0, by simp only [isBor]; walk_at "ev"⟩
theorem eqB_self {z : List PV} (h : (PV.tup z).eqok = true) : eqB (.tup z) (.tup z) = some true := by
  have r := PV.refl (.tup z)
  show (if (PV.tup z).eqok && (PV.tup z).eqok then some (PyData.eqv (PV.tup z).py (PV.tup z).py) else none) = _
  rw [h, r]
  rfl
section
variable (A : Ad)
/-- what the law's loop knows: the steps so far, where it stands, what it first crossed -/
def At (k : Kn) (ss : List PV) (here cross : PV) : Prop := (∃ l, chainF k ss = some l ∧ here = (lastK k l).pv ∧ (lastK k l).wf = true ∧ (lastK k l).lev ≤ 6 ∧ cross = crossP ss (crossI k ss)) ∨ (chainF k ss = none ∧ here = .non ∧ ∃ z, cross = .tup z ∨ cross = .non)
theorem law_ok (fne : A.c_NoSuchVariable ≠ A.c_NoSuchStep) (ns : List Int) : F_law A [.p (.scr (ns.map PV.int))] [] = .ok (.bl true) [] := by
  obtain ⟨tp, ht, et⟩ := tape_ok A ns
  obtain ⟨rws, t1, hn, ht1, e1⟩ := records_ok A ht
  obtain ⟨k, t2, ht2, lev, w, e2⟩ := kind_ok A 12 6 false t1 (by omega) (by omega) (by omega) ht1
  have nx : ∀ (tp : List PV) (m : Int), IsTape tp → 0 < m → ∃ r tp', 0 ≤ r ∧ r < m ∧ IsTape tp' ∧ F_l_next A [.own 0, .p (.int m)] [some tp] = .ok (.int r) [some tp'] := fun tp m h hm => next_ok A h hm
  have stp : ∀ (k : Kn), k.wf = true → ∀ tp, IsTape tp → ∃ s tp', StepP s ∧ IsTape tp' ∧ F_l_step A [.own 0, .p k.pv] [some tp] = .ok s [some tp'] := fun k w tp h => step_ok A w h
  have aft : ∀ (k : Kn) (s : PV), StepP s → F_l_after A [.p k.pv, .p s] [] = .ok (optP (afterF k s)) [] := fun k s hs => lafter_ok A k s (hs.imp id fun ⟨t, h, _⟩ => ⟨t, h⟩)
  have td0 : ∀ (k : Kn) (s : PV) (dc : PV), StepP s → F_l_told A [.p (.int 0), .p (rowsP rws), .p dc, .p .non, .p k.pv, .p s] [] = .ok (toldP Kn.pv (afterF k s)) [] := fun k s dc hs => told0_ok A hn k s hs dc
  have td1 : ∀ (ss : List PV), (∀ s, s ∈ ss → StepP s) → ss.length ≤ 100 → F_l_told A [.p (.int 1), .p (rowsP rws), .p (dctP k), .p (.tup [.str "v", .tup ss]), .p .non, .p .non] [] = .ok (toldP (fun l => (lastK k l).pv) (chainF k ss)) [] := fun ss hs hl => told1_ok A hn k ss hs hl
  have td2 : ∀ (ss : List PV), (∀ s, s ∈ ss → StepP s) → ss.length ≤ 100 → F_l_told A [.p (.int 2), .p (rowsP rws), .p (dctP k), .p (.tup [.str "v", .tup ss]), .p .non, .p .non] [] = .ok (toldP (fun _ => crossP ss (crossI k ss)) (chainF k ss)) [] := fun ss hs hl => told2_ok A hn k ss hs hl
  have unk : ∀ (ss : List PV), ss.length ≤ 100 → F_l_unknown A [.p (rowsP rws), .p (dctP k), .p (.tup ss)] [] = .ok (.bl true) [] := fun ss hl => unknown_ok A fne _ k ss hl
  have pr1 : ∀ (w1 w2 : Str) (a b : List PV), (PV.tup a).eqok = true → (PV.tup (b.take a.length)).eqok = true → F_is_prefix A [.p (.tup [.str w1, .tup a]), .p (.tup [.str w2, .tup b])] [] = .ok (.bl (decide (w1 = w2) && pfx a b)) [] := fun _ _ _ _ h1 h2 => prefix_ok A h1 h2
  have ov1 : ∀ (w1 w2 : Str) (a b : List PV), (PV.tup a).eqok = true → (PV.tup b).eqok = true → (PV.tup (b.take a.length)).eqok = true → (PV.tup (a.take b.length)).eqok = true → F_overlap A [.p (.tup [.str w1, .tup a]), .p (.tup [.str w2, .tup b])] [] = .ok (.bl ((decide (w1 = w2) && pfx a b) || (decide (w2 = w1) && pfx b a))) [] := fun _ _ _ _ h1 h2 h3 h4 => over_ok A h1 h2 h3 h4
  have is1 : ∀ p : Bool, F_l_is A [.p (.bl p), .p (.bl p)] [] = .ok (.bl true) [] := fun p => is_ok A
  have dcs := dct_self (k := k) (by omega)
  unfold F_law b_law
  generalize F_is_prefix A = Gp at *
  generalize F_overlap A = Gv at *
  generalize F_l_is A = Gi at *
  generalize F_l_tape A = Gt at *
  generalize F_l_records A = Gr at *
  generalize F_l_kind A 12 = Gk at *
  generalize F_l_next A = Gn at *
  generalize F_l_step A = Gs at *
  generalize F_l_after A = Ga at *
  generalize F_l_told A = Gd at *
  generalize F_l_unknown A = Gu at *
  generalize rowsP rws = rs at *
  have nd : ([("v" : Str), "w"] : List Str).Nodup := by simp [ofStr_eq]
  walk_at "ev"
  simp only [et]
  walk_at "ev"
  simp only [e1]
  walk_at "ev"
  simp only [e2]
  walk_at "ev"
  simp only [nd]
  walk_at "ev"
  obtain ⟨r1, t3, a0, a1, ht3, e3⟩ := nx t2 6 ht2 (by omega)
  obtain ⟨r2, t4, b0, b1, ht4, e4⟩ := nx t3 7 ht3 (by omega)
  obtain ⟨r3, t5, c0, c1, ht5, e5⟩ := nx t4 2 ht4 (by omega)
  simp only [e3]
  walk_at "ev"
  simp only [e4]
  walk_at "ev"
  simp only [e5]
  walk_at "ev"
  have hm : ∃ m : Int, atI [PV.int r1, PV.int (6 + r2)] r3 = some (.int m) ∧ 0 ≤ m ∧ m ≤ 12 := by
    have : r3 = 0 ∨ r3 = 1 := by omega
    rcases this with rfl | rfl
    · exact ⟨r1, by rw [at0], by omega, by omega⟩
    · exact ⟨6 + r2, by rw [at1], by omega, by omega⟩
  obtain ⟨m, hm, m0, m1⟩ := hm
  simp only [hm]
  walk_at "ev"
  simp only [show (-4611686018427387904 ≤ m ∧ m < 4611686018427387904) by omega]
  walk_at "ev"
  have hd : PV.dct [((.inr "v" : Key), k.pv), (.inr "w", .tup [.str "int"])] = dctP k := rfl
  simp only [hd]
  generalize hF : forL _ _ _ _ _ = r
  refine Exists.elim (forL_at hF (fun rest e g => ∃ (ss : List PV) (here cross : PV) (tp : List PV) (v8 v9 v10 : EV), e = [.p (.scr (ns.map PV.int)), .own 0, .p rs, .p k.pv, .p (dctP k), .own 1, .p cross, .p here, v8, v9, v10, .no, .no, .no, .no] ∧ g = [some tp, some ss] ∧ IsTape tp ∧ (∀ s, s ∈ ss → StepP s) ∧ ss.length + rest.length ≤ 12 ∧ At k ss here cross)
    (fun e g => ∃ (ss : List PV) (here cross : PV) (tp : List PV) (v8 v9 v10 : EV), e = [.p (.scr (ns.map PV.int)), .own 0, .p rs, .p k.pv, .p (dctP k), .own 1, .p cross, .p here, v8, v9, v10, .no, .no, .no, .no] ∧ g = [some tp, some ss] ∧ IsTape tp ∧ (∀ s, s ∈ ss → StepP s) ∧ ss.length ≤ 12 ∧ At k ss here cross)
    ⟨[], k.pv, .non, t5, .no, .no, .no, rfl, rfl, ht5, fun s hs => by simp at hs, by rw [rngL_len]; simp; omega, .inl ⟨[], rfl, rfl, w, by simpa [lastK] using lev, rfl⟩⟩ ?_ ?_) fun e q => ?_
  · rintro e g ⟨ss, here, cross, tp, v8, v9, v10, h1, h2, h3, h4, h5, h6⟩
    exact ⟨ss, here, cross, tp, v8, v9, v10, h1, h2, h3, h4, by simpa using h5, h6⟩
  · rintro d rest e g ⟨ss, here, cross, tp, v8, v9, v10, rfl, rfl, htp, hss, hl, at_⟩
    refine ⟨_, rfl, ?_⟩
    rw [List.length_cons] at hl
    rcases at_ with ⟨l, ch, rfl, hw, hlev, rfl⟩ | ⟨ch, rfl, z, hz⟩
    · generalize hh : lastK k l = h at *
      obtain ⟨z, wd, hz, hz0, hbor⟩ := kn_head h
      obtain ⟨s, tp', hs, htp', es⟩ := stp h hw tp htp
      have ea := aft h s hs
      have ed := td0 h s (dctP k) hs
      rw [hz] at es ea ed
      rw [hz]
      have hcr : crossP ss (crossI k ss) = .non ∨ ∃ c, crossP ss (crossI k ss) = .tup c := by
        cases crossI k ss with
        | none => exact .inl rfl
        | some i => exact .inr ⟨_, rfl⟩
      have cs := cross_snoc (s := s) ch
      have hsn := chain_snoc (s := s) ch
      rw [hh] at cs hsn
      have hss' : ∀ x, x ∈ ss ++ [s] → StepP x := fun x hx => by
        rcases List.mem_append.mp hx with q | q
        · exact hss x q
        · simp at q; subst q; exact hs
      -- what stands behind the turn
      have nxt : ∃ cr', (cr' = .non ∨ ∃ c, cr' = .tup c) ∧ cr' = crossP (ss ++ [s]) (crossI k (ss ++ [s])) ∧ cr' = (if isCar s && isBor h then (match crossP ss (crossI k ss) with | .non => .tup [.str "v", .tup ss] | c => c) else crossP ss (crossI k ss)) := by
        refine ⟨_, ?_, rfl, ?_⟩
        · cases crossI k (ss ++ [s]) with
          | none => exact .inl rfl
          | some i => exact .inr ⟨_, rfl⟩
        · rw [cs]
          cases hci : crossI k ss with
          | some i =>
            have li := cross_lt hci
            have : crossP (ss ++ [s]) (some i) = crossP ss (some i) := by simp only [crossP]; rw [List.take_append_of_le_length (by omega)]
            simp only [this]
            simp [crossP]
          | none =>
            by_cases c : (isCar s && isBor h) = true
            · simp only [c, if_true]; simp [crossP]
            · simp only [c]; simp [crossP]
      obtain ⟨cr', hc1, hc2, hc3⟩ := nxt
      generalize hcc : crossP ss (crossI k ss) = cr at *
      have at2 : At k (ss ++ [s]) (optP (afterF h s)) cr' := by
        cases hx : afterF h s with
        | none =>
          rw [hx] at hsn
          rcases hc1 with q | ⟨c, q⟩
          · exact .inr ⟨hsn, rfl, [], .inr q⟩
          · exact .inr ⟨hsn, rfl, c, .inl q⟩
        | some k2 =>
          rw [hx] at hsn
          obtain ⟨w2, l2⟩ := after_wf hw hx
          exact .inl ⟨_, hsn, by rw [lastK_snoc]; rfl, by rw [lastK_snoc]; exact w2, by rw [lastK_snoc]; omega, hc2⟩
      have told : ∃ v, toldP Kn.pv (afterF h s) = v ∧ (optP (afterF h s) = .non ∧ v = .str "step" ∨ ∃ z2, optP (afterF h s) = .tup z2 ∧ v = .tup z2 ∧ (PV.tup z2).eqok = true) := by
        cases hx : afterF h s with
        | none => exact ⟨_, rfl, .inl ⟨rfl, rfl⟩⟩
        | some k2 =>
          obtain ⟨w2, l2⟩ := after_wf hw hx
          obtain ⟨z2, _, hz2, _⟩ := kn_head k2
          exact ⟨_, rfl, .inr ⟨z2, hz2, hz2, by rw [← hz2]; exact (Kn.fit k2).ok (by omega)⟩⟩
      obtain ⟨v, hv, hcase⟩ := told
      rw [hv] at ed
      generalize optP (afterF h s) = due at *
      have ht0 : True := trivial
      rcases hs with ⟨i, rfl⟩ | ⟨t, rfl, hto⟩
      · simp only [isCar, Bool.false_and] at hc3
        subst hc3
        have ht : True := trivial
        have hb : True := trivial
        rcases hcase with ⟨rfl, rfl⟩ | ⟨z2, rfl, rfl, hq⟩ <;> (
        walk_at "ev"
        simp only [es]
        walk_at "ev"
        simp only [ea]
        walk_at "ev"
        simp only [ed]
        walk_at "ev"
        try (simp only [hq, PV.refl]; walk_at "ev")
        try (simp only [hz0]; walk_at "ev")
        try (simp only [hbor, hb]; walk_at "ev")
        try (simp only [ht, decide_false]; walk_at "ev")
        try (simp only [show ss.length < 16777216 by omega]; walk_at "ev")
        first
        | exact ⟨_, _, ⟨ss ++ [_], _, _, tp', _, _, _, rfl, rfl, htp', hss', by simp; omega, at2⟩, rfl⟩
        | exact ⟨_, _, .inl ⟨⟨ss ++ [_], _, _, tp', _, _, _, rfl, rfl, htp', hss', by simp; omega, at2⟩, .inl rfl⟩⟩)
      · by_cases ht : t = "^"
        · subst ht
          simp only [isCar, decide_true, Bool.true_and] at hc3
          cases hb : isBor h with
          | false =>
            rw [hb] at hc3
            simp only [Bool.false_eq_true, if_false] at hc3
            subst hc3
            have ht : True := trivial
            rcases hcase with ⟨rfl, rfl⟩ | ⟨z2, rfl, rfl, hq⟩ <;> (
        walk_at "ev"
        simp only [es]
        walk_at "ev"
        simp only [ea]
        walk_at "ev"
        simp only [ed]
        walk_at "ev"
        try (simp only [hq, PV.refl]; walk_at "ev")
        try (simp only [hz0]; walk_at "ev")
        try (simp only [hbor, hb]; walk_at "ev")
        try (simp only [ht, decide_false]; walk_at "ev")
        try (simp only [show ss.length < 16777216 by omega]; walk_at "ev")
        first
        | exact ⟨_, _, ⟨ss ++ [_], _, _, tp', _, _, _, rfl, rfl, htp', hss', by simp; omega, at2⟩, rfl⟩
        | exact ⟨_, _, .inl ⟨⟨ss ++ [_], _, _, tp', _, _, _, rfl, rfl, htp', hss', by simp; omega, at2⟩, .inl rfl⟩⟩)
          | true =>
            rw [hb] at hc3
            have ht : True := trivial
            rcases hcr with rfl | ⟨c, rfl⟩
            · simp only [if_true] at hc3
              subst hc3
              rcases hcase with ⟨rfl, rfl⟩ | ⟨z2, rfl, rfl, hq⟩ <;> (
        walk_at "ev"
        simp only [es]
        walk_at "ev"
        simp only [ea]
        walk_at "ev"
        simp only [ed]
        walk_at "ev"
        try (simp only [hq, PV.refl]; walk_at "ev")
        try (simp only [hz0]; walk_at "ev")
        try (simp only [hbor, hb]; walk_at "ev")
        try (simp only [ht, decide_false]; walk_at "ev")
        try (simp only [show ss.length < 16777216 by omega]; walk_at "ev")
        first
        | exact ⟨_, _, ⟨ss ++ [_], _, _, tp', _, _, _, rfl, rfl, htp', hss', by simp; omega, at2⟩, rfl⟩
        | exact ⟨_, _, .inl ⟨⟨ss ++ [_], _, _, tp', _, _, _, rfl, rfl, htp', hss', by simp; omega, at2⟩, .inl rfl⟩⟩)
            · simp only [if_true] at hc3
              subst hc3
              rcases hcase with ⟨rfl, rfl⟩ | ⟨z2, rfl, rfl, hq⟩ <;> (
        walk_at "ev"
        simp only [es]
        walk_at "ev"
        simp only [ea]
        walk_at "ev"
        simp only [ed]
        walk_at "ev"
        try (simp only [hq, PV.refl]; walk_at "ev")
        try (simp only [hz0]; walk_at "ev")
        try (simp only [hbor, hb]; walk_at "ev")
        try (simp only [ht, decide_false]; walk_at "ev")
        try (simp only [show ss.length < 16777216 by omega]; walk_at "ev")
        first
        | exact ⟨_, _, ⟨ss ++ [_], _, _, tp', _, _, _, rfl, rfl, htp', hss', by simp; omega, at2⟩, rfl⟩
        | exact ⟨_, _, .inl ⟨⟨ss ++ [_], _, _, tp', _, _, _, rfl, rfl, htp', hss', by simp; omega, at2⟩, .inl rfl⟩⟩)
        · simp only [isCar, ht, decide_false, Bool.false_and] at hc3
          subst hc3
          have hb : True := trivial
          rcases hcase with ⟨rfl, rfl⟩ | ⟨z2, rfl, rfl, hq⟩ <;> (
        walk_at "ev"
        simp only [es]
        walk_at "ev"
        simp only [ea]
        walk_at "ev"
        simp only [ed]
        walk_at "ev"
        try (simp only [hq, PV.refl]; walk_at "ev")
        try (simp only [hz0]; walk_at "ev")
        try (simp only [hbor, hb]; walk_at "ev")
        try (simp only [ht, decide_false]; walk_at "ev")
        try (simp only [show ss.length < 16777216 by omega]; walk_at "ev")
        first
        | exact ⟨_, _, ⟨ss ++ [_], _, _, tp', _, _, _, rfl, rfl, htp', hss', by simp; omega, at2⟩, rfl⟩
        | exact ⟨_, _, .inl ⟨⟨ss ++ [_], _, _, tp', _, _, _, rfl, rfl, htp', hss', by simp; omega, at2⟩, .inl rfl⟩⟩)
    · walk_at "ev"
      exact ⟨_, _, ⟨ss, .non, cross, tp, _, _, _, rfl, rfl, htp, hss, by omega, .inr ⟨ch, rfl, z, hz⟩⟩, rfl⟩
  · obtain ⟨g, rfl, ss, here, cross, tp, v8, v9, v10, rfl, rfl, htp, hss, hl, at_⟩ := q
    have d1 := td1 ss hss (by omega)
    have d2 := td2 ss hss (by omega)
    walk_at "ev"
    have told : ∃ v, toldP (fun l => (lastK k l).pv) (chainF k ss) = v ∧ ∃ u, toldP (fun _ => crossP ss (crossI k ss)) (chainF k ss) = u ∧ (here = .non ∧ v = .str "step" ∧ u = .str "step" ∨ ∃ z2, here = .tup z2 ∧ v = .tup z2 ∧ (PV.tup z2).eqok = true ∧ (cross = .non ∧ u = .non ∨ ∃ c, cross = .tup c ∧ u = .tup c ∧ (PV.tup c).eqok = true)) := by
      rcases at_ with ⟨l, ch, rfl, hw, hlev, rfl⟩ | ⟨ch, rfl, z, hz⟩
      · obtain ⟨z, wd, hz, hz0, hbor⟩ := kn_head (lastK k l)
        have ft := (Kn.fit (lastK k l)).ok (by omega)
        rw [ch]
        refine ⟨_, rfl, _, rfl, .inr ⟨z, hz, hz, hz ▸ ft, ?_⟩⟩
        cases hc : crossI k ss with
        | none => exact .inl ⟨rfl, rfl⟩
        | some i => exact .inr ⟨_, rfl, rfl, (Fit.tup (n := 2) (.cons (.str _ (by decide +kernel)) (.cons (Fit.tup (n := 1) (Fits.of fun x hx => (hss x (List.mem_of_mem_take hx)).fit 1)) .nil))).ok (by omega)⟩
      · rw [ch]
        exact ⟨_, rfl, _, rfl, .inl ⟨rfl, rfl, rfl⟩⟩
    obtain ⟨v, hv, u, hu, hcase⟩ := told
    rw [hv] at d1
    rw [hu] at d2
    have u1 := unk (ss.take 11) (by rw [List.length_take]; omega)
    have c11 : cutD ss none (some 11) = ss.take 11 := by rw [cut_to _ (by omega)]; rfl
    rw [← c11] at u1
    obtain ⟨q1, t6, a0, a1, ht6, e6⟩ := nx tp 3 htp (by omega)
    obtain ⟨q2, t7, b0, b1, ht7, e7⟩ := nx t6 6 ht6 (by omega)
    obtain ⟨q3, t8, c0, c1, ht8, e8⟩ := nx t7 3 ht7 (by omega)
    have hq1 : q1 = 0 ∨ q1 = 1 ∨ q1 = 2 := by omega
    clear td0 td1 td2 unk
    have c7 : cutD ss none (some q2) = ss.take q2.toNat := cut_to ss b0
    have hb0 : ∀ s, s ∈ ss.take q2.toNat → StepP s := fun s h => hss s (List.mem_of_mem_take h)
    have hbl : (ss.take q2.toNat).length ≤ 16777215 := by rw [List.length_take]; omega
    generalize ss.take q2.toNat = b0' at *
    have last : ∀ (b : List PV), (∀ s, s ∈ b → Fit s 1) → cutD b none (some (ss.length : Int)) = b.take ss.length ∧ cutD ss none (some (b.length : Int)) = ss.take b.length ∧ (PV.tup b).eqok = true ∧ (PV.tup ss).eqok = true ∧ (PV.tup (b.take ss.length)).eqok = true ∧ (PV.tup (ss.take b.length)).eqok = true ∧ PyData.eqv (PV.tup ss).py (PV.tup (b.take ss.length)).py = pfx ss b ∧ PyData.eqv (PV.tup b).py (PV.tup (ss.take b.length)).py = pfx b ss := fun b hb => by
      have hs : ∀ s, s ∈ ss → Fit s 1 := fun s h => (hss s h).fit 1
      refine ⟨?_, ?_, ok_tup hb, ok_tup hs, ok_tup fun s h => hb s (List.mem_of_mem_take h), ok_tup fun s h => hs s (List.mem_of_mem_take h), rfl, rfl⟩
      · rw [cut_to _ (by omega)]; rfl
      · rw [cut_to _ (by omega)]; rfl
    have fb1 := last b0' (fun s h => (hb0 s h).fit 1)
    have fb2 := last (b0' ++ [.str "n"]) (fun s h => by
      rcases List.mem_append.mp h with q | q
      · exact (hb0 s q).fit 1
      · simp at q; subst q; exact .str _ (by decide +kernel))
    clear last
    rcases hcase with ⟨rfl, rfl, rfl⟩ | ⟨z2, rfl, rfl, hq, (⟨rfl, rfl⟩ | ⟨c, rfl, rfl, hcq⟩)⟩ <;> (
      simp only [d1]
      walk_at "ev"
      try (simp only [hq, PV.refl]; walk_at "ev")
      simp only [d2]
      walk_at "ev"
      try (simp only [hcq, PV.refl]; walk_at "ev")
      simp only [u1]
      walk_at "ev"
      simp only [e6]
      walk_at "ev"
      clear d1 d2 u1 hv hu c11 at_
      rcases hq1 with rfl | rfl | rfl <;> (
        try (walk_at "ev")
        try (simp only [at0, at1, show ∀ x y z : PV, atI [x, y, z] 2 = some z from fun _ _ _ => rfl]; walk_at "ev")
        simp only [e7]
        walk_at "ev"
        simp only [c7]
        try (walk_at "ev")
        simp only [e8]
        try (walk_at "ev")
        by_cases h3 : q3 = 0
        · simp only [h3, decide_true]
          try (walk_at "ev")
          simp only [hbl, if_true]
          generalize b0' ++ [PV.str "n"] = bb at *
          try (walk_at "ev")
          obtain ⟨k1, k2, k3, k4, k5, k6, k7, k8⟩ := fb2
          have p1 := fun w1 w2 => pr1 w1 w2 ss bb k4 k5
          have p2 := fun w1 w2 => pr1 w1 w2 bb ss k3 k6
          have p3 := fun w1 w2 => ov1 w1 w2 ss bb k4 k3 k5 k6
          generalize pfx ss bb = x1 at *
          generalize pfx bb ss = x2 at *
          repeat (simp only [k1, k2, k3, k4, k5, k6, k7, k8, p1, p2, p3, is1, hd, dcs, nd, decide_true, Bool.true_and, Bool.false_and, Bool.true_or, Bool.or_true, Bool.false_or, Bool.or_false, if_true]; try (walk_at "ev"))
          try (cases x1 <;> (try (walk_at "ev")) <;> repeat (simp only [p1, p2, p3, is1, hd, dcs, nd, decide_true, Bool.true_and, Bool.false_and, Bool.true_or, Bool.or_true, Bool.false_or, Bool.or_false, if_true]; try (walk_at "ev")))

        · simp only [h3, decide_false]
          try (walk_at "ev")
          obtain ⟨k1, k2, k3, k4, k5, k6, k7, k8⟩ := fb1
          have p1 := fun w1 w2 => pr1 w1 w2 ss b0' k4 k5
          have p2 := fun w1 w2 => pr1 w1 w2 b0' ss k3 k6
          have p3 := fun w1 w2 => ov1 w1 w2 ss b0' k4 k3 k5 k6
          generalize pfx ss b0' = x1 at *
          generalize pfx b0' ss = x2 at *
          repeat (simp only [k1, k2, k3, k4, k5, k6, k7, k8, p1, p2, p3, is1, hd, dcs, nd, decide_true, Bool.true_and, Bool.false_and, Bool.true_or, Bool.or_true, Bool.false_or, Bool.or_false, if_true]; try (walk_at "ev"))
          try (cases x1 <;> (try (walk_at "ev")) <;> repeat (simp only [p1, p2, p3, is1, hd, dcs, nd, decide_true, Bool.true_and, Bool.false_and, Bool.true_or, Bool.or_true, Bool.false_or, Bool.or_false, if_true]; try (walk_at "ev")))
)
    )
end

section
theorem rva_ints {K : PySem.W.Frag} {S : List Addr} {H : Hp} : ∀ ns : List Int, RvA K S H (ns.map V.int) (ns.map PV.int)
  | [] => .nil
  | n :: ns => .cons (.int n) (rva_ints ns)
theorem pure_law {K : PySem.W.Frag} (A : Ad) (fx : Fx K A) (vs : List V) (H : Hp) (Q : VK) (E : XK) (h : sp_law K vs H Q E) : t_law K A (bd Q) (start N_law vs) H := by
  have fne : A.c_NoSuchVariable ≠ A.c_NoSuchStep := fun e => by
    have q := fx.k_NoSuchVariable_NoSuchStep
    rw [e] at q
    simp [PySem.W.kitOne] at q
  obtain ⟨a, ns, rfl, hS, hl, k⟩ := h
  refine pure0_law A fx _ H Q E ⟨rfl, [], [], [.p (.scr (ns.map .int))], [], fun a h => by simp at h, .nil, fun a h => by simp at h, ⟨rfl, fun n a ds h => by simp at h⟩, rfl, fun p hp => ?_, ?_⟩
  · simp at hp; subst hp
    exact Rv.scr (.of hS fun _ h => by simp at h) (rva_ints ns)
  · rw [law_ok A fne ns]
    intro v H' x r o
    cases r
    exact k _
end

section
variable {P : Program} {w : World} {K : PySem.W.Frag} {mg : Str → Option Value} {base : Heap}
theorem has_fields_of (F0 : Dfn K mg "fields_of" s_fields_of ["records", "name"]) (A : Ad)       : Has P w K mg base CX0 1 "fields_of" ["records", "name"] (sp_P K 2 (F_fields_of A)) :=
  F0.has fun f fd F => F.ok sc_fields_of (fun vs H Q E h => h.1) (fun cdv A0 outer s H vs Q E hr h => ⟨t_fields_of K A,
    (pss_consJ (ps_for PassesOwn.never rfl (pi_tup (pv 0)) (pg_name (i := 2) sc_fields_of.nd rfl (by first | exact Or.inl rfl | exact Or.inr rfl)) (pss_one (ps_if (pt_cmpR (o_eq hr.units) (pe_ix ix_seq (pv 2) pe_int (fun _ _ => rfl)) (pv 1) (nomark _)) (pss_one (ps_ret (pe_ix ix_seq (pv 2) pe_int (fun _ _ => rfl)))) pss_nil)))
    (pss_one (ps_ret pe_non))),
    pure_fields_of A vs H Q E h⟩)
theorem has_kind_after (F0 : Dfn K mg "kind_after" s_kind_after ["records", "kind", "step"]) (A : Ad)  (h_fields_of : Has P w K mg base CX0 1 "fields_of" ["records", "name"] (sp_P K 2 (F_fields_of A)))  (x_NoSuchStep : ExO K mg "NoSuchStep" A.c_NoSuchStep) (z_isinstance : mg "isinstance" = none) (z_int : mg "int" = none) (z_len : mg "len" = none)  : Has P w K mg base (L2.CX P w) 2 "kind_after" ["records", "kind", "step"] (sp_P K 3 (F_kind_after A)) :=
  F0.has fun f fd F => F.okX sc_kind_after (fun vs H Q E h => h.1) (fun cdv A0 outer s H vs Q E hr h => ⟨t_kind_after K A E,
    (pss_consJ (ps_if (pt_cmpR (o_eq hr.units) (pv 2) pe_str (nomark _)) (pss_one (ps_if (pt_cmpR (o_eq hr.units) (pe_ix ix_seq (pv 1) pe_int (fun _ _ => rfl)) pe_str (nomark _)) (pss_one (ps_ret (pe_ix ix_seq (pv 1) pe_int (fun _ _ => rfl)))) pss_nil)) (pss_one (ps_if (pt_cmpR (o_eq hr.units) (pv 2) pe_str (nomark _)) (pss_one (ps_if (pt_cmpR op_in_seq (pe_ix ix_seq (pv 1) pe_int (fun _ _ => rfl)) (pe_tup (pa_cons pe_str (pa_cons pe_str (pa_cons pe_str pa_nil)))) rfl) (pss_one (ps_ret (pe_ix ix_seq (pv 1) pe_int (fun _ _ => rfl)))) pss_nil)) (pss_one (ps_if (pt_cmpR (o_eq hr.units) (pe_ix ix_seq (pv 1) pe_int (fun _ _ => rfl)) pe_str (nomark _)) (pss_one (ps_if (PW.pt (pw_and (pt_val (pe_callB call_isi (by rfl) z_isinstance (by decide +kernel) (pa_cons (pv 2) (pa_cons (pe_bltn (v := .ty "int") (by rfl) z_int (by decide +kernel) rfl) pa_nil)))) (pw_and1 (pt_chain op_le op_lt pe_int (pv 2) (pe_callB call_len (by rfl) z_len PySem.boot_len (pa_cons (pe_ix ix_seq (pv 1) pe_int (fun _ _ => rfl)) pa_nil)))))) (pss_one (ps_ret (pe_ix ix_seq (pe_ix ix_seq (pv 1) pe_int (fun _ _ => rfl)) (pv 2) (fun _ _ => rfl)))) pss_nil)) (pss_one (ps_if (pt_cmpR (o_eq hr.units) (pe_ix ix_seq (pv 1) pe_int (fun _ _ => rfl)) pe_str (nomark _)) (pss_one (ps_for (passes_of rfl) rfl (pi_tup (pe_callH h_fields_of (hr.mono (by omega)) rfl pass0 (pa_cons (pv 0) (pa_cons (pe_ix ix_seq (pv 1) pe_int (fun _ _ => rfl)) pa_nil)))) (pg_tup rfl (pgs_cons (pg_name (i := 3) sc_kind_after.nd rfl (by first | exact Or.inl rfl | exact Or.inr rfl)) (pgs_cons (pg_name (i := 4) sc_kind_after.nd rfl (by first | exact Or.inl rfl | exact Or.inr rfl)) pgs_nil))) (pss_one (ps_if (pt_cmpR (o_eq hr.units) (pv 3) (pv 2) (nomark _)) (pss_one (ps_ret (pv 4))) pss_nil)))) pss_nil)))))))
    (pss_one (ps_raiseC rfl (takes_of rfl rfl rfl rfl) x_NoSuchStep rfl))),
    pure_kind_after A vs H Q E h⟩)
theorem has_is_prefix (F0 : Dfn K mg "is_prefix" s_is_prefix ["first", "second"]) (A : Ad)     (z_len : mg "len" = none)  : Has P w K mg base CX0 1 "is_prefix" ["first", "second"] (sp_P K 2 (F_is_prefix A)) :=
  F0.has fun f fd F => F.ok sc_is_prefix (fun vs H Q E h => h.1) (fun cdv A0 outer s H vs Q E hr h => ⟨t_is_prefix K A,
    (pss_consJ (ps_set (i := 2) sc_is_prefix.nd rfl (by first | exact Or.inl rfl | exact Or.inr rfl) (pe_callB call_len (by rfl) z_len PySem.boot_len (pa_cons (pe_ix ix_seq (pv 0) pe_int (fun _ _ => rfl)) pa_nil)))
    (pss_one (ps_ret (pe_and (pe_cmpR (o_eq hr.units) (pe_ix ix_seq (pv 0) pe_int (fun _ _ => rfl)) (pe_ix ix_seq (pv 1) pe_int (fun _ _ => rfl)) (nomark _)) (pe_one (pe_cmpR (o_eq hr.units) (pe_ix ix_seq (pv 0) pe_int (fun _ _ => rfl)) (pe_slice o_sl (pe_ix ix_seq (pv 1) pe_int (fun _ _ => rfl)) po_none (po_some (pv 2))) (nomark _))))))),
    pure_is_prefix A vs H Q E h⟩)
theorem has_overlap (F0 : Dfn K mg "overlap" s_overlap ["first", "second"]) (A : Ad)  (h_is_prefix : Has P w K mg base CX0 1 "is_prefix" ["first", "second"] (sp_P K 2 (F_is_prefix A)))     : Has P w K mg base CX0 2 "overlap" ["first", "second"] (sp_P K 2 (F_overlap A)) :=
  F0.has fun f fd F => F.ok sc_overlap (fun vs H Q E h => h.1) (fun cdv A0 outer s H vs Q E hr h => ⟨t_overlap K A,
    (pss_one (ps_ret (pe_or (pe_callH h_is_prefix (hr.mono (by omega)) rfl pass0 (pa_cons (pv 0) (pa_cons (pv 1) pa_nil))) (pe_one (pe_callH h_is_prefix (hr.mono (by omega)) rfl pass0 (pa_cons (pv 1) (pa_cons (pv 0) pa_nil))))))),
    pure_overlap A vs H Q E h⟩)
theorem has_kinds_along (F0 : DfnK K mg "kinds_along" s_kinds_along 1 ["place", "records", "kinds"] ["records", "kinds"]) (A : Ad)  (h_kind_after : Has P w K mg base (L2.CX P w) 2 "kind_after" ["records", "kind", "step"] (sp_P K 3 (F_kind_after A)))  (x_NoSuchVariable : ExO K mg "NoSuchVariable" A.c_NoSuchVariable)   : HasK P w K mg base (L2.CX P w) 3 "kinds_along" 1 ["place", "records", "kinds"] ["records", "kinds"] (sp_P K 3 (F_kinds_along A)) :=
  F0.has fun f fd F => F.okX sc_kinds_along (fun vs H Q E h => h.1) (fun cdv A0 outer s H vs Q E hr h => ⟨t_kinds_along K A E,
    (pss_consJ (ps_if (pt_cmp (pc_dnotin (hu_of hr) (pe_ix ix_seq (pv 0) pe_int (fun _ _ => rfl)) (pv 2)) (by rfl)) (pss_one (ps_raiseC rfl (takes_of rfl rfl rfl rfl) x_NoSuchVariable rfl)) pss_nil)
    (pss_consJ (ps_set (i := 3) sc_kinds_along.nd rfl (by first | exact Or.inl rfl | exact Or.inr rfl) (pe_dget (hu_of hr) (pv 2) (pe_ix ix_seq (pv 0) pe_int (fun _ _ => rfl)) (fun _ _ => rfl)))
    (pss_consJ (ps_set (i := 4) sc_kinds_along.nd rfl (by first | exact Or.inl rfl | exact Or.inr rfl) (pe_lst (pa_cons (pv 3) pa_nil)))
    (pss_consJ (ps_for (passes_of rfl) rfl (pi_tup (pe_ix ix_seq (pv 0) pe_int (fun _ _ => rfl))) (pg_name (i := 5) sc_kinds_along.nd rfl (by first | exact Or.inl rfl | exact Or.inr rfl)) (pss_consJ (ps_set (i := 3) sc_kinds_along.nd rfl (by first | exact Or.inl rfl | exact Or.inr rfl) (pe_callH h_kind_after (hr.mono (by omega)) rfl (passE (takes_of rfl rfl rfl rfl)) (pa_cons (pv 1) (pa_cons (pv 3) (pa_cons (pv 5) pa_nil)))))
    (pss_one (ps_expr (pe_bm PySem.F.plainAttrs_list PySem.F.slot_list_append PySem.F.type_list_append mt_append (pv 4) (pa_cons (pv 3) pa_nil))))))
    (pss_one (ps_ret (pv 4))))))),
    pure_kinds_along A vs H Q E h⟩)
theorem has_kind_at (F0 : DfnK K mg "kind_at" s_kind_at 1 ["place", "records", "kinds"] ["records", "kinds"]) (A : Ad)  (h_kinds_along : HasK P w K mg base (L2.CX P w) 3 "kinds_along" 1 ["place", "records", "kinds"] ["records", "kinds"] (sp_P K 3 (F_kinds_along A)))     : HasK P w K mg base (L2.CX P w) 4 "kind_at" 1 ["place", "records", "kinds"] ["records", "kinds"] (sp_P K 3 (F_kind_at A)) :=
  F0.has fun f fd F => F.okX sc_kind_at (fun vs H Q E h => h.1) (fun cdv A0 outer s H vs Q E hr h => ⟨t_kind_at K A E,
    (pss_one (ps_ret (pe_ix ix_seq (pe_callKH h_kinds_along (hr.mono (by omega)) rfl (passE (takes_of rfl rfl rfl rfl)) (pa_cons (pv 0) pa_nil) (pk_cons (pv 1) (pk_cons (pv 2) pk_nil))) (pe_un un_neg pe_int) (fun _ _ => rfl)))),
    pure_kind_at A vs H Q E h⟩)
theorem has_crossed (F0 : DfnK K mg "crossed" s_crossed 1 ["place", "records", "kinds"] ["records", "kinds"]) (A : Ad)  (h_kinds_along : HasK P w K mg base (L2.CX P w) 3 "kinds_along" 1 ["place", "records", "kinds"] ["records", "kinds"] (sp_P K 3 (F_kinds_along A)))   (z_enumerate : mg "enumerate" = none) (q_BORROWS : Cst K mg "BORROWS" c_BORROWS) : HasK P w K mg base (L2.CX P w) 4 "crossed" 1 ["place", "records", "kinds"] ["records", "kinds"] (sp_P K 3 (F_crossed A)) :=
  F0.has fun f fd F => F.okX sc_crossed (fun vs H Q E h => h.1) (fun cdv A0 outer s H vs Q E hr h => ⟨t_crossed K A E,
    (pss_consJ (ps_set (i := 3) sc_crossed.nd rfl (by first | exact Or.inl rfl | exact Or.inr rfl) (pe_callKH h_kinds_along (hr.mono (by omega)) rfl (passE (takes_of rfl rfl rfl rfl)) (pa_cons (pv 0) pa_nil) (pk_cons (pv 1) (pk_cons (pv 2) pk_nil))))
    (pss_consJ (ps_for (passes_of rfl) rfl (pi_enumT (by rfl) z_enumerate (pa_cons (pe_ix ix_seq (pv 0) pe_int (fun _ _ => rfl)) pa_nil)) (pg_tup rfl (pgs_cons (pg_name (i := 4) sc_crossed.nd rfl (by first | exact Or.inl rfl | exact Or.inr rfl)) (pgs_cons (pg_name (i := 5) sc_crossed.nd rfl (by first | exact Or.inl rfl | exact Or.inr rfl)) pgs_nil))) (pss_one (ps_if (PW.pt (pw_and (pt_cmpR (o_eq hr.units) (pv 5) pe_str (nomark _)) (pw_and1 (pt_cmpR op_in_seq (pe_ix ix_seq (pe_ix ix_seq (pv 3) (pv 4) (fun _ _ => rfl)) pe_int (fun _ _ => rfl)) (pe_const q_BORROWS (by rfl)) rfl)))) (pss_one (ps_ret (pe_tup (pa_cons (pe_ix ix_seq (pv 0) pe_int (fun _ _ => rfl)) (pa_cons (pe_slice o_sl (pe_ix ix_seq (pv 0) pe_int (fun _ _ => rfl)) po_none (po_some (pv 4))) pa_nil))))) pss_nil)))
    (pss_one (ps_ret pe_non)))),
    pure_crossed A vs H Q E h⟩)
theorem has_l_tape (F0 : Dfn K mg "_law_tape" s_l_tape ["script"]) (A : Ad)     (z_int : mg "int" = none) (z_abs : mg "abs" = none) (z_range : mg "range" = none)  : Has P w K mg base CX0 1 "_law_tape" ["script"] (sp_N K 1 (F_l_tape A)) :=
  F0.has fun f fd F => F.ok sc_l_tape (fun vs H Q E h => h.1) (fun cdv A0 outer s H vs Q E hr h => ⟨t_l_tape K A,
    (pss_consJ (ps_set (i := 1) sc_l_tape.nd rfl (by first | exact Or.inl rfl | exact Or.inr rfl) (pe_lst pa_nil))
    (pss_consJ (ps_set (i := 2) sc_l_tape.nd rfl (by first | exact Or.inl rfl | exact Or.inr rfl) pe_int)
    (pss_consJ (ps_for PassesOwn.never rfl (pi_list (pe_slice o_sl (pv 0) po_none (po_some pe_int))) (pg_name (i := 3) sc_l_tape.nd rfl (by first | exact Or.inl rfl | exact Or.inr rfl)) (pss_consJ (ps_set (i := 4) sc_l_tape.nd rfl (by first | exact Or.inl rfl | exact Or.inr rfl) (pe_callB call_abs (by rfl) z_abs (by decide +kernel) (pa_cons (pe_callTy call_int1 (by rfl) z_int (by decide +kernel) (pa_cons (pv 3) pa_nil)) pa_nil)))
    (pss_consJ (ps_set (i := 2) sc_l_tape.nd rfl (by first | exact Or.inl rfl | exact Or.inr rfl) (pe_op o_add (pv 2) (pv 4)))
    (pss_one (ps_for PassesOwn.never rfl (pi_range1 (by rfl) z_range (pa_cons pe_int pa_nil)) (pg_name (i := 5) sc_l_tape.nd rfl (by first | exact Or.inl rfl | exact Or.inr rfl)) (pss_consJ (ps_expr (pe_bm PySem.F.plainAttrs_list PySem.F.slot_list_append PySem.F.type_list_append mt_append (pv 1) (pa_cons (pe_op op_mod (pe_callTy call_int1 (by rfl) z_int (by decide +kernel) (pa_cons (pv 4) pa_nil)) pe_int) pa_nil)))
    (pss_consJ (ps_set (i := 4) sc_l_tape.nd rfl (by first | exact Or.inl rfl | exact Or.inr rfl) (pe_op op_fdiv (pv 4) pe_int))
    (pss_one (ps_if (pt_cmpR (o_eq hr.units) (pv 4) pe_int (nomark _)) (pss_one ps_break) pss_nil)))))))))
    (pss_one (ps_ret (pe_lst (pa_cons pe_int (pa_cons (pv 1) (pa_cons (pe_op op_mod (pe_callTy call_int1 (by rfl) z_int (by decide +kernel) (pa_cons (pv 2) pa_nil)) pe_int) pa_nil))))))))),
    pure_l_tape A vs H Q E h⟩)
theorem has_l_next (F0 : Dfn K mg "_law_next" s_l_next ["tape", "many"]) (A : Ad)     (z_len : mg "len" = none) (z_int : mg "int" = none)  : Has P w K mg base CX0 1 "_law_next" ["tape", "many"] (sp_P K 2 (F_l_next A)) :=
  F0.has fun f fd F => F.ok sc_l_next (fun vs H Q E h => h.1) (fun cdv A0 outer s H vs Q E hr h => ⟨t_l_next K A,
    (pss_consJ (ps_set (i := 2) sc_l_next.nd rfl (by first | exact Or.inl rfl | exact Or.inr rfl) (pe_ix ix_seq (pv 0) pe_int (fun _ _ => rfl)))
    (pss_consJ (ps_asg (pe_op o_add (pv 2) pe_int) (pg_sub (pv 0) pe_int set_list))
    (pss_consJ (ps_if (pt_cmpR op_lt (pv 2) (pe_callB call_len (by rfl) z_len PySem.boot_len (pa_cons (pe_ix ix_seq (pv 0) pe_int (fun _ _ => rfl)) pa_nil)) (nomark _)) (pss_one (ps_ret (pe_op op_mod (pe_callTy call_int1 (by rfl) z_int (by decide +kernel) (pa_cons (pe_ix ix_seq (pe_ix ix_seq (pv 0) pe_int (fun _ _ => rfl)) (pv 2) (fun _ _ => rfl)) pa_nil)) (pv 1)))) pss_nil)
    (pss_one (ps_ret (pe_op op_mod (pe_op op_fdiv (pe_op op_mod (pe_callTy call_int1 (by rfl) z_int (by decide +kernel) (pa_cons (pe_op o_add (pe_op op_mul (pe_op o_add (pv 2) pe_int) pe_int) (pe_op op_mul (pe_ix ix_seq (pv 0) pe_int (fun _ _ => rfl)) pe_int)) pa_nil)) pe_int) pe_int) (pv 1))))))),
    pure_l_next A vs H Q E h⟩)
theorem has_l_fields (F0 : Dfn K mg "_law_fields" s_l_fields ["name"]) (A : Ad)       : Has P w K mg base CX0 1 "_law_fields" ["name"] (sp_P K 1 (F_l_fields A)) :=
  F0.has fun f fd F => F.ok sc_l_fields (fun vs H Q E h => h.1) (fun cdv A0 outer s H vs Q E hr h => ⟨t_l_fields K A,
    (pss_consJ (ps_if (pt_cmpR (o_eq hr.units) (pv 0) pe_str (nomark _)) (pss_one (ps_ret (pe_tup (pa_cons (pe_tup (pa_cons pe_str (pa_cons (pe_tup (pa_cons pe_str pa_nil)) pa_nil))) (pa_cons (pe_tup (pa_cons pe_str (pa_cons (pe_tup (pa_cons pe_str (pa_cons (pe_tup (pa_cons pe_str (pa_cons (pe_tup (pa_cons pe_str (pa_cons pe_str pa_nil))) pa_nil))) pa_nil))) pa_nil))) pa_nil))))) pss_nil)
    (pss_consJ (ps_if (pt_cmpR (o_eq hr.units) (pv 0) pe_str (nomark _)) (pss_one (ps_ret (pe_tup (pa_cons (pe_tup (pa_cons pe_str (pa_cons (pe_tup (pa_cons pe_str pa_nil)) pa_nil))) (pa_cons (pe_tup (pa_cons pe_str (pa_cons (pe_tup (pa_cons pe_str (pa_cons (pe_tup (pa_cons pe_str (pa_cons (pe_tup (pa_cons pe_str (pa_cons pe_str pa_nil))) pa_nil))) pa_nil))) pa_nil))) pa_nil))))) pss_nil)
    (pss_one (ps_ret (pe_tup (pa_cons (pe_tup (pa_cons pe_str (pa_cons (pe_tup (pa_cons pe_str pa_nil)) pa_nil))) (pa_cons (pe_tup (pa_cons pe_str (pa_cons (pe_tup (pa_cons pe_str (pa_cons pe_str pa_nil))) pa_nil))) (pa_cons (pe_tup (pa_cons pe_str (pa_cons (pe_tup (pa_cons pe_str (pa_cons (pe_tup (pa_cons (pe_tup (pa_cons pe_str pa_nil)) (pa_cons (pe_tup (pa_cons pe_str pa_nil)) pa_nil))) pa_nil))) pa_nil))) pa_nil)))))))),
    pure_l_fields A vs H Q E h⟩)
theorem has_l_records (F0 : Dfn K mg "_law_records" s_l_records ["tape"]) (A : Ad)  (h_l_next : Has P w K mg base CX0 1 "_law_next" ["tape", "many"] (sp_P K 2 (F_l_next A))) (h_l_fields : Has P w K mg base CX0 1 "_law_fields" ["name"] (sp_P K 1 (F_l_fields A)))   (z_tuple : mg "tuple" = none)  : Has P w K mg base CX0 2 "_law_records" ["tape"] (sp_P K 1 (F_l_records A)) :=
  F0.has fun f fd F => F.ok sc_l_records (fun vs H Q E h => h.1) (fun cdv A0 outer s H vs Q E hr h => ⟨t_l_records K A,
    (pss_consJ (ps_set (i := 1) sc_l_records.nd rfl (by first | exact Or.inl rfl | exact Or.inr rfl) (pe_lst (pa_cons pe_str (pa_cons pe_str (pa_cons pe_str pa_nil)))))
    (pss_consJ (ps_set (i := 2) sc_l_records.nd rfl (by first | exact Or.inl rfl | exact Or.inr rfl) (pe_callH h_l_next (hr.mono (by omega)) rfl pass0 (pa_cons (pv 0) (pa_cons pe_int pa_nil))))
    (pss_consJ (ps_set (i := 1) sc_l_records.nd rfl (by first | exact Or.inl rfl | exact Or.inr rfl) (pe_op o_add (pe_slice o_sl (pv 1) (po_some (pv 2)) po_none) (pe_slice o_sl (pv 1) po_none (po_some (pv 2)))))
    (pss_consJ (ps_if (pt_cmpR (o_eq hr.units) (pe_callH h_l_next (hr.mono (by omega)) rfl pass0 (pa_cons (pv 0) (pa_cons pe_int pa_nil))) pe_int (nomark _)) (pss_one (ps_set (i := 1) sc_l_records.nd rfl (by first | exact Or.inl rfl | exact Or.inr rfl) (pe_revL (pv 1)))) pss_nil)
    (pss_one (ps_ret (pe_callTy call_tuple_of (by rfl) z_tuple (by decide +kernel) (pa_cons (pe_lc (own := [("name", 3)]) (g := (gName 3)) (tt := tYes) (te := (tTupK K (tCons (tVar 3) (tCons (tCall (sp_P K 1 (F_l_fields A)) [] E0 (tCons (tVar 3) tNil)) tNil))))  rfl sc_l_records.nd (pi_list (pv 1)) (blkOk_by (own := [("name", 3)]) (N := N_l_records) (sc := defScope s_l_records) (by decide +kernel)) (fun _ _ _ _ _ => (pg_name (i := 3) sc_l_records.nd rfl (by first | exact Or.inl rfl | exact Or.inr rfl))) (fun _ _ _ _ _ => pts_nil) (fun _ _ _ _ _ => (pe_tup (pa_cons (pv 3) (pa_cons (pe_callH h_l_fields (hr.mono (by omega)) rfl pass0 (pa_cons (pv 3) pa_nil)) pa_nil))))) pa_nil)))))))),
    pure_l_records A vs H Q E h⟩)
theorem step_l_cells (n : Nat) (F0 : Dfn K mg "_law_cells" s_l_cells ["kind"]) (A : Ad) (h_l_cells : Has P w K mg base CX0 (n + 0) "_law_cells" ["kind"] (sp_P K 1 (F_l_cells A n)))   (z_sum : mg "sum" = none)  : Has P w K mg base CX0 (n + 0 + 1) "_law_cells" ["kind"] (sp_P K 1 (F_l_cells A (n + 1))) :=
  F0.has fun f fd F => F.ok sc_l_cells (fun vs H Q E h => h.1) (fun cdv A0 outer s H vs Q E hr h => ⟨t_l_cells K A n,
    (pss_consJ (ps_if (pt_cmpR (o_eq hr.units) (pe_ix ix_seq (pv 0) pe_int (fun _ _ => rfl)) pe_str (nomark _)) (pss_one (ps_ret (pe_op o_add pe_int (pe_callH h_l_cells (hr.mono (by omega)) rfl pass0 (pa_cons (pe_ix ix_seq (pv 0) pe_int (fun _ _ => rfl)) pa_nil))))) pss_nil)
    (pss_consJ (ps_if (pt_cmpR (o_eq hr.units) (pe_ix ix_seq (pv 0) pe_int (fun _ _ => rfl)) pe_str (nomark _)) (pss_one (ps_ret (pe_callB (cr_sum rfl) (by rfl) z_sum (by decide +kernel) (pa_cons (pe_lc (own := [("item", 1)]) (g := (gName 1)) (tt := tYes) (te := (tCall (sp_P K 1 (F_l_cells A n)) [] E0 (tCons (tVar 1) tNil)))  rfl sc_l_cells.nd (pi_tup (pe_ix ix_seq (pv 0) pe_int (fun _ _ => rfl))) (blkOk_by (own := [("item", 1)]) (N := N_l_cells) (sc := defScope s_l_cells) (by decide +kernel)) (fun _ _ _ _ _ => (pg_name (i := 1) sc_l_cells.nd rfl (by first | exact Or.inl rfl | exact Or.inr rfl))) (fun _ _ _ _ _ => pts_nil) (fun _ _ _ _ _ => (pe_callH h_l_cells (hr.mono (by omega)) rfl pass0 (pa_cons (pv 1) pa_nil)))) pa_nil)))) pss_nil)
    (pss_consJ (ps_if (pt_cmpR (o_eq hr.units) (pe_ix ix_seq (pv 0) pe_int (fun _ _ => rfl)) pe_str (nomark _)) (pss_one (ps_ret (pe_ifExp (pt_cmpR (o_eq hr.units) (pe_ix ix_seq (pv 0) pe_int (fun _ _ => rfl)) pe_str (nomark _)) pe_int pe_int))) pss_nil)
    (pss_one (ps_ret pe_int))))),
    pure_l_cells A n vs H Q E h⟩)
theorem has_l_cells (F0 : Dfn K mg "_law_cells" s_l_cells ["kind"]) (A : Ad)    (z_sum : mg "sum" = none)  : ∀ n : Nat, Has P w K mg base CX0 (n + 0) "_law_cells" ["kind"] (sp_P K 1 (F_l_cells A n))
  | 0 => F0.never no_P
  | n + 1 => (step_l_cells n F0 A (has_l_cells F0 A   z_sum  n)  z_sum ).mono (by omega)
theorem has_l_fitting (F0 : Dfn K mg "_law_fitting" s_l_fitting ["items", "most"]) (A : Ad)  (h_l_cells : Has P w K mg base CX0 12 "_law_cells" ["kind"] (sp_P K 1 (F_l_cells A 12)))   (z_len : mg "len" = none) (z_range : mg "range" = none) (z_tuple : mg "tuple" = none)  : Has P w K mg base CX0 13 "_law_fitting" ["items", "most"] (sp_P K 2 (F_l_fitting A)) :=
  F0.has fun f fd F => F.ok sc_l_fitting (fun vs H Q E h => h.1) (fun cdv A0 outer s H vs Q E hr h => ⟨t_l_fitting K A,
    (pss_consJ (ps_set (i := 2) sc_l_fitting.nd rfl (by first | exact Or.inl rfl | exact Or.inr rfl) (pe_lst pa_nil))
    (pss_consJ (ps_set (i := 3) sc_l_fitting.nd rfl (by first | exact Or.inl rfl | exact Or.inr rfl) pe_int)
    (pss_consJ (ps_for PassesOwn.never rfl (pi_range1 (by rfl) z_range (pa_cons (pe_callB call_len (by rfl) z_len PySem.boot_len (pa_cons (pv 0) pa_nil)) pa_nil)) (pg_name (i := 4) sc_l_fitting.nd rfl (by first | exact Or.inl rfl | exact Or.inr rfl)) (pss_consJ (ps_set (i := 5) sc_l_fitting.nd rfl (by first | exact Or.inl rfl | exact Or.inr rfl) (pe_ix ix_seq (pv 0) (pv 4) (fun _ _ => rfl)))
    (pss_consJ (ps_if (pt_cmpR op_gt (pe_op op_sub (pe_op op_sub (pe_op o_add (pe_op o_add (pv 3) (pe_callH h_l_cells (hr.mono (by omega)) rfl pass0 (pa_cons (pv 5) pa_nil))) (pe_callB call_len (by rfl) z_len PySem.boot_len (pa_cons (pv 0) pa_nil))) pe_int) (pv 4)) (pv 1) (nomark _)) (pss_one (ps_set (i := 5) sc_l_fitting.nd rfl (by first | exact Or.inl rfl | exact Or.inr rfl) (pe_tup (pa_cons pe_str pa_nil)))) pss_nil)
    (pss_consJ (ps_set (i := 3) sc_l_fitting.nd rfl (by first | exact Or.inl rfl | exact Or.inr rfl) (pe_op o_add (pv 3) (pe_callH h_l_cells (hr.mono (by omega)) rfl pass0 (pa_cons (pv 5) pa_nil))))
    (pss_one (ps_expr (pe_bm PySem.F.plainAttrs_list PySem.F.slot_list_append PySem.F.type_list_append mt_append (pv 2) (pa_cons (pv 5) pa_nil))))))))
    (pss_one (ps_ret (pe_callTy call_tuple_of (by rfl) z_tuple (by decide +kernel) (pa_cons (pv 2) pa_nil))))))),
    pure_l_fitting A vs H Q E h⟩)
theorem step_l_kind (n : Nat) (F0 : Dfn K mg "_law_kind" s_l_kind ["tape", "depth", "plain"]) (A : Ad) (h_l_next : Has P w K mg base CX0 1 "_law_next" ["tape", "many"] (sp_P K 2 (F_l_next A))) (h_l_kind : Has P w K mg base CX0 (n + 13) "_law_kind" ["tape", "depth", "plain"] (sp_P K 3 (F_l_kind A n))) (h_l_fitting : Has P w K mg base CX0 13 "_law_fitting" ["items", "most"] (sp_P K 2 (F_l_fitting A)))   (z_range : mg "range" = none)  : Has P w K mg base CX0 (n + 13 + 1) "_law_kind" ["tape", "depth", "plain"] (sp_P K 3 (F_l_kind A (n + 1))) :=
  F0.has fun f fd F => F.ok sc_l_kind (fun vs H Q E h => h.1) (fun cdv A0 outer s H vs Q E hr h => ⟨t_l_kind K A n,
    (pss_consJ (ps_set (i := 3) sc_l_kind.nd rfl (by first | exact Or.inl rfl | exact Or.inr rfl) (pe_callH h_l_next (hr.mono (by omega)) rfl pass0 (pa_cons (pv 0) (pa_cons pe_int pa_nil))))
    (pss_consJ (ps_if (PW.pt (pw_or (pt_cmpR op_le (pv 1) pe_int (nomark _)) (pw_or1 (pt_cmpR op_lt (pv 3) pe_int (nomark _))))) (pss_consJ (ps_set (i := 4) sc_l_kind.nd rfl (by first | exact Or.inl rfl | exact Or.inr rfl) (pe_ix ix_seq (pe_lst (pa_cons pe_str (pa_cons pe_str (pa_cons pe_str pa_nil)))) (pe_callH h_l_next (hr.mono (by omega)) rfl pass0 (pa_cons (pv 0) (pa_cons pe_int pa_nil))) (fun _ _ => rfl)))
    (pss_one (ps_ret (pe_ix ix_seq (pe_lst (pa_cons (pe_tup (pa_cons pe_str pa_nil)) (pa_cons (pe_tup (pa_cons pe_str pa_nil)) (pa_cons (pe_tup (pa_cons pe_str pa_nil)) (pa_cons (pe_tup (pa_cons pe_str (pa_cons (pv 4) pa_nil))) (pa_cons (pe_tup (pa_cons pe_str (pa_cons (pv 4) pa_nil))) pa_nil)))))) (pe_callH h_l_next (hr.mono (by omega)) rfl pass0 (pa_cons (pv 0) (pa_cons pe_int pa_nil))) (fun _ _ => rfl))))) pss_nil)
    (pss_consJ (ps_if (pt_cmpR op_lt (pv 3) pe_int (nomark _)) (pss_one (ps_ret (pe_tup (pa_cons pe_str (pa_cons (pe_callH h_l_kind (hr.mono (by omega)) rfl pass0 (pa_cons (pv 0) (pa_cons (pe_op op_sub (pv 1) pe_int) (pa_cons pe_bl pa_nil)))) pa_nil))))) pss_nil)
    (pss_consJ (ps_if (pt_cmpR op_lt (pv 3) pe_int (nomark _)) (pss_one (ps_ret (pe_op o_add (pe_tup (pa_cons pe_str pa_nil)) (pe_callH h_l_fitting (hr.mono (by omega)) rfl pass0 (pa_cons (pe_lst (pa_cons (pe_callH h_l_kind (hr.mono (by omega)) rfl pass0 (pa_cons (pv 0) (pa_cons (pe_op op_sub (pv 1) pe_int) (pa_cons (pv 2) pa_nil)))) pa_nil)) (pa_cons pe_int pa_nil)))))) pss_nil)
    (pss_consJ (ps_if (PW.pt (pw_or (pt_cmpR (o_eq hr.units) (pv 3) pe_int (nomark _)) (pw_or1 (pt_val (pv 2))))) (pss_consJ (ps_set (i := 5) sc_l_kind.nd rfl (by first | exact Or.inl rfl | exact Or.inr rfl) (pe_op o_add pe_int (pe_callH h_l_next (hr.mono (by omega)) rfl pass0 (pa_cons (pv 0) (pa_cons pe_int pa_nil)))))
    (pss_one (ps_ret (pe_tup (pa_cons pe_str (pa_cons (pe_callH h_l_fitting (hr.mono (by omega)) rfl pass0 (pa_cons (pe_lc (own := [("k", 6)]) (g := (gName 6)) (tt := tYes) (te := (tCall (sp_P K 3 (F_l_kind A n)) [] E0 (tCons (tVar 0) (tCons (tOp rSubI (tVar 1) (tC (.int 1))) (tCons (tVar 2) tNil)))))  rfl sc_l_kind.nd (pi_range1 (by rfl) z_range (pa_cons (pv 5) pa_nil)) (blkOk_by (own := [("k", 6)]) (N := N_l_kind) (sc := defScope s_l_kind) (by decide +kernel)) (fun _ _ _ _ _ => (pg_name (i := 6) sc_l_kind.nd rfl (by first | exact Or.inl rfl | exact Or.inr rfl))) (fun _ _ _ _ _ => pts_nil) (fun _ _ _ _ _ => (pe_callH h_l_kind (hr.mono (by omega)) rfl pass0 (pa_cons (pv 0) (pa_cons (pe_op op_sub (pv 1) pe_int) (pa_cons (pv 2) pa_nil)))))) (pa_cons pe_int pa_nil))) pa_nil)))))) pss_nil)
    (pss_one (ps_ret (pe_tup (pa_cons (pe_ix ix_seq (pe_lst (pa_cons pe_str (pa_cons pe_str (pa_cons pe_str (pa_cons pe_str pa_nil))))) (pe_op op_sub (pv 3) pe_int) (fun _ _ => rfl)) (pa_cons (pe_callH h_l_kind (hr.mono (by omega)) rfl pass0 (pa_cons (pv 0) (pa_cons (pe_op op_sub (pv 1) pe_int) (pa_cons pe_bl pa_nil)))) pa_nil)))))))))),
    pure_l_kind A n vs H Q E h⟩)
theorem has_l_kind (F0 : Dfn K mg "_law_kind" s_l_kind ["tape", "depth", "plain"]) (A : Ad) (h_l_next : Has P w K mg base CX0 1 "_law_next" ["tape", "many"] (sp_P K 2 (F_l_next A))) (h_l_fitting : Has P w K mg base CX0 13 "_law_fitting" ["items", "most"] (sp_P K 2 (F_l_fitting A)))   (z_range : mg "range" = none)  : ∀ n : Nat, Has P w K mg base CX0 (n + 13) "_law_kind" ["tape", "depth", "plain"] (sp_P K 3 (F_l_kind A n))
  | 0 => F0.never no_P
  | n + 1 => (step_l_kind n F0 A h_l_next (has_l_kind F0 A h_l_next h_l_fitting  z_range  n) h_l_fitting  z_range ).mono (by omega)
theorem has_l_step (F0 : Dfn K mg "_law_step" s_l_step ["tape", "kind"]) (A : Ad)  (h_l_next : Has P w K mg base CX0 1 "_law_next" ["tape", "many"] (sp_P K 2 (F_l_next A))) (h_l_fields : Has P w K mg base CX0 1 "_law_fields" ["name"] (sp_P K 1 (F_l_fields A)))   (z_len : mg "len" = none)  : Has P w K mg base CX0 2 "_law_step" ["tape", "kind"] (sp_P K 2 (F_l_step A)) :=
  F0.has fun f fd F => F.ok sc_l_step (fun vs H Q E h => h.1) (fun cdv A0 outer s H vs Q E hr h => ⟨t_l_step K A,
    (pss_consJ (ps_if (pt_cmpR (o_eq hr.units) (pe_callH h_l_next (hr.mono (by omega)) rfl pass0 (pa_cons (pv 0) (pa_cons pe_int pa_nil))) pe_int (nomark _)) (pss_one (ps_ret (pe_ix ix_seq (pe_lst (pa_cons pe_int (pa_cons pe_int (pa_cons pe_int (pa_cons pe_int (pa_cons pe_int (pa_cons pe_int (pa_cons (pe_op op_sub pe_int pe_int) (pa_cons pe_str (pa_cons pe_str (pa_cons pe_str (pa_cons pe_str (pa_cons pe_str (pa_cons pe_str (pa_cons pe_str pa_nil))))))))))))))) (pe_callH h_l_next (hr.mono (by omega)) rfl pass0 (pa_cons (pv 0) (pa_cons pe_int pa_nil))) (fun _ _ => rfl)))) pss_nil)
    (pss_consJ (ps_if (pt_cmpR (o_eq hr.units) (pe_ix ix_seq (pv 1) pe_int (fun _ _ => rfl)) pe_str (nomark _)) (pss_one (ps_ret (pe_ix ix_seq (pe_lst (pa_cons (pe_callH h_l_next (hr.mono (by omega)) rfl pass0 (pa_cons (pv 0) (pa_cons (pe_callB call_len (by rfl) z_len PySem.boot_len (pa_cons (pe_ix ix_seq (pv 1) pe_int (fun _ _ => rfl)) pa_nil)) pa_nil))) (pa_cons (pe_op op_sub (pe_callB call_len (by rfl) z_len PySem.boot_len (pa_cons (pe_ix ix_seq (pv 1) pe_int (fun _ _ => rfl)) pa_nil)) pe_int) pa_nil))) (pe_callH h_l_next (hr.mono (by omega)) rfl pass0 (pa_cons (pv 0) (pa_cons pe_int pa_nil))) (fun _ _ => rfl)))) pss_nil)
    (pss_consJ (ps_if (pt_cmpR (o_eq hr.units) (pe_ix ix_seq (pv 1) pe_int (fun _ _ => rfl)) pe_str (nomark _)) (pss_consJ (ps_set (i := 2) sc_l_step.nd rfl (by first | exact Or.inl rfl | exact Or.inr rfl) (pe_callH h_l_fields (hr.mono (by omega)) rfl pass0 (pa_cons (pe_ix ix_seq (pv 1) pe_int (fun _ _ => rfl)) pa_nil)))
    (pss_one (ps_ret (pe_ix ix_seq (pe_ix ix_seq (pv 2) (pe_callH h_l_next (hr.mono (by omega)) rfl pass0 (pa_cons (pv 0) (pa_cons (pe_callB call_len (by rfl) z_len PySem.boot_len (pa_cons (pv 2) pa_nil)) pa_nil))) (fun _ _ => rfl)) pe_int (fun _ _ => rfl))))) pss_nil)
    (pss_one (ps_ret (pe_ifExp (pt_cmpR (o_eq hr.units) (pe_ix ix_seq (pv 1) pe_int (fun _ _ => rfl)) pe_str (nomark _)) pe_str pe_str)))))),
    pure_l_step A vs H Q E h⟩)
theorem has_l_after (F0 : Dfn K mg "_law_after" s_l_after ["kind", "step"]) (A : Ad)  (h_l_fields : Has P w K mg base CX0 1 "_law_fields" ["name"] (sp_P K 1 (F_l_fields A)))   (z_isinstance : mg "isinstance" = none) (z_int : mg "int" = none) (z_len : mg "len" = none)  : Has P w K mg base CX0 2 "_law_after" ["kind", "step"] (sp_P K 2 (F_l_after A)) :=
  F0.has fun f fd F => F.ok sc_l_after (fun vs H Q E h => h.1) (fun cdv A0 outer s H vs Q E hr h => ⟨t_l_after K A,
    (pss_consJ (ps_if (pt_cmpR (o_eq hr.units) (pv 1) pe_str (nomark _)) (pss_one (ps_ret (pe_ifExp (pt_cmpR (o_eq hr.units) (pe_ix ix_seq (pv 0) pe_int (fun _ _ => rfl)) pe_str (nomark _)) (pe_ix ix_seq (pv 0) pe_int (fun _ _ => rfl)) pe_non))) pss_nil)
    (pss_consJ (ps_if (pt_cmpR (o_eq hr.units) (pv 1) pe_str (nomark _)) (pss_one (ps_ret (pe_ifExp (pt_cmpR op_in_seq (pe_ix ix_seq (pv 0) pe_int (fun _ _ => rfl)) (pe_lst (pa_cons pe_str (pa_cons pe_str (pa_cons pe_str pa_nil)))) rfl) (pe_ix ix_seq (pv 0) pe_int (fun _ _ => rfl)) pe_non))) pss_nil)
    (pss_consJ (ps_if (pt_val (pe_callB call_isi (by rfl) z_isinstance (by decide +kernel) (pa_cons (pv 1) (pa_cons (pe_bltn (v := .ty "int") (by rfl) z_int (by decide +kernel) rfl) pa_nil)))) (pss_one (ps_ret (pe_ifExp (PW.pt (pw_and (pt_cmpR (o_eq hr.units) (pe_ix ix_seq (pv 0) pe_int (fun _ _ => rfl)) pe_str (nomark _)) (pw_and1 (pt_chain op_le op_lt pe_int (pv 1) (pe_callB call_len (by rfl) z_len PySem.boot_len (pa_cons (pe_ix ix_seq (pv 0) pe_int (fun _ _ => rfl)) pa_nil)))))) (pe_ix ix_seq (pe_ix ix_seq (pv 0) pe_int (fun _ _ => rfl)) (pv 1) (fun _ _ => rfl)) pe_non))) pss_nil)
    (pss_consJ (ps_if (pt_cmpR (o_ne hr.units) (pe_ix ix_seq (pv 0) pe_int (fun _ _ => rfl)) pe_str (nomark _)) (pss_one (ps_ret pe_non)) pss_nil)
    (pss_consJ (ps_for PassesOwn.never rfl (pi_tup (pe_callH h_l_fields (hr.mono (by omega)) rfl pass0 (pa_cons (pe_ix ix_seq (pv 0) pe_int (fun _ _ => rfl)) pa_nil))) (pg_tup rfl (pgs_cons (pg_name (i := 2) sc_l_after.nd rfl (by first | exact Or.inl rfl | exact Or.inr rfl)) (pgs_cons (pg_name (i := 3) sc_l_after.nd rfl (by first | exact Or.inl rfl | exact Or.inr rfl)) pgs_nil))) (pss_one (ps_if (pt_cmpR (o_eq hr.units) (pv 2) (pv 1) (nomark _)) (pss_one (ps_ret (pv 3))) pss_nil)))
    (pss_one (ps_ret pe_non))))))),
    pure_l_after A vs H Q E h⟩)
theorem has_l_caught (F0 : Dfn K mg "_law_caught" s_l_caught ["problem"]) (A : Ad) (fx : Fx K A)   (g_KindProblem : mg "KindProblem" = some (.ref A.c_KindProblem)) (g_NoSuchFunction : mg "NoSuchFunction" = some (.ref A.c_NoSuchFunction)) (g_NotAllocated : mg "NotAllocated" = some (.ref A.c_NotAllocated)) (g_Refused : mg "Refused" = some (.ref A.c_Refused)) (g_NoSuchStep : mg "NoSuchStep" = some (.ref A.c_NoSuchStep)) (g_NoSuchVariable : mg "NoSuchVariable" = some (.ref A.c_NoSuchVariable))  (z_isinstance : mg "isinstance" = none)  : HasP P w K mg base 1 "_law_caught" ["problem"] (sp_l_caught K A) :=
  F0.hasP fun f fd F => fnp_of F sc_l_caught (by intro a cls d vs H Q E h; row_has h) (fun cdv A0 outer s H vs Q E p cls d cau hr h => ⟨t_l_caught K A p.1 cls d,
    (pss_consJ (ps_if (PW.pt (pw_or (pt_val (pe_callB (call_isP cau List.mem_cons_self) (by rfl) z_isinstance (by decide +kernel) (pa_cons (pv 0) (pa_cons (pe_glob (v := .ref A.c_KindProblem) (by rfl) g_KindProblem rfl (by decide)) pa_nil)))) (pw_or1 (pt_val (pe_callB (call_isP cau List.mem_cons_self) (by rfl) z_isinstance (by decide +kernel) (pa_cons (pv 0) (pa_cons (pe_glob (v := .ref A.c_NoSuchFunction) (by rfl) g_NoSuchFunction rfl (by decide)) pa_nil))))))) (pss_one (ps_ret pe_str)) pss_nil)
    (pss_consJ (ps_if (PW.pt (pw_or (pt_val (pe_callB (call_isP cau List.mem_cons_self) (by rfl) z_isinstance (by decide +kernel) (pa_cons (pv 0) (pa_cons (pe_glob (v := .ref A.c_NotAllocated) (by rfl) g_NotAllocated rfl (by decide)) pa_nil)))) (pw_or1 (pt_val (pe_callB (call_isP cau List.mem_cons_self) (by rfl) z_isinstance (by decide +kernel) (pa_cons (pv 0) (pa_cons (pe_glob (v := .ref A.c_Refused) (by rfl) g_Refused rfl (by decide)) pa_nil))))))) (pss_one (ps_ret pe_str)) pss_nil)
    (pss_consJ (ps_if (pt_val (pe_callB (call_isP cau List.mem_cons_self) (by rfl) z_isinstance (by decide +kernel) (pa_cons (pv 0) (pa_cons (pe_glob (v := .ref A.c_NoSuchStep) (by rfl) g_NoSuchStep rfl (by decide)) pa_nil)))) (pss_one (ps_ret (pe_ifExp (pt_val (pe_callB (call_isP cau List.mem_cons_self) (by rfl) z_isinstance (by decide +kernel) (pa_cons (pv 0) (pa_cons (pe_glob (v := .ref A.c_NoSuchVariable) (by rfl) g_NoSuchVariable rfl (by decide)) pa_nil)))) pe_str pe_str))) pss_nil)
    (pss_one (ps_ret (pe_ifExp (pt_val (pe_callB (call_isP cau List.mem_cons_self) (by rfl) z_isinstance (by decide +kernel) (pa_cons (pv 0) (pa_cons (pe_glob (v := .ref A.c_NoSuchVariable) (by rfl) g_NoSuchVariable rfl (by decide)) pa_nil)))) pe_str pe_str)))))),
    pure_l_caught A fx p.1 cls d vs H Q E h⟩)
theorem has_l_told (F0 : Dfn K mg "_law_told" s_l_told ["choice", "records", "kinds", "place", "kind", "step"]) (A : Ad) (fx : Fx K A)  (h_kind_after : Has P w K mg base (L2.CX P w) 2 "kind_after" ["records", "kind", "step"] (sp_P K 3 (F_kind_after A))) (h_kind_at : HasK P w K mg base (L2.CX P w) 4 "kind_at" 1 ["place", "records", "kinds"] ["records", "kinds"] (sp_P K 3 (F_kind_at A))) (h_crossed : HasK P w K mg base (L2.CX P w) 4 "crossed" 1 ["place", "records", "kinds"] ["records", "kinds"] (sp_P K 3 (F_crossed A))) (h_l_caught : HasP P w K mg base 1 "_law_caught" ["problem"] (sp_l_caught K A)) (g_ForkError : mg "ForkError" = some (.ref A.c_ForkError))    : Has P w K mg base CX0 5 "_law_told" ["choice", "records", "kinds", "place", "kind", "step"] (sp_P K 6 (F_l_told A)) :=
  F0.has fun f fd F => F.ok sc_l_told (fun vs H Q E h => h.1) (fun cdv A0 outer s H vs Q E hr h => ⟨t_l_told K A,
    (pss_one (ps_try_as (i := 6) (tb := fun W => (tSeqJ (tIfS (tTest (tOp (rEqG K) (tVar 0) (tC (.int 0)))) (tRet (tCallS (sp_P K 3 (F_kind_after A)) (WE W) (tCons (tVar 1) (tCons (tVar 4) (tCons (tVar 5) tNil))))) tNext)
    (tSeqJ (tIfS (tTest (tOp (rEqG K) (tVar 0) (tC (.int 1)))) (tRet (tCallKS (sp_P K 3 (F_kind_at A)) (gK 1) (WE W) (tCons (tVar 3) tNil) (tCons (tVar 1) (tCons (tVar 2) tNil)))) tNext)
    (tRet (tCallKS (sp_P K 3 (F_crossed A)) (gK 1) (WE W) (tCons (tVar 3) tNil) (tCons (tVar 1) (tCons (tVar 2) tNil))))))) (ts := fun a cls d => (tRet (tCallP (sp_l_caught K A) a cls d (tCons (tVar 6) tNil)))) (Wout := fun _ _ _ _ => False) rfl rfl sc_l_told.nd rfl rfl ⟨rfl, by decide, Or.inl g_ForkError⟩ takes0 (fun W pn xe tk _ => (pss_consJ (ps_if (pt_cmpR (o_eq hr.units) (pv 0) pe_int (nomark _)) (pss_one (ps_ret (pe_callSH h_kind_after (hr.mono (by omega)) rfl tk (pa_cons (pv 1) (pa_cons (pv 4) (pa_cons (pv 5) pa_nil)))))) pss_nil)
    (pss_consJ (ps_if (pt_cmpR (o_eq hr.units) (pv 0) pe_int (nomark _)) (pss_one (ps_ret (pe_callKS h_kind_at (hr.mono (by omega)) rfl tk (pa_cons (pv 3) pa_nil) (pk_cons (pv 1) (pk_cons (pv 2) pk_nil))))) pss_nil)
    (pss_one (ps_ret (pe_callKS h_crossed (hr.mono (by omega)) rfl tk (pa_cons (pv 3) pa_nil) (pk_cons (pv 1) (pk_cons (pv 2) pk_nil)))))))) (fun a oe cls d pn hz hf => (pss_one (ps_ret (pe_callP h_l_caught (roomH_mark (L2H.roomH_of (Room.mono (j := 1) hr (by omega)))) ⟨hz, hf⟩ List.mem_cons_self rfl (pa_cons (pv 6) pa_nil))))))),
    pure_l_told A fx vs H Q E h⟩)
theorem has_l_is (F0 : Dfn K mg "_law_is" s_l_is ["answer", "due"]) (A : Ad)       : Has P w K mg base CX0 1 "_law_is" ["answer", "due"] (sp_P K 2 (F_l_is A)) :=
  F0.has fun f fd F => F.ok sc_l_is (fun vs H Q E h => h.1) (fun cdv A0 outer s H vs Q E hr h => ⟨t_l_is K A,
    (pss_one (ps_ret (pe_ifExp (pt_val (pv 1)) (pe_cmpR op_isBl (pv 0) pe_bl (nomark _)) (pe_cmpR op_isBl (pv 0) pe_bl (nomark _))))),
    pure_l_is A vs H Q E h⟩)
theorem has_l_unknown (F0 : Dfn K mg "_law_unknown" s_l_unknown ["records", "kinds", "steps"]) (A : Ad)  (h_l_told : Has P w K mg base CX0 5 "_law_told" ["choice", "records", "kinds", "place", "kind", "step"] (sp_P K 6 (F_l_told A)))     : Has P w K mg base CX0 6 "_law_unknown" ["records", "kinds", "steps"] (sp_P K 3 (F_l_unknown A)) :=
  F0.has fun f fd F => F.ok sc_l_unknown (fun vs H Q E h => h.1) (fun cdv A0 outer s H vs Q E hr h => ⟨t_l_unknown K A,
    (pss_consJ (ps_for PassesOwn.never rfl (pi_list (pe_lst (pa_cons (pe_tup (pa_cons pe_str (pa_cons (pe_tup pa_nil) pa_nil))) (pa_cons (pe_tup (pa_cons pe_str (pa_cons (pv 2) pa_nil))) (pa_cons (pe_tup (pa_cons pe_str (pa_cons (pe_op o_add (pv 2) (pe_tup (pa_cons pe_str pa_nil))) pa_nil))) (pa_cons (pe_tup (pa_cons pe_str (pa_cons (pe_tup (pa_cons pe_str (pa_cons pe_int pa_nil))) pa_nil))) pa_nil)))))) (pg_name (i := 3) sc_l_unknown.nd rfl (by first | exact Or.inl rfl | exact Or.inr rfl)) (pss_one (ps_for PassesOwn.never rfl (pi_list (pe_lst (pa_cons pe_int (pa_cons pe_int pa_nil)))) (pg_name (i := 4) sc_l_unknown.nd rfl (by first | exact Or.inl rfl | exact Or.inr rfl)) (pss_one (ps_if (pt_cmpR (o_ne hr.units) (pe_callH h_l_told (hr.mono (by omega)) rfl pass0 (pa_cons (pv 4) (pa_cons (pv 0) (pa_cons (pv 1) (pa_cons (pv 3) (pa_cons pe_non (pa_cons pe_non pa_nil))))))) pe_str (nomark _)) (pss_one (ps_ret pe_bl)) pss_nil)))))
    (pss_one (ps_ret pe_bl))),
    pure_l_unknown A vs H Q E h⟩)
theorem ok_law {f : Addr} {fd : FuncData} (F : Fun K "law" "law" s_law f fd) (A : Ad) (fx : Fx K A)  (h_l_tape : Has P w K mg base CX0 1 "_law_tape" ["script"] (sp_N K 1 (F_l_tape A))) (h_l_records : Has P w K mg base CX0 2 "_law_records" ["tape"] (sp_P K 1 (F_l_records A))) (h_l_kind : Has P w K mg base CX0 25 "_law_kind" ["tape", "depth", "plain"] (sp_P K 3 (F_l_kind A 12))) (h_l_next : Has P w K mg base CX0 1 "_law_next" ["tape", "many"] (sp_P K 2 (F_l_next A))) (h_l_step : Has P w K mg base CX0 2 "_law_step" ["tape", "kind"] (sp_P K 2 (F_l_step A))) (h_l_after : Has P w K mg base CX0 2 "_law_after" ["kind", "step"] (sp_P K 2 (F_l_after A))) (h_l_told : Has P w K mg base CX0 5 "_law_told" ["choice", "records", "kinds", "place", "kind", "step"] (sp_P K 6 (F_l_told A))) (h_l_unknown : Has P w K mg base CX0 6 "_law_unknown" ["records", "kinds", "steps"] (sp_P K 3 (F_l_unknown A))) (h_l_is : Has P w K mg base CX0 1 "_law_is" ["answer", "due"] (sp_P K 2 (F_l_is A))) (h_is_prefix : Has P w K mg base CX0 1 "is_prefix" ["first", "second"] (sp_P K 2 (F_is_prefix A))) (h_overlap : Has P w K mg base CX0 2 "overlap" ["first", "second"] (sp_P K 2 (F_overlap A)))   (z_range : mg "range" = none) (z_tuple : mg "tuple" = none) (z_len : mg "len" = none)  : FnOk P w K mg base CX0 26 f fd ["script"] (sp_law K) :=
  F.ok sc_law (by intro vs H Q E h; row_has h) (fun cdv A0 outer s H vs Q E hr h => ⟨t_law K A,
    (pss_consJ (ps_set (i := 1) sc_law.nd rfl (by first | exact Or.inl rfl | exact Or.inr rfl) (pe_callH h_l_tape (hr.mono (by omega)) rfl pass0 (pa_cons (pv 0) pa_nil)))
    (pss_consJ (ps_set (i := 2) sc_law.nd rfl (by first | exact Or.inl rfl | exact Or.inr rfl) (pe_callH h_l_records (hr.mono (by omega)) rfl pass0 (pa_cons (pv 1) pa_nil)))
    (pss_consJ (ps_set (i := 3) sc_law.nd rfl (by first | exact Or.inl rfl | exact Or.inr rfl) (pe_callH h_l_kind (hr.mono (by omega)) rfl pass0 (pa_cons (pv 1) (pa_cons pe_int (pa_cons pe_bl pa_nil)))))
    (pss_consJ (ps_set (i := 4) sc_law.nd rfl (by first | exact Or.inl rfl | exact Or.inr rfl) (pe_disp (pps_cons pe_str (pv 3) (pps_cons pe_str (pe_tup (pa_cons pe_str pa_nil)) pps_nil)) rfl rfl (by simp) (by decide)))
    (pss_consJ (ps_set (i := 5) sc_law.nd rfl (by first | exact Or.inl rfl | exact Or.inr rfl) (pe_lst pa_nil))
    (pss_consJ (ps_set (i := 6) sc_law.nd rfl (by first | exact Or.inl rfl | exact Or.inr rfl) pe_non)
    (pss_consJ (ps_set (i := 7) sc_law.nd rfl (by first | exact Or.inl rfl | exact Or.inr rfl) (pv 3))
    (pss_consJ (ps_for PassesOwn.never rfl (pi_range1 (by rfl) z_range (pa_cons (pe_ix ix_seq (pe_lst (pa_cons (pe_callH h_l_next (hr.mono (by omega)) rfl pass0 (pa_cons (pv 1) (pa_cons pe_int pa_nil))) (pa_cons (pe_op o_add pe_int (pe_callH h_l_next (hr.mono (by omega)) rfl pass0 (pa_cons (pv 1) (pa_cons pe_int pa_nil)))) pa_nil))) (pe_callH h_l_next (hr.mono (by omega)) rfl pass0 (pa_cons (pv 1) (pa_cons pe_int pa_nil))) (fun _ _ => rfl)) pa_nil)) (pg_name (i := 8) sc_law.nd rfl (by first | exact Or.inl rfl | exact Or.inr rfl)) (pss_one (ps_if (pt_cmpR op_notN (pv 7) pe_non (nomark _)) (pss_consJ (ps_set (i := 9) sc_law.nd rfl (by first | exact Or.inl rfl | exact Or.inr rfl) (pe_callH h_l_step (hr.mono (by omega)) rfl pass0 (pa_cons (pv 1) (pa_cons (pv 7) pa_nil))))
    (pss_consJ (ps_set (i := 10) sc_law.nd rfl (by first | exact Or.inl rfl | exact Or.inr rfl) (pe_callH h_l_after (hr.mono (by omega)) rfl pass0 (pa_cons (pv 7) (pa_cons (pv 9) pa_nil))))
    (pss_consJ (ps_if (pt_cmpR (o_ne hr.units) (pe_callH h_l_told (hr.mono (by omega)) rfl pass0 (pa_cons pe_int (pa_cons (pv 2) (pa_cons (pv 4) (pa_cons pe_non (pa_cons (pv 7) (pa_cons (pv 9) pa_nil))))))) (pe_ifExp (pt_cmpR op_isN (pv 10) pe_non (nomark _)) pe_str (pv 10)) (nomark _)) (pss_one (ps_ret pe_bl)) pss_nil)
    (pss_consJ (ps_if (PW.pt (pw_and (pt_cmpR (o_eq hr.units) (pv 9) pe_str (nomark _)) (pw_and (pt_cmpR op_in_seq (pe_ix ix_seq (pv 7) pe_int (fun _ _ => rfl)) (pe_lst (pa_cons pe_str (pa_cons pe_str pa_nil))) rfl) (pw_and1 (pt_cmpR op_isN (pv 6) pe_non (nomark _)))))) (pss_one (ps_set (i := 6) sc_law.nd rfl (by first | exact Or.inl rfl | exact Or.inr rfl) (pe_tup (pa_cons pe_str (pa_cons (pe_callTy call_tuple_of (by rfl) z_tuple (by decide +kernel) (pa_cons (pv 5) pa_nil)) pa_nil))))) pss_nil)
    (pss_consJ (ps_expr (pe_bm PySem.F.plainAttrs_list PySem.F.slot_list_append PySem.F.type_list_append mt_append (pv 5) (pa_cons (pv 9) pa_nil)))
    (pss_one (ps_set (i := 7) sc_law.nd rfl (by first | exact Or.inl rfl | exact Or.inr rfl) (pv 10)))))))) pss_nil)))
    (pss_consJ (ps_set (i := 11) sc_law.nd rfl (by first | exact Or.inl rfl | exact Or.inr rfl) (pe_tup (pa_cons pe_str (pa_cons (pe_callTy call_tuple_of (by rfl) z_tuple (by decide +kernel) (pa_cons (pv 5) pa_nil)) pa_nil))))
    (pss_consJ (ps_if (pt_cmpR (o_ne hr.units) (pe_callH h_l_told (hr.mono (by omega)) rfl pass0 (pa_cons pe_int (pa_cons (pv 2) (pa_cons (pv 4) (pa_cons (pv 11) (pa_cons pe_non (pa_cons pe_non pa_nil))))))) (pe_ifExp (pt_cmpR op_isN (pv 7) pe_non (nomark _)) pe_str (pv 7)) (nomark _)) (pss_one (ps_ret pe_bl)) pss_nil)
    (pss_consJ (ps_if (pt_cmpR (o_ne hr.units) (pe_callH h_l_told (hr.mono (by omega)) rfl pass0 (pa_cons pe_int (pa_cons (pv 2) (pa_cons (pv 4) (pa_cons (pv 11) (pa_cons pe_non (pa_cons pe_non pa_nil))))))) (pe_ifExp (pt_cmpR op_isN (pv 7) pe_non (nomark _)) pe_str (pv 6)) (nomark _)) (pss_one (ps_ret pe_bl)) pss_nil)
    (pss_consJ (ps_if (pt_not (pt_val (pe_callH h_l_unknown (hr.mono (by omega)) rfl pass0 (pa_cons (pv 2) (pa_cons (pv 4) (pa_cons (pe_callTy call_tuple_of (by rfl) z_tuple (by decide +kernel) (pa_cons (pe_slice o_sl (pv 5) po_none (po_some pe_int)) pa_nil)) pa_nil)))))) (pss_one (ps_ret pe_bl)) pss_nil)
    (pss_consJ (ps_set (i := 12) sc_law.nd rfl (by first | exact Or.inl rfl | exact Or.inr rfl) (pe_tup (pa_cons (pe_ix ix_seq (pe_lst (pa_cons pe_str (pa_cons pe_str (pa_cons pe_str pa_nil)))) (pe_callH h_l_next (hr.mono (by omega)) rfl pass0 (pa_cons (pv 1) (pa_cons pe_int pa_nil))) (fun _ _ => rfl)) (pa_cons (pe_callTy call_tuple_of (by rfl) z_tuple (by decide +kernel) (pa_cons (pe_slice o_sl (pv 5) po_none (po_some (pe_callH h_l_next (hr.mono (by omega)) rfl pass0 (pa_cons (pv 1) (pa_cons pe_int pa_nil))))) pa_nil)) pa_nil))))
    (pss_consJ (ps_if (pt_cmpR (o_eq hr.units) (pe_callH h_l_next (hr.mono (by omega)) rfl pass0 (pa_cons (pv 1) (pa_cons pe_int pa_nil))) pe_int (nomark _)) (pss_one (ps_set (i := 12) sc_law.nd rfl (by first | exact Or.inl rfl | exact Or.inr rfl) (pe_tup (pa_cons (pe_ix ix_seq (pv 12) pe_int (fun _ _ => rfl)) (pa_cons (pe_op o_add (pe_ix ix_seq (pv 12) pe_int (fun _ _ => rfl)) (pe_tup (pa_cons pe_str pa_nil))) pa_nil))))) pss_nil)
    (pss_consJ (ps_set (i := 13) sc_law.nd rfl (by first | exact Or.inl rfl | exact Or.inr rfl) (pe_and (pe_cmpR (o_eq hr.units) (pe_ix ix_seq (pv 12) pe_int (fun _ _ => rfl)) pe_str (nomark _)) (pe_one (pe_cmpR (o_eq hr.units) (pe_ix ix_seq (pv 11) pe_int (fun _ _ => rfl)) (pe_slice o_sl (pe_ix ix_seq (pv 12) pe_int (fun _ _ => rfl)) po_none (po_some (pe_callB call_len (by rfl) z_len PySem.boot_len (pa_cons (pe_ix ix_seq (pv 11) pe_int (fun _ _ => rfl)) pa_nil)))) (nomark _)))))
    (pss_consJ (ps_set (i := 14) sc_law.nd rfl (by first | exact Or.inl rfl | exact Or.inr rfl) (pe_and (pe_cmpR (o_eq hr.units) (pe_ix ix_seq (pv 12) pe_int (fun _ _ => rfl)) pe_str (nomark _)) (pe_one (pe_cmpR (o_eq hr.units) (pe_ix ix_seq (pv 12) pe_int (fun _ _ => rfl)) (pe_slice o_sl (pe_ix ix_seq (pv 11) pe_int (fun _ _ => rfl)) po_none (po_some (pe_callB call_len (by rfl) z_len PySem.boot_len (pa_cons (pe_ix ix_seq (pv 12) pe_int (fun _ _ => rfl)) pa_nil)))) (nomark _)))))
    (pss_consJ (ps_if (PW.pt (pw_or (pt_not (pt_val (pe_callH h_l_is (hr.mono (by omega)) rfl pass0 (pa_cons (pe_callH h_is_prefix (hr.mono (by omega)) rfl pass0 (pa_cons (pv 11) (pa_cons (pv 12) pa_nil))) (pa_cons (pv 13) pa_nil))))) (pw_or1 (pt_not (pt_val (pe_callH h_l_is (hr.mono (by omega)) rfl pass0 (pa_cons (pe_callH h_is_prefix (hr.mono (by omega)) rfl pass0 (pa_cons (pv 12) (pa_cons (pv 11) pa_nil))) (pa_cons (pv 14) pa_nil)))))))) (pss_one (ps_ret pe_bl)) pss_nil)
    (pss_one (ps_ret (pe_and (pe_callH h_l_is (hr.mono (by omega)) rfl pass0 (pa_cons (pe_callH h_overlap (hr.mono (by omega)) rfl pass0 (pa_cons (pv 11) (pa_cons (pv 12) pa_nil))) (pa_cons (pe_or (pv 13) (pe_one (pv 14))) pa_nil))) (pe_one (pe_cmpR (op_eqDct hr.units) (pv 4) (pe_disp (pps_cons pe_str (pv 3) (pps_cons pe_str (pe_tup (pa_cons pe_str pa_nil)) pps_nil)) rfl rfl (by simp) (by decide)) (nomark _))))))))))))))))))))))),
    pure_law A fx vs H Q E h⟩)
end

theorem all_mk {l : PySem.W.OpenLaw} {w : World} {K : PySem.W.Frag} {h : Heap} {mg : Str → Option Value} {fa : Addr} {adr_ForkError adr_KindProblem adr_NoSuchStep adr_NoSuchVariable adr_NoSuchFunction adr_NotAllocated adr_Refused : Addr} (X : K.In h) (G : h.Ns mainGlobals mg) (hfa : mg "law" = some (.ref fa))
    (ac_ForkError : PySem.W.nsIn K mainGlobals "ForkError" = some (some (.ref adr_ForkError)))
    (ac_KindProblem : PySem.W.nsIn K mainGlobals "KindProblem" = some (some (.ref adr_KindProblem)))
    (ac_NoSuchStep : PySem.W.nsIn K mainGlobals "NoSuchStep" = some (some (.ref adr_NoSuchStep)))
    (ac_NoSuchVariable : PySem.W.nsIn K mainGlobals "NoSuchVariable" = some (some (.ref adr_NoSuchVariable)))
    (ac_NoSuchFunction : PySem.W.nsIn K mainGlobals "NoSuchFunction" = some (some (.ref adr_NoSuchFunction)))
    (ac_NotAllocated : PySem.W.nsIn K mainGlobals "NotAllocated" = some (some (.ref adr_NotAllocated)))
    (ac_Refused : PySem.W.nsIn K mainGlobals "Refused" = some (some (.ref adr_Refused)))
    (xq_NoSuchStep : PySem.W.excIn K adr_NoSuchStep [.type "ValueError", .type "Exception", .type "BaseException", .type "object"] "ValueError.__new__" = true) (xk_NoSuchStep : PySem.W.keepIn K (.ref adr_NoSuchStep) = true) (xs_NoSuchStep : PySem.W.subIn K (.ref adr_NoSuchStep) (.type "BaseException") = some true) (xt_NoSuchStep : PySem.W.typeIn K (.ref adr_NoSuchStep) = some (.type "type"))
    (xq_NoSuchVariable : PySem.W.excIn K adr_NoSuchVariable [.type "ValueError", .type "Exception", .type "BaseException", .type "object"] "ValueError.__new__" = true) (xk_NoSuchVariable : PySem.W.keepIn K (.ref adr_NoSuchVariable) = true) (xs_NoSuchVariable : PySem.W.subIn K (.ref adr_NoSuchVariable) (.type "BaseException") = some true) (xt_NoSuchVariable : PySem.W.typeIn K (.ref adr_NoSuchVariable) = some (.type "type"))
    (xc_NoSuchStep_hg : PySem.W.findIn K (.ref adr_NoSuchStep) "__getattribute__" = some (some (.builtin "BaseException.__getattribute__")))
    (xc_NoSuchStep_hk : PySem.W.findIn K (.ref adr_NoSuchStep) "__getattr__" = some none)
    (xc_NoSuchStep_hs : PySem.W.subIn K (.ref adr_NoSuchStep) (.type "BaseException") = some true)
    (xc_NoSuchStep_hd : PySem.W.hasDictIn K adr_NoSuchStep = true)
    (xc_NoSuchStep_ha : PySem.W.findIn K (.ref adr_NoSuchStep) "__class__" = some (some (.builtin "object.__class__")))
    (xc_NoSuchStep_hn : PySem.W.specialIn K (.builtin "object.__class__") "__get__" = some (some (.builtin "getset_descriptor.__get__")))
    (xc_NoSuchStep_ht : PySem.W.takesIn K (.builtin "object.__class__") = some true)
    (xc_NoSuchStep_hm : PySem.W.mroIn K adr_NoSuchStep (.type "object") = some true)
    (xc_NoSuchVariable_hg : PySem.W.findIn K (.ref adr_NoSuchVariable) "__getattribute__" = some (some (.builtin "BaseException.__getattribute__")))
    (xc_NoSuchVariable_hk : PySem.W.findIn K (.ref adr_NoSuchVariable) "__getattr__" = some none)
    (xc_NoSuchVariable_hs : PySem.W.subIn K (.ref adr_NoSuchVariable) (.type "BaseException") = some true)
    (xc_NoSuchVariable_hd : PySem.W.hasDictIn K adr_NoSuchVariable = true)
    (xc_NoSuchVariable_ha : PySem.W.findIn K (.ref adr_NoSuchVariable) "__class__" = some (some (.builtin "object.__class__")))
    (xc_NoSuchVariable_hn : PySem.W.specialIn K (.builtin "object.__class__") "__get__" = some (some (.builtin "getset_descriptor.__get__")))
    (xc_NoSuchVariable_ht : PySem.W.takesIn K (.builtin "object.__class__") = some true)
    (xc_NoSuchVariable_hm : PySem.W.mroIn K adr_NoSuchVariable (.type "object") = some true)
    (k_NoSuchStep_KindProblem : PySem.W.kitOne K (.ref adr_NoSuchStep) (.ref adr_KindProblem) = some false)
    (k_NoSuchStep_NoSuchFunction : PySem.W.kitOne K (.ref adr_NoSuchStep) (.ref adr_NoSuchFunction) = some false)
    (k_NoSuchStep_NotAllocated : PySem.W.kitOne K (.ref adr_NoSuchStep) (.ref adr_NotAllocated) = some false)
    (k_NoSuchStep_Refused : PySem.W.kitOne K (.ref adr_NoSuchStep) (.ref adr_Refused) = some false)
    (k_NoSuchStep_NoSuchVariable : PySem.W.kitOne K (.ref adr_NoSuchStep) (.ref adr_NoSuchVariable) = some false)
    (k_NoSuchStep_ForkError : PySem.W.kitOne K (.ref adr_NoSuchStep) (.ref adr_ForkError) = some true)
    (k_NoSuchStep_ValueError : PySem.W.kitOne K (.ref adr_NoSuchStep) (.type "ValueError") = some true)
    (k_NoSuchVariable_KindProblem : PySem.W.kitOne K (.ref adr_NoSuchVariable) (.ref adr_KindProblem) = some false)
    (k_NoSuchVariable_NoSuchFunction : PySem.W.kitOne K (.ref adr_NoSuchVariable) (.ref adr_NoSuchFunction) = some false)
    (k_NoSuchVariable_NotAllocated : PySem.W.kitOne K (.ref adr_NoSuchVariable) (.ref adr_NotAllocated) = some false)
    (k_NoSuchVariable_Refused : PySem.W.kitOne K (.ref adr_NoSuchVariable) (.ref adr_Refused) = some false)
    (k_NoSuchVariable_NoSuchStep : PySem.W.kitOne K (.ref adr_NoSuchVariable) (.ref adr_NoSuchStep) = some false)
    (k_NoSuchVariable_ForkError : PySem.W.kitOne K (.ref adr_NoSuchVariable) (.ref adr_ForkError) = some true)
    (k_NoSuchVariable_ValueError : PySem.W.kitOne K (.ref adr_NoSuchVariable) (.type "ValueError") = some true)
    (e_NoSuchStep_ForkError : PySem.W.exmOne K (.ref adr_NoSuchStep) (.ref adr_ForkError) = some true)
    (e_NoSuchVariable_ForkError : PySem.W.exmOne K (.ref adr_NoSuchVariable) (.ref adr_ForkError) = some true)
    {f0 : Addr} {od0 an0 : Option Addr} {sl0 : Array (Option Value)} {oc0 kV0 dc0 pm0 cd0 ct0 : Value}
    {f1 : Addr} {od1 an1 : Option Addr} {sl1 : Array (Option Value)} {oc1 kV1 dc1 pm1 cd1 ct1 : Value}
    {f2 : Addr} {od2 an2 : Option Addr} {sl2 : Array (Option Value)} {oc2 kV2 dc2 pm2 cd2 ct2 : Value}
    {f3 : Addr} {od3 an3 : Option Addr} {sl3 : Array (Option Value)} {oc3 kV3 dc3 pm3 cd3 ct3 : Value}
    {f4 : Addr} {od4 an4 : Option Addr} {sl4 : Array (Option Value)} {oc4 kV4 dc4 pm4 cd4 ct4 : Value}
    {f5 : Addr} {od5 an5 : Option Addr} {sl5 : Array (Option Value)} {oc5 kV5 dc5 pm5 cd5 ct5 : Value}
    {f6 : Addr} {od6 an6 : Option Addr} {sl6 : Array (Option Value)} {oc6 kV6 dc6 pm6 cd6 ct6 : Value}
    {f7 : Addr} {od7 an7 : Option Addr} {sl7 : Array (Option Value)} {oc7 kV7 dc7 pm7 cd7 ct7 : Value}
    {f8 : Addr} {od8 an8 : Option Addr} {sl8 : Array (Option Value)} {oc8 kV8 dc8 pm8 cd8 ct8 : Value}
    {f9 : Addr} {od9 an9 : Option Addr} {sl9 : Array (Option Value)} {oc9 kV9 dc9 pm9 cd9 ct9 : Value}
    {f10 : Addr} {od10 an10 : Option Addr} {sl10 : Array (Option Value)} {oc10 kV10 dc10 pm10 cd10 ct10 : Value}
    {f11 : Addr} {od11 an11 : Option Addr} {sl11 : Array (Option Value)} {oc11 kV11 dc11 pm11 cd11 ct11 : Value}
    {f12 : Addr} {od12 an12 : Option Addr} {sl12 : Array (Option Value)} {oc12 kV12 dc12 pm12 cd12 ct12 : Value}
    {f13 : Addr} {od13 an13 : Option Addr} {sl13 : Array (Option Value)} {oc13 kV13 dc13 pm13 cd13 ct13 : Value}
    {f14 : Addr} {od14 an14 : Option Addr} {sl14 : Array (Option Value)} {oc14 kV14 dc14 pm14 cd14 ct14 : Value}
    {f15 : Addr} {od15 an15 : Option Addr} {sl15 : Array (Option Value)} {oc15 kV15 dc15 pm15 cd15 ct15 : Value}
    {f16 : Addr} {od16 an16 : Option Addr} {sl16 : Array (Option Value)} {oc16 kV16 dc16 pm16 cd16 ct16 : Value}
    {f17 : Addr} {od17 an17 : Option Addr} {sl17 : Array (Option Value)} {oc17 kV17 dc17 pm17 cd17 ct17 : Value}
    {f18 : Addr} {od18 an18 : Option Addr} {sl18 : Array (Option Value)} {oc18 kV18 dc18 pm18 cd18 ct18 : Value}
    {f19 : Addr} {od19 an19 : Option Addr} {sl19 : Array (Option Value)} {oc19 kV19 dc19 pm19 cd19 ct19 : Value}
    {f20 : Addr} {od20 an20 : Option Addr} {sl20 : Array (Option Value)} {oc20 kV20 dc20 pm20 cd20 ct20 : Value}
    (a0 : PySem.W.nsIn K mainGlobals "fields_of" = some (some (.ref f0)))
    (l0 : K.lookup f0 = some ⟨oc0, od0, .func (PySem.W.fnOf "fields_of" "fields_of" (defArgs s_fields_of) (defBody s_fields_of) (defScope s_fields_of) .none kV0 dc0 pm0 an0 cd0 ct0), sl0⟩) (c0 : PySem.W.codeIn K cd0 "fields_of" = true) (k0 : PySem.W.keepIn K (.ref f0) = true)
    (a1 : PySem.W.nsIn K mainGlobals "kind_after" = some (some (.ref f1)))
    (l1 : K.lookup f1 = some ⟨oc1, od1, .func (PySem.W.fnOf "kind_after" "kind_after" (defArgs s_kind_after) (defBody s_kind_after) (defScope s_kind_after) .none kV1 dc1 pm1 an1 cd1 ct1), sl1⟩) (c1 : PySem.W.codeIn K cd1 "kind_after" = true) (k1 : PySem.W.keepIn K (.ref f1) = true)
    (a2 : PySem.W.nsIn K mainGlobals "is_prefix" = some (some (.ref f2)))
    (l2 : K.lookup f2 = some ⟨oc2, od2, .func (PySem.W.fnOf "is_prefix" "is_prefix" (defArgs s_is_prefix) (defBody s_is_prefix) (defScope s_is_prefix) .none kV2 dc2 pm2 an2 cd2 ct2), sl2⟩) (c2 : PySem.W.codeIn K cd2 "is_prefix" = true) (k2 : PySem.W.keepIn K (.ref f2) = true)
    (a3 : PySem.W.nsIn K mainGlobals "overlap" = some (some (.ref f3)))
    (l3 : K.lookup f3 = some ⟨oc3, od3, .func (PySem.W.fnOf "overlap" "overlap" (defArgs s_overlap) (defBody s_overlap) (defScope s_overlap) .none kV3 dc3 pm3 an3 cd3 ct3), sl3⟩) (c3 : PySem.W.codeIn K cd3 "overlap" = true) (k3 : PySem.W.keepIn K (.ref f3) = true)
    (a4 : PySem.W.nsIn K mainGlobals "kinds_along" = some (some (.ref f4)))
    (l4 : K.lookup f4 = some ⟨oc4, od4, .func (PySem.W.fnOf "kinds_along" "kinds_along" (defArgs s_kinds_along) (defBody s_kinds_along) (defScope s_kinds_along) .none kV4 dc4 pm4 an4 cd4 ct4), sl4⟩) (c4 : PySem.W.codeIn K cd4 "kinds_along" = true) (k4 : PySem.W.keepIn K (.ref f4) = true)
    (a5 : PySem.W.nsIn K mainGlobals "kind_at" = some (some (.ref f5)))
    (l5 : K.lookup f5 = some ⟨oc5, od5, .func (PySem.W.fnOf "kind_at" "kind_at" (defArgs s_kind_at) (defBody s_kind_at) (defScope s_kind_at) .none kV5 dc5 pm5 an5 cd5 ct5), sl5⟩) (c5 : PySem.W.codeIn K cd5 "kind_at" = true) (k5 : PySem.W.keepIn K (.ref f5) = true)
    (a6 : PySem.W.nsIn K mainGlobals "crossed" = some (some (.ref f6)))
    (l6 : K.lookup f6 = some ⟨oc6, od6, .func (PySem.W.fnOf "crossed" "crossed" (defArgs s_crossed) (defBody s_crossed) (defScope s_crossed) .none kV6 dc6 pm6 an6 cd6 ct6), sl6⟩) (c6 : PySem.W.codeIn K cd6 "crossed" = true) (k6 : PySem.W.keepIn K (.ref f6) = true)
    (a7 : PySem.W.nsIn K mainGlobals "_law_tape" = some (some (.ref f7)))
    (l7 : K.lookup f7 = some ⟨oc7, od7, .func (PySem.W.fnOf "_law_tape" "_law_tape" (defArgs s_l_tape) (defBody s_l_tape) (defScope s_l_tape) .none kV7 dc7 pm7 an7 cd7 ct7), sl7⟩) (c7 : PySem.W.codeIn K cd7 "_law_tape" = true) (k7 : PySem.W.keepIn K (.ref f7) = true)
    (a8 : PySem.W.nsIn K mainGlobals "_law_next" = some (some (.ref f8)))
    (l8 : K.lookup f8 = some ⟨oc8, od8, .func (PySem.W.fnOf "_law_next" "_law_next" (defArgs s_l_next) (defBody s_l_next) (defScope s_l_next) .none kV8 dc8 pm8 an8 cd8 ct8), sl8⟩) (c8 : PySem.W.codeIn K cd8 "_law_next" = true) (k8 : PySem.W.keepIn K (.ref f8) = true)
    (a9 : PySem.W.nsIn K mainGlobals "_law_fields" = some (some (.ref f9)))
    (l9 : K.lookup f9 = some ⟨oc9, od9, .func (PySem.W.fnOf "_law_fields" "_law_fields" (defArgs s_l_fields) (defBody s_l_fields) (defScope s_l_fields) .none kV9 dc9 pm9 an9 cd9 ct9), sl9⟩) (c9 : PySem.W.codeIn K cd9 "_law_fields" = true) (k9 : PySem.W.keepIn K (.ref f9) = true)
    (a10 : PySem.W.nsIn K mainGlobals "_law_records" = some (some (.ref f10)))
    (l10 : K.lookup f10 = some ⟨oc10, od10, .func (PySem.W.fnOf "_law_records" "_law_records" (defArgs s_l_records) (defBody s_l_records) (defScope s_l_records) .none kV10 dc10 pm10 an10 cd10 ct10), sl10⟩) (c10 : PySem.W.codeIn K cd10 "_law_records" = true) (k10 : PySem.W.keepIn K (.ref f10) = true)
    (a11 : PySem.W.nsIn K mainGlobals "_law_cells" = some (some (.ref f11)))
    (l11 : K.lookup f11 = some ⟨oc11, od11, .func (PySem.W.fnOf "_law_cells" "_law_cells" (defArgs s_l_cells) (defBody s_l_cells) (defScope s_l_cells) .none kV11 dc11 pm11 an11 cd11 ct11), sl11⟩) (c11 : PySem.W.codeIn K cd11 "_law_cells" = true) (k11 : PySem.W.keepIn K (.ref f11) = true)
    (a12 : PySem.W.nsIn K mainGlobals "_law_fitting" = some (some (.ref f12)))
    (l12 : K.lookup f12 = some ⟨oc12, od12, .func (PySem.W.fnOf "_law_fitting" "_law_fitting" (defArgs s_l_fitting) (defBody s_l_fitting) (defScope s_l_fitting) .none kV12 dc12 pm12 an12 cd12 ct12), sl12⟩) (c12 : PySem.W.codeIn K cd12 "_law_fitting" = true) (k12 : PySem.W.keepIn K (.ref f12) = true)
    (a13 : PySem.W.nsIn K mainGlobals "_law_kind" = some (some (.ref f13)))
    (l13 : K.lookup f13 = some ⟨oc13, od13, .func (PySem.W.fnOf "_law_kind" "_law_kind" (defArgs s_l_kind) (defBody s_l_kind) (defScope s_l_kind) .none kV13 dc13 pm13 an13 cd13 ct13), sl13⟩) (c13 : PySem.W.codeIn K cd13 "_law_kind" = true) (k13 : PySem.W.keepIn K (.ref f13) = true)
    (a14 : PySem.W.nsIn K mainGlobals "_law_step" = some (some (.ref f14)))
    (l14 : K.lookup f14 = some ⟨oc14, od14, .func (PySem.W.fnOf "_law_step" "_law_step" (defArgs s_l_step) (defBody s_l_step) (defScope s_l_step) .none kV14 dc14 pm14 an14 cd14 ct14), sl14⟩) (c14 : PySem.W.codeIn K cd14 "_law_step" = true) (k14 : PySem.W.keepIn K (.ref f14) = true)
    (a15 : PySem.W.nsIn K mainGlobals "_law_after" = some (some (.ref f15)))
    (l15 : K.lookup f15 = some ⟨oc15, od15, .func (PySem.W.fnOf "_law_after" "_law_after" (defArgs s_l_after) (defBody s_l_after) (defScope s_l_after) .none kV15 dc15 pm15 an15 cd15 ct15), sl15⟩) (c15 : PySem.W.codeIn K cd15 "_law_after" = true) (k15 : PySem.W.keepIn K (.ref f15) = true)
    (a16 : PySem.W.nsIn K mainGlobals "_law_caught" = some (some (.ref f16)))
    (l16 : K.lookup f16 = some ⟨oc16, od16, .func (PySem.W.fnOf "_law_caught" "_law_caught" (defArgs s_l_caught) (defBody s_l_caught) (defScope s_l_caught) .none kV16 dc16 pm16 an16 cd16 ct16), sl16⟩) (c16 : PySem.W.codeIn K cd16 "_law_caught" = true) (k16 : PySem.W.keepIn K (.ref f16) = true)
    (a17 : PySem.W.nsIn K mainGlobals "_law_told" = some (some (.ref f17)))
    (l17 : K.lookup f17 = some ⟨oc17, od17, .func (PySem.W.fnOf "_law_told" "_law_told" (defArgs s_l_told) (defBody s_l_told) (defScope s_l_told) .none kV17 dc17 pm17 an17 cd17 ct17), sl17⟩) (c17 : PySem.W.codeIn K cd17 "_law_told" = true) (k17 : PySem.W.keepIn K (.ref f17) = true)
    (a18 : PySem.W.nsIn K mainGlobals "_law_is" = some (some (.ref f18)))
    (l18 : K.lookup f18 = some ⟨oc18, od18, .func (PySem.W.fnOf "_law_is" "_law_is" (defArgs s_l_is) (defBody s_l_is) (defScope s_l_is) .none kV18 dc18 pm18 an18 cd18 ct18), sl18⟩) (c18 : PySem.W.codeIn K cd18 "_law_is" = true) (k18 : PySem.W.keepIn K (.ref f18) = true)
    (a19 : PySem.W.nsIn K mainGlobals "_law_unknown" = some (some (.ref f19)))
    (l19 : K.lookup f19 = some ⟨oc19, od19, .func (PySem.W.fnOf "_law_unknown" "_law_unknown" (defArgs s_l_unknown) (defBody s_l_unknown) (defScope s_l_unknown) .none kV19 dc19 pm19 an19 cd19 ct19), sl19⟩) (c19 : PySem.W.codeIn K cd19 "_law_unknown" = true) (k19 : PySem.W.keepIn K (.ref f19) = true)
    (a20 : PySem.W.nsIn K mainGlobals "law" = some (some (.ref f20)))
    (l20 : K.lookup f20 = some ⟨oc20, od20, .func (PySem.W.fnOf "law" "law" (defArgs s_law) (defBody s_law) (defScope s_law) .none kV20 dc20 pm20 an20 cd20 ct20), sl20⟩) (c20 : PySem.W.codeIn K cd20 "law" = true) (k20 : PySem.W.keepIn K (.ref f20) = true)
    (z_isinstance : PySem.W.nsIn K mainGlobals "isinstance" = some none)
    (z_int : PySem.W.nsIn K mainGlobals "int" = some none)
    (z_len : PySem.W.nsIn K mainGlobals "len" = some none)
    (z_enumerate : PySem.W.nsIn K mainGlobals "enumerate" = some none)
    (z_abs : PySem.W.nsIn K mainGlobals "abs" = some none)
    (z_range : PySem.W.nsIn K mainGlobals "range" = some none)
    (z_tuple : PySem.W.nsIn K mainGlobals "tuple" = some none)
    (z_sum : PySem.W.nsIn K mainGlobals "sum" = some none)
    {g_BORROWS : Addr} {go_BORROWS : Option Addr} {gn_BORROWS : Nat} {gs_BORROWS : Array (Option Value)} {gt_BORROWS_0 gt_BORROWS_1 : Tok}
    (ga_BORROWS : PySem.W.nsIn K mainGlobals "BORROWS" = some (some (.ref g_BORROWS))) (gl_BORROWS : K.lookup g_BORROWS = some ⟨.type "tuple", go_BORROWS, .seq [.str "shared" gt_BORROWS_0, .str "exclusive" gt_BORROWS_1].toArray gn_BORROWS, gs_BORROWS⟩)
    : ∃ fd : FuncData, (∀ (s : Shared) (v : Value), BindsTo s fd ⟨[v], []⟩ [("script", v)]) ∧ ∀ base : Heap, K.In base → base.Ns mainGlobals mg → FnOk l.prog w K mg base CX0 26 fa fd ["script"] (sp_law K) := by
  have e := hfa.symm.trans (PySem.W.mg_of X G a20)
  cases e
  have F0 := fun_mk (st := s_fields_of) l0 c0 k0
  have D0 : Dfn K mg "fields_of" s_fields_of ["records", "name"] := ⟨_, _, F0, PySem.W.mg_of X G a0, F0.binds (ps := ["records", "name"]) fun _ _ _ _ _ _ us hl => match us, hl with | [_, _], _ => rfl⟩
  have F1 := fun_mk (st := s_kind_after) l1 c1 k1
  have D1 : Dfn K mg "kind_after" s_kind_after ["records", "kind", "step"] := ⟨_, _, F1, PySem.W.mg_of X G a1, F1.binds (ps := ["records", "kind", "step"]) fun _ _ _ _ _ _ us hl => match us, hl with | [_, _, _], _ => rfl⟩
  have F2 := fun_mk (st := s_is_prefix) l2 c2 k2
  have D2 : Dfn K mg "is_prefix" s_is_prefix ["first", "second"] := ⟨_, _, F2, PySem.W.mg_of X G a2, F2.binds (ps := ["first", "second"]) fun _ _ _ _ _ _ us hl => match us, hl with | [_, _], _ => rfl⟩
  have F3 := fun_mk (st := s_overlap) l3 c3 k3
  have D3 : Dfn K mg "overlap" s_overlap ["first", "second"] := ⟨_, _, F3, PySem.W.mg_of X G a3, F3.binds (ps := ["first", "second"]) fun _ _ _ _ _ _ us hl => match us, hl with | [_, _], _ => rfl⟩
  have F4 := fun_mk (st := s_kinds_along) l4 c4 k4
  have D4 : DfnK K mg "kinds_along" s_kinds_along 1 ["place", "records", "kinds"] ["records", "kinds"] := ⟨_, _, F4, PySem.W.mg_of X G a4, kbinds F4 (fun _ _ _ _ _ _ us ws h1 h2 => match us, ws, h1, h2 with | [_], [_, _], _, _ => rfl) rfl (by decide)⟩
  have F5 := fun_mk (st := s_kind_at) l5 c5 k5
  have D5 : DfnK K mg "kind_at" s_kind_at 1 ["place", "records", "kinds"] ["records", "kinds"] := ⟨_, _, F5, PySem.W.mg_of X G a5, kbinds F5 (fun _ _ _ _ _ _ us ws h1 h2 => match us, ws, h1, h2 with | [_], [_, _], _, _ => rfl) rfl (by decide)⟩
  have F6 := fun_mk (st := s_crossed) l6 c6 k6
  have D6 : DfnK K mg "crossed" s_crossed 1 ["place", "records", "kinds"] ["records", "kinds"] := ⟨_, _, F6, PySem.W.mg_of X G a6, kbinds F6 (fun _ _ _ _ _ _ us ws h1 h2 => match us, ws, h1, h2 with | [_], [_, _], _, _ => rfl) rfl (by decide)⟩
  have F7 := fun_mk (st := s_l_tape) l7 c7 k7
  have D7 : Dfn K mg "_law_tape" s_l_tape ["script"] := ⟨_, _, F7, PySem.W.mg_of X G a7, F7.binds (ps := ["script"]) fun _ _ _ _ _ _ us hl => match us, hl with | [_], _ => rfl⟩
  have F8 := fun_mk (st := s_l_next) l8 c8 k8
  have D8 : Dfn K mg "_law_next" s_l_next ["tape", "many"] := ⟨_, _, F8, PySem.W.mg_of X G a8, F8.binds (ps := ["tape", "many"]) fun _ _ _ _ _ _ us hl => match us, hl with | [_, _], _ => rfl⟩
  have F9 := fun_mk (st := s_l_fields) l9 c9 k9
  have D9 : Dfn K mg "_law_fields" s_l_fields ["name"] := ⟨_, _, F9, PySem.W.mg_of X G a9, F9.binds (ps := ["name"]) fun _ _ _ _ _ _ us hl => match us, hl with | [_], _ => rfl⟩
  have F10 := fun_mk (st := s_l_records) l10 c10 k10
  have D10 : Dfn K mg "_law_records" s_l_records ["tape"] := ⟨_, _, F10, PySem.W.mg_of X G a10, F10.binds (ps := ["tape"]) fun _ _ _ _ _ _ us hl => match us, hl with | [_], _ => rfl⟩
  have F11 := fun_mk (st := s_l_cells) l11 c11 k11
  have D11 : Dfn K mg "_law_cells" s_l_cells ["kind"] := ⟨_, _, F11, PySem.W.mg_of X G a11, F11.binds (ps := ["kind"]) fun _ _ _ _ _ _ us hl => match us, hl with | [_], _ => rfl⟩
  have F12 := fun_mk (st := s_l_fitting) l12 c12 k12
  have D12 : Dfn K mg "_law_fitting" s_l_fitting ["items", "most"] := ⟨_, _, F12, PySem.W.mg_of X G a12, F12.binds (ps := ["items", "most"]) fun _ _ _ _ _ _ us hl => match us, hl with | [_, _], _ => rfl⟩
  have F13 := fun_mk (st := s_l_kind) l13 c13 k13
  have D13 : Dfn K mg "_law_kind" s_l_kind ["tape", "depth", "plain"] := ⟨_, _, F13, PySem.W.mg_of X G a13, F13.binds (ps := ["tape", "depth", "plain"]) fun _ _ _ _ _ _ us hl => match us, hl with | [_, _, _], _ => rfl⟩
  have F14 := fun_mk (st := s_l_step) l14 c14 k14
  have D14 : Dfn K mg "_law_step" s_l_step ["tape", "kind"] := ⟨_, _, F14, PySem.W.mg_of X G a14, F14.binds (ps := ["tape", "kind"]) fun _ _ _ _ _ _ us hl => match us, hl with | [_, _], _ => rfl⟩
  have F15 := fun_mk (st := s_l_after) l15 c15 k15
  have D15 : Dfn K mg "_law_after" s_l_after ["kind", "step"] := ⟨_, _, F15, PySem.W.mg_of X G a15, F15.binds (ps := ["kind", "step"]) fun _ _ _ _ _ _ us hl => match us, hl with | [_, _], _ => rfl⟩
  have F16 := fun_mk (st := s_l_caught) l16 c16 k16
  have D16 : Dfn K mg "_law_caught" s_l_caught ["problem"] := ⟨_, _, F16, PySem.W.mg_of X G a16, F16.binds (ps := ["problem"]) fun _ _ _ _ _ _ us hl => match us, hl with | [_], _ => rfl⟩
  have F17 := fun_mk (st := s_l_told) l17 c17 k17
  have D17 : Dfn K mg "_law_told" s_l_told ["choice", "records", "kinds", "place", "kind", "step"] := ⟨_, _, F17, PySem.W.mg_of X G a17, F17.binds (ps := ["choice", "records", "kinds", "place", "kind", "step"]) fun _ _ _ _ _ _ us hl => match us, hl with | [_, _, _, _, _, _], _ => rfl⟩
  have F18 := fun_mk (st := s_l_is) l18 c18 k18
  have D18 : Dfn K mg "_law_is" s_l_is ["answer", "due"] := ⟨_, _, F18, PySem.W.mg_of X G a18, F18.binds (ps := ["answer", "due"]) fun _ _ _ _ _ _ us hl => match us, hl with | [_, _], _ => rfl⟩
  have F19 := fun_mk (st := s_l_unknown) l19 c19 k19
  have D19 : Dfn K mg "_law_unknown" s_l_unknown ["records", "kinds", "steps"] := ⟨_, _, F19, PySem.W.mg_of X G a19, F19.binds (ps := ["records", "kinds", "steps"]) fun _ _ _ _ _ _ us hl => match us, hl with | [_, _, _], _ => rfl⟩
  have F20 := fun_mk (st := s_law) l20 c20 k20
  have D20 : Dfn K mg "law" s_law ["script"] := ⟨_, _, F20, PySem.W.mg_of X G a20, F20.binds (ps := ["script"]) fun _ _ _ _ _ _ us hl => match us, hl with | [_], _ => rfl⟩
  have y_isinstance := PySem.W.mg_none_of X G z_isinstance
  have y_int := PySem.W.mg_none_of X G z_int
  have y_len := PySem.W.mg_none_of X G z_len
  have y_enumerate := PySem.W.mg_none_of X G z_enumerate
  have y_abs := PySem.W.mg_none_of X G z_abs
  have y_range := PySem.W.mg_none_of X G z_range
  have y_tuple := PySem.W.mg_none_of X G z_tuple
  have y_sum := PySem.W.mg_none_of X G z_sum
  have q_BORROWS : Cst K mg "BORROWS" c_BORROWS := cst_of (PySem.W.mg_of X G ga_BORROWS) gl_BORROWS (by show 2 ≤ sizeLine; decide) (xs := [.str "shared", .str "exclusive"]) ((.cons ⟨_, rfl⟩ (.cons ⟨_, rfl⟩ .nil))) (fun _ => ((.cons (.str _) (.cons (.str _) .nil))))
  refine ⟨PySem.W.fnOf "law" "law" (defArgs s_law) (defBody s_law) (defScope s_law) .none kV20 dc20 pm20 an20 cd20 ct20, fun s v => .of_eq rfl, fun base _ _ => ?_⟩
  have g_ForkError := PySem.W.mg_of X G ac_ForkError
  have g_KindProblem := PySem.W.mg_of X G ac_KindProblem
  have g_NoSuchStep := PySem.W.mg_of X G ac_NoSuchStep
  have g_NoSuchVariable := PySem.W.mg_of X G ac_NoSuchVariable
  have g_NoSuchFunction := PySem.W.mg_of X G ac_NoSuchFunction
  have g_NotAllocated := PySem.W.mg_of X G ac_NotAllocated
  have g_Refused := PySem.W.mg_of X G ac_Refused
  have x_NoSuchStep : ExO K mg "NoSuchStep" (Ad.mk adr_ForkError adr_KindProblem adr_NoSuchStep adr_NoSuchVariable adr_NoSuchFunction adr_NotAllocated adr_Refused).c_NoSuchStep := ⟨xq_NoSuchStep, g_NoSuchStep, xk_NoSuchStep, xs_NoSuchStep, xt_NoSuchStep⟩
  have x_NoSuchVariable : ExO K mg "NoSuchVariable" (Ad.mk adr_ForkError adr_KindProblem adr_NoSuchStep adr_NoSuchVariable adr_NoSuchFunction adr_NotAllocated adr_Refused).c_NoSuchVariable := ⟨xq_NoSuchVariable, g_NoSuchVariable, xk_NoSuchVariable, xs_NoSuchVariable, xt_NoSuchVariable⟩
  have fx : Fx K (Ad.mk adr_ForkError adr_KindProblem adr_NoSuchStep adr_NoSuchVariable adr_NoSuchFunction adr_NotAllocated adr_Refused) := ⟨⟨xc_NoSuchStep_hg, xc_NoSuchStep_hk, xc_NoSuchStep_hs, xc_NoSuchStep_hd, xc_NoSuchStep_ha, xc_NoSuchStep_hn, xc_NoSuchStep_ht, xc_NoSuchStep_hm⟩, ⟨xc_NoSuchVariable_hg, xc_NoSuchVariable_hk, xc_NoSuchVariable_hs, xc_NoSuchVariable_hd, xc_NoSuchVariable_ha, xc_NoSuchVariable_hn, xc_NoSuchVariable_ht, xc_NoSuchVariable_hm⟩, k_NoSuchStep_KindProblem, k_NoSuchStep_NoSuchFunction, k_NoSuchStep_NotAllocated, k_NoSuchStep_Refused, k_NoSuchStep_NoSuchVariable, k_NoSuchStep_ForkError, k_NoSuchStep_ValueError, k_NoSuchVariable_KindProblem, k_NoSuchVariable_NoSuchFunction, k_NoSuchVariable_NotAllocated, k_NoSuchVariable_Refused, k_NoSuchVariable_NoSuchStep, k_NoSuchVariable_ForkError, k_NoSuchVariable_ValueError, e_NoSuchStep_ForkError, e_NoSuchVariable_ForkError⟩
  have h_fields_of := has_fields_of (P := l.prog) (w := w) (K := K) (mg := mg) (base := base) D0 (Ad.mk adr_ForkError adr_KindProblem adr_NoSuchStep adr_NoSuchVariable adr_NoSuchFunction adr_NotAllocated adr_Refused)      
  have h_kind_after := has_kind_after (P := l.prog) (w := w) (K := K) (mg := mg) (base := base) D1 (Ad.mk adr_ForkError adr_KindProblem adr_NoSuchStep adr_NoSuchVariable adr_NoSuchFunction adr_NotAllocated adr_Refused)  h_fields_of  x_NoSuchStep y_isinstance y_int y_len 
  have h_is_prefix := has_is_prefix (P := l.prog) (w := w) (K := K) (mg := mg) (base := base) D2 (Ad.mk adr_ForkError adr_KindProblem adr_NoSuchStep adr_NoSuchVariable adr_NoSuchFunction adr_NotAllocated adr_Refused)     y_len 
  have h_overlap := has_overlap (P := l.prog) (w := w) (K := K) (mg := mg) (base := base) D3 (Ad.mk adr_ForkError adr_KindProblem adr_NoSuchStep adr_NoSuchVariable adr_NoSuchFunction adr_NotAllocated adr_Refused)  h_is_prefix    
  have h_kinds_along := has_kinds_along (P := l.prog) (w := w) (K := K) (mg := mg) (base := base) D4 (Ad.mk adr_ForkError adr_KindProblem adr_NoSuchStep adr_NoSuchVariable adr_NoSuchFunction adr_NotAllocated adr_Refused)  h_kind_after  x_NoSuchVariable  
  have h_kind_at := has_kind_at (P := l.prog) (w := w) (K := K) (mg := mg) (base := base) D5 (Ad.mk adr_ForkError adr_KindProblem adr_NoSuchStep adr_NoSuchVariable adr_NoSuchFunction adr_NotAllocated adr_Refused)  h_kinds_along    
  have h_crossed := has_crossed (P := l.prog) (w := w) (K := K) (mg := mg) (base := base) D6 (Ad.mk adr_ForkError adr_KindProblem adr_NoSuchStep adr_NoSuchVariable adr_NoSuchFunction adr_NotAllocated adr_Refused)  h_kinds_along   y_enumerate q_BORROWS
  have h_l_tape := has_l_tape (P := l.prog) (w := w) (K := K) (mg := mg) (base := base) D7 (Ad.mk adr_ForkError adr_KindProblem adr_NoSuchStep adr_NoSuchVariable adr_NoSuchFunction adr_NotAllocated adr_Refused)     y_int y_abs y_range 
  have h_l_next := has_l_next (P := l.prog) (w := w) (K := K) (mg := mg) (base := base) D8 (Ad.mk adr_ForkError adr_KindProblem adr_NoSuchStep adr_NoSuchVariable adr_NoSuchFunction adr_NotAllocated adr_Refused)     y_len y_int 
  have h_l_fields := has_l_fields (P := l.prog) (w := w) (K := K) (mg := mg) (base := base) D9 (Ad.mk adr_ForkError adr_KindProblem adr_NoSuchStep adr_NoSuchVariable adr_NoSuchFunction adr_NotAllocated adr_Refused)      
  have h_l_records := has_l_records (P := l.prog) (w := w) (K := K) (mg := mg) (base := base) D10 (Ad.mk adr_ForkError adr_KindProblem adr_NoSuchStep adr_NoSuchVariable adr_NoSuchFunction adr_NotAllocated adr_Refused)  h_l_next h_l_fields   y_tuple 
  have h_l_cells := has_l_cells (P := l.prog) (w := w) (K := K) (mg := mg) (base := base) D11 (Ad.mk adr_ForkError adr_KindProblem adr_NoSuchStep adr_NoSuchVariable adr_NoSuchFunction adr_NotAllocated adr_Refused)     y_sum  12
  have h_l_fitting := has_l_fitting (P := l.prog) (w := w) (K := K) (mg := mg) (base := base) D12 (Ad.mk adr_ForkError adr_KindProblem adr_NoSuchStep adr_NoSuchVariable adr_NoSuchFunction adr_NotAllocated adr_Refused)  h_l_cells   y_len y_range y_tuple 
  have h_l_kind := has_l_kind (P := l.prog) (w := w) (K := K) (mg := mg) (base := base) D13 (Ad.mk adr_ForkError adr_KindProblem adr_NoSuchStep adr_NoSuchVariable adr_NoSuchFunction adr_NotAllocated adr_Refused)  h_l_next h_l_fitting   y_range  12
  have h_l_step := has_l_step (P := l.prog) (w := w) (K := K) (mg := mg) (base := base) D14 (Ad.mk adr_ForkError adr_KindProblem adr_NoSuchStep adr_NoSuchVariable adr_NoSuchFunction adr_NotAllocated adr_Refused)  h_l_next h_l_fields   y_len 
  have h_l_after := has_l_after (P := l.prog) (w := w) (K := K) (mg := mg) (base := base) D15 (Ad.mk adr_ForkError adr_KindProblem adr_NoSuchStep adr_NoSuchVariable adr_NoSuchFunction adr_NotAllocated adr_Refused)  h_l_fields   y_isinstance y_int y_len 
  have h_l_caught := has_l_caught (P := l.prog) (w := w) (K := K) (mg := mg) (base := base) D16 (Ad.mk adr_ForkError adr_KindProblem adr_NoSuchStep adr_NoSuchVariable adr_NoSuchFunction adr_NotAllocated adr_Refused) fx   g_KindProblem g_NoSuchFunction g_NotAllocated g_Refused g_NoSuchStep g_NoSuchVariable  y_isinstance 
  have h_l_told := has_l_told (P := l.prog) (w := w) (K := K) (mg := mg) (base := base) D17 (Ad.mk adr_ForkError adr_KindProblem adr_NoSuchStep adr_NoSuchVariable adr_NoSuchFunction adr_NotAllocated adr_Refused) fx  h_kind_after h_kind_at h_crossed h_l_caught g_ForkError   
  have h_l_is := has_l_is (P := l.prog) (w := w) (K := K) (mg := mg) (base := base) D18 (Ad.mk adr_ForkError adr_KindProblem adr_NoSuchStep adr_NoSuchVariable adr_NoSuchFunction adr_NotAllocated adr_Refused)      
  have h_l_unknown := has_l_unknown (P := l.prog) (w := w) (K := K) (mg := mg) (base := base) D19 (Ad.mk adr_ForkError adr_KindProblem adr_NoSuchStep adr_NoSuchVariable adr_NoSuchFunction adr_NotAllocated adr_Refused)  h_l_told    
  exact ok_law F20 (Ad.mk adr_ForkError adr_KindProblem adr_NoSuchStep adr_NoSuchVariable adr_NoSuchFunction adr_NotAllocated adr_Refused) fx  h_l_tape h_l_records h_l_kind h_l_next h_l_step h_l_after h_l_told h_l_unknown h_l_is h_is_prefix h_overlap y_range y_tuple y_len 
theorem walk {l : PySem.W.OpenLaw} {q : Program} {loose : List Str} {XP : (Str → Option Value) → Heap → Prop} {YP : World → Heap → Prop} {d : DefRec} {K : Params → PySem.W.Frag} (hn : l.most = some 63) (hdf : d.params.defaults = [])
    (hY : ∀ (w : World) (h : Heap), YP w h → (K w.params).In h)
    (F : ∀ (w : World) (mg : Str → Option Value) (fa : Addr) (h : Heap), (K w.params).In h → h.Ns mainGlobals mg → mg d.name = some (.ref fa) →
      ∃ fd : FuncData, (∀ (s : Shared) (u : Value), BindsTo s fd ⟨[u], []⟩ [("script", u)]) ∧ ∀ base : Heap, (K w.params).In base → base.Ns mainGlobals mg → FnOk l.prog w (K w.params) mg base CX0 26 fa fd ["script"] (sp_law (K w.params))) :
    PySem.W.WalkO q loose XP YP l.row.toRowW d [] (fun f vs => PySem.call f vs) :=
  L2.walk_of (n := 63) (k := 26) (x := "script") (CX := fun _ => CX0) (sp := fun w => sp_law (K w.params)) hn (by decide) hdf ⟨rfl, by decide, by decide⟩ hY F (fun _ _ a ns hl _ hS => ⟨a, ns, rfl, hS, hl, fun _ => rfl⟩) fun _ _ _ _ _ z => z

end Law

open PySem PySem.W PyProof.Rows
set_option maxRecDepth 100000 in
set_option maxHeartbeats 0 in
theorem PySem.Challenge.cw_forklent_k02_steps_and_places_holds : PySem.Challenge.rw_forklent_k02_steps_and_places.Holds := by
  w_on; o_law; k_head; (case hw => w_witness2)
  k_fill
  refine Law.walk (l := PySem.Challenge.rw_forklent_k02_steps_and_places) rfl rfl (fun w h Y => PySem.W.kIn_of Y) ?F
  case F =>
    intro w mg fa h KX G hmg
    refine' Law.all_mk KX G hmg ?ac_ForkError ?ac_KindProblem ?ac_NoSuchStep ?ac_NoSuchVariable ?ac_NoSuchFunction ?ac_NotAllocated ?ac_Refused ?xq_NoSuchStep ?xk_NoSuchStep ?xs_NoSuchStep ?xt_NoSuchStep ?xq_NoSuchVariable ?xk_NoSuchVariable ?xs_NoSuchVariable ?xt_NoSuchVariable ?xc_NoSuchStep_hg ?xc_NoSuchStep_hk ?xc_NoSuchStep_hs ?xc_NoSuchStep_hd ?xc_NoSuchStep_ha ?xc_NoSuchStep_hn ?xc_NoSuchStep_ht ?xc_NoSuchStep_hm ?xc_NoSuchVariable_hg ?xc_NoSuchVariable_hk ?xc_NoSuchVariable_hs ?xc_NoSuchVariable_hd ?xc_NoSuchVariable_ha ?xc_NoSuchVariable_hn ?xc_NoSuchVariable_ht ?xc_NoSuchVariable_hm ?k_NoSuchStep_KindProblem ?k_NoSuchStep_NoSuchFunction ?k_NoSuchStep_NotAllocated ?k_NoSuchStep_Refused ?k_NoSuchStep_NoSuchVariable ?k_NoSuchStep_ForkError ?k_NoSuchStep_ValueError ?k_NoSuchVariable_KindProblem ?k_NoSuchVariable_NoSuchFunction ?k_NoSuchVariable_NotAllocated ?k_NoSuchVariable_Refused ?k_NoSuchVariable_NoSuchStep ?k_NoSuchVariable_ForkError ?k_NoSuchVariable_ValueError ?e_NoSuchStep_ForkError ?e_NoSuchVariable_ForkError ?a0 ?l0 ?c0 ?k0 ?a1 ?l1 ?c1 ?k1 ?a2 ?l2 ?c2 ?k2 ?a3 ?l3 ?c3 ?k3 ?a4 ?l4 ?c4 ?k4 ?a5 ?l5 ?c5 ?k5 ?a6 ?l6 ?c6 ?k6 ?a7 ?l7 ?c7 ?k7 ?a8 ?l8 ?c8 ?k8 ?a9 ?l9 ?c9 ?k9 ?a10 ?l10 ?c10 ?k10 ?a11 ?l11 ?c11 ?k11 ?a12 ?l12 ?c12 ?k12 ?a13 ?l13 ?c13 ?k13 ?a14 ?l14 ?c14 ?k14 ?a15 ?l15 ?c15 ?k15 ?a16 ?l16 ?c16 ?k16 ?a17 ?l17 ?c17 ?k17 ?a18 ?l18 ?c18 ?k18 ?a19 ?l19 ?c19 ?k19 ?a20 ?l20 ?c20 ?k20 ?z_isinstance ?z_int ?z_len ?z_enumerate ?z_abs ?z_range ?z_tuple ?z_sum ?ga_BORROWS ?gl_BORROWS
    (case ac_ForkError => k_is)
    (case ac_KindProblem => k_is)
    (case ac_NoSuchStep => k_is)
    (case ac_NoSuchVariable => k_is)
    (case ac_NoSuchFunction => k_is)
    (case ac_NotAllocated => k_is)
    (case ac_Refused => k_is)
    (case xq_NoSuchStep => k_exc)
    (case xk_NoSuchStep => k_is)
    (case xs_NoSuchStep => k_is)
    (case xt_NoSuchStep => k_is)
    (case xq_NoSuchVariable => k_exc)
    (case xk_NoSuchVariable => k_is)
    (case xs_NoSuchVariable => k_is)
    (case xt_NoSuchVariable => k_is)
    (case xc_NoSuchStep_hg => k_is)
    (case xc_NoSuchStep_hk => k_is)
    (case xc_NoSuchStep_hs => k_is)
    (case xc_NoSuchStep_hd => k_is)
    (case xc_NoSuchStep_ha => k_is)
    (case xc_NoSuchStep_hn => k_is)
    (case xc_NoSuchStep_ht => k_is)
    (case xc_NoSuchStep_hm => k_is)
    (case xc_NoSuchVariable_hg => k_is)
    (case xc_NoSuchVariable_hk => k_is)
    (case xc_NoSuchVariable_hs => k_is)
    (case xc_NoSuchVariable_hd => k_is)
    (case xc_NoSuchVariable_ha => k_is)
    (case xc_NoSuchVariable_hn => k_is)
    (case xc_NoSuchVariable_ht => k_is)
    (case xc_NoSuchVariable_hm => k_is)
    (case k_NoSuchStep_KindProblem => refine' Go.kit_ref ?_ ?_ ?_ ?_ <;> first | k_is | rfl | decide)
    (case k_NoSuchStep_NoSuchFunction => refine' Go.kit_ref ?_ ?_ ?_ ?_ <;> first | k_is | rfl | decide)
    (case k_NoSuchStep_NotAllocated => refine' Go.kit_ref ?_ ?_ ?_ ?_ <;> first | k_is | rfl | decide)
    (case k_NoSuchStep_Refused => refine' Go.kit_ref ?_ ?_ ?_ ?_ <;> first | k_is | rfl | decide)
    (case k_NoSuchStep_NoSuchVariable => refine' Go.kit_ref ?_ ?_ ?_ ?_ <;> first | k_is | rfl | decide)
    (case k_NoSuchStep_ForkError => refine' Go.kit_ref ?_ ?_ ?_ ?_ <;> first | k_is | rfl | decide)
    (case k_NoSuchStep_ValueError => refine' Go.kit_type ?_ ?_ <;> first | k_is | rfl | decide +kernel)
    (case k_NoSuchVariable_KindProblem => refine' Go.kit_ref ?_ ?_ ?_ ?_ <;> first | k_is | rfl | decide)
    (case k_NoSuchVariable_NoSuchFunction => refine' Go.kit_ref ?_ ?_ ?_ ?_ <;> first | k_is | rfl | decide)
    (case k_NoSuchVariable_NotAllocated => refine' Go.kit_ref ?_ ?_ ?_ ?_ <;> first | k_is | rfl | decide)
    (case k_NoSuchVariable_Refused => refine' Go.kit_ref ?_ ?_ ?_ ?_ <;> first | k_is | rfl | decide)
    (case k_NoSuchVariable_NoSuchStep => refine' Go.kit_ref ?_ ?_ ?_ ?_ <;> first | k_is | rfl | decide)
    (case k_NoSuchVariable_ForkError => refine' Go.kit_ref ?_ ?_ ?_ ?_ <;> first | k_is | rfl | decide)
    (case k_NoSuchVariable_ValueError => refine' Go.kit_type ?_ ?_ <;> first | k_is | rfl | decide +kernel)
    (case e_NoSuchStep_ForkError => refine' Go.exm_at ?_ ?_ ?_ ?_ <;> first | k_is | rfl)
    (case e_NoSuchVariable_ForkError => refine' Go.exm_at ?_ ?_ ?_ ?_ <;> first | k_is | rfl)
    (case a0 => k_is)
    (case l0 => k_is)
    (case c0 => k_is)
    (case k0 => k_is)
    (case a1 => k_is)
    (case l1 => k_is)
    (case c1 => k_is)
    (case k1 => k_is)
    (case a2 => k_is)
    (case l2 => k_is)
    (case c2 => k_is)
    (case k2 => k_is)
    (case a3 => k_is)
    (case l3 => k_is)
    (case c3 => k_is)
    (case k3 => k_is)
    (case a4 => k_is)
    (case l4 => k_is)
    (case c4 => k_is)
    (case k4 => k_is)
    (case a5 => k_is)
    (case l5 => k_is)
    (case c5 => k_is)
    (case k5 => k_is)
    (case a6 => k_is)
    (case l6 => k_is)
    (case c6 => k_is)
    (case k6 => k_is)
    (case a7 => k_is)
    (case l7 => k_is)
    (case c7 => k_is)
    (case k7 => k_is)
    (case a8 => k_is)
    (case l8 => k_is)
    (case c8 => k_is)
    (case k8 => k_is)
    (case a9 => k_is)
    (case l9 => k_is)
    (case c9 => k_is)
    (case k9 => k_is)
    (case a10 => k_is)
    (case l10 => k_is)
    (case c10 => k_is)
    (case k10 => k_is)
    (case a11 => k_is)
    (case l11 => k_is)
    (case c11 => k_is)
    (case k11 => k_is)
    (case a12 => k_is)
    (case l12 => k_is)
    (case c12 => k_is)
    (case k12 => k_is)
    (case a13 => k_is)
    (case l13 => k_is)
    (case c13 => k_is)
    (case k13 => k_is)
    (case a14 => k_is)
    (case l14 => k_is)
    (case c14 => k_is)
    (case k14 => k_is)
    (case a15 => k_is)
    (case l15 => k_is)
    (case c15 => k_is)
    (case k15 => k_is)
    (case a16 => k_is)
    (case l16 => k_is)
    (case c16 => k_is)
    (case k16 => k_is)
    (case a17 => k_is)
    (case l17 => k_is)
    (case c17 => k_is)
    (case k17 => k_is)
    (case a18 => k_is)
    (case l18 => k_is)
    (case c18 => k_is)
    (case k18 => k_is)
    (case a19 => k_is)
    (case l19 => k_is)
    (case c19 => k_is)
    (case k19 => k_is)
    (case a20 => k_is)
    (case l20 => k_is)
    (case c20 => k_is)
    (case k20 => k_is)
    (case z_isinstance => k_is)
    (case z_int => k_is)
    (case z_len => k_is)
    (case z_enumerate => k_is)
    (case z_abs => k_is)
    (case z_range => k_is)
    (case z_tuple => k_is)
    (case z_sum => k_is)
    (case ga_BORROWS => k_is)
    (case gl_BORROWS => k_is)
#print axioms PySem.Challenge.cw_forklent_k02_steps_and_places_holds
