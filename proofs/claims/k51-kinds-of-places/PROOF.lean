import PyProof.Rows.All
import Wide.All
import OpenK.AllK
import Wide.FinOn
import HandS.ForMost
import HandS.TupAny
import HandS.Style
import HandS.SetFor
import HandS.IsInst
import HandS.Exc
import HandS.ExcOwn
import HandS.ExcIs
import HandS.WordsExc
import HandS.TryMany
import PyProof.ExcBaseAll.ValueError
import HandS.ListItems
import PySem.Challenge.RW_forklent_k51_kinds_of_places
set_option Elab.async false
set_option linter.all false
set_option maxRecDepth 100000
set_option maxHeartbeats 4000000
/-! Kit: own words over the hand layer: immutable data (D, Rp), heaps that grow (Ext), defs with their contract (Has), one step of a reading (walk_at "s"). -/
namespace Go
open PySem L2

/-! ### immutable data -/
inductive D where
  | non | bl (b : Bool) | int (i : Int) | str (s : Str) | tup (ds : List D)
mutual
inductive Rp (K : PySem.W.Frag) (H : Hp) : V → D → Prop
  | non : Rp K H .non .non
  | bl (b : Bool) : Rp K H (.bl b) (.bl b)
  | int (i : Int) : Rp K H (.int i) (.int i)
  | str (s : Str) : Rp K H (.str s) (.str s)
  | tup {a : Addr} {xs : List V} {ds : List D} : SqT K H a xs → RpAll K H xs ds → Rp K H (.ref a) (.tup ds)
inductive RpAll (K : PySem.W.Frag) (H : Hp) : List V → List D → Prop
  | nil : RpAll K H [] []
  | cons {v : V} {vs : List V} {d : D} {ds : List D} : Rp K H v d → RpAll K H vs ds → RpAll K H (v :: vs) (d :: ds)
end
mutual
def D.py : D → PyData
  | .non => .none
  | .bl b => .bool b
  | .int i => .int i
  | .str s => .str s
  | .tup ds => .tuple (D.pys ds)
def D.pys : List D → List PyData
  | [] => []
  | d :: ds => d.py :: D.pys ds
end
section
variable {K : PySem.W.Frag} {H H' : Hp}
mutual
theorem Rp.dp : ∀ {d : D} {v : V}, Rp K H v d → Dp K H v d.py
  | _, _, .non => .non
  | _, _, .bl b => .bl b
  | _, _, .int i => .int i
  | _, _, .str s => .str s
  | _, _, .tup h a => .tup h (RpAll.dp a)
theorem RpAll.dp : ∀ {ds : List D} {vs : List V}, RpAll K H vs ds → DpAll K H vs (D.pys ds)
  | _, _, .nil => .nil
  | _, _, .cons h t => .cons (Rp.dp h) (RpAll.dp t)
end

/-! ### heaps that grow: all but the lists named in S stands -/
structure Ext (S : List Addr) (H H' : Hp) : Prop where
  keep : ∀ b o, H b = some o → b ∉ S → H' b = some o
  tup : ∀ b xs, H b = some (.tup xs) → H' b = some (.tup xs)
  frz : ∀ b o u, H b = some (.frz o u) → H' b = some (.frz o u)
theorem Ext.refl {S} : Ext S H H := ⟨fun _ _ h _ => h, fun _ _ h => h, fun _ _ _ h => h⟩
theorem Ext.trans {S} {H1 H2 H3 : Hp} (a : Ext S H1 H2) (b : Ext S H2 H3) : Ext S H1 H3 :=
  ⟨fun c o h n => b.keep c o (a.keep c o h n) n, fun c x h => b.tup c x (a.tup c x h), fun c o u h => b.frz c o u (a.frz c o u h)⟩
theorem Ext.wide {S T : List Addr} (a : Ext S H H') (h : ∀ x, x ∈ S → x ∈ T) : Ext T H H' :=
  ⟨fun c o e n => a.keep c o e (fun z => n (h c z)), a.tup, a.frz⟩
theorem Ext.of_same {S} (a : Same H H') : Ext S H H' := ⟨fun c o h _ => a c o h, fun c x h => a c _ h, fun c o u h => a c _ h⟩
theorem Ext.same (a : Ext [] H H') : Same H H' := fun c o h => a.keep c o h (by simp)
theorem Ext.any {S} (a : Ext [] H H') : Ext S H H' := Ext.of_same a.same
theorem Ext.new {S} {p : Addr} {o : HO} (h : H p = none) : Ext S H (upd H p o) :=
  Ext.of_same fun b u e => by rw [upd_ne (ne_of_none e h)]; exact e
theorem Ext.new2 {S} {H0 : Hp} {p : Addr} {o : HO} (a : Ext S H0 H) (h : H p = none) : Ext S H0 (upd H p o) := a.trans (Ext.new h)
/-- a list is changed -/
theorem Ext.put {S} {p : Addr} {xs ys : List V} (h : H p = some (.lst xs)) (hs : p ∈ S) : Ext S H (upd H p (.lst ys)) :=
  ⟨fun b u e n => by rw [upd_ne (fun z => n (by rw [z]; exact hs))]; exact e,
   fun b xs e => by rw [upd_ne (fun z => by rw [z, h] at e; cases e)]; exact e,
   fun b o u e => by rw [upd_ne (fun z => by rw [z, h] at e; cases e)]; exact e⟩
/-- a list that was not there before is changed -/
theorem Ext.putNew {S} {H0 : Hp} {p : Addr} {xs ys : List V} (a : Ext S H0 H) (h0 : H0 p = none) (h : H p = some (.lst xs)) : Ext S H0 (upd H p (.lst ys)) :=
  ⟨fun b u e n => by rw [upd_ne (ne_of_none e h0)]; exact a.keep b u e n,
   fun b xs e => by rw [upd_ne (ne_of_none e h0)]; exact a.tup b xs e,
   fun b o u e => by rw [upd_ne (ne_of_none e h0)]; exact a.frz b o u e⟩
theorem Ext.put2 {S} {H0 : Hp} {p : Addr} {xs ys : List V} (a : Ext S H0 H) (h : H p = some (.lst xs)) (hs : p ∈ S) : Ext S H0 (upd H p (.lst ys)) := a.trans (Ext.put h hs)
theorem Ext.sqt {S} {a : Addr} {xs : List V} (e : Ext S H H') (h : SqT K H a xs) : SqT K H' a xs := by
  rcases h with (h | ⟨o, h⟩) | h
  · exact .inl (.inl (e.tup _ _ h))
  · exact .inl (.inr ⟨o, e.frz _ _ _ h⟩)
  · exact .inr h
theorem Ext.free {S} {p : Addr} (e : Ext S H H') (h : H' p = none) (hs : p ∉ S) : H p = none := by
  cases q : H p with
  | none => rfl
  | some o => rw [e.keep p o q hs] at h; cases h
mutual
theorem Rp.mono {S} (e : Ext S H H') : ∀ {d : D} {v : V}, Rp K H v d → Rp K H' v d
  | _, _, .non => .non
  | _, _, .bl b => .bl b
  | _, _, .int i => .int i
  | _, _, .str s => .str s
  | _, _, .tup h a => .tup (e.sqt h) (RpAll.mono e a)
theorem RpAll.mono {S} (e : Ext S H H') : ∀ {ds : List D} {vs : List V}, RpAll K H vs ds → RpAll K H' vs ds
  | _, _, .nil => .nil
  | _, _, .cons h t => .cons (Rp.mono e h) (RpAll.mono e t)
end
theorem Rp.new {p : Addr} {xs : List V} {ds : List D} (h : RpAll K H xs ds) (hp : H p = none) : Rp K (upd H p (.tup xs)) (.ref p) (.tup ds) :=
  .tup (SqT.of upd_same) (RpAll.mono (Ext.new (S := []) hp) h)
theorem RpAll.length : ∀ {ds : List D} {vs : List V}, RpAll K H vs ds → vs.length = ds.length
  | _, _, .nil => rfl
  | _, _, .cons _ t => congrArg (· + 1) (RpAll.length t)
theorem RpAll.get : ∀ {ds : List D} {vs : List V} {i : Nat} {v : V}, RpAll K H vs ds → vs[i]? = some v → ∃ d, ds[i]? = some d ∧ Rp K H v d
  | _, _, _, _, .nil, e => by simp at e
  | _, _, 0, _, .cons h _, e => by simp at e; subst e; exact ⟨_, rfl, h⟩
  | _, _, i + 1, v, .cons _ t, e => by
    obtain ⟨d, h1, h2⟩ := RpAll.get (i := i) (v := v) t (by simpa using e)
    exact ⟨d, by simpa using h1, h2⟩
theorem RpAll.getD : ∀ {ds : List D} {vs : List V} {i : Nat} {d : D}, RpAll K H vs ds → ds[i]? = some d → ∃ v, vs[i]? = some v ∧ Rp K H v d
  | _, _, _, _, .nil, e => by simp at e
  | _, _, 0, _, .cons h _, e => by simp at e; subst e; exact ⟨_, rfl, h⟩
  | _, _, i + 1, d, .cons _ t, e => by
    obtain ⟨v, h1, h2⟩ := RpAll.getD (i := i) (d := d) t (by simpa using e)
    exact ⟨v, by simpa using h1, h2⟩
theorem RpAll.append : ∀ {ds es : List D} {vs us : List V}, RpAll K H vs ds → RpAll K H us es → RpAll K H (vs ++ us) (ds ++ es)
  | _, _, _, _, .nil, s => s
  | _, _, _, _, .cons h t, s => .cons h (RpAll.append t s)
theorem RpAll.take : ∀ {ds : List D} {vs : List V} (n : Nat), RpAll K H vs ds → RpAll K H (vs.take n) (ds.take n)
  | _, _, 0, _ => .nil
  | _, _, _ + 1, .nil => .nil
  | _, _, n + 1, .cons h t => .cons h (RpAll.take n t)
theorem RpAll.drop : ∀ {ds : List D} {vs : List V} (n : Nat), RpAll K H vs ds → RpAll K H (vs.drop n) (ds.drop n)
  | _, _, 0, h => h
  | _, _, _ + 1, .nil => .nil
  | _, _, n + 1, .cons _ t => RpAll.drop n t
theorem Rp.tupI {v : V} {ds : List D} (h : Rp K H v (.tup ds)) : ∃ a xs, v = .ref a ∧ SqT K H a xs ∧ RpAll K H xs ds := by
  cases h with
  | tup h a => exact ⟨_, _, rfl, h, a⟩
theorem Rp.intI {v : V} {i : Int} (h : Rp K H v (.int i)) : v = .int i := by cases h; rfl
theorem Rp.strI {v : V} {i : Str} (h : Rp K H v (.str i)) : v = .str i := by cases h; rfl
theorem Rp.blI {v : V} {i : Bool} (h : Rp K H v (.bl i)) : v = .bl i := by cases h; rfl
theorem Rp.nonI {v : V} (h : Rp K H v .non) : v = .non := by cases h; rfl
end

/-! ### equality of data: ints, texts, tuples of them -/
mutual
def D.eqv : D → D → Bool
  | .non, .non => true
  | .bl a, .bl b => a == b
  | .bl a, .int j => (if a then 1 else 0) == j
  | .int i, .bl b => i == (if b then 1 else 0)
  | .int i, .int j => i == j
  | .str x, .str y => x == y
  | .tup xs, .tup ys => D.eqvs xs ys
  | .non, .bl _ | .non, .int _ | .non, .str _ | .non, .tup _ => false
  | .bl _, .non | .bl _, .str _ | .bl _, .tup _ => false
  | .int _, .non | .int _, .str _ | .int _, .tup _ => false
  | .str _, .non | .str _, .bl _ | .str _, .int _ | .str _, .tup _ => false
  | .tup _, .non | .tup _, .bl _ | .tup _, .int _ | .tup _, .str _ => false
def D.eqvs : List D → List D → Bool
  | [], [] => true
  | x :: xs, y :: ys => D.eqv x y && D.eqvs xs ys
  | [], _ :: _ => false
  | _ :: _, [] => false
end
mutual
theorem D.eqv_py : ∀ d e : D, PyData.eqv d.py e.py = D.eqv d e
  | .non, e => by cases e <;> rfl
  | .bl _, e => by cases e <;> rfl
  | .int _, e => by cases e <;> rfl
  | .str _, e => by cases e <;> rfl
  | .tup xs, .tup ys => by
    have h := D.eqvs_py xs ys
    simpa [D.py, PyData.eqv, D.eqv] using h
  | .tup _, .non => rfl
  | .tup _, .bl _ => rfl
  | .tup _, .int _ => rfl
  | .tup _, .str _ => rfl
theorem D.eqvs_py : ∀ ds es : List D, PyData.eqvAll (D.pys ds) (D.pys es) = D.eqvs ds es
  | [], [] => rfl
  | [], _ :: _ => rfl
  | _ :: _, [] => rfl
  | d :: ds, e :: es => by
    have h1 := D.eqv_py d e
    have h2 := D.eqvs_py ds es
    simp only [D.pys, PyData.eqvAll, D.eqvs, h1, h2]
end
mutual
/-- no bool within -/
def D.nb : D → Bool
  | .bl _ => false
  | .tup ds => D.nbs ds
  | _ => true
def D.nbs : List D → Bool
  | [] => true
  | d :: ds => d.nb && D.nbs ds
end
mutual
theorem D.eqv_iff : ∀ d e : D, d.nb = true → e.nb = true → (D.eqv d e = true ↔ d = e)
  | .non, e, _, h => by cases e <;> simp [D.eqv]
  | .bl _, e, h, _ => by simp [D.nb] at h
  | .int _, e, _, h => by cases e <;> simp [D.eqv, D.nb] at h ⊢
  | .str _, e, _, h => by cases e <;> simp [D.eqv]
  | .tup xs, .tup ys, h1, h2 => by
    simp only [D.nb] at h1 h2
    have h := D.eqvs_iff xs ys h1 h2
    simp [D.eqv, h]
  | .tup _, .non, _, _ => by simp [D.eqv]
  | .tup _, .bl _, _, h => by simp [D.nb] at h
  | .tup _, .int _, _, _ => by simp [D.eqv]
  | .tup _, .str _, _, _ => by simp [D.eqv]
theorem D.eqvs_iff : ∀ ds es : List D, D.nbs ds = true → D.nbs es = true → (D.eqvs ds es = true ↔ ds = es)
  | [], [], _, _ => by simp [D.eqvs]
  | [], _ :: _, _, _ => by simp [D.eqvs]
  | _ :: _, [], _, _ => by simp [D.eqvs]
  | d :: ds, e :: es, h1, h2 => by
    simp only [D.nbs, Bool.and_eq_true] at h1 h2
    have a := D.eqv_iff d e h1.1 h2.1
    have b := D.eqvs_iff ds es h1.2 h2.2
    simp [D.eqvs, a, b]
end
mutual
theorem D.eqv_symm : ∀ d e : D, D.eqv d e = D.eqv e d
  | .non, e => by cases e <;> rfl
  | .bl a, e => by cases e <;> first | rfl | exact BEq.comm
  | .int a, e => by cases e <;> first | rfl | exact BEq.comm
  | .str a, e => by cases e <;> first | rfl | exact BEq.comm
  | .tup xs, .tup ys => by
    have h := D.eqvs_symm xs ys
    simp [D.eqv, h]
  | .tup _, .non => rfl
  | .tup _, .bl _ => rfl
  | .tup _, .int _ => rfl
  | .tup _, .str _ => rfl
theorem D.eqvs_symm : ∀ ds es : List D, D.eqvs ds es = D.eqvs es ds
  | [], [] => rfl
  | [], _ :: _ => rfl
  | _ :: _, [] => rfl
  | d :: ds, e :: es => by
    have h1 := D.eqv_symm d e
    have h2 := D.eqvs_symm ds es
    simp only [D.eqvs, h1, h2]
end
mutual
def D.dep : D → Nat
  | .tup ds => D.deps ds + 1
  | _ => 0
def D.deps : List D → Nat
  | [] => 0
  | d :: ds => max d.dep (D.deps ds)
end
mutual
theorem D.depth_py : ∀ d : D, d.py.depth = d.dep
  | .non => by simp [D.py, D.dep, PyData.depth]
  | .bl _ => by simp [D.py, D.dep, PyData.depth]
  | .int _ => by simp [D.py, D.dep, PyData.depth]
  | .str _ => by simp [D.py, D.dep, PyData.depth]
  | .tup ds => by
    have h := D.depths_py ds
    simp [D.py, D.dep, PyData.depth, h]
theorem D.depths_py : ∀ ds : List D, PyData.depthAll (D.pys ds) = D.deps ds
  | [] => by simp [D.pys, D.deps, PyData.depthAll]
  | d :: ds => by
    have h1 := D.depth_py d
    have h2 := D.depths_py ds
    simp [D.pys, D.deps, PyData.depthAll, h1, h2]
end
mutual
/-- its texts can be laid -/
def D.sok : D → Bool
  | .str s => PyData.strOk s
  | .tup ds => D.soks ds
  | _ => true
def D.soks : List D → Bool
  | [] => true
  | d :: ds => d.sok && D.soks ds
end
mutual
theorem D.lay_py : ∀ d : D, PyData.canLay0 d.py = d.sok
  | .non => by simp [D.py, PyData.canLay0, D.sok]
  | .bl _ => by simp [D.py, PyData.canLay0, D.sok]
  | .int _ => by simp [D.py, PyData.canLay0, D.sok]
  | .str _ => by simp [D.py, PyData.canLay0, D.sok]
  | .tup ds => by
    have h := D.lays_py ds
    simp [D.py, PyData.canLay0, D.sok, h]
theorem D.lays_py : ∀ ds : List D, PyData.canLayAll0 (D.pys ds) = D.soks ds
  | [] => by simp [D.pys, PyData.canLayAll0, D.soks]
  | d :: ds => by
    have h1 := D.lay_py d
    have h2 := D.lays_py ds
    simp [D.pys, PyData.canLayAll0, D.soks, h1, h2]
end
/-- data that == is asked of: no bool, texts that can be laid, not too deep -/
structure D.Eq (d : D) : Prop where
  nb : d.nb = true
  sok : d.sok = true
  dep : d.dep ≤ 64
theorem D.shaped {d : D} (h1 : d.sok = true) (h : d.dep ≤ 64) : SeqAt.shaped d.py = true := by
  unfold SeqAt.shaped
  rw [D.lay_py, D.depth_py, h1]
  simpa using h

theorem D.soks_take : ∀ {ds : List D} (n : Nat), D.soks ds = true → D.soks (ds.take n) = true
  | _, 0, _ => rfl
  | [], _ + 1, _ => rfl
  | d :: ds, n + 1, h => by
    simp only [D.soks, Bool.and_eq_true, List.take_succ_cons] at h ⊢
    exact ⟨h.1, D.soks_take n h.2⟩
theorem D.deps_take : ∀ (ds : List D) (n : Nat), D.deps (ds.take n) ≤ D.deps ds
  | _, 0 => by simp [D.deps]
  | [], _ + 1 => by simp [D.deps]
  | d :: ds, n + 1 => by
    have h := D.deps_take ds n
    simp only [D.deps, List.take_succ_cons]
    omega
theorem D.soks_append : ∀ {ds es : List D}, D.soks ds = true → D.soks es = true → D.soks (ds ++ es) = true
  | [], _, _, h => h
  | d :: ds, es, h, h' => by
    simp only [D.soks, Bool.and_eq_true, List.cons_append] at h ⊢
    exact ⟨h.1, D.soks_append h.2 h'⟩
theorem D.deps_append : ∀ (ds es : List D), D.deps (ds ++ es) = max (D.deps ds) (D.deps es)
  | [], es => by simp [D.deps]
  | d :: ds, es => by
    have h := D.deps_append ds es
    simp only [D.deps, List.cons_append, h]
    omega

/-! ### tuples and frozen things alone stand -/
structure Tst (H H' : Hp) : Prop where
  tup : ∀ b xs, H b = some (.tup xs) → H' b = some (.tup xs)
  frz : ∀ b o u, H b = some (.frz o u) → H' b = some (.frz o u)
section
variable {K : PySem.W.Frag} {H H' H1 H2 H3 : Hp} {S : List Addr}
theorem Tst.refl : Tst H H := ⟨fun _ _ h => h, fun _ _ _ h => h⟩
theorem Tst.trans (a : Tst H1 H2) (b : Tst H2 H3) : Tst H1 H3 := ⟨fun c x h => b.tup c x (a.tup c x h), fun c o u h => b.frz c o u (a.frz c o u h)⟩
theorem Ext.ts (e : Ext S H H') : Tst H H' := ⟨e.tup, e.frz⟩
theorem Tst.ext (e : Tst H H') : Ext [] H' H' := Ext.refl
theorem Tst.sqt {a : Addr} {xs : List V} (e : Tst H H') (h : SqT K H a xs) : SqT K H' a xs := by
  rcases h with (h | ⟨o, h⟩) | h
  · exact .inl (.inl (e.tup _ _ h))
  · exact .inl (.inr ⟨o, e.frz _ _ _ h⟩)
  · exact .inr h
mutual
theorem Rp.ts (e : Tst H H') : ∀ {d : D} {v : V}, Rp K H v d → Rp K H' v d
  | _, _, .non => .non
  | _, _, .bl b => .bl b
  | _, _, .int i => .int i
  | _, _, .str s => .str s
  | _, _, .tup h a => .tup (e.sqt h) (RpAll.ts e a)
theorem RpAll.ts (e : Tst H H') : ∀ {ds : List D} {vs : List V}, RpAll K H vs ds → RpAll K H' vs ds
  | _, _, .nil => .nil
  | _, _, .cons h t => .cons (Rp.ts e h) (RpAll.ts e t)
end
theorem Ext.out {H0 : Hp} {l : Addr} (a : Ext S H0 H) (h0 : H0 l = none) (e : Ext [l] H H') : Ext S H0 H' :=
  ⟨fun b u q n => e.keep b u (a.keep b u q n) (by simp; exact ne_of_none q h0), fun b xs q => e.tup b xs (a.tup b xs q), fun b o u q => e.frz b o u (a.frz b o u q)⟩
theorem Ext.in1 {H0 : Hp} {l : Addr} (a : Ext S H0 H) (h0 : l ∈ S) (e : Ext [l] H H') : Ext S H0 H' := a.trans (e.wide (by simpa using h0))
theorem Ext.more {H0 : Hp} (a : Ext S H0 H) (e : Ext [] H H') : Ext S H0 H' := a.trans e.any
end

/-! ### one step of a reading, by the head of what stands there -/
section
variable {σ : St} {H : Hp} {Q : VK} {D0 : Ends} {ta tb te : TE} {t1 t2 ts : TS} {i : Nat} {v x y : V} {K : PySem.W.Frag}
theorem w_seq (h : t1 { D0 with nx := t2 D0 } σ H) : tSeq t1 t2 D0 σ H := h
/-- one statement behind another, with a word M between the two where one wants one -/
def tSeqJ (t u : TS) : TS := fun D σ H => ∃ M : St → Hp → Prop, t { D with nx := M } σ H ∧ ∀ σ' H', M σ' H' → u D σ' H'
theorem w_seqJ (h : t1 { D0 with nx := t2 D0 } σ H) : tSeqJ t1 t2 D0 σ H := ⟨_, h, fun _ _ q => q⟩
theorem w_seqA {g : TG} (h : tAsg te g { D0 with nx := t2 D0 } σ H) : tSeqJ (tAsg te g) t2 D0 σ H := w_seqJ h
theorem w_seqD (h : tDrop te { D0 with nx := t2 D0 } σ H) : tSeqJ (tDrop te) t2 D0 σ H := w_seqJ h
theorem w_next (h : D0.nx σ H) : tNext D0 σ H := h
theorem w_break (h : D0.bk σ H) : tBreak D0 σ H := h
theorem w_cont (h : D0.ct σ H) : tCont D0 σ H := h
theorem w_asg {g : TG} (h : te σ H fun x H1 => g x σ H1 D0.nx) : tAsg te g D0 σ H := h
theorem w_name {Q : St → Hp → Prop} (h : Q (σ.set i (some v)) H) : gName i v σ H Q := h
theorem w_drop (h : te σ H fun _ H1 => D0.nx σ H1) : tDrop te D0 σ H := h
theorem w_ret (h : te σ H D0.rt) : tRet te D0 σ H := h
theorem w_retN (h : D0.rt .non H) : tRetN D0 σ H := h
theorem w_ifS {c : TT} (h : c σ H fun b H1 => if b = true then t1 D0 σ H1 else t2 D0 σ H1) : tIfS c t1 t2 D0 σ H := h
theorem w_test {Q : Bool → Hp → Prop} (h : te σ H fun x H' => ∃ k, x = .bl k ∧ Q k H') : tTest te σ H Q := h
theorem w_tB {Q : Bool → Hp → Prop} (h : te σ H fun x H' => ∃ k, x = .bl k ∧ Q k H') : tB te σ H Q := h
theorem w_exbl {A : Bool → Prop} {b : Bool} (h : A b) : ∃ k, V.bl b = .bl k ∧ A k := ⟨b, rfl, h⟩
theorem w_and {c d : TT} {Q : Bool → Hp → Prop} (h : c σ H fun k H1 => if k = true then d σ H1 Q else Q false H1) : tAnd c d σ H Q := h
theorem w_or {c d : TT} {Q : Bool → Hp → Prop} (h : c σ H fun k H1 => if k = true then Q true H1 else d σ H1 Q) : tOr c d σ H Q := h
theorem w_not {c : TT} {Q : Bool → Hp → Prop} (h : c σ H fun k H1 => Q (!k) H1) : tNot c σ H Q := h
theorem w_andV (h : ta σ H fun x H1 => ∃ c, x = .bl c ∧ if c = true then tb σ H1 Q else Q (.bl false) H1) : tAndV ta tb σ H Q := h
theorem w_orV (h : ta σ H fun x H1 => ∃ c, x = .bl c ∧ if c = true then Q (.bl true) H1 else tb σ H1 Q) : tOrV ta tb σ H Q := h
theorem w_notV (h : ta σ H fun x H1 => ∃ c, x = .bl c ∧ Q (.bl (!c)) H1) : tNotV ta σ H Q := h
theorem w_if {c : TT} (h : c σ H fun k H1 => if k = true then ta σ H1 Q else tb σ H1 Q) : tIf c ta tb σ H Q := h
theorem w_var (e : σ[i]? = some (some v)) (h : Q v H) : tVar i σ H Q := ⟨v, e, h⟩
theorem w_c (h : Q v H) : tC v σ H Q := h
theorem w_op {r : R2} (h : ta σ H fun x H1 => tb σ H1 fun y H2 => r x y H2 Q) : tOp r ta tb σ H Q := h
theorem w_un {r : V → Hp → VK → Prop} (h : ta σ H fun x H1 => r x H1 Q) : tUn r ta σ H Q := h
theorem w_cb {r : List V → Hp → VK → Prop} {t : TA} (h : t σ H fun vs H1 => r vs H1 Q) : tCB r t σ H Q := h
theorem w_cons {t : TA} {Q : List V → Hp → Prop} (h : ta σ H fun x H1 => t σ H1 fun xs H2 => Q (x :: xs) H2) : tCons ta t σ H Q := h
theorem w_nil {Q : List V → Hp → Prop} (h : Q [] H) : tNil σ H Q := h
theorem w_call {sp : Sp} {E : XK} {t : TA} (h : t σ H fun vs H1 => sp vs H1 Q E) : tCall sp [] E t σ H Q := by
  show t σ H fun vs H1 => sp (vs ++ []) H1 Q E
  have e : (fun (vs : List V) (H1 : Hp) => sp (vs ++ []) H1 Q E) = fun vs H1 => sp vs H1 Q E := by
    funext vs H1
    rw [List.append_nil]
  rw [e]
  exact h
def NewT (_ : PySem.W.Frag) (xs : List V) (H : Hp) (Q : VK) : Prop := xs.length ≤ sizeLine ∧ ∀ p, H p = none → Q (.ref p) (upd H p (.tup xs))
def NewL (xs : List V) (H : Hp) (Q : VK) : Prop := xs.length ≤ sizeLine ∧ ∀ p, H p = none → Q (.ref p) (upd H p (.lst xs))
def tTupK (_ : PySem.W.Frag) (t : TA) : TE := tTup t
theorem w_tup {t : TA} (h : t σ H fun xs H1 => NewT K xs H1 Q) : tTupK K t σ H Q := h
theorem w_lst {t : TA} (h : t σ H fun xs H1 => NewL xs H1 Q) : tLst t σ H Q := h
theorem w_newT {xs : List V} {ds : List D} (h : RpAll K H xs ds) (hl : ds.length ≤ sizeLine) (q : ∀ v H', Ext [] H H' → Rp K H' v (.tup ds) → Q v H') : NewT K xs H Q :=
  ⟨by rw [h.length]; exact hl, fun p hp => q _ _ (Ext.new hp) (Rp.new h hp)⟩
theorem w_newL {xs : List V} (hl : xs.length ≤ sizeLine) (q : ∀ p H', H p = none → Ext [] H H' → H' p = some (.lst xs) → Q (.ref p) H') : NewL xs H Q :=
  ⟨hl, fun p hp => q p _ hp (Ext.new hp) upd_same⟩
theorem w_sub {to ti : TE} {t : TSet} {Q : St → Hp → Prop} (h : to σ H fun o H1 => ti σ H1 fun i H2 => t o i v H2 fun H3 => Q σ H3) : gSub to ti t v σ H Q := h
theorem w_bm {T : String} {r : V → List V → Hp → VK → Prop} {t : TA} (h : ta σ H fun x H1 => tyV K T x H1 ∧ t σ H1 fun xs H2 => r x xs H2 Q) : tBM K T r ta t σ H Q := h
theorem w_sl {r : V → Option Int → Option Int → Hp → VK → Prop} {tl th : TO} (h : te σ H fun x H1 => tl σ H1 fun l H2 => th σ H2 fun u H3 => r x l u H3 Q) : tSl r te tl th σ H Q := h
theorem w_noPart {Q : Option Int → Hp → Prop} (h : Q none H) : tNoPart σ H Q := h
theorem w_part {Q : Option Int → Hp → Prop} (h : te σ H fun x H1 => ∃ i, x = .int i ∧ Q (some i) H1) : tPart te σ H Q := h
theorem w_exint {A : Int → Prop} {j : Int} (h : A j) : ∃ i, V.int j = .int i ∧ A i := ⟨j, rfl, h⟩

/-! ### branches -/
theorem w_iteT {c : Bool} {A B : Prop} (e : c = true) (h : A) : if c = true then A else B := by rw [if_pos e]; exact h
theorem w_iteF {c : Bool} {A B : Prop} (e : c = false) (h : B) : if c = true then A else B := by rw [if_neg (by rw [e]; exact Bool.false_ne_true)]; exact h
theorem w_ite {c : Bool} {A B : Prop} (h1 : c = true → A) (h2 : c = false → B) : if c = true then A else B := by
  cases c with
  | true => exact h1 rfl
  | false => exact h2 rfl
theorem w_iteD {P : Prop} [Decidable P] {A B : Prop} (h1 : P → A) (h2 : ¬ P → B) : if decide P = true then A else B := by
  by_cases h : P
  · rw [if_pos (decide_eq_true h)]; exact h1 h
  · rw [if_neg (by simpa using h)]; exact h2 h
theorem w_iteND {P : Prop} [Decidable P] {A B : Prop} (h1 : ¬ P → A) (h2 : P → B) : if (!decide P) = true then A else B := by
  by_cases h : P
  · rw [if_neg (by simpa using h)]; exact h2 h
  · rw [if_pos (by simpa using h)]; exact h1 h

/-! ### values: ints -/
theorem r_i0 {g : Int → Int → V} {i j : Int} (h : Q (g i j) H) : rI0 g (.int i) (.int j) H Q := ⟨i, j, rfl, rfl, h⟩
theorem r_iC {C : Int → Int → Prop} {g : Int → Int → V} {i j : Int} (c : C i j) (h : Q (g i j) H) : rI C g (.int i) (.int j) H Q := ⟨i, j, rfl, rfl, c, h⟩
theorem r_u {g : Int → V} {i : Int} (h : Q (g i) H) : rU g (.int i) H Q := ⟨i, rfl, h⟩
def rAddI : R2 := rI0 fun i j => .int (i + j)
def rSubI : R2 := rI0 fun i j => .int (i - j)
def rMulI : R2 := rI CMul fun i j => .int (i * j)
def rDivI : R2 := rI CDiv fun i j => .int (i / j)
def rModI : R2 := rI (fun _ j => 0 < j) fun i j => .int (i % j)
def rLtI : R2 := rI0 fun i j => .bl (decide (i < j))
def rLeI : R2 := rI0 fun i j => .bl (decide (i ≤ j))
def rGtI : R2 := rI0 fun i j => .bl (decide (j < i))
def rGeI : R2 := rI0 fun i j => .bl (decide (j ≤ i))
theorem r_sub {i j : Int} (h : Q (.int (i - j)) H) : rSubI (.int i) (.int j) H Q := r_i0 h
theorem r_mul {i j : Int} (c : CMul i j) (h : Q (.int (i * j)) H) : rMulI (.int i) (.int j) H Q := r_iC c h
theorem r_div {i j : Int} (c : CDiv i j) (h : Q (.int (i / j)) H) : rDivI (.int i) (.int j) H Q := r_iC c h
theorem r_mod {i j : Int} (c : 0 < j) (h : Q (.int (i % j)) H) : rModI (.int i) (.int j) H Q := r_iC c h
theorem r_lt {i j : Int} (h : Q (.bl (decide (i < j))) H) : rLtI (.int i) (.int j) H Q := r_i0 h
theorem r_le {i j : Int} (h : Q (.bl (decide (i ≤ j))) H) : rLeI (.int i) (.int j) H Q := r_i0 h
theorem r_gt {i j : Int} (h : Q (.bl (decide (j < i))) H) : rGtI (.int i) (.int j) H Q := r_i0 h
theorem r_ge {i j : Int} (h : Q (.bl (decide (j ≤ i))) H) : rGeI (.int i) (.int j) H Q := r_i0 h
theorem cmul_r {i j : Int} (h1 : -18446744073709551616 < j) (h2 : j < 18446744073709551616) : CMul i j := .inr ⟨by omega, by omega⟩
theorem cmul_l {i j : Int} (h1 : -18446744073709551616 < i) (h2 : i < 18446744073709551616) : CMul i j := .inl ⟨by omega, by omega⟩

/-! ### + of ints, texts, tuples, lists -/
def rAddS : R2 := fun x y H Q => ∃ i j, x = .str i ∧ y = .str j ∧ i.length + j.length ≤ sizeLine ∧ Q (.str (i ++ j)) H
def rAddG (K : PySem.W.Frag) : R2 := fun x y H Q => rAddI x y H Q ∨ rAddS x y H Q ∨ rCatA K x y H Q ∨ rCat x y H Q
theorem a_int {i j : Int} (h : Q (.int (i + j)) H) : rAddG K (.int i) (.int j) H Q := .inl (r_i0 h)
theorem a_str {i j : Str} (hl : i.length + j.length ≤ sizeLine) (h : Q (.str (i ++ j)) H) : rAddG K (.str i) (.str j) H Q := .inr (.inl ⟨i, j, rfl, rfl, hl, h⟩)
theorem a_tup {ds es : List D} (hx : Rp K H x (.tup ds)) (hy : Rp K H y (.tup es)) (hl : ds.length + es.length ≤ sizeLine) (h : ∀ v H', Ext [] H H' → Rp K H' v (.tup (ds ++ es)) → Q v H') : rAddG K x y H Q := by
  obtain ⟨a, xs, rfl, h1, h2⟩ := hx.tupI
  obtain ⟨b, ys, rfl, h3, h4⟩ := hy.tupI
  refine .inr (.inr (.inl ⟨a, b, xs, ys, rfl, rfl, h1, h3, by rw [h2.length, h4.length]; exact hl, fun e => ?_, fun _ e => ?_, fun _ _ p hp => ?_⟩))
  · subst e
    cases h2
    exact h _ _ Ext.refl (.tup h3 h4)
  · subst e
    cases h4
    refine h _ _ Ext.refl ?_
    rw [List.append_nil]
    exact .tup h1 h2
  · exact h _ _ (Ext.new hp) (Rp.new (h2.append h4) hp)
theorem a_lst {l b : Addr} {xs zs : List V} (h1 : H l = some (.lst xs)) (h2 : H b = some (.lst zs)) (hl : xs.length + zs.length ≤ sizeLine) (h : ∀ p H', H p = none → Ext [] H H' → H' p = some (.lst (xs ++ zs)) → Q (.ref p) H') : rAddG K (.ref l) (.ref b) H Q :=
  .inr (.inr (.inr ⟨l, b, xs, zs, rfl, rfl, h1, h2, hl, fun p hp => h p _ hp (Ext.new hp) upd_same⟩))

/-! ### == -/
def rEqG (K : PySem.W.Frag) : R2 := fun x y H Q => rEq x y H Q ∨ rEqD K x y H Q
def rNeG (K : PySem.W.Frag) : R2 := fun x y H Q => rNe x y H Q ∨ rNeD K x y H Q
theorem e_scal (s : scal x y = true) (h : Q (.bl (decide (x = y))) H) : rEqG K x y H Q := .inl ⟨s, h⟩
theorem n_scal (s : scal x y = true) (h : Q (.bl (!decide (x = y))) H) : rNeG K x y H Q := .inl ⟨s, h⟩
theorem dec_vs {i j : Str} : decide (V.str i = V.str j) = decide (i = j) := by
  rw [Bool.eq_iff_iff]
  simp
theorem dec_vi {i j : Int} : decide (V.int i = V.int j) = decide (i = j) := by
  rw [Bool.eq_iff_iff]
  simp
theorem e_str {i j : Str} (h : Q (.bl (decide (i = j))) H) : rEqG K (.str i) (.str j) H Q := .inl ⟨rfl, by rw [dec_vs]; exact h⟩
theorem e_int {i j : Int} (h : Q (.bl (decide (i = j))) H) : rEqG K (.int i) (.int j) H Q := .inl ⟨rfl, by rw [dec_vi]; exact h⟩
theorem e_is {i : Int} {j : Str} (h : Q (.bl false) H) : rEqG K (.int i) (.str j) H Q := .inl ⟨rfl, by simpa using h⟩
theorem e_si {i : Int} {j : Str} (h : Q (.bl false) H) : rEqG K (.str j) (.int i) H Q := .inl ⟨rfl, by simpa using h⟩
theorem n_str {i j : Str} (h : Q (.bl (!decide (i = j))) H) : rNeG K (.str i) (.str j) H Q := .inl ⟨rfl, by rw [dec_vs]; exact h⟩
theorem n_int {i j : Int} (h : Q (.bl (!decide (i = j))) H) : rNeG K (.int i) (.int j) H Q := .inl ⟨rfl, by rw [dec_vi]; exact h⟩
theorem e_D {d e : D} (hx : Rp K H x d) (hy : Rp K H y e) (h1 : d.sok = true) (h2 : d.dep ≤ 64) (h3 : e.sok = true) (h4 : e.dep ≤ 64) (h : Q (.bl (D.eqv d e)) H) : rEqG K x y H Q :=
  .inr ⟨_, _, hx.dp, hy.dp, D.shaped h1 h2, D.shaped h3 h4, by rw [D.eqv_py]; exact h⟩
theorem n_D {d e : D} (hx : Rp K H x d) (hy : Rp K H y e) (h1 : d.sok = true) (h2 : d.dep ≤ 64) (h3 : e.sok = true) (h4 : e.dep ≤ 64) (h : Q (.bl (!D.eqv d e)) H) : rNeG K x y H Q :=
  .inr ⟨_, _, hx.dp, hy.dp, D.shaped h1 h2, D.shaped h3 h4, by rw [D.eqv_py]; exact h⟩

/-! ### subscripts, slices, len -/
theorem x_D {ds : List D} {i : Int} {d : D} (hx : Rp K H x (.tup ds)) (e : atI ds i = some d) (h : ∀ v, Rp K H v d → Q v H) : rIx K x (.int i) H Q := by
  obtain ⟨a, xs, rfl, h1, h2⟩ := hx.tupI
  unfold atI at e
  obtain ⟨j, hj, hd⟩ := Option.bind_eq_some_iff.mp e
  obtain ⟨v, hv, hr⟩ := h2.getD hd
  refine .inr (.inl ⟨a, xs, i, v, rfl, rfl, h1, ?_, h v hr⟩)
  unfold atI
  rw [h2.length, hj]
  exact hv
theorem x_Ds {ds : List D} {i : Int} {d : Str} (hx : Rp K H x (.tup ds)) (e : atI ds i = some (.str d)) (h : Q (.str d) H) : rIx K x (.int i) H Q := x_D hx e fun v r => by cases r; exact h
theorem x_Di {ds : List D} {i : Int} {d : Int} (hx : Rp K H x (.tup ds)) (e : atI ds i = some (.int d)) (h : Q (.int d) H) : rIx K x (.int i) H Q := x_D hx e fun v r => by cases r; exact h
theorem x_L {p : Addr} {xs : List V} {i : Int} (hx : SqL K H p xs) (e : atI xs i = some v) (h : Q v H) : rIx K (.ref p) (.int i) H Q := .inl ⟨p, xs, i, v, rfl, rfl, hx, e, h⟩
theorem x_l {p : Addr} {xs : List V} {i : Int} (hx : H p = some (.lst xs)) (e : atI xs i = some v) (h : Q v H) : rIx K (.ref p) (.int i) H Q := x_L (SqL.of hx) e h
def rSlG (K : PySem.W.Frag) : V → Option Int → Option Int → Hp → VK → Prop := fun x lo hi H Q => rSlL K x lo hi H Q ∨ rSlA K x lo hi H Q ∨ rSlS x lo hi H Q
def cutD {α : Type} (xs : List α) (lo hi : Option Int) : List α := (xs.drop (HT.sIx xs.length 0 lo)).take (HT.sIx xs.length xs.length hi - HT.sIx xs.length 0 lo)
theorem cutD_all {α : Type} {xs : List α} {lo hi : Option Int} (h : HT.sIx xs.length 0 lo = 0 ∧ HT.sIx xs.length xs.length hi = xs.length) : cutD xs lo hi = xs := by
  unfold cutD
  rw [h.1, h.2]
  simp
theorem cut_to {α : Type} (xs : List α) {n : Int} (h : 0 ≤ n) : cutD xs none (some n) = xs.take n.toNat := by
  obtain ⟨k, rfl⟩ : ∃ k : Nat, n = (k : Int) := ⟨n.toNat, by omega⟩
  unfold cutD
  rw [HT.sIx_none, HT.sIx_nat]
  simp [← List.take_eq_take_min]
theorem cut_from {α : Type} (xs : List α) {n : Int} (h : 0 ≤ n) : cutD xs (some n) none = xs.drop n.toNat := by
  obtain ⟨k, rfl⟩ : ∃ k : Nat, n = (k : Int) := ⟨n.toNat, by omega⟩
  unfold cutD
  rw [HT.sIx_none, HT.sIx_nat]
  by_cases hk : k ≤ xs.length
  · rw [Nat.min_eq_left hk]
    simp
    rw [List.take_of_length_le (by simp)]
  · rw [Nat.min_eq_right (by omega)]
    simp
    omega
theorem s_D {ds : List D} {lo hi : Option Int} (hx : Rp K H x (.tup ds)) (h : ∀ v H', Ext [] H H' → Rp K H' v (.tup (cutD ds lo hi)) → Q v H') : rSlG K x lo hi H Q := by
  obtain ⟨a, xs, rfl, h1, h2⟩ := hx.tupI
  refine .inr (.inl ⟨a, xs, rfl, h1, fun e => ?_, fun _ p hp => ?_⟩)
  · refine h _ _ Ext.refl ?_
    rw [h2.length] at e
    rw [cutD_all e]
    exact hx
  · refine h _ _ (Ext.new hp) (Rp.new ?_ hp)
    unfold cutV cutD
    rw [h2.length]
    exact (h2.drop _).take _
theorem s_L {p : Addr} {xs : List V} {lo hi : Option Int} (hx : SqL K H p xs) (h : ∀ q H', H q = none → Ext [] H H' → H' q = some (.lst (cutD xs lo hi)) → Q (.ref q) H') : rSlG K (.ref p) lo hi H Q :=
  .inl ⟨p, xs, rfl, hx, fun q hq => h q _ hq (Ext.new hq) upd_same⟩
def rLen (K : PySem.W.Frag) : List V → Hp → VK → Prop := fun xs H Q => ∃ x n, xs = [x] ∧ LenV K x H n ∧ Q (.int n) H
theorem l_D {ds : List D} (hx : Rp K H x (.tup ds)) (h : Q (.int ds.length) H) : rLen K [x] H Q := by
  obtain ⟨a, xs, rfl, h1, h2⟩ := hx.tupI
  exact ⟨_, _, rfl, .inr ⟨xs, h1, rfl⟩, by rw [h2.length]; exact h⟩
theorem l_L {p : Addr} {xs : List V} (hx : SqL K H p xs) (h : Q (.int xs.length) H) : rLen K [.ref p] H Q := ⟨_, _, rfl, .inl ⟨xs, hx, rfl⟩, h⟩
theorem l_l {p : Addr} {xs : List V} (hx : H p = some (.lst xs)) (h : Q (.int xs.length) H) : rLen K [.ref p] H Q := l_L (SqL.of hx) h
theorem l_s {s : Str} (hx : s.length ≤ sizeLine) (h : Q (.int s.length) H) : rLen K [.str s] H Q := ⟨_, _, rfl, ⟨hx, rfl⟩, h⟩

/-! ### is -/
def rIsNo : R2 := fun x y H Q => y = .non ∧ Q (.bl (decide (x = .non))) H
def rIsNN : R2 := fun x y H Q => y = .non ∧ Q (.bl (!decide (x = .non))) H
theorem i_n (h : Q (.bl (decide (x = .non))) H) : rIsNo x .non H Q := ⟨rfl, h⟩
theorem i_nn (h : Q (.bl (!decide (x = .non))) H) : rIsNN x .non H Q := ⟨rfl, h⟩
theorem i_b {a b : Bool} (h : Q (.bl (decide (a = b))) H) : rIsB (.bl a) (.bl b) H Q := ⟨a, b, rfl, rfl, h⟩
theorem i_nb {a b : Bool} (h : Q (.bl (!decide (a = b))) H) : rNotB (.bl a) (.bl b) H Q := ⟨a, b, rfl, rfl, h⟩

/-! ### built-ins of ints; tuple(list); list.append; xs[i] = v -/
def rAbs : List V → Hp → VK → Prop := fun xs H Q => ∃ i, xs = [.int i] ∧ Q (.int (if i < 0 then -i else i)) H
def rInt1 : List V → Hp → VK → Prop := fun xs H Q => (∃ i, xs = [.int i] ∧ Q (.int i) H) ∨ ∃ k, xs = [.bl k] ∧ Q (.int (if k then 1 else 0)) H
def rTupOf (K : PySem.W.Frag) : List V → Hp → VK → Prop := fun xs H Q => ∃ p ys, xs = [.ref p] ∧ ((SqL K H p ys ∧ ∀ l, H l = none → Q (.ref l) (upd H l (.tup ys))) ∨ (SqT K H p ys ∧ Q (.ref p) H))
def rLstOf (K : PySem.W.Frag) : List V → Hp → VK → Prop := fun xs H Q => ∃ p ys, xs = [.ref p] ∧ (SqL K H p ys ∨ SqT K H p ys) ∧ ∀ l, H l = none → Q (.ref l) (upd H l (.lst ys))
theorem b_abs {i : Int} (h : Q (.int (if i < 0 then -i else i)) H) : rAbs [.int i] H Q := ⟨i, rfl, h⟩
theorem b_int {i : Int} (h : Q (.int i) H) : rInt1 [.int i] H Q := .inl ⟨i, rfl, h⟩
theorem b_tupl {p : Addr} {xs : List V} {ds : List D} (hx : H p = some (.lst xs)) (ha : RpAll K H xs ds) (h : ∀ v H', Ext [] H H' → Rp K H' v (.tup ds) → Q v H') : rTupOf K [.ref p] H Q :=
  ⟨p, xs, rfl, .inl ⟨SqL.of hx, fun l hl => h _ _ (Ext.new hl) (Rp.new ha hl)⟩⟩
theorem m_app {l : Addr} {xs : List V} (hx : H l = some (.lst xs)) (hl : xs.length < sizeLine) (h : ∀ H', Ext [l] H H' → H' l = some (.lst (xs ++ [y])) → Q .non H') : rAppend (.ref l) [y] H Q :=
  ⟨l, xs, y, rfl, rfl, hx, hl, h _ (Ext.put hx (by simp)) upd_same⟩
theorem ty_l {l : Addr} {xs : List V} (hx : H l = some (.lst xs)) : tyV K "list" (.ref l) H := .inl ⟨rfl, xs, SqL.of hx⟩
theorem t_set {l : Addr} {xs : List V} {k : Int} {j : Nat} {Q : Hp → Prop} (hx : H l = some (.lst xs)) (e : ixN xs.length k = some j) (h : ∀ H', Ext [l] H H' → H' l = some (.lst (xs.set j v)) → Q H') : rSetL (.ref l) (.int k) v H Q :=
  ⟨l, xs, k, j, rfl, rfl, hx, e, h _ (Ext.put hx (by simp)) upd_same⟩

theorem t_set0 {l : Addr} {x0 : V} {r : List V} {Q : Hp → Prop} (hx : H l = some (.lst (x0 :: r))) (h : ∀ H', Ext [l] H H' → H' l = some (.lst (v :: r)) → Q H') : rSetL (.ref l) (.int 0) v H Q :=
  t_set (j := 0) hx (by first | (simp [ixN]; omega) | simp [ixN]) h
theorem t_set1 {l : Addr} {x0 x1 : V} {r : List V} {Q : Hp → Prop} (hx : H l = some (.lst (x0 :: x1 :: r))) (h : ∀ H', Ext [l] H H' → H' l = some (.lst (x0 :: v :: r)) → Q H') : rSetL (.ref l) (.int 1) v H Q :=
  t_set (j := 1) hx (by first | (simp [ixN]; omega) | simp [ixN]) h
theorem t_set2 {l : Addr} {x0 x1 x2 : V} {r : List V} {Q : Hp → Prop} (hx : H l = some (.lst (x0 :: x1 :: x2 :: r))) (h : ∀ H', Ext [l] H H' → H' l = some (.lst (x0 :: x1 :: v :: r)) → Q H') : rSetL (.ref l) (.int 2) v H Q :=
  t_set (j := 2) hx (by first | (simp [ixN]; omega) | simp [ixN]) h
theorem t_set3 {l : Addr} {x0 x1 x2 x3 : V} {r : List V} {Q : Hp → Prop} (hx : H l = some (.lst (x0 :: x1 :: x2 :: x3 :: r))) (h : ∀ H', Ext [l] H H' → H' l = some (.lst (x0 :: x1 :: x2 :: v :: r)) → Q H') : rSetL (.ref l) (.int 3) v H Q :=
  t_set (j := 3) hx (by first | (simp [ixN]; omega) | simp [ixN]) h
theorem atI_int {ns : List Int} {i : Int} (h0 : 0 ≤ i) (h : i < (ns.length : Int)) : ∃ z, ns[i.toNat]? = some z ∧ atI (ns.map V.int) i = some (V.int z) := by
  have hk : i.toNat < ns.length := by omega
  refine ⟨ns[i.toNat], by simp [hk], at_of (j := i.toNat) (by omega) (by rw [List.getElem?_map, List.getElem?_eq_getElem hk]; rfl)⟩

theorem at_nat {α : Type} {xs : List α} {i : Int} {j : Nat} {v : α} (e : i = (j : Int)) (h : xs[j]? = some v) : atI xs i = some v := by
  rw [e]
  exact atI_nat h

/-! ### loops -/
/-- a for's reading once its iterator has come -/
def ForOk (J : It) (g : TG) (tb : TS) (D : Ends) (σ : St) (H : Hp) : Prop := ∃ W : Nat → Nat → St → Hp → Prop, (∃ m, W 0 m σ H) ∧ ∀ i m σ H, W i m σ H →
  (J.stop i H ∧ D.nx σ H) ∨ (J.go i H ∧ ∃ N : St → Hp → Prop, (∀ σ' H', N σ' H' → ∃ m', m' < m ∧ W (i + 1) m' σ' H') ∧ ∀ x H', J.yld i H x H' → g x σ H' fun σ2 H2 => tb { D with nx := N, ct := N, bk := D.nx } σ2 H2)
theorem w_for {wi : TI} {g : TG} {tb : TS} (h : wi σ H fun J H1 => ForOk J g tb D0 σ H1) : tFor wi g tb D0 σ H := h
theorem w_rng1 {ta : TA} {R : It → Hp → Prop} (h : ta σ H fun vs H1 => ∃ j : Int, vs = [.int j] ∧ -(2 ^ 62) ≤ j ∧ j < 2 ^ 62 ∧ R (Itr 0 j.toNat) H1) : iRng1 ta σ H R := h
theorem w_rng2 {ta : TA} {R : It → Hp → Prop} (h : ta σ H fun vs H1 => ∃ i j : Int, vs = [.int i, .int j] ∧ (-(2 ^ 62) ≤ i ∧ i < 2 ^ 62 ∧ -(2 ^ 62) ≤ j ∧ j < 2 ^ 62) ∧ R (Itr i (j - i).toNat) H1) : iRng2 ta σ H R := h
theorem w_exr1 {j : Int} {A : Int → Prop} (h1 : -4611686018427387904 ≤ j ∧ j < 4611686018427387904) (h : A j) : ∃ i : Int, [V.int j] = [.int i] ∧ -(2 ^ 62) ≤ i ∧ i < 2 ^ 62 ∧ A i := ⟨j, rfl, by omega, by omega, h⟩
theorem w_exr2 {j k : Int} {A : Int → Int → Prop} (h1 : -4611686018427387904 ≤ j ∧ j < 4611686018427387904 ∧ -4611686018427387904 ≤ k ∧ k < 4611686018427387904) (h : A j k) :
    ∃ i l : Int, [V.int j, V.int k] = [.int i, .int l] ∧ (-(2 ^ 62) ≤ i ∧ i < 2 ^ 62 ∧ -(2 ^ 62) ≤ l ∧ l < 2 ^ 62) ∧ A i l := ⟨j, k, rfl, by omega, h⟩
theorem w_list {R : It → Hp → Prop} (h : te σ H fun x H1 => ∃ a, x = .ref a ∧ (∃ xs, SqL K H1 a xs) ∧ R (Itl K a) H1) : iList K te σ H R := h
theorem w_tupI {R : It → Hp → Prop} (h : te σ H fun x H1 => ∃ a, x = .ref a ∧ (∃ xs, SqT K H1 a xs) ∧ R (Itt K a) H1) : iTup K te σ H R := h
theorem w_exl {a : Addr} {xs : List V} {A : Addr → Prop} (h1 : SqL K H a xs) (h : A a) : ∃ b, V.ref a = .ref b ∧ (∃ xs, SqL K H b xs) ∧ A b := ⟨a, rfl, ⟨xs, h1⟩, h⟩
theorem w_ext {ds : List D} {A : Addr → Prop} (h1 : Rp K H x (.tup ds)) (h : ∀ a, x = .ref a → A a) : ∃ b, x = .ref b ∧ (∃ xs, SqT K H b xs) ∧ A b := by
  obtain ⟨a, xs, rfl, h2, _⟩ := h1.tupI
  exact ⟨a, rfl, ⟨xs, h2⟩, h a rfl⟩
/-- over a range -/
theorem f_rng {lo : Int} {n g : Nat} {tb : TS} (W : Nat → St → Hp → Prop) (h0 : W 0 σ H)
    (hs : ∀ i σ H, i < n → W i σ H → tb { D0 with nx := W (i + 1), ct := W (i + 1), bk := D0.nx } (σ.set g (some (.int (lo + i)))) H) (hd : ∀ σ H, W n σ H → D0.nx σ H) : ForOk (Itr lo n) (gName g) tb D0 σ H :=
  for_range W h0 hs hd
/-- over a list that stands -/
theorem f_lst {a : Addr} {xs : List V} {g : Nat} {tb : TS} (W : Nat → St → Hp → Prop) (h0 : W 0 σ H) (hl : ∀ i σ H, i ≤ xs.length → W i σ H → SqL K H a xs)
    (hs : ∀ i v σ H, xs[i]? = some v → W i σ H → tb { D0 with nx := W (i + 1), ct := W (i + 1), bk := D0.nx } (σ.set g (some v)) H) (hd : ∀ σ H, W xs.length σ H → D0.nx σ H) : ForOk (Itl K a) (gName g) tb D0 σ H :=
  for_list W h0 hl hs hd
/-- over the items of a tuple; W by the turn -/
theorem f_tup {a : Addr} {g : Nat} {ds : List D} {tb : TS} (W : Nat → St → Hp → Prop) (h0 : W 0 σ H) (hk : ∀ i σ H, i ≤ ds.length → W i σ H → Rp K H (.ref a) (.tup ds))
    (hs : ∀ i d v σ H, ds[i]? = some d → Rp K H v d → W i σ H → tb { D0 with nx := W (i + 1), ct := W (i + 1), bk := D0.nx } (σ.set g (some v)) H) (hd : ∀ σ H, W ds.length σ H → D0.nx σ H) :
    ForOk (Itt K a) (gName g) tb D0 σ H := by
  refine ⟨fun i m σ H => m = ds.length - i ∧ i ≤ ds.length ∧ W i σ H, ⟨ds.length, by simp, Nat.zero_le _, h0⟩, ?_⟩
  rintro i m σ H ⟨rfl, hi, p⟩
  obtain ⟨a', xs', e, k1, k2⟩ := (hk i σ H hi p).tupI
  cases e
  have hl := k2.length
  by_cases hlt : i < ds.length
  · refine .inr ⟨⟨xs', xs'[i]'(by omega), k1, by simp [show i < xs'.length by omega]⟩, W (i + 1), fun σ' H' p' => ⟨ds.length - (i + 1), by omega, rfl, hlt, p'⟩, fun x H' y => ?_⟩
    obtain ⟨e, y⟩ := y
    subst e
    obtain ⟨d, hd1, hr⟩ := k2.get (y xs' k1)
    exact hs i d x σ _ hd1 hr p
  · have e : i = ds.length := by omega
    subst e
    exact .inl ⟨⟨xs', k1, by omega⟩, hd σ H p⟩
/-! ### comprehensions -/
def LcOk (J : It) (g : TG) (tt : TT) (te : TE) (vs : List Nat) (σ : St) (D : Addr) (H1 : Hp) (Q : VK) : Prop := ∃ W : Nat → Nat → Hp → Prop, (∃ m, W 0 m (upd H1 D (.lst []))) ∧ ∀ i m H, W i m H →
  (J.stop i H ∧ Q (.ref D) H) ∨ (J.go i H ∧ ∃ Nx : Hp → Prop, (∀ H', Nx H' → ∃ m', m' < m ∧ W (i + 1) m' H') ∧ ∀ x H', J.yld i H x H' → g x (wipe σ vs) H' fun σ2 H2 => wipe σ2 vs = wipe σ vs ∧ tt σ2 H2 fun b H3 =>
    if b = true then te σ2 H3 fun y H4 => ∃ acc, H4 D = some (.lst acc) ∧ acc.length < sizeLine ∧ Nx (upd H4 D (.lst (acc ++ [y]))) else Nx H3)
theorem w_lc {wi : TI} {g : TG} {tt : TT} {vs : List Nat} (h : wi σ H fun J H1 => ∀ D, H1 D = none → LcOk J g tt te vs σ D H1 Q) : tLc wi g tt te vs σ H Q := h
/-- what a turn of a comprehension is to reach: the list so far is acc at D -/
def LcN (D : Addr) (W : Nat → Hp → List V → Prop) (i : Nat) (H : Hp) : Prop := ∃ acc, H D = some (.lst acc) ∧ acc.length ≤ i ∧ W i H acc
def LcT (D : Addr) (W : Nat → Hp → List V → Prop) (i : Nat) (y : V) (H : Hp) : Prop := ∃ acc, H D = some (.lst acc) ∧ acc.length < sizeLine ∧ LcN D W (i + 1) (upd H D (.lst (acc ++ [y])))
theorem turn1 {D : Addr} {W : Nat → Hp → List V → Prop} {i : Nat} {acc : List V} (h1 : H D = some (.lst acc)) (h2 : acc.length ≤ i) (h3 : i < sizeLine) (h : ∀ H', Ext [D] H H' → H' D = some (.lst (acc ++ [y])) → W (i + 1) H' (acc ++ [y])) : LcT D W i y H :=
  ⟨acc, h1, by omega, acc ++ [y], upd_same, by rw [List.length_append]; simp; omega, h _ (Ext.put h1 (by simp)) upd_same⟩
theorem turn0 {D : Addr} {W : Nat → Hp → List V → Prop} {i : Nat} {acc : List V} (h1 : H D = some (.lst acc)) (h2 : acc.length ≤ i) (h : W (i + 1) H acc) : LcN D W (i + 1) H := ⟨acc, h1, by omega, h⟩
theorem c_gen {J : It} {n g : Nat} {tt : TT} {D : Addr} (R : Nat → V → Hp → Prop) (W : Nat → Hp → List V → Prop) (hD : H D = none)
    (hgo : ∀ i H acc, i < n → W i H acc → J.go i H) (hst : ∀ H acc, W n H acc → J.stop n H) (hy : ∀ i x H H' acc, i < n → W i H acc → J.yld i H x H' → H' = H ∧ R i x H)
    (h0 : ∀ H', Ext [] H H' → H' D = some (.lst []) → W 0 H' [])
    (hs : ∀ i x H acc, i < n → H D = some (.lst acc) → acc.length ≤ i → R i x H → W i H acc → tt (σ.set g (some x)) H fun b H3 => if b = true then te (σ.set g (some x)) H3 (LcT D W i) else LcN D W (i + 1) H3)
    (hd : ∀ H acc, H D = some (.lst acc) → W n H acc → Q (.ref D) H) : LcOk J (gName g) tt te [g] σ D H Q := by
  refine ⟨fun i m H => m = n - i ∧ i ≤ n ∧ LcN D W i H, ⟨n, by simp, Nat.zero_le _, [], upd_same, Nat.le_refl _, h0 _ (Ext.new hD) upd_same⟩, ?_⟩
  rintro i m H ⟨rfl, hi, acc, e1, e2, p⟩
  by_cases hlt : i < n
  · refine .inr ⟨hgo i H acc hlt p, LcN D W (i + 1), fun H' p' => ⟨n - (i + 1), by omega, rfl, hlt, p'⟩, fun x H' y => ?_⟩
    obtain ⟨e, r⟩ := hy i x H H' acc hlt p y
    subst e
    have s1 : (wipe σ [g]).set g (some x) = σ.set g (some x) := by
      show (σ.set g none).set g (some x) = _
      rw [List.set_set]
    show wipe ((wipe σ [g]).set g (some x)) [g] = wipe σ [g] ∧ _
    rw [s1]
    refine ⟨?_, ?_⟩
    · show (σ.set g (some x)).set g none = σ.set g none
      rw [List.set_set]
    exact hs i x H' acc hlt e1 e2 r p
  · have e : i = n := by omega
    subst e
    exact .inl ⟨hst H acc p, hd H acc e1 p⟩
/-- over a range -/
theorem c_rng {lo : Int} {n g : Nat} {tt : TT} {D : Addr} (W : Nat → Hp → List V → Prop) (hD : H D = none) (h0 : ∀ H', Ext [] H H' → H' D = some (.lst []) → W 0 H' [])
    (hs : ∀ i H acc, i < n → H D = some (.lst acc) → acc.length ≤ i → W i H acc → tt (σ.set g (some (.int (lo + i)))) H fun b H3 => if b = true then te (σ.set g (some (.int (lo + i)))) H3 (LcT D W i) else LcN D W (i + 1) H3)
    (hd : ∀ H acc, H D = some (.lst acc) → W n H acc → Q (.ref D) H) : LcOk (Itr lo n) (gName g) tt te [g] σ D H Q :=
  c_gen (fun i x _ => x = .int (lo + i)) W hD (fun _ _ _ h _ => h) (fun _ _ _ => Nat.le_refl n) (fun _ _ _ _ _ _ _ y => y) h0 (fun i x H acc hi e1 e2 r p => by subst r; exact hs i H acc hi e1 e2 p) hd
/-- over a list that stands -/
theorem c_lst {a : Addr} {xs : List V} {g : Nat} {tt : TT} {D : Addr} (W : Nat → Hp → List V → Prop) (hD : H D = none) (hl : ∀ i H acc, i ≤ xs.length → W i H acc → SqL K H a xs) (h0 : ∀ H', Ext [] H H' → H' D = some (.lst []) → W 0 H' [])
    (hs : ∀ i x H acc, xs[i]? = some x → H D = some (.lst acc) → acc.length ≤ i → W i H acc → tt (σ.set g (some x)) H fun b H3 => if b = true then te (σ.set g (some x)) H3 (LcT D W i) else LcN D W (i + 1) H3)
    (hd : ∀ H acc, H D = some (.lst acc) → W xs.length H acc → Q (.ref D) H) : LcOk (Itl K a) (gName g) tt te [g] σ D H Q :=
  c_gen (n := xs.length) (fun i x _ => xs[i]? = some x) W hD (fun i H acc h p => ⟨xs, xs[i], hl i H acc (Nat.le_of_lt h) p, by simp [h]⟩) (fun H acc p => ⟨xs, hl _ H acc (Nat.le_refl _) p, Nat.le_refl _⟩)
    (fun i x H H' acc h p y => ⟨y.1, y.2 xs (hl i H acc (Nat.le_of_lt h) p)⟩) h0 (fun i x H acc _ e1 e2 r p => hs i x H acc r e1 e2 p) hd
/-- over the items of a tuple -/
theorem c_tup {a : Addr} {ds : List D} {g : Nat} {tt : TT} {D : Addr} (W : Nat → Hp → List V → Prop) (hD : H D = none) (hl : ∀ i H acc, i ≤ ds.length → W i H acc → Rp K H (.ref a) (.tup ds)) (h0 : ∀ H', Ext [] H H' → H' D = some (.lst []) → W 0 H' [])
    (hs : ∀ i d x H acc, ds[i]? = some d → Rp K H x d → H D = some (.lst acc) → acc.length ≤ i → W i H acc → tt (σ.set g (some x)) H fun b H3 => if b = true then te (σ.set g (some x)) H3 (LcT D W i) else LcN D W (i + 1) H3)
    (hd : ∀ H acc, H D = some (.lst acc) → W ds.length H acc → Q (.ref D) H) : LcOk (Itt K a) (gName g) tt te [g] σ D H Q := by
  have get : ∀ i H acc, i ≤ ds.length → W i H acc → ∃ xs, SqT K H a xs ∧ RpAll K H xs ds := fun i H acc hi p => by
    obtain ⟨a', xs, e, h1, h2⟩ := (hl i H acc hi p).tupI
    cases e
    exact ⟨xs, h1, h2⟩
  refine c_gen (n := ds.length) (fun i x H => ∃ d, ds[i]? = some d ∧ Rp K H x d) W hD (fun i H acc h p => ?_) (fun H acc p => ?_) (fun i x H H' acc h p y => ?_) h0 (fun i x H acc _ e1 e2 r p => ?_) hd
  · obtain ⟨xs, h1, h2⟩ := get i H acc (Nat.le_of_lt h) p
    have hl := h2.length
    exact ⟨xs, xs[i]'(by omega), h1, by simp [show i < xs.length by omega]⟩
  · obtain ⟨xs, h1, h2⟩ := get _ H acc (Nat.le_refl _) p
    exact ⟨xs, h1, by rw [h2.length]; exact Nat.le_refl _⟩
  · obtain ⟨xs, h1, h2⟩ := get i H acc (Nat.le_of_lt h) p
    obtain ⟨d, hd1, hr⟩ := h2.get (y.2 xs h1)
    exact ⟨y.1, d, hd1, hr⟩
  · obtain ⟨d, hd1, hr⟩ := r
    exact hs i d x H acc hd1 hr e1 e2 p
theorem w_yes {Q : Bool → Hp → Prop} (h : Q true H) : tYes σ H Q := h
end
theorem le_line {n : Nat} (h : n ≤ 1000) : n ≤ sizeLine := Nat.le_trans h (by decide)
/-! ### in, not in -/
section
variable {H : Hp} {Q : VK} {x y : V} {K : PySem.W.Frag}
theorem w_inL {xs : List V} {neg : Bool} (fx : flatV x = true) (fs : xs.all flatV = true) (hl : xs.length ≤ sizeLine) (h : ∀ H', Ext [] H H' → Q (.bl (if neg = true then !inV x xs else inV x xs)) H') : NewL xs H fun y H1 => rIn K neg x y H1 Q :=
  ⟨hl, fun p hp => ⟨p, xs, rfl, .inl (SqL.of upd_same), fx, fs, h _ (Ext.new hp)⟩⟩
theorem w_inT {xs : List V} {neg : Bool} (fx : flatV x = true) (fs : xs.all flatV = true) (hl : xs.length ≤ sizeLine) (h : ∀ H', Ext [] H H' → Q (.bl (if neg = true then !inV x xs else inV x xs)) H') : NewT K xs H fun y H1 => rIn K neg x y H1 Q :=
  ⟨hl, fun p hp => ⟨p, xs, rfl, .inr (SqT.of upd_same), fx, fs, h _ (Ext.new hp)⟩⟩
theorem w_inl {p : Addr} {xs : List V} {neg : Bool} (fx : flatV x = true) (hp : H p = some (.lst xs)) (fs : xs.all flatV = true) (h : Q (.bl (if neg = true then !inV x xs else inV x xs)) H) : rIn K neg x (.ref p) H Q :=
  ⟨p, xs, rfl, .inl (SqL.of hp), fx, fs, h⟩
def D.flat : D → Bool
  | .tup _ => false
  | _ => true
theorem flat_V {d : D} (h : Rp K H x d) (f : d.flat = true) : flatV x = true := by
  cases h <;> first | rfl | cases f
theorem eqV_eqv {d e : D} (h : Rp K H x d) (f : d.flat = true) (h' : Rp K H y e) (f' : e.flat = true) : eqV x y = D.eqv d e := by
  cases h <;> cases h' <;> first | rfl | cases f | cases f'
theorem flat_all : ∀ {ds : List D} {vs : List V}, RpAll K H vs ds → ds.all D.flat = true → vs.all flatV = true
  | _, _, .nil, _ => rfl
  | _, _, .cons h t, f => by
    rw [List.all_cons, Bool.and_eq_true] at f ⊢
    exact ⟨flat_V h f.1, flat_all t f.2⟩
theorem inV_any {d : D} (hx : Rp K H x d) (fx : d.flat = true) : ∀ {ds : List D} {vs : List V}, RpAll K H vs ds → ds.all D.flat = true → inV x vs = ds.any fun e => D.eqv e d
  | _, _, .nil, _ => rfl
  | _, _, .cons h t, f => by
    rw [List.all_cons, Bool.and_eq_true] at f
    have ih := inV_any hx fx t f.2
    unfold inV at ih ⊢
    rw [List.any_cons, List.any_cons, ih, eqV_eqv h f.1 hx fx]
theorem in_D {ds : List D} {d : D} {neg : Bool} (hx : Rp K H x d) (hy : Rp K H y (.tup ds)) (fx : d.flat = true) (fs : ds.all D.flat = true) (h : Q (.bl (if neg = true then !ds.any (fun e => D.eqv e d) else ds.any fun e => D.eqv e d)) H) : rIn K neg x y H Q := by
  obtain ⟨a, xs, rfl, h1, h2⟩ := hy.tupI
  refine ⟨a, xs, rfl, .inr h1, flat_V hx fx, flat_all h2 fs, ?_⟩
  rw [inV_any hx fx h2 fs]
  exact h
/-- a constant of the module: data that stand in every heap -/
def tConst (K : PySem.W.Frag) (d : D) : TE := fun _ H Q => ∀ v, (∀ H', Rp K H' v d) → Q v H
theorem w_const {σ : St} {d : D} (h : ∀ v, Rp K H v d → Q v H) : tConst K d σ H Q := fun v r => h v (r H)
end
/-- the module's name x holds data d -/
def Cst (K : PySem.W.Frag) (mg : Str → Option Value) (x : Str) (d : D) : Prop := ∃ a, mg x = some (.ref a) ∧ ∀ H, Rp K H (.ref a) d
theorem pe_const {X : Cx} {x : Str} {d : D} {pos : Pos} (c : Cst X.K X.mg x d) (hg : Gl X x) (hd : (x == ("__debug__" : Str)) = false := by decide) : PE X (.Name x pos) (tConst X.K d) := by
  obtain ⟨a, m, r⟩ := c
  refine ⟨fun pins s σ H Q I h => ?_⟩
  exact (pe_glob (v := .ref a) hg m rfl hd).run pins s σ H Q I (h (.ref a) r)
/-- a written tuple of texts, numbers: as the top has laid it -/
theorem cst_of {K : PySem.W.Frag} {mg : Str → Option Value} {x : Str} {a : Addr} {od : Option Addr} {its : List Value} {n : Nat} {sl : Array (Option Value)} {xs : List V} {ds : List D} (m : mg x = some (.ref a)) (l : K.lookup a = some ⟨.type "tuple", od, .seq its.toArray n, sl⟩)
    (hz : its.length ≤ sizeLine) (hv : Vals xs its) (hr : ∀ H, RpAll K H xs ds) : Cst K mg x (.tup ds) :=
  ⟨a, m, fun H => .tup (.inr ⟨_, its.toArray, n, l, rfl, rfl, by simpa using hz, by simpa using hv⟩) (hr H)⟩

/-! ### defs with their contract -/
/-- the module's name x holds a def that keeps sp -/
structure Has (P : Program) (w : World) (K : PySem.W.Frag) (mg : Str → Option Value) (base : Heap) (CX : CXT) (k : Nat) (x : Str) (ps : List Str) (sp : Sp) : Prop where
  ex : ∃ (f : Addr) (fd : FuncData), FnOk P w K mg base CX k f fd ps sp ∧ mg x = some (.ref f) ∧ PySem.W.keepIn K (.ref f) = true ∧ Binds K fd ps []
/-- the module's name x holds the def that the text writes as st -/
structure Dfn (K : PySem.W.Frag) (mg : Str → Option Value) (x : Str) (st : Stmt) (ps : List Str) : Prop where
  ex : ∃ (f : Addr) (fd : FuncData), Fun K x x st f fd ∧ mg x = some (.ref f) ∧ Binds K fd ps []
section
variable {P : Program} {w : World} {K : PySem.W.Frag} {mg : Str → Option Value} {base : Heap} {CX : CXT} {k : Nat} {x : Str} {ps : List Str} {sp : Sp} {st : Stmt}
theorem Dfn.has (D : Dfn K mg x st ps) (h : ∀ f fd, Fun K x x st f fd → FnOk P w K mg base CX k f fd ps sp) : Has P w K mg base CX k x ps sp := by
  obtain ⟨f, fd, F, m, b⟩ := D.ex
  exact ⟨f, fd, h f fd F, m, F.kp, b⟩
theorem Has.mono {j : Nat} (h : Has P w K mg base CX j x ps sp) (l : j ≤ k) : Has P w K mg base CX k x ps sp := by
  obtain ⟨f, fd, F, r⟩ := h.ex
  exact ⟨f, fd, F.mono l, r⟩
theorem Has.imp {sp' : Sp} (h : Has P w K mg base CX k x ps sp) (i : ∀ vs H Q E, sp' vs H Q E → sp vs H Q E) : Has P w K mg base CX k x ps sp' := by
  obtain ⟨f, fd, F, r⟩ := h.ex
  exact ⟨f, fd, F.imp i, r⟩
/-- a promise that nobody can ask for -/
theorem Dfn.never (D : Dfn K mg x st ps) (no : ∀ vs H Q E, ¬ sp vs H Q E) : Has P w K mg base CX k x ps sp := by
  obtain ⟨f, fd, F, m, b⟩ := D.ex
  exact ⟨f, fd, ⟨fun vs H Q E h => absurd h (no vs H Q E), fun A outer s H args us vs Q E _ _ _ _ h => absurd h (no vs H Q E)⟩, m, F.kp, b⟩
end
section
variable {X : Cx} {CX : CXT} {k : Nat} {ps : List Str} {sp : Sp} {E : XK} {x : Str} {p pos : Pos} {e : Expr} {es : List Expr} {t : TA}
theorem pe_callH (h : Has X.prog X.w X.K X.mg X.base CX k x ps sp) (hr : Room k X.A) (hg : Gl X x) (hx : Passes CX X E)
    (ha : PA X (e :: es) t) (hdb : (x == ("__debug__" : Str)) = false := by decide) (he : starEach (e :: es) X.env = (false, eval e X.env) :: starEach es X.env := by rfl) (hpl : (backTo pos (starEach es X.env)).any (·.1) = false := by rfl) :
    PE X (.Call (.Name x p) (e :: es) [] pos) (tCall sp [] E t) := by
  obtain ⟨f, fd, F, m, kp, b⟩ := h.ex
  exact pe_call F hr hg m kp b .nil hx ha hdb he hpl
theorem pe_callH0 (h : Has X.prog X.w X.K X.mg X.base CX k x ps sp) (hr : Room k X.A) (hg : Gl X x) (hx : Passes CX X E)
    (hdb : (x == ("__debug__" : Str)) = false := by decide) : PE X (.Call (.Name x p) [] [] pos) (tCall sp [] E tNil) := by
  obtain ⟨f, fd, F, m, kp, b⟩ := h.ex
  exact pe_call0 F hr hg m kp b .nil hx hdb
theorem pss_consJ {st : Stmt} {rest : List Stmt} {t u : TS} (h1 : PS X st t) (h2 : PSs X rest u) : PSs X (st :: rest) (tSeqJ t u) := by
  refine ⟨fun pins s σ H D I h => ?_⟩
  obtain ⟨M, h, hm⟩ := h
  refine wpAny_execs_cons (thn (h1.run pins s σ H { D with nx := M } I h) fun f s1 q => ?_)
  cases f with
  | next =>
    obtain ⟨σ', H', I', q⟩ := q
    exact h2.run pins s1 σ' H' D I' (hm _ _ q)
  | ret v => exact q
  | brk => exact q
  | cont => exact q
/-! ### the rules by which ambiguous constructs go -/
theorem o_add : OpR X (binaryOp .Add) (rAddG X.K) := op_add.or (op_add_str.or (op_catA.or op_cat))
theorem o_eq (hu : X.A.units + 64 < cLine) : OpR X (compareOp .Eq) (rEqG X.K) := op_eq.or (op_eqD hu)
theorem o_ne (hu : X.A.units + 64 < cLine) : OpR X (compareOp .NotEq) (rNeG X.K) := op_ne.or (op_neD hu)
theorem o_sl : SlR X (rSlG X.K) := sl_list.or (sl_tupA.or sl_str)
end
end Go

set_option Elab.async false
set_option linter.all false
set_option maxRecDepth 100000
set_option maxHeartbeats 4000000
/-! Obj: instances of own classes and dicts with int keys, read and changed; isinstance; insert, remove. -/
namespace Go
open PySem L2

/-! ### attributes -/
theorem lk_hit {x : Str} {v : V} {r : List (Str × V)} : List.lookup x ((x, v) :: r) = some v := by simp [List.lookup]
theorem lk_miss {x y : Str} {v : V} {r : List (Str × V)} (h : (x == y) = false) : List.lookup x ((y, v) :: r) = List.lookup x r := by simp [List.lookup, h]
theorem lk_nil {x : Str} : List.lookup x ([] : List (Str × V)) = none := rfl
theorem pf_nil {x : Str} {v : V} : putF x v [] = [(x, v)] := rfl
theorem pf_hit {x : Str} {v u : V} {r : List (Str × V)} : putF x v ((x, u) :: r) = (x, v) :: r := by simp [putF]
theorem pf_miss {x y : Str} {v u : V} {r w : List (Str × V)} (h : ¬ y = x) (e : putF x v r = w) : putF x v ((y, u) :: r) = (y, u) :: w := by
  subst e
  show (if y = x then _ else _) = _
  rw [if_neg h]
/-- e.f of an instance of the class at C -/
def tFldC (C : Addr) (f : Str) (ta : TE) : TE := fun σ H Q => ta σ H fun x H1 => ∃ a dx fs v, x = .ref a ∧ H1 a = some (.ins C dx fs) ∧ fs.lookup f = some v ∧ Q v H1
def sFldC (C : Addr) (f : Str) (ta tv : TE) : TS := fun D σ H => tv σ H fun y H1 => ta σ H1 fun x H2 => ∃ a dx fs, x = .ref a ∧ H2 a = some (.ins C dx fs) ∧ fs.length < 1000 ∧ D.nx σ (upd H2 a (.ins C dx (putF f y fs)))
section
variable {X : Cx} {e o value : Expr} {ta tv : TE} {f : Str} {pos pos' : Pos} {C : Addr}
theorem pe_fldC (c : Cls X.K C) (n : NoAttr X.K C f) (he : PE X e ta) (hb : attributeBase e f X.env (eval e X.env) = eval e X.env) : PE X (.Attribute e f pos) (tFldC C f ta) := by
  refine ⟨fun pins z σ H Q I h => attr_of hb (thn (he.run pins z σ H _ I h) fun w z1 hw => ?_)⟩
  obtain ⟨x, H1, I1, rx, a, dx, fs, v, ex, ea, l, q⟩ := hw
  subst ex
  cases (show w = Value.ref a from rx)
  exact getattr_ok I1 ea c n l fun _ _ I2 ru => ⟨v, H1, I2, ru, q⟩
theorem ps_fldC (c : Cls X.K C) (n : NoAttr X.K C f) (ha : PE X o ta) (hv : PE X value tv) (hs : swapsWith value (some (.Attribute o f pos')) pos.line X.env = pure false) : PS X (.Assign [.Attribute o f pos'] value pos) (sFldC C f ta tv) := by
  refine ⟨fun pins z σ H D I h => plainObj_wpAny_Assign_Attribute (thn (hv.run pins z σ H _ I h) fun w z1 hw => ?_) hs⟩
  obtain ⟨y, H1, I1, ry, q⟩ := hw
  refine thn (ha.run pins z1 σ H1 _ I1 q) fun w2 z2 hw2 => ?_
  obtain ⟨x, H2, I2, rx, a, dx, fs, ex, ea, l, q2⟩ := hw2
  subst ex
  cases (show w2 = Value.ref a from rx)
  exact setattr_ok I2 ea c n l ry fun _ I3 => ⟨σ, _, I3, q2⟩
end
section
variable {σ : St} {H : Hp} {Q : VK} {D0 : Ends} {ta tb te tv : TE} {x y v : V} {K : PySem.W.Frag} {C : Addr} {f : Str}
theorem Ext.mut {S} {p : Addr} {o o' : HO} (h : H p = some o) (n1 : ∀ xs, o ≠ .tup xs) (n2 : ∀ b u, o ≠ .frz b u) (hs : p ∈ S) : Ext S H (upd H p o') :=
  ⟨fun b u e n => by rw [upd_ne (fun z => n (by rw [z]; exact hs))]; exact e,
   fun b xs e => by rw [upd_ne (fun z => by rw [z, h] at e; exact n1 _ (Option.some.inj e))]; exact e,
   fun b w u e => by rw [upd_ne (fun z => by rw [z, h] at e; exact n2 _ _ (Option.some.inj e))]; exact e⟩
theorem w_fldC (h : ta σ H fun x H1 => ∃ a dx fs v, x = .ref a ∧ H1 a = some (.ins C dx fs) ∧ fs.lookup f = some v ∧ Q v H1) : tFldC C f ta σ H Q := h
theorem w_exfld {a dx : Addr} {fs : List (Str × V)} {A : V → Prop} (h1 : H a = some (.ins C dx fs)) (l : fs.lookup f = some v) (h : A v) : ∃ b dx fs v, V.ref a = .ref b ∧ H b = some (.ins C dx fs) ∧ fs.lookup f = some v ∧ A v := ⟨a, dx, fs, v, rfl, h1, l, h⟩
def SfOk (C : Addr) (f : Str) (x y : V) (H : Hp) (N : Hp → Prop) : Prop := ∃ a dx fs, x = .ref a ∧ H a = some (.ins C dx fs) ∧ fs.length < 1000 ∧ N (upd H a (.ins C dx (putF f y fs)))
theorem w_sfldC (h : tv σ H fun y H1 => ta σ H1 fun x H2 => SfOk C f x y H2 (D0.nx σ)) : sFldC C f ta tv D0 σ H := h
theorem w_exsfld {a dx : Addr} {fs gs : List (Str × V)} {A : Hp → Prop} (h1 : H a = some (.ins C dx fs)) (hl : fs.length < 1000) (e : putF f y fs = gs) (h : ∀ H', Ext [a] H H' → H' a = some (.ins C dx gs) → A H') :
    SfOk C f (.ref a) y H A := by
  subst e
  exact ⟨a, dx, fs, rfl, h1, hl, h _ (Ext.mut h1 (fun _ z => nomatch z) (fun _ _ z => nomatch z) (by simp)) upd_same⟩
def MakeOk (C : Addr) (sp : Sp) (vs : List V) (H : Hp) (Q : VK) (E : XK) : Prop := ∀ x dx, H x = none → H dx = none → dx ≠ x → sp (.ref x :: vs) (upd (upd H dx (.own x)) x (.ins C dx [])) (fun v H2 => v = .non ∧ Q (.ref x) H2) E
theorem w_make {sp : Sp} {E : XK} {t : TA} (h : t σ H fun vs H1 => MakeOk C sp vs H1 Q E) : tMake C sp [] E t σ H Q := by
  show t σ H fun vs H1 => ∀ x dx, H1 x = none → H1 dx = none → dx ≠ x → sp (.ref x :: (vs ++ [])) (upd (upd H1 dx (.own x)) x (.ins C dx [])) (fun v H2 => v = .non ∧ Q (.ref x) H2) E
  have e : (fun (vs : List V) (H1 : Hp) => ∀ x dx, H1 x = none → H1 dx = none → dx ≠ x → sp (.ref x :: (vs ++ [])) (upd (upd H1 dx (.own x)) x (.ins C dx [])) (fun v H2 => v = .non ∧ Q (.ref x) H2) E) = fun vs H1 => MakeOk C sp vs H1 Q E := by
    funext vs H1
    rw [List.append_nil]
    rfl
  rw [e]
  exact h
theorem w_made {sp : Sp} {E : XK} {vs : List V} (h : ∀ x H2, H x = none → Ext [] H H2 → (∃ dx, H2 x = some (.ins C dx [])) → sp (.ref x :: vs) H2 (fun v H3 => v = .non ∧ Q (.ref x) H3) E) : MakeOk C sp vs H Q E := fun x dx hx hd ne =>
  h x _ hx (Ext.new2 (Ext.new hd) (by rw [upd_ne (Ne.symm ne)]; exact hx)) ⟨dx, upd_same⟩
def MethOk (C : Addr) (m : Str) (x : V) (H : Hp) : Prop := ∃ a dx fs, x = .ref a ∧ H a = some (.ins C dx fs) ∧ fs.lookup m = none
theorem w_meth {m : Str} {sp : Sp} {E : XK} {t : TA} (h : ta σ H fun x H1 => ∃ a dx fs, x = .ref a ∧ H1 a = some (.ins C dx fs) ∧ fs.lookup m = none ∧ t σ H1 fun vs H2 => sp (x :: vs) H2 Q E) : tMeth C m sp [] E ta t σ H Q := by
  have e : (fun (x : V) (H1 : Hp) => ∃ a dx fs, x = .ref a ∧ H1 a = some (.ins C dx fs) ∧ fs.lookup m = none ∧ t σ H1 fun vs H2 => sp (x :: (vs ++ [])) H2 Q E) = fun x H1 => ∃ a dx fs, x = .ref a ∧ H1 a = some (.ins C dx fs) ∧ fs.lookup m = none ∧ t σ H1 fun vs H2 => sp (x :: vs) H2 Q E := by
    funext x H1
    have e2 : (fun (vs : List V) (H2 : Hp) => sp (x :: (vs ++ [])) H2 Q E) = fun vs H2 => sp (x :: vs) H2 Q E := by
      funext vs H2
      rw [List.append_nil]
    rw [e2]
  show ta σ H fun x H1 => ∃ a dx fs, x = .ref a ∧ H1 a = some (.ins C dx fs) ∧ fs.lookup m = none ∧ t σ H1 fun vs H2 => sp (x :: (vs ++ [])) H2 Q E
  rw [e]
  exact h
theorem w_exmeth {m : Str} {a dx : Addr} {fs : List (Str × V)} {A : Prop} (h1 : H a = some (.ins C dx fs)) (l : fs.lookup m = none) (h : A) : ∃ b dx fs, V.ref a = .ref b ∧ H b = some (.ins C dx fs) ∧ fs.lookup m = none ∧ A := ⟨a, dx, fs, rfl, h1, l, h⟩

/-! ### dicts with int keys -/
/-- the dict at a: f says what stands under each int; at most n entries -/
def DI (H : Hp) (a : Addr) (f : Int → Option V) (n : Nat) : Prop := ∃ kvs, H a = some (.dK kvs) ∧ (∀ i, valV kvs (Sum.inl i) = f i) ∧ kvs.length ≤ n
theorem DI.keep {H H' : Hp} {S : List Addr} {a : Addr} {g : Int → Option V} {n : Nat} (d : DI H a g n) (e : Ext S H H') (h : a ∉ S) : DI H' a g n := by
  obtain ⟨kvs, h1, h2, h3⟩ := d
  exact ⟨kvs, e.keep _ _ h1 h, h2, h3⟩
theorem DI.same {H H' : Hp} {a : Addr} {g : Int → Option V} {n : Nat} (d : DI H a g n) (e : Ext [] H H') : DI H' a g n := d.keep e (by simp)
theorem DI.there {H : Hp} {a : Addr} {g : Int → Option V} {n : Nat} (d : DI H a g n) : ∃ o, H a = some o := let ⟨_, h1, _⟩ := d; ⟨_, h1⟩
theorem DI.more {H : Hp} {a : Addr} {g : Int → Option V} {n m : Nat} (d : DI H a g n) (h : n ≤ m) : DI H a g m := let ⟨k, h1, h2, h3⟩ := d; ⟨k, h1, h2, Nat.le_trans h3 h⟩
def NewD (H : Hp) (Q : VK) : Prop := ∀ p, H p = none → Q (.ref p) (upd H p (.dK []))
theorem w_dnewK (h : NewD H Q) : tDNewK σ H Q := h
theorem w_newD (q : ∀ p H', H p = none → Ext [] H H' → DI H' p (fun _ => none) 0 → Q (.ref p) H') : NewD H Q := fun p hp => q p _ hp (Ext.new hp) ⟨[], upd_same, fun _ => rfl, Nat.le_refl _⟩
theorem w_dget (h : ta σ H fun x H1 => tb σ H1 fun y H2 => ∃ a v, x = .ref a ∧ DGet H2 a y (some v) ∧ Q v H2) : tDGet ta tb σ H Q := h
theorem d_get {a : Addr} {g : Int → Option V} {n : Nat} {i : Int} {A : V → Prop} (d : DI H a g n) (e : g i = some v) (h : A v) : ∃ b v, V.ref a = .ref b ∧ DGet H b (.int i) (some v) ∧ A v := by
  obtain ⟨kvs, h1, h2, _⟩ := d
  refine ⟨a, v, rfl, ?_, h⟩
  have q := DGet.k (k := Sum.inl i) h1
  rw [h2, e] at q
  exact q
theorem w_din (h : ta σ H fun y H1 => tb σ H1 fun x H2 => ∃ a o, x = .ref a ∧ DGet H2 a y o ∧ Q (.bl o.isSome) H2) : tDIn ta tb σ H Q := h
theorem w_dnotin (h : ta σ H fun y H1 => tb σ H1 fun x H2 => ∃ a o, x = .ref a ∧ DGet H2 a y o ∧ Q (.bl (!o.isSome)) H2) : tDNotIn ta tb σ H Q := h
theorem d_at {a : Addr} {g : Int → Option V} {n : Nat} {i : Int} (d : DI H a g n) : DGet H a (.int i) (g i) := by
  obtain ⟨kvs, h1, h2, _⟩ := d
  have q := DGet.k (k := Sum.inl i) h1
  rw [h2] at q
  exact q
theorem d_in {a : Addr} {g : Int → Option V} {n : Nat} {i : Int} {A : Option V → Prop} (d : DI H a g n) (h : A (g i)) : ∃ b o, V.ref a = .ref b ∧ DGet H b (.int i) o ∧ A o := ⟨a, _, rfl, d_at d, h⟩
theorem w_dput (h : tv σ H fun v H1 => ta σ H1 fun x H2 => tb σ H2 fun y H3 => ∃ a H4, x = .ref a ∧ DPut H3 a y v H4 ∧ D0.nx σ H4) : sDPut ta tb tv D0 σ H := h
theorem d_put {a : Addr} {g : Int → Option V} {n : Nat} {i : Int} {A : Hp → Prop} (d : DI H a g n) (hn : n < sizeLine) (h : ∀ H', Ext [a] H H' → DI H' a (fun j => if j = i then some v else g j) (n + 1) → A H') :
    ∃ b H4, V.ref a = .ref b ∧ DPut H b (.int i) v H4 ∧ A H4 := by
  obtain ⟨kvs, h1, h2, h3⟩ := d
  refine ⟨a, _, rfl, DPut.k (k := Sum.inl i) h1 (by omega), h _ (Ext.mut h1 (fun _ z => nomatch z) (fun _ _ z => nomatch z) (by simp)) ⟨_, upd_same, fun j => ?_, Nat.le_trans (length_putK _ _ _) (by omega)⟩⟩
  rw [valV_put]
  show _ = if j = i then some v else g j
  by_cases c : j = i
  · rw [if_pos c, if_pos (by rw [c])]
  · rw [if_neg c, if_neg (fun z => c (Sum.inl.inj z))]
    exact h2 j
theorem valV_drop {κ : Type} [DecidableEq κ] (k j : κ) : ∀ kvs : List (κ × V), valV (dropK kvs k) j = if j = k then none else valV kvs j
  | [] => by simp [dropK, valV_nil]
  | p :: r => by
    have ih := valV_drop k j r
    by_cases c : p.1 = k
    · rw [dropK_pos c, ih]
      by_cases e : j = k
      · rw [if_pos e, if_pos e]
      · rw [if_neg e, if_neg e, valV_neg (fun z => e (z.symm.trans c))]
    · rw [dropK_neg c]
      by_cases e : j = k
      · subst e
        rw [if_pos rfl, valV_neg c, ih, if_pos rfl]
      · rw [if_neg e]
        by_cases f : p.1 = j
        · rw [valV_pos f, valV_pos f]
        · rw [valV_neg f, valV_neg f, ih, if_neg e]
def DDelOk (x y : V) (H : Hp) (N : Hp → Prop) : Prop := ∃ a kvs k, x = .ref a ∧ H a = some (.dK kvs) ∧ y = kV k ∧ (valV kvs k).isSome = true ∧ N (upd H a (.dK (dropK kvs k)))
theorem w_ddel (h : ta σ H fun x H1 => tb σ H1 fun y H2 => DDelOk x y H2 (D0.nx σ)) : sDDel ta tb D0 σ H := h
theorem d_del {a : Addr} {g : Int → Option V} {n : Nat} {i : Int} {A : Hp → Prop} (d : DI H a g n) (e : (g i).isSome = true) (h : ∀ H', Ext [a] H H' → DI H' a (fun j => if j = i then none else g j) n → A H') :
    DDelOk (.ref a) (.int i) H A := by
  obtain ⟨kvs, h1, h2, h3⟩ := d
  refine ⟨a, kvs, Sum.inl i, rfl, h1, rfl, by rw [h2]; exact e, h _ (Ext.mut h1 (fun _ z => nomatch z) (fun _ _ z => nomatch z) (by simp)) ⟨_, upd_same, fun j => ?_, Nat.le_trans (dropK_le _ _) h3⟩⟩
  rw [valV_drop]
  show _ = if j = i then none else g j
  by_cases c : j = i
  · rw [if_pos c, if_pos (by rw [c])]
  · rw [if_neg c, if_neg (fun z => c (Sum.inl.inj z))]
    exact h2 j

theorem w_aug {te : TE} {ti : TIp} {i : Nat} (e : σ[i]? = some (some x)) (h : te σ H fun y H1 => ti x y H1 fun z H2 => D0.nx (σ.set i (some z)) H2) : tAug i te ti D0 σ H := ⟨x, e, h⟩
theorem w_ip {g : Int → Int → Int} {i j : Int} (h : Q (.int (g i j)) H) : ipI g (.int i) (.int j) H Q := ⟨i, j, rfl, rfl, h⟩
/-- a test of two parts that leave the heap as it is -/
theorem w_andB {c d : TT} {Q : Bool → Hp → Prop} (p q : Bool) (hc : ∀ R : Bool → Hp → Prop, R p H → c σ H R) (hd : p = true → ∀ R : Bool → Hp → Prop, R q H → d σ H R) (h : Q (p && q) H) : tAnd c d σ H Q := by
  refine hc _ ?_
  cases p with
  | true => exact hd rfl _ h
  | false => exact h
theorem w_orB {c d : TT} {Q : Bool → Hp → Prop} (p q : Bool) (hc : ∀ R : Bool → Hp → Prop, R p H → c σ H R) (hd : p = false → ∀ R : Bool → Hp → Prop, R q H → d σ H R) (h : Q (p || q) H) : tOr c d σ H Q := by
  refine hc _ ?_
  cases p with
  | true => exact h
  | false => exact hd rfl _ h
/-! ### list.insert, list.remove -/
def rInsert : V → List V → Hp → VK → Prop := fun x vs H Q => ∃ (l : Addr) (xs : List V) (i : Int) (y : V), x = .ref l ∧ vs = [.int i, y] ∧ H l = some (.lst xs) ∧ xs.length < sizeLine ∧ 0 ≤ i ∧ i < 2 ^ 63 ∧
    Q .non (upd H l (.lst (xs.take i.toNat ++ [y] ++ xs.drop i.toNat)))
theorem m_ins {l : Addr} {xs : List V} {i : Int} (hx : H l = some (.lst xs)) (hl : xs.length < sizeLine) (h0 : 0 ≤ i) (h1 : i < 9223372036854775808) (h : ∀ H', Ext [l] H H' → H' l = some (.lst (xs.take i.toNat ++ [y] ++ xs.drop i.toNat)) → Q .non H') : rInsert (.ref l) [.int i, y] H Q :=
  ⟨l, xs, i, y, rfl, rfl, hx, hl, h0, by omega, h _ (Ext.put hx (by simp)) upd_same⟩
theorem m_rem {l : Addr} {ns : List Int} {k : Int} {j : Nat} (hx : H l = some (.lst (ns.map V.int))) (e : ns[j]? = some k) (hno : ∀ m : Nat, m < j → ns[m]? ≠ some k) (h : ∀ H', Ext [l] H H' → H' l = some (.lst ((ns.eraseIdx j).map V.int)) → Q .non H') : rRemI (.ref l) [.int k] H Q :=
  ⟨l, ns, k, j, rfl, rfl, hx, e, hno, h _ (Ext.put hx (by simp)) upd_same⟩

/-! ### isinstance, a built-in class -/
theorem tyx_tup {ds : List D} (h : Rp K H x (.tup ds)) : TyX K H x (.type "tuple") := by
  obtain ⟨a, xs, rfl, h1, _⟩ := h.tupI
  rcases h1 with (h1 | ⟨o, h1⟩) | ⟨o, its, n, l, c, _⟩
  · exact .base (.tup h1)
  · exact .fTuple h1
  · exact .kTuple l c
theorem is_of {a b : String} {r : Bool} (t : TyX K H x (.type a)) (k : kitB a b = some r) (h : Q (.bl r) H) : rIsi K [x, .ty b] H Q := ⟨x, .ty b, _, _, r, rfl, .ty b, t, kit_ty k, h⟩
theorem is_lst {a : Addr} {xs : List V} {b : String} {r : Bool} (e : H a = some (.lst xs)) (k : kitB "list" b = some r) (h : Q (.bl r) H) : rIsi K [.ref a, .ty b] H Q := is_of (.base (.lst e)) k h
theorem is_tup {ds : List D} {b : String} {r : Bool} (e : Rp K H x (.tup ds)) (k : kitB "tuple" b = some r) (h : Q (.bl r) H) : rIsi K [x, .ty b] H Q := is_of (tyx_tup e) k h
theorem is_int {i : Int} {b : String} {r : Bool} (k : kitB "int" b = some r) (h : Q (.bl r) H) : rIsi K [.int i, .ty b] H Q := is_of (.base (.int i)) k h
theorem is_str {i : Str} {b : String} {r : Bool} (k : kitB "str" b = some r) (h : Q (.bl r) H) : rIsi K [.str i, .ty b] H Q := is_of (.base (.str i)) k h
theorem is_bl {i : Bool} {b : String} {r : Bool} (k : kitB "bool" b = some r) (h : Q (.bl r) H) : rIsi K [.bl i, .ty b] H Q := is_of (.base (.bl i)) k h
end
end Go
namespace Go
open PySem L2
/-! ### methods and makers with their contract -/
structure HasM (P : Program) (w : World) (K : PySem.W.Frag) (mg : Str → Option Value) (base : Heap) (CX : CXT) (k : Nat) (C : Addr) (m : Str) (ps : List Str) (sp : Sp) : Prop where
  ex : ∃ (f : Addr) (fd : FuncData), FnOk P w K mg base CX k f fd ps sp ∧ Meth K C m f ∧ Binds K fd ps []
structure HasI (P : Program) (w : World) (K : PySem.W.Frag) (mg : Str → Option Value) (base : Heap) (CX : CXT) (k : Nat) (x : Str) (C : Addr) (ps : List Str) (sp : Sp) : Prop where
  ex : ∃ (f : Addr) (fd : FuncData), FnOk P w K mg base CX k f fd ps sp ∧ Mk K C f ∧ mg x = some (.ref C) ∧ Binds K fd ps []
structure DfnM (K : PySem.W.Frag) (m qual : Str) (C : Addr) (st : Stmt) (ps : List Str) : Prop where
  ex : ∃ (f : Addr) (fd : FuncData), Fun K m qual st f fd ∧ Meth K C m f ∧ Binds K fd ps []
structure DfnI (K : PySem.W.Frag) (mg : Str → Option Value) (m qual x : Str) (C : Addr) (st : Stmt) (ps : List Str) : Prop where
  ex : ∃ (f : Addr) (fd : FuncData), Fun K m qual st f fd ∧ Mk K C f ∧ mg x = some (.ref C) ∧ Binds K fd ps []
section
variable {P : Program} {w : World} {K : PySem.W.Frag} {mg : Str → Option Value} {base : Heap} {CX : CXT} {k : Nat} {C : Addr} {m qual x : Str} {ps : List Str} {sp : Sp} {st : Stmt}
theorem DfnM.has (D : DfnM K m qual C st ps) (h : ∀ f fd, Fun K m qual st f fd → FnOk P w K mg base CX k f fd ps sp) : HasM P w K mg base CX k C m ps sp := by
  obtain ⟨f, fd, F, me, b⟩ := D.ex
  exact ⟨f, fd, h f fd F, me, b⟩
theorem DfnI.has (D : DfnI K mg m qual x C st ps) (h : ∀ f fd, Fun K m qual st f fd → FnOk P w K mg base CX k f fd ps sp) : HasI P w K mg base CX k x C ps sp := by
  obtain ⟨f, fd, F, mk, g, b⟩ := D.ex
  exact ⟨f, fd, h f fd F, mk, g, b⟩
end
section
variable {X : Cx} {CX : CXT} {k : Nat} {C : Addr} {m x : Str} {ps : List Str} {sp : Sp} {E : XK} {p pos apos : Pos} {e o : Expr} {es : List Expr} {t : TA} {ta : TE}
theorem pe_methH {pl : Sem Bool} (c : Cls X.K C) (h : HasM X.prog X.w X.K X.mg X.base CX k C m ps sp) (hr : Room k X.A) (hx : Passes CX X E) (he : PE X o ta) (ha : PA X (e :: es) t)
    (hst : starEach (e :: es) X.env = (false, eval e X.env) :: starEach es X.env := by rfl) (hpl : (backTo pos (starEach es X.env)).any (·.1) = false := by rfl)
    (ht : eval (.Call (.Attribute o m apos) (e :: es) [] pos) X.env = (do
      let ov ← eval o X.env
      standAt apos.atName
      let fm ← holding [ov] (getMethod ov m pl)
      callWith pos fm.1 fm.2 (backTo pos (starEach (e :: es) X.env)) (backToKw pos (keywordEach [] X.env))) := by rfl) :
    PE X (.Call (.Attribute o m apos) (e :: es) [] pos) (tMeth C m sp [] E ta t) := by
  obtain ⟨f, fd, F, me, b⟩ := h.ex
  exact pe_meth he c me F hr b .nil hx ha hst hpl ht
theorem pe_methH0 {pl : Sem Bool} (c : Cls X.K C) (h : HasM X.prog X.w X.K X.mg X.base CX k C m ps sp) (hr : Room k X.A) (hx : Passes CX X E) (he : PE X o ta)
    (ht : eval (.Call (.Attribute o m apos) [] [] pos) X.env = (do
      let ov ← eval o X.env
      standAt apos.atName
      let fm ← holding [ov] (getMethod ov m pl)
      callWith pos fm.1 fm.2 (backTo pos (starEach [] X.env)) (backToKw pos (keywordEach [] X.env))) := by rfl) :
    PE X (.Call (.Attribute o m apos) [] [] pos) (tMeth C m sp [] E ta tNil) := by
  obtain ⟨f, fd, F, me, b⟩ := h.ex
  exact pe_meth0 he c me F hr b .nil hx ht
theorem pe_makeH (h : HasI X.prog X.w X.K X.mg X.base CX k x C ps sp) (hr : Room (k + 1) X.A) (hg : Gl X x) (hx : Passes CX X E) (ha : PA X (e :: es) t)
    (hdb : (x == ("__debug__" : Str)) = false := by decide) (he : starEach (e :: es) X.env = (false, eval e X.env) :: starEach es X.env := by rfl) (hpl : (backTo pos (starEach es X.env)).any (·.1) = false := by rfl) :
    PE X (.Call (.Name x p) (e :: es) [] pos) (tMake C sp [] E t) := by
  obtain ⟨f, fd, F, mk, g, b⟩ := h.ex
  exact pe_make mk F hr hg g b .nil hx ha hdb he hpl
theorem pe_makeH0 (h : HasI X.prog X.w X.K X.mg X.base CX k x C ps sp) (hr : Room (k + 1) X.A) (hg : Gl X x) (hx : Passes CX X E) (hdb : (x == ("__debug__" : Str)) = false := by decide) :
    PE X (.Call (.Name x p) [] [] pos) (tMake C sp [] E tNil) := by
  obtain ⟨f, fd, F, mk, g, b⟩ := h.ex
  exact pe_make0 mk F hr hg g b .nil hx hdb
end
end Go

set_option Elab.async false
set_option linter.all false
set_option maxRecDepth 100000
set_option maxHeartbeats 4000000
/-! Exn: own exceptions without __init__: raise, try .. except X as e, isinstance of the caught one (one class, a tuple of classes); texts by place; str(int); **. -/
namespace Go
open PySem L2
/-- the module's name x holds an own exception class without __init__, an heir of ValueError -/
structure ExO (K : PySem.W.Frag) (mg : Str → Option Value) (x : Str) (C : Addr) : Prop where
  q : PySem.W.excIn K C [.type "ValueError", .type "Exception", .type "BaseException", .type "object"] "ValueError.__new__" = true
  gC : mg x = some (.ref C)
  kC : PySem.W.keepIn K (.ref C) = true
  s1 : PySem.W.subIn K (.ref C) (.type "BaseException") = some true
  t1 : PySem.W.typeIn K (.ref C) = some (.type "type")
def tRaiseC (C : Addr) (E : XK) : TS := fun _ _ H => E (.ref C) none H
theorem ps_raiseC {X : Cx} {E : XK} {C : Addr} {x m : Str} {j : Nat} {p p2 pos pos2 : Pos} (hc : X.calm = true) (tk : Takes X (fun cls d _ H => E cls d H)) (e : ExO X.K X.mg x C) (hg : Gl X x) (hdb : (x == ("__debug__" : Str)) = false := by decide) :
    PS X (.Raise (some (.Call (.Name x p) [.Constant (.str m) j p2] [] pos)) none pos2) (tRaiseC C E) :=
  ps_raise hc tk (pmk_own F.excBase_ValueError e.q e.gC e.kC (raises_own e.s1 e.t1) hg hdb)
def rIsX (K : PySem.W.Frag) (cls : Value) (d : Option Addr) (a : Addr) : List V → Hp → VK → Prop := fun xs H Q => ∃ (D : Addr) (c : V) (cv : Value) (b : Bool), cls = .ref D ∧ d = none ∧ ExcC K D ∧ xs = [.ref a, c] ∧ ClsV c cv ∧ PySem.W.kitOne K (.ref D) cv = some b ∧ Q (.bl b) H
def rIsXT (K : PySem.W.Frag) (cls : Value) (d : Option Addr) (a : Addr) : List V → Hp → VK → Prop := fun xs H Q => ∃ (D tp : Addr) (cs : List V) (us : List Value) (b : Bool), cls = .ref D ∧ d = none ∧ ExcC K D ∧ xs = [.ref a, .ref tp] ∧ H tp = some (.tup cs) ∧ Paired ClsV cs us ∧ PySem.W.kitAny K (.ref D) us = some b ∧ Q (.bl b) H
section
variable {X : Cx} {a : Addr} {oe : Obj} {cls : Value} {d : Option Addr} {pn : List (Addr × Obj)}
theorem call_isX (hz : Zc cls d oe) (hf : ∃ vs, oe.data = .fields vs) : CallR (X.suite a ((a, oe) :: pn)) (.builtin "isinstance") (rIsX X.K cls d a) := by
  intro pins s σ H xs us Q I r h
  obtain ⟨D, c, cv, b, rfl, rfl, C, rfl, k, e, q⟩ := h
  exact call_isE C hz hf pins s σ H _ us Q I r ⟨c, cv, b, rfl, fun u ru => k.eq ru, e, q⟩
theorem call_isXT (hz : Zc cls d oe) (hf : ∃ vs, oe.data = .fields vs) : CallR (X.suite a ((a, oe) :: pn)) (.builtin "isinstance") (rIsXT X.K cls d a) := by
  intro pins s σ H xs us Q I r h
  obtain ⟨D, tp, cs, ws, b, rfl, rfl, C, rfl, hT, k, e, q⟩ := h
  cases r with
  | cons rx rr =>
    cases rr with
    | cons rt rr =>
      cases rr
      cases rx
      cases rt
      obtain ⟨hget, _⟩ := I.pin (a, oe) (List.mem_append.mpr (.inl List.mem_cons_self))
      obtain ⟨vs, hv⟩ := hf
      have J : PySem.W.InstAt s.heap a oe D none := by
        obtain ⟨oc, od, oda, osl⟩ := oe
        obtain ⟨h1, h2⟩ := hz
        dsimp only at h1 h2 hv
        subst h1 h2 hv
        exact ⟨hget, rfl, rfl, trivial⟩
      obtain ⟨_, its, rv, o, h1, h2, n, h3⟩ := (show ObjOk X.prog X.w H s.heap tp (.tup cs) from I.hok tp _ hT)
      have e3 := ClsV.all k rv
      subst e3
      obtain ⟨oc, od, dt, sl⟩ := o
      simp only at h2 h3
      subst h2 h3
      exact PySem.W.kia_tup (PySem.W.handS_kitx_exc C.hg C.hk C.hs C.hd C.ha C.hn C.ht C.hm) I.kIn J h1 e (fun z => nomatch z) fun tk => ⟨.bl b, H, I.kept (t' := tk) fun _ _ z => z, rfl, q⟩
end
/-- a call, within a try, of a def that may raise -/
theorem pe_callSH {X : Cx} {k : Nat} {x : Str} {ps : List Str} {sp : Sp} {W : WX} {p pos : Pos} {e : Expr} {es : List Expr} {t : TA} (h : Has X.prog X.w X.K X.mg X.base (L2.CX X.prog X.w) k x ps sp) (hr : Room k X.A) (hg : Gl X x) (tk : Takes X W)
    (ha : PA X (e :: es) t) (hdb : (x == ("__debug__" : Str)) = false := by decide) (he : starEach (e :: es) X.env = (false, eval e X.env) :: starEach es X.env := by rfl) (hpl : (backTo pos (starEach es X.env)).any (·.1) = false := by rfl) :
    PE X (.Call (.Name x p) (e :: es) [] pos) (tCallS sp (WE W) t) := by
  obtain ⟨f, fd, F, m, kp, b⟩ := h.ex
  exact pe_callS F hr hg m kp b (fun σ => passAt tk σ) ha hdb he hpl
/-- elsewhere: a def that may raise, and does not -/
theorem passX {X : Cx} : Passes (L2.CX X.prog X.w) X E0 := passes_call (W := fun _ _ _ _ => False) takes0 (fun _ _ _ _ h => h)
section
variable {σ : St} {H : Hp} {Q : VK} {D0 : Ends} {K : PySem.W.Frag} {C a : Addr}
theorem w_callS {sp : Sp} {E : St → XK} {t : TA} (h : t σ H fun vs H1 => sp vs H1 Q (E σ)) : tCallS sp E t σ H Q := h
theorem w_raiseC {E : XK} (h : E (.ref C) none H) : tRaiseC C E D0 σ H := h
/-- a text by place -/
theorem x_str {z : Str} {i : Int} {c : Nat} (hz : z.length ≤ sizeLine) (e : atI z.cps.toList i = some c) (h : Q (.str ⟨#[c]⟩) H) : rIx K (.str z) (.int i) H Q := .inr (.inr ⟨z, i, c, rfl, rfl, hz, e, h⟩)
def rStrI : List V → Hp → VK → Prop := fun xs H Q => ∃ i : Int, xs = [.int i] ∧ i.natAbs.log2 < 1920 ∧ Q (.str (toString i)) H
theorem b_str {i : Int} (h1 : i.natAbs.log2 < 1920) (h : Q (.str (toString i)) H) : rStrI [.int i] H Q := ⟨i, rfl, h1, h⟩
def rPowI : R2 := rI CPow fun i j => .int (i ^ j.toNat)
theorem r_pow {i j : Int} (c : CPow i j) (h : Q (.int (i ^ j.toNat)) H) : rPowI (.int i) (.int j) H Q := r_iC c h
theorem m_rep {l : Addr} {k : Int} {xs : List V} (hx : H l = some (.lst xs)) (h1 : -9223372036854775808 ≤ k) (h2 : k < 9223372036854775808) (hz : xs.length * k.toNat ≤ sizeLine) (h : ∀ p H', H p = none → Ext [] H H' → H' p = some (.lst (List.replicate k.toNat xs).flatten) → Q (.ref p) H') : rRep (.ref l) (.int k) H Q :=
  ⟨l, k, xs, rfl, rfl, hx, by omega, by omega, hz, fun p hp => h p _ hp (Ext.new hp) upd_same⟩
theorem b_lstT {x : V} {ds : List D} (hx : Rp K H x (.tup ds)) (h : ∀ p H' xs, H p = none → Ext [] H H' → H' p = some (.lst xs) → RpAll K H' xs ds → Q (.ref p) H') : rLstOf K [x] H Q := by
  obtain ⟨a, xs, rfl, h1, h2⟩ := hx.tupI
  exact ⟨a, xs, rfl, .inr h1, fun l hl => h l _ xs hl (Ext.new hl) upd_same (RpAll.mono (Ext.new (S := []) hl) h2)⟩
/-- what is walked may be a list or a tuple -/
def iSeqK (K : PySem.W.Frag) (te : TE) : TI := fun σ H R => iList K te σ H R ∨ iTup K te σ H R
theorem pi_seqK {X : Cx} {tg l : Expr} {tl : TE} (hl : PE X l tl) : PI X tg l (iSeqK X.K tl) := by
  refine ⟨fun pins s σ H R I h => ?_⟩
  rcases h with h | h
  · exact (pi_list hl).run pins s σ H R I h
  · exact (pi_tup hl).run pins s σ H R I h
end
end Go
namespace Go
open PySem L2
/-- try: .. except X as e: .. , X's class at c, e's slot i -/
def tTryAs (K : PySem.W.Frag) (c : Value) (i : Nat) (tb : WX → TS) (ts : Addr → Value → Option Addr → TS) : TS := fun D σ H => tb (wAs K c i ts (fun _ _ _ _ => False) D) D σ H
end Go
namespace Go
open PySem L2
section
variable {σ : St} {H : Hp} {D0 : Ends} {K : PySem.W.Frag}
/-- over the items of a tuple, any target -/
theorem f_tupG {a : Addr} {g : TG} {ds : List D} {tb : TS} (W : Nat → St → Hp → Prop) (h0 : W 0 σ H) (hk : ∀ i σ H, i ≤ ds.length → W i σ H → Rp K H (.ref a) (.tup ds))
    (hs : ∀ i d v σ H, ds[i]? = some d → Rp K H v d → W i σ H → g v σ H fun σ2 H2 => tb { D0 with nx := W (i + 1), ct := W (i + 1), bk := D0.nx } σ2 H2) (hd : ∀ σ H, W ds.length σ H → D0.nx σ H) :
    ForOk (Itt K a) g tb D0 σ H := by
  refine ⟨fun i m σ H => m = ds.length - i ∧ i ≤ ds.length ∧ W i σ H, ⟨ds.length, by simp, Nat.zero_le _, h0⟩, ?_⟩
  rintro i m σ H ⟨rfl, hi, p⟩
  obtain ⟨a', xs', e, k1, k2⟩ := (hk i σ H hi p).tupI
  cases e
  have hl := k2.length
  by_cases hlt : i < ds.length
  · refine .inr ⟨⟨xs', xs'[i]'(by omega), k1, by simp [show i < xs'.length by omega]⟩, W (i + 1), fun σ' H' p' => ⟨ds.length - (i + 1), by omega, rfl, hlt, p'⟩, fun x H' y => ?_⟩
    obtain ⟨e, y⟩ := y
    subst e
    obtain ⟨d, hd1, hr⟩ := k2.get (y xs' k1)
    exact hs i d x σ _ hd1 hr p
  · have e : i = ds.length := by omega
    subst e
    exact .inl ⟨⟨xs', k1, by omega⟩, hd σ H p⟩
theorem w_gT2 {i j : Nat} {v : V} {d1 d2 : D} {Q : St → Hp → Prop} (hv : Rp K H v (.tup [d1, d2])) (h : ∀ v1 v2, Rp K H v1 d1 → Rp K H v2 d2 → Q ((σ.set i (some v1)).set j (some v2)) H) : gTup K 2 (gCons (gName i) (gCons (gName j) gNil)) v σ H Q := by
  obtain ⟨a, xs, rfl, h1, h2⟩ := hv.tupI
  cases h2 with
  | cons r1 h2 =>
    cases h2 with
    | cons r2 h2 =>
      cases h2
      exact ⟨a, _, rfl, h1, rfl, _, _, rfl, _, _, rfl, rfl, h _ _ r1 r2⟩
end
end Go
namespace Go
open PySem L2
theorem kit_ref {K : PySem.W.Frag} {t : Value} {C : Addr} {b : Bool} (hne : (t == Value.ref C) = false) (h1 : PySem.W.isClsIn K C = true) (h2 : PySem.W.typeIn K (.ref C) = some (.type "type")) (h3 : PySem.W.subIn K t (.ref C) = some b) : PySem.W.kitOne K t (.ref C) = some b := by
  have e2 : ((PySem.W.clsIn K C).isSome && PySem.W.typeIn K (.ref C) == some (.type "type")) = true := by
    have h1' : (PySem.W.clsIn K C).isSome = true := h1
    rw [h1', h2] <;> rfl
  show (if (t == Value.ref C) = true then some true else if ((PySem.W.clsIn K C).isSome && PySem.W.typeIn K (.ref C) == some (.type "type")) = true then PySem.W.subIn K t (.ref C) else none) = some b
  rw [if_neg (by rw [hne]; decide), if_pos e2]
  exact h3
theorem kit_type {K : PySem.W.Frag} {D : Addr} {T : String} {b : Bool} (h2 : PySem.W.kitMeta T = true) (h3 : PySem.W.subIn K (.ref D) (.type T) = some b) : PySem.W.kitOne K (.ref D) (.type T) = some b := by
  show (if (Value.ref D == Value.type T) = true then some true else if PySem.W.kitMeta T = true then PySem.W.subIn K (.ref D) (.type T) else none) = some b
  rw [if_neg (by simp), if_pos h2]
  exact h3
theorem exm_at {K : PySem.W.Frag} {cls : Value} {C : Addr} {b : Bool} (h0 : PySem.W.subIn K (.ref C) (.type "BaseException") = some true) (h1 : PySem.W.isClsIn K C = true) (h2 : PySem.W.typeIn K (.ref C) = some (.type "type")) (h3 : PySem.W.subIn K cls (.ref C) = some b) : PySem.W.exmOne K cls (.ref C) = some b := by
  have e1 : (PySem.W.subIn K (.ref C) (.type "BaseException") == some true) = true := by rw [h0] <;> rfl
  have e2 : ((PySem.W.clsIn K C).isSome && PySem.W.typeIn K (.ref C) == some (.type "type")) = true := by
    have h1' : (PySem.W.clsIn K C).isSome = true := h1
    rw [h1', h2] <;> rfl
  show (if (PySem.W.subIn K (.ref C) (.type "BaseException") == some true) = true then (if ((PySem.W.clsIn K C).isSome && PySem.W.typeIn K (.ref C) == some (.type "type")) = true then PySem.W.subIn K cls (.ref C) else none) else none) = some b
  rw [if_pos e1, if_pos e2]
  exact h3
end Go

set_option Elab.async false
set_option linter.all false
set_option maxRecDepth 100000
set_option maxHeartbeats 4000000
/-! TryAs: try .. except X as e: .. except Y as f: .. (several clauses, each with a name). -/
namespace Go
open PySem L2 PySem.Spec PyProof.Rows
abbrev Cl := Value × Nat × (Addr → Value → Option Addr → TS)
def unset (i : Nat) (D : Ends) : Ends := { nx := fun σ H => D.nx (σ.set i none) H, rt := D.rt, bk := fun σ H => D.bk (σ.set i none) H, ct := fun σ H => D.ct (σ.set i none) H }
/-- what the clauses wish, one after the other -/
def wCls (K : PySem.W.Frag) (Wout : WX) (D : Ends) : List Cl → WX
  | [] => Wout
  | (c, i, ts) :: r => fun cls d σ H => ∃ b, PySem.W.exmOne K cls c = some b ∧ (b = true → ∀ a, H a = none → ts a cls d (unset i D) (σ.set i (some (.ref a))) H) ∧ (b = false → wCls K Wout D r cls d σ H)
inductive Clauses (X : Cx) : List ExceptHandler → List Cl → Prop
  | nil : Clauses X [] []
  | cons {x n : Str} {c : Value} {i : Nat} {ts : Addr → Value → Option Addr → TS} {b₀ : Stmt} {suite : List Stmt} {np pos' : Pos} {hds : List ExceptHandler} {l : List Cl} (hc : Names X x c) (hi : X.N[i]? = some n) (hln : X.env.kindOf n = some .local)
      (hsu : ∀ (a : Addr) (oe : Obj) (cls : Value) (d : Option Addr) (pn : List (Addr × Obj)), Zc cls d oe → (∃ vs, oe.data = .fields vs) → PSs (X.suite a ((a, oe) :: pn)) (b₀ :: suite) (ts a cls d)) (r : Clauses X hds l) :
      Clauses X (.ExceptHandler (some (.Name x np)) (some n) (b₀ :: suite) pos' :: hds) ((c, i, ts) :: l)
section
variable {X : Cx} {body : List Stmt} {h₀ : ExceptHandler} {hds : List ExceptHandler} {l : List Cl} {pos : Pos} {tb : WX → TS} {Wout : WX}
/-- what one state behind the landing is known to have -/
theorem ps_tries (hs : X.stack = X.env :: X.outer) (hf : X.env.frame = some X.env.locals) (hN : X.N.Nodup) (tk : Takes X Wout)
    (hb : ∀ (W : WX) (pn : List (Addr × Obj)) (xe : Value → Shared → Prop), Takes (X.tr pn xe) W → PassesOwn (model X.prog X.w) X.A X.env xe → PSs (X.tr pn xe) body (tb W))
    (hh : Clauses X (h₀ :: hds) l) : PS X (.Try body (h₀ :: hds) [] [] pos) (fun D σ H => tb (wCls X.K Wout D l) D σ H) := by
  refine ⟨fun pins s σ H D I h => ?_⟩
  have ok := I.ok
  have hfr : X.A.frames = some (X.env :: X.outer) := ok.frames.trans (by rw [hs])
  refine wpAny_Try_except ?_
  refine wpAny_mono ((hb (wCls X.K Wout D l) (X.pn ++ pins) (fun e s₁ => wpAny (model X.prog X.w) X.A (noteFrame e X.env) (fun _ s₂ => wpAny (model X.prog X.w) X.A (setFlight e none) (fun _ s₃ =>
    wpAny (model X.prog X.w) X.A (handleBy e X.env (h₀ :: hds)) (SP X pins D) X.xe s₃) X.xe s₂) X.xe s₁) (fun u s' xx => ?_) PassesOwn.looking).run [] s σ H D (I.toTry _) h) (fun f s1 hsp => ?_) (fun _ _ z => z)
  case refine_2 =>
    cases f with
    | next => obtain ⟨σ1, H1, J1, q1⟩ := hsp; exact wpAny_execs_nil ⟨σ1, H1, J1.ofTry ok, q1⟩
    | brk => obtain ⟨σ1, H1, J1, q1⟩ := hsp; exact ⟨σ1, H1, J1.ofTry ok, q1⟩
    | cont => obtain ⟨σ1, H1, J1, q1⟩ := hsp; exact ⟨σ1, H1, J1.ofTry ok, q1⟩
    | ret u => obtain ⟨v, σ1, H1, J1, r1, q1⟩ := hsp; exact ⟨v, σ1, H1, J1.ofTry ok, r1, q1⟩
  obtain ⟨a, B, sI, pins', σ', H', cls, d, rfl, J', nb, up, sky, na, os, ag, w⟩ := xx
  have J : Inv X pins σ' H' sI := J'.ofTry ok
  have sky2 : Sky B (X.env :: X.outer) a (Zc cls d) X.env.locals s'.heap := hs ▸ sky
  refine Sky.land Zc.steady hfr hf sky2 fun h3 fl3 up3 => ?_
  have J3 : Inv X pins σ' H' { s' with heap := h3 } := J.landed nb fl3.1 (up.trans up3) os ag
  obtain ⟨oe3, vs3, he3, hz3, hd3⟩ := fl3.there
  have nfr : a ∉ frs (X.env :: X.outer) := fun hm => by
    obtain ⟨_, o2, e2, hnf⟩ := (fl3.2.2.1).mem hm
    rw [he3] at e2
    cases e2
    exact hnf _ hd3
  have nL : a ≠ X.env.locals := fun z => nfr (List.mem_filterMap.mpr ⟨X.env, List.mem_cons_self, by rw [hf, z]⟩)
  have nF : a ∉ X.fs := fun hm => by
    obtain ⟨e, he, q⟩ := List.mem_filterMap.mp hm
    exact nfr (List.mem_filterMap.mpr ⟨e, List.mem_cons_of_mem _ he, q⟩)
  have S3 := J3.suite he3 hd3 na nL nF
  have LT : PySem.W.Looks (model X.prog X.w) h3 (typeOf (.ref a)) cls := fun A Q E s k q => wpAny_typeOf_ref (k _ _ he3) (by rw [hz3.1]; exact q)
  -- the clauses, from the first on
  suffices go : ∀ {hds' : List ExceptHandler} {l' : List Cl}, Clauses X hds' l' → wCls X.K Wout D l' cls d σ' H' → wpAny (model X.prog X.w) X.A (handleBy (.ref a) X.env hds') (SP X pins D) X.xe { s' with heap := h3 } from go hh w
  intro hds' l' hk
  induction hk with
  | nil =>
    intro w
    refine wpAny_handleBy_nil ?_
    obtain ⟨k1, k2, k3, oe, vs, T, oT, ts', he, hz, hd, h1, hr⟩ := id fl3
    unfold PySem.passOn
    refine wpAny_bind (wpAny_field he hd h1 ?_)
    rw [if_neg (show ¬ ((Value.ref T == Value.none) = true) from by simp)]
    have fin : wpAny (model X.prog X.w) X.A (setFlight (.ref a) X.env.frame) (fun _ s4 => wpAny (model X.prog X.w) X.A (throw (.ref a) : Sem Flow) (SP X pins D) X.xe s4) X.xe { s' with heap := h3 } := by
      rw [hf]
      exact HandSPX.setFlight_upZ fl3 fun h4 hh4 up4 => wpAny_throw (tk _ _ ⟨a, B, sI, pins, σ', H', cls, d, rfl, J, nb, (up.trans up3).trans up4, .inr (.inr (hs ▸ hh4)), na, os, ag, w⟩)
    first
      | exact wpAny_bind (wpAny_pure (wpAny_bind fin))
      | exact wpAny_bind fin
  | @cons x n c i ts b₀ suite np pos' hds2 l2 hc hi hln hsu r ih =>
    rintro ⟨b, hb1, hyes, hno⟩
    refine wpAny_handleBy_cons (codeAny_handlers_test ?_) (by intro q; cases q)
    have LM := PySem.W.exm_one (M := model X.prog X.w) (J3.kIn) LT hb1
    have named : ∀ {Q E : Value → Shared → Prop}, Q c { s' with heap := h3 } → wpAny (model X.prog X.w) (X.A.mark (some (.ref a))) (eval (.Name x np) X.env) Q E { s' with heap := h3 } := fun {Q E} q => by
      rcases hc with ⟨hg, hdbg, hm | ⟨hm, hv, hnn⟩⟩
      · exact ld_glob (X := X.suite a ((a, oe3) :: (X.pn ++ pins))) S3 hg hm q hdbg
      · exact ld_blt (X := X.suite a ((a, oe3) :: (X.pn ++ pins))) S3 hg hm hv q hnn hdbg
    refine named (LM.here ?_)
    cases b with
    | false => exact ih (hno rfl)
    | true =>
      refine codeAny_handlers_suite_as ?_
      refine HandSPX.lands_againZ fl3 fun h4 fl4 up4 => ?_
      have J4 : Inv X pins σ' H' { s' with heap := h4 } := J.landed nb fl4.1 ((up.trans up3).trans up4) os ag
      obtain ⟨oe4, vs4, he4, hz4, hd4⟩ := fl4.there
      refine store_ok (X := X.suite a ((a, oe4) :: (X.pn ++ pins))) (v := .ref a) (J4.suite he4 hd4 na nL nF) hN hi (.inl hln) rfl (fun s5 S5 => ?_) (.inr hln)
      refine wpAny_mono ((hsu a oe4 cls d (X.pn ++ pins) hz4 ⟨_, hd4⟩).run [] s5 _ H' _ S5 (hyes rfl a na)) (fun f s6 hsp => ?_) (fun _ _ z => False.elim z)
      cases f with
      | next => obtain ⟨σ6, H6, S6, q6⟩ := hsp; exact gone_ok (S6.unsuite ok) hN hi hln fun s7 J7 => ⟨_, _, J7, q6⟩
      | brk => obtain ⟨σ6, H6, S6, q6⟩ := hsp; exact gone_ok (S6.unsuite ok) hN hi hln fun s7 J7 => ⟨_, _, J7, q6⟩
      | cont => obtain ⟨σ6, H6, S6, q6⟩ := hsp; exact gone_ok (S6.unsuite ok) hN hi hln fun s7 J7 => ⟨_, _, J7, q6⟩
      | ret u => obtain ⟨v6, σ6, H6, S6, r6, q6⟩ := hsp; exact gone_ok (S6.unsuite ok) hN hi hln fun s7 J7 => ⟨_, _, _, J7, r6, q6⟩
end
/-- try with named clauses; what no clause takes is not raised -/
def tTries (K : PySem.W.Frag) (l : List Cl) (tb : WX → TS) : TS := fun D σ H => tb (wCls K (fun _ _ _ _ => False) D l) D σ H
end Go

set_option Elab.async false
set_option linter.all false
set_option maxRecDepth 100000
set_option maxHeartbeats 4000000
/-! Kw: defs with parameters behind *: called with keywords in the parameters' order. -/
namespace Go
open PySem L2 PySem.Spec PyProof.Rows
/-- np positional values, then the keywords' values -/
def gK {α : Type} (np : Nat) (us ws : List α) : List α := if us.length = np then us ++ ws else []
theorem gK_rel {np : Nat} {vs : List V} {us : List Value} {zs : List V} {ws : List Value} (h1 : Vals vs us) (h2 : Vals zs ws) : Vals (gK np vs zs) (gK np us ws) := by
  unfold gK
  rw [h1.length]
  by_cases c : us.length = np
  · rw [if_pos c, if_pos c]
    exact h1.append h2
  · rw [if_neg c, if_neg c]
    exact .nil
structure HasK (P : Program) (w : World) (K : PySem.W.Frag) (mg : Str → Option Value) (base : Heap) (CX : CXT) (k : Nat) (x : Str) (np : Nat) (ps ks : List Str) (sp : Sp) : Prop where
  ex : ∃ (f : Addr) (fd : FuncData), FnOk P w K mg base CX k f fd ps sp ∧ mg x = some (.ref f) ∧ PySem.W.keepIn K (.ref f) = true ∧ KBinds K fd ps ks (gK np) (gK np)
structure DfnK (K : PySem.W.Frag) (mg : Str → Option Value) (x : Str) (st : Stmt) (np : Nat) (ps ks : List Str) : Prop where
  ex : ∃ (f : Addr) (fd : FuncData), Fun K x x st f fd ∧ mg x = some (.ref f) ∧ KBinds K fd ps ks (gK np) (gK np)
theorem DfnK.has {P : Program} {w : World} {K : PySem.W.Frag} {mg : Str → Option Value} {base : Heap} {CX : CXT} {k : Nat} {x : Str} {np : Nat} {ps ks : List Str} {sp : Sp} {st : Stmt} (D : DfnK K mg x st np ps ks) (h : ∀ f fd, Fun K x x st f fd → FnOk P w K mg base CX k f fd ps sp) : HasK P w K mg base CX k x np ps ks sp := by
  obtain ⟨f, fd, F, m, b⟩ := D.ex
  exact ⟨f, fd, h f fd F, m, F.kp, b⟩
/-- how its arguments bind: h is «fun _ _ _ _ _ _ us ws hl => match us, ws, hl with | [_], [_, _], _ => rfl» behind hl -/
theorem kbinds {K : PySem.W.Frag} {x qual : Str} {st : Stmt} {f : Addr} {fd : FuncData} {np : Nat} {ps ks : List Str} (F : Fun K x qual st f fd)
    (h : ∀ (kV doc pm : Value) (an : Option Addr) (cdv ct : Value) (us ws : List Value), us.length = np → ws.length = ks.length → bindArgs (PySem.W.fnOf x qual (defArgs st) (defBody st) (defScope st) .none kV doc pm an cdv ct) ⟨us, ks.zip ws⟩ = pure (ps.zip (us ++ ws))) (hp : ps.length = np + ks.length) (hk : 0 < ks.length) : KBinds K fd ps ks (gK np) (gK np) := by
  obtain ⟨oc, od, kV, doc, pm, an, cdv, ct, osl, rfl, lk, hcd⟩ := F.ex
  refine ⟨fun s us ws _ hl => ?_, fun h1 h2 => gK_rel h1 h2⟩
  unfold gK at hl ⊢
  by_cases c : us.length = np
  · rw [if_pos c] at hl ⊢
    exact .of_eq (h kV doc pm an cdv ct us ws c (by rw [List.length_append] at hl; omega))
  · rw [if_neg c] at hl
    simp at hl
    omega
section
variable {X : Cx} {CX : CXT} {k np : Nat} {ps ks : List Str} {sp : Sp} {E : XK} {x : Str} {p pos : Pos} {e : Expr} {es : List Expr} {kws : List Keyword} {t tk : TA}
theorem pe_callKH (h : HasK X.prog X.w X.K X.mg X.base CX k x np ps ks sp) (hr : Room k X.A) (hg : Gl X x) (hx : Passes CX X E) (ha : PA X (e :: es) t) (hkw : PK X kws tk)
    (hall : (backToKw pos (keywordEach kws X.env)).all (·.1.isSome) = true := by rfl) (hks : (backToKw pos (keywordEach kws X.env)).filterMap (·.1) = ks := by rfl)
    (hdb : (x == ("__debug__" : Str)) = false := by decide) (he : starEach (e :: es) X.env = (false, eval e X.env) :: starEach es X.env := by rfl)
    (hpl : ((backTo pos (starEach (e :: es) X.env)).any (·.1) || (backToKw pos (keywordEach kws X.env)).any (·.1.isNone)) = false := by rfl) :
    PE X (.Call (.Name x p) (e :: es) kws pos) (tCallK sp (gK np) E t tk) := by
  obtain ⟨f, fd, F, m, kp, b⟩ := h.ex
  exact pe_callK F hr hg m kp b hx ha hkw hall hks hdb he hpl
/-- within a try -/
def tCallKS (sp : Sp) (gV : List V → List V → List V) (E : L2.St → XK) (t tk : TA) : TE := fun σ H Q => t σ H fun vs H1 => tk σ H1 fun zs H2 => sp (gV vs zs) H2 Q (E σ)
theorem pe_callKS {W : WX} (h : HasK X.prog X.w X.K X.mg X.base (L2.CX X.prog X.w) k x np ps ks sp) (hr : Room k X.A) (hg : Gl X x) (tw : Takes X W) (ha : PA X (e :: es) t) (hkw : PK X kws tk)
    (hall : (backToKw pos (keywordEach kws X.env)).all (·.1.isSome) = true := by rfl) (hks : (backToKw pos (keywordEach kws X.env)).filterMap (·.1) = ks := by rfl)
    (hdb : (x == ("__debug__" : Str)) = false := by decide) (he : starEach (e :: es) X.env = (false, eval e X.env) :: starEach es X.env := by rfl)
    (hpl : ((backTo pos (starEach (e :: es) X.env)).any (·.1) || (backToKw pos (keywordEach kws X.env)).any (·.1.isNone)) = false := by rfl) :
    PE X (.Call (.Name x p) (e :: es) kws pos) (tCallKS sp (gK np) (WE W) t tk) := by
  obtain ⟨f, fd, F, m, kp, b⟩ := h.ex
  refine ⟨fun pins s σ H Q I hq => ?_⟩
  refine wpAny_Call_Name_kw (ld_glob I hg m ?_ hdb)
  refine PySem.W.callWith_KW (h₀ := X.base) I.ok.mod.kin kp hall (thn (ha.run pos pins s σ H _ I hq) fun us s1 ⟨vs, H1, I1, r, q⟩ => ?_) hpl he
  refine thn (hkw.run pos pins s1 σ H1 _ I1 q) fun ws s2 ⟨zs, H2, I2, rz, q2⟩ => ⟨I2.kIn, ?_⟩
  rw [hks]
  have r2 := b.rel r rz
  have hl : (gK np us ws).length = ps.length := r2.length.symm.trans (F.len _ _ _ _ q2)
  refine wpAny_call (codeAny_mono (F.run X.A X.stack s2 H2 ⟨us, ks.zip ws⟩ (gK np us ws) (gK np vs zs) Q (WE W σ) hr I2.env0 (b.to s2 us ws I2.kIn hl) r2 q2) fun rr s' hq => ?_)
  match rr, hq with
  | .error e, hq => exact passAt tw σ pins H2 s2 e s' I2 hq
  | .ok (.ret u), hq => exact I2.after hq
end
/-- in a def that raises: what the callee lets out, it lets out -/
theorem passE {X : Cx} {E : XK} (tk : Takes X (fun cls d _ H => E cls d H)) : Passes (L2.CX X.prog X.w) X E := passes_call tk fun _ _ _ _ h => h
section
variable {σ : L2.St} {H : Hp} {Q : VK}
theorem w_callK {sp : Sp} {np : Nat} {E : XK} {t tk : TA} (h : t σ H fun vs H1 => tk σ H1 fun zs H2 => sp (gK np vs zs) H2 Q E) : tCallK sp (gK np) E t tk σ H Q := h
theorem w_callKS {sp : Sp} {np : Nat} {E : L2.St → XK} {t tk : TA} (h : t σ H fun vs H1 => tk σ H1 fun zs H2 => sp (gK np vs zs) H2 Q (E σ)) : tCallKS sp (gK np) E t tk σ H Q := h
end
end Go
namespace Go
open PySem L2
def rLstD : List V → Hp → VK → Prop := fun xs H Q => ∃ (a : Addr) (kvs : List (Key × V)), xs = [.ref a] ∧ Rd H a (.dK kvs) ∧ ∀ p, H p = none → Q (.ref p) (upd H p (.lst (kvs.map fun kv => kV kv.1)))
end Go

namespace Law
open PySem L2 Go
local macro_rules | `(tactic| row_has $x) => `(tactic| repeat (first | (obtain ⟨e, _⟩ := $x:ident; subst e; rfl) | (obtain ⟨_, $x:ident⟩ := $x:ident)))
local macro_rules | `(tactic| walk_at "ts") => `(tactic| first
  | exact Tst.refl
  | (refine' Ext.ts (S := ?k0) ?k1; case k1 => assumption)
  | (refine' Tst.trans (Ext.ts (S := ?k0) ?k1) ?k2; (case k1 => assumption); (case k2 => walk_at "ts"))
  | (refine' Tst.trans ?k2 (Ext.ts (S := ?k0) ?k1); (case k1 => assumption); (case k2 => walk_at "ts")))
local macro_rules | `(tactic| walk_at "ext") => `(tactic| first
  | exact Ext.refl
  | assumption
  | (refine' Ext.trans ?k1 ?k2; (case k1 => assumption); (case k2 => walk_at "ext"))
  | (refine' Ext.trans (Ext.any ?k1) ?k2; (case k1 => assumption); (case k2 => walk_at "ext"))
  | (refine' Ext.trans ?k2 ?k1; (case k1 => assumption); (case k2 => walk_at "ext"))
  | (refine' Ext.more ?k2 ?k1; (case k1 => assumption); (case k2 => walk_at "ext")))
local macro_rules | `(tactic| walk_at "rp") => `(tactic| first
  | assumption
  | exact Rp.str _
  | exact Rp.int _
  | exact Rp.non
  | exact Rp.bl _
  | (refine' Rp.ts ?k2 ?k1; (case k1 => assumption); (case k2 => walk_at "ts")))
local macro_rules | `(tactic| walk_at "ls") => `(tactic| first
  | assumption
  | (refine' Ext.keep (S := ?k0) ?k1 _ _ ?k2 ?k3; (case k1 => assumption); (case k2 => walk_at "ls"); (case k3 => first | exact List.not_mem_nil | assumption | (simp; assumption) | (simp; exact Ne.symm (by assumption)))))
local macro_rules | `(tactic| walk_at "all") => `(tactic| first
  | exact RpAll.nil
  | (refine' RpAll.cons ?k1 ?k2; (case k1 => walk_at "rp"); (case k2 => walk_at "all")))
local macro_rules | `(tactic| walk_at "len") => `(tactic| first
  | (refine le_line ?_; simp; done)
  | (refine le_line ?_; simp only [List.length_append, List.length_cons, List.length_nil, List.length_map, List.length_take]; omega)
  | omega)
local macro_rules | `(tactic| walk_at "lk") => `(tactic| first | exact lk_hit | (refine (lk_miss (by decide +kernel)).trans ?_; walk_at "lk") | exact lk_nil)
local macro_rules | `(tactic| walk_at "pf") => `(tactic| first | exact pf_nil | exact pf_hit | (refine' pf_miss ?k1 ?k2; (case k1 => decide +kernel); (case k2 => walk_at "pf")))
local macro_rules | `(tactic| walk_at "di") => `(tactic| first
  | assumption
  | (refine' DI.keep (S := ?k0) ?k2 ?k1 ?k3; (case k1 => assumption); (case k2 => walk_at "di"); (case k3 => first | exact List.not_mem_nil | assumption | (simp; assumption) | (simp; exact Ne.symm (by assumption)))))
local macro_rules | `(tactic| walk_at "s0") => `(tactic| first
  | with_reducible refine w_asg ?_
  | with_reducible refine w_name ?_
  | with_reducible refine w_next ?_
  | with_reducible refine w_break ?_
  | with_reducible refine w_cont ?_
  | with_reducible refine w_drop ?_
  | with_reducible refine w_ret ?_
  | with_reducible refine w_retN ?_
  | with_reducible refine w_ifS ?_
  | with_reducible refine w_test ?_
  | with_reducible refine w_tB ?_
  | with_reducible refine w_exbl ?_
  | with_reducible refine w_and ?_
  | with_reducible refine w_or ?_
  | with_reducible refine w_not ?_
  | with_reducible refine w_andV ?_
  | with_reducible refine w_orV ?_
  | with_reducible refine w_notV ?_
  | with_reducible refine w_if ?_
  | ((with_reducible refine' w_var ?k1 ?_); (case k1 => rfl))
  | with_reducible refine w_c ?_
  | with_reducible refine w_op ?_
  | with_reducible refine w_un ?_
  | with_reducible refine w_cb ?_
  | with_reducible refine w_cons ?_
  | with_reducible refine w_nil ?_
  | with_reducible refine w_call ?_
  | with_reducible refine w_callS ?_
  | with_reducible refine w_chain ?_
  | with_reducible refine w_for ?_
  | with_reducible refine w_rng1 ?_
  | with_reducible refine w_rng2 ?_
  | with_reducible refine w_list ?_
  | with_reducible refine w_tupI ?_
  | ((with_reducible refine' w_exr1 ?k1 ?_); (case k1 => omega))
  | ((with_reducible refine' w_exr2 ?k1 ?_); (case k1 => omega))
  | ((with_reducible refine' w_ext ?k1 ?_); (case k1 => walk_at "rp"); intro _ _; subst_vars)
  | (with_reducible refine w_lc ?_)
  | with_reducible refine w_enumT ?_
  | ((with_reducible refine' w_exet ?k1 ?_); (case k1 => walk_at "rp"); intro _ _; subst_vars)
  | with_reducible refine w_yes ?_
  | with_reducible refine w_tup ?_
  | with_reducible refine w_lst ?_
  | with_reducible refine w_sub ?_
  | with_reducible refine w_bm ?_
  | with_reducible refine w_sl ?_
  | with_reducible refine w_noPart ?_
  | with_reducible refine w_part ?_
  | with_reducible refine w_exint ?_
  | with_reducible refine r_u ?_
  | with_reducible refine r_sub ?_
  | ((with_reducible refine' r_mul ?k1 ?_); (case k1 => first | exact cmul_r (by omega) (by omega) | exact cmul_l (by omega) (by omega)))
  | ((with_reducible refine' r_div ?k1 ?_); (case k1 => exact ⟨by omega, by omega⟩))
  | ((with_reducible refine' r_mod ?k1 ?_); (case k1 => omega))
  | with_reducible refine r_lt ?_
  | with_reducible refine r_le ?_
  | with_reducible refine r_gt ?_
  | with_reducible refine r_ge ?_
  | with_reducible refine a_int ?_
  | with_reducible refine e_str ?_
  | with_reducible refine e_int ?_
  | with_reducible refine e_is ?_
  | with_reducible refine e_si ?_
  | with_reducible refine n_str ?_
  | with_reducible refine n_int ?_
  | with_reducible refine b_abs ?_
  | with_reducible refine b_int ?_
  | with_reducible refine i_n ?_
  | with_reducible refine i_nn ?_
  | with_reducible refine i_b ?_
  | with_reducible refine i_nb ?_
  | ((with_reducible refine' w_inL ?k1 ?k2 ?k3 ?_); (case k1 => rfl); (case k2 => rfl); (case k3 => walk_at "len"); intro _ _)
  | ((with_reducible refine' w_inT ?k1 ?k2 ?k3 ?_); (case k1 => rfl); (case k2 => rfl); (case k3 => walk_at "len"); intro _ _)
  | ((with_reducible refine' in_D ?k1 ?k2 ?k3 ?k4 ?_); (case k1 => walk_at "rp"); (case k2 => walk_at "rp"); (case k3 => rfl); (case k4 => rfl))
  | ((with_reducible refine' w_const ?_); intro _ _)
  | ((with_reducible refine' w_newT ?k1 ?k2 ?_); (case k1 => walk_at "all"); (case k2 => walk_at "len"); intro _ _ _ _)
  | ((with_reducible refine' x_Ds ?k1 ?k2 ?_); (case k1 => walk_at "rp"); (case k2 => rfl))
  | ((with_reducible refine' x_Di ?k1 ?k2 ?_); (case k1 => walk_at "rp"); (case k2 => rfl))
  | ((with_reducible refine' x_D ?k1 ?k2 ?_); (case k1 => walk_at "rp"); (case k2 => rfl); intro _ _)
  | ((with_reducible refine' l_D ?k1 ?_); (case k1 => walk_at "rp"))
  | ((with_reducible refine' s_D ?k1 ?_); (case k1 => walk_at "rp"); intro _ _ _ _)
  | ((with_reducible refine' x_l ?k1 ?k2 ?_); (case k1 => walk_at "ls"); (case k2 => rfl))
  | ((with_reducible refine' t_set0 ?k1 ?_); (case k1 => walk_at "ls"); intro _ _ _)
  | ((with_reducible refine' t_set1 ?k1 ?_); (case k1 => walk_at "ls"); intro _ _ _)
  | ((with_reducible refine' t_set2 ?k1 ?_); (case k1 => walk_at "ls"); intro _ _ _)
  | ((with_reducible refine' t_set3 ?k1 ?_); (case k1 => walk_at "ls"); intro _ _ _)
  | ((with_reducible refine' l_l ?k1 ?_); (case k1 => walk_at "ls"))
  | ((with_reducible refine' a_tup ?k1 ?k2 ?k3 ?_); (case k1 => walk_at "rp"); (case k2 => walk_at "rp"); (case k3 => walk_at "len"); intro _ _ _ _)
  | with_reducible refine w_fldC ?_
  | ((with_reducible refine' w_exfld ?k1 ?k2 ?_); (case k1 => walk_at "ls"); (case k2 => walk_at "lk"))
  | with_reducible refine w_sfldC ?_
  | ((with_reducible refine' w_exsfld ?k1 ?k2 ?k3 ?_); (case k1 => walk_at "ls"); (case k2 => first | decide | (simp; done)); (case k3 => walk_at "pf"); intro _ _ _)
  | with_reducible refine w_meth ?_
  | ((with_reducible refine' w_exmeth ?k1 ?k2 ?_); (case k1 => walk_at "ls"); (case k2 => walk_at "lk"))
  | with_reducible refine w_make ?_
  | with_reducible refine w_dnewK ?_
  | with_reducible refine w_dget ?_
  | with_reducible refine w_din ?_
  | with_reducible refine w_dnotin ?_
  | with_reducible refine w_dput ?_
  | with_reducible refine w_ddel ?_
  | ((with_reducible refine' w_aug ?k1 ?_); (case k1 => rfl))
  | with_reducible refine w_ip ?_
  | ((with_reducible refine' is_lst ?k1 ?k2 ?_); (case k1 => walk_at "ls"); (case k2 => rfl))
  | ((with_reducible refine' is_tup ?k1 ?k2 ?_); (case k1 => walk_at "rp"); (case k2 => rfl))
  | ((with_reducible refine' is_int ?k2 ?_); (case k2 => rfl))
  | ((with_reducible refine' is_str ?k2 ?_); (case k2 => rfl))
  | ((with_reducible refine' is_bl ?k2 ?_); (case k2 => rfl))
  | with_reducible refine w_iteT (c := true) rfl ?_
  | with_reducible refine w_iteF (c := false) rfl ?_
  | ((with_reducible refine' w_iteT ?k1 ?_); (case k1 => first | assumption | rfl | decide +kernel))
  | ((with_reducible refine' w_iteF ?k1 ?_); (case k1 => first | assumption | rfl | decide +kernel))
  | dsimp only [List.set])
local macro_rules | `(tactic| walk_at "s") => `(tactic| first | with_reducible refine w_seqJ ?_ | walk_at "s0")
local macro_rules | `(tactic| walk_at "s1") => `(tactic| first | with_reducible refine w_seqA ?_ | with_reducible refine w_seqD ?_ | walk_at "s0")
local macro_rules | `(tactic| walk_at "go") => `(tactic| repeat walk_at "s")
local macro_rules | `(tactic| walk_at "gs") => `(tactic| repeat walk_at "s1")
local macro_rules | `(tactic| walk_at "eqD") => `(tactic| (refine' e_D ?k1 ?k2 ?k3 ?k4 ?k5 ?k6 ?_; (case k1 => walk_at "rp"); (case k2 => walk_at "rp"); (case k3 => assumption); (case k4 => assumption); (case k5 => assumption); (case k6 => assumption)))

structure Ad where
  c_ForkError : Addr
  c_KindProblem : Addr
  c_NoSuchStep : Addr
  c_NoSuchVariable : Addr
  c_NoSuchFunction : Addr
  c_NotAllocated : Addr
  c_Refused : Addr
structure Fx (K : PySem.W.Frag) (A : Ad) : Prop where
  xc_NoSuchStep : ExcC K A.c_NoSuchStep
  xc_NoSuchVariable : ExcC K A.c_NoSuchVariable
  k_NoSuchStep_KindProblem : PySem.W.kitOne K (.ref A.c_NoSuchStep) (.ref A.c_KindProblem) = some false
  k_NoSuchStep_NoSuchFunction : PySem.W.kitOne K (.ref A.c_NoSuchStep) (.ref A.c_NoSuchFunction) = some false
  k_NoSuchStep_NoSuchVariable : PySem.W.kitOne K (.ref A.c_NoSuchStep) (.ref A.c_NoSuchVariable) = some false
  k_NoSuchStep_NotAllocated : PySem.W.kitOne K (.ref A.c_NoSuchStep) (.ref A.c_NotAllocated) = some false
  k_NoSuchStep_Refused : PySem.W.kitOne K (.ref A.c_NoSuchStep) (.ref A.c_Refused) = some false
  k_NoSuchStep_ForkError : PySem.W.kitOne K (.ref A.c_NoSuchStep) (.ref A.c_ForkError) = some true
  k_NoSuchStep_ValueError : PySem.W.kitOne K (.ref A.c_NoSuchStep) (.type "ValueError") = some true
  k_NoSuchVariable_KindProblem : PySem.W.kitOne K (.ref A.c_NoSuchVariable) (.ref A.c_KindProblem) = some false
  k_NoSuchVariable_NoSuchFunction : PySem.W.kitOne K (.ref A.c_NoSuchVariable) (.ref A.c_NoSuchFunction) = some false
  k_NoSuchVariable_NoSuchStep : PySem.W.kitOne K (.ref A.c_NoSuchVariable) (.ref A.c_NoSuchStep) = some false
  k_NoSuchVariable_NotAllocated : PySem.W.kitOne K (.ref A.c_NoSuchVariable) (.ref A.c_NotAllocated) = some false
  k_NoSuchVariable_Refused : PySem.W.kitOne K (.ref A.c_NoSuchVariable) (.ref A.c_Refused) = some false
  k_NoSuchVariable_ForkError : PySem.W.kitOne K (.ref A.c_NoSuchVariable) (.ref A.c_ForkError) = some true
  k_NoSuchVariable_ValueError : PySem.W.kitOne K (.ref A.c_NoSuchVariable) (.type "ValueError") = some true
  e_NoSuchStep_NoSuchStep : PySem.W.exmOne K (.ref A.c_NoSuchStep) (.ref A.c_NoSuchStep) = some true
  e_NoSuchVariable_NoSuchVariable : PySem.W.exmOne K (.ref A.c_NoSuchVariable) (.ref A.c_NoSuchVariable) = some true
  e_NoSuchStep_NoSuchVariable : PySem.W.exmOne K (.ref A.c_NoSuchStep) (.ref A.c_NoSuchVariable) = some false
def top (i : Nat) : Stmt := PySem.Challenge.pw_forklent_k51_kinds_of_places.main.body.getD i (.Pass ⟨0, 0, 0, 0⟩)
abbrev s_fields_of : Stmt := top 9
abbrev N_fields_of : List Str := ["records", "name", "record"]
theorem sc_fields_of : FnScope N_fields_of ["records", "name"] (defScope s_fields_of) := ⟨rfl, rfl, rfl, by decide +kernel, rfl, by decide +kernel, by decide +kernel⟩
abbrev s_kind_after : Stmt := top 10
abbrev N_kind_after : List Str := ["records", "kind", "step", "field", "inner"]
theorem sc_kind_after : FnScope N_kind_after ["records", "kind", "step"] (defScope s_kind_after) := ⟨rfl, rfl, rfl, by decide +kernel, rfl, by decide +kernel, by decide +kernel⟩
abbrev s_kinds_along : Stmt := top 12
abbrev N_kinds_along : List Str := ["place", "records", "kinds", "kind", "found", "step"]
theorem sc_kinds_along : FnScope N_kinds_along ["place", "records", "kinds"] (defScope s_kinds_along) := ⟨rfl, rfl, rfl, by decide +kernel, rfl, by decide +kernel, by decide +kernel⟩
abbrev s_kind_at : Stmt := top 13
abbrev N_kind_at : List Str := ["place", "records", "kinds"]
theorem sc_kind_at : FnScope N_kind_at ["place", "records", "kinds"] (defScope s_kind_at) := ⟨rfl, rfl, rfl, by decide +kernel, rfl, by decide +kernel, by decide +kernel⟩
abbrev s_l_pick : Stmt := top 15
abbrev N_l_pick : List Str := ["state", "script", "many", "number", "place", "cell"]
theorem sc_l_pick : FnScope N_l_pick ["state", "script", "many"] (defScope s_l_pick) := ⟨rfl, rfl, rfl, by decide +kernel, rfl, by decide +kernel, by decide +kernel⟩
abbrev s_l_words : Stmt := top 16
abbrev N_l_words : List Str := ["words"]
theorem sc_l_words : FnScope N_l_words [] (defScope s_l_words) := ⟨rfl, rfl, rfl, by decide +kernel, rfl, by decide +kernel, by decide +kernel⟩
abbrev s_l_name : Stmt := top 17
abbrev N_l_name : List Str := ["state", "script", "letters", "chars", "size", "word", "k"]
theorem sc_l_name : FnScope N_l_name ["state", "script"] (defScope s_l_name) := ⟨rfl, rfl, rfl, by decide +kernel, rfl, by decide +kernel, by decide +kernel⟩
abbrev s_l_big : Stmt := top 18
abbrev N_l_big : List Str := ["state", "script", "letters", "chars", "size", "word", "k"]
theorem sc_l_big : FnScope N_l_big ["state", "script"] (defScope s_l_big) := ⟨rfl, rfl, rfl, by decide +kernel, rfl, by decide +kernel, by decide +kernel⟩
abbrev s_l_new : Stmt := top 19
abbrev N_l_new : List Str := ["taken", "word", "k", "other"]
theorem sc_l_new : FnScope N_l_new ["taken", "word"] (defScope s_l_new) := ⟨rfl, rfl, rfl, by decide +kernel, rfl, by decide +kernel, by decide +kernel⟩
abbrev s_l_kind : Stmt := top 20
abbrev N_l_kind : List Str := ["state", "script", "room", "plain", "names", "choice", "items", "k"]
theorem sc_l_kind : FnScope N_l_kind ["state", "script", "room", "plain", "names"] (defScope s_l_kind) := ⟨rfl, rfl, rfl, by decide +kernel, rfl, by decide +kernel, by decide +kernel⟩
abbrev s_l_is_plain : Stmt := top 21
abbrev N_l_is_plain : List Str := ["kind", "item"]
theorem sc_l_is_plain : FnScope N_l_is_plain ["kind"] (defScope s_l_is_plain) := ⟨rfl, rfl, rfl, by decide +kernel, rfl, by decide +kernel, by decide +kernel⟩
abbrev s_l_wide : Stmt := top 22
abbrev N_l_wide : List Str := ["state", "script", "forms", "rows", "k", "items", "j"]
theorem sc_l_wide : FnScope N_l_wide ["state", "script"] (defScope s_l_wide) := ⟨rfl, rfl, rfl, by decide +kernel, rfl, by decide +kernel, by decide +kernel⟩
abbrev s_l_any_kind : Stmt := top 23
abbrev N_l_any_kind : List Str := ["state", "script", "names", "kind", "k", "choice"]
theorem sc_l_any_kind : FnScope N_l_any_kind ["state", "script", "names"] (defScope s_l_any_kind) := ⟨rfl, rfl, rfl, by decide +kernel, rfl, by decide +kernel, by decide +kernel⟩
abbrev s_l_same : Stmt := top 24
abbrev N_l_same : List Str := ["actual", "due", "k"]
theorem sc_l_same : FnScope N_l_same ["actual", "due"] (defScope s_l_same) := ⟨rfl, rfl, rfl, by decide +kernel, rfl, by decide +kernel, by decide +kernel⟩
abbrev s_l_size : Stmt := top 25
abbrev N_l_size : List Str := ["rows", "kind", "item", "row", "field"]
theorem sc_l_size : FnScope N_l_size ["rows", "kind"] (defScope s_l_size) := ⟨rfl, rfl, rfl, by decide +kernel, rfl, by decide +kernel, by decide +kernel⟩
abbrev s_l_is_small : Stmt := top 26
abbrev N_l_is_small : List Str := ["rows", "kind", "item"]
theorem sc_l_is_small : FnScope N_l_is_small ["rows", "kind"] (defScope s_l_is_small) := ⟨rfl, rfl, rfl, by decide +kernel, rfl, by decide +kernel, by decide +kernel⟩
abbrev s_l_records : Stmt := top 27
abbrev N_l_records : List Str := ["state", "script", "names", "k", "rows", "fields", "taken", "j", "kind", "turn"]
theorem sc_l_records : FnScope N_l_records ["state", "script"] (defScope s_l_records) := ⟨rfl, rfl, rfl, by decide +kernel, rfl, by decide +kernel, by decide +kernel⟩
abbrev s_l_options : Stmt := top 28
abbrev N_l_options : List Str := ["rows", "kind", "k", "row"]
theorem sc_l_options : FnScope N_l_options ["rows", "kind"] (defScope s_l_options) := ⟨rfl, rfl, rfl, by decide +kernel, rfl, by decide +kernel, by decide +kernel⟩
abbrev s_l_small_kind : Stmt := top 29
abbrev N_l_small_kind : List Str := ["state", "script", "rows", "kind", "row"]
theorem sc_l_small_kind : FnScope N_l_small_kind ["state", "script", "rows"] (defScope s_l_small_kind) := ⟨rfl, rfl, rfl, by decide +kernel, rfl, by decide +kernel, by decide +kernel⟩
abbrev s_l_table : Stmt := top 30
abbrev N_l_table : List Str := ["state", "script", "rows", "table", "k", "name"]
theorem sc_l_table : FnScope N_l_table ["state", "script", "rows"] (defScope s_l_table) := ⟨rfl, rfl, rfl, by decide +kernel, rfl, by decide +kernel, by decide +kernel⟩
abbrev s_l_walk : Stmt := top 31
abbrev N_l_walk : List Str := ["state", "script", "rows", "name", "kind", "steps", "k", "options", "chosen"]
theorem sc_l_walk : FnScope N_l_walk ["state", "script", "rows", "name", "kind"] (defScope s_l_walk) := ⟨rfl, rfl, rfl, by decide +kernel, rfl, by decide +kernel, by decide +kernel⟩
abbrev s_l_step : Stmt := top 32
abbrev N_l_step : List Str := ["state", "script", "rows", "choice", "great", "fields"]
theorem sc_l_step : FnScope N_l_step ["state", "script", "rows"] (defScope s_l_step) := ⟨rfl, rfl, rfl, by decide +kernel, rfl, by decide +kernel, by decide +kernel⟩
abbrev s_l_told : Stmt := top 33
abbrev N_l_told : List Str := ["place", "rows", "table", "e", "others"]
theorem sc_l_told : FnScope N_l_told ["place", "rows", "table"] (defScope s_l_told) := ⟨rfl, rfl, rfl, by decide +kernel, rfl, by decide +kernel, by decide +kernel⟩
abbrev s_l_followed : Stmt := top 34
abbrev N_l_followed : List Str := ["rows", "kind", "steps", "step", "found", "option"]
theorem sc_l_followed : FnScope N_l_followed ["rows", "kind", "steps"] (defScope s_l_followed) := ⟨rfl, rfl, rfl, by decide +kernel, rfl, by decide +kernel, by decide +kernel⟩
abbrev s_law : Stmt := top 35
abbrev N_law : List Str := ["script", "state", "rows", "table", "copy", "names", "name", "place", "kind", "due", "choice", "step", "at", "behind", "k", "actual"]
theorem sc_law : FnScope N_law ["script"] (defScope s_law) := ⟨rfl, rfl, rfl, by decide +kernel, rfl, by decide +kernel, by decide +kernel⟩

/-! ### kinds -/
inductive Kd where
  | int | bool | unit | box (k : Kd) | maybe (k : Kd) | tuple (ks : List Kd) | recd (n : Str) | shared (k : Kd) | excl (k : Kd) | task (k : Kd)
mutual
def Kd.d : Kd → D
  | .int => .tup [.str "int"]
  | .bool => .tup [.str "bool"]
  | .unit => .tup [.str "unit"]
  | .box k => .tup [.str "box", k.d]
  | .maybe k => .tup [.str "maybe", k.d]
  | .tuple ks => .tup [.str "tuple", .tup (Kd.ds ks)]
  | .recd n => .tup [.str "record", .str n]
  | .shared k => .tup [.str "shared", k.d]
  | .excl k => .tup [.str "exclusive", k.d]
  | .task k => .tup [.str "task", k.d]
def Kd.ds : List Kd → List D
  | [] => []
  | k :: ks => k.d :: Kd.ds ks
end
mutual
def Kd.lev : Kd → Nat
  | .int | .bool | .unit | .recd _ => 1
  | .box k | .maybe k | .shared k | .excl k | .task k => k.lev + 1
  | .tuple ks => Kd.levs ks + 1
def Kd.levs : List Kd → Nat
  | [] => 0
  | k :: ks => max k.lev (Kd.levs ks)
end
theorem Kd.lev_pos : ∀ k : Kd, 1 ≤ k.lev
  | .int | .bool | .unit | .recd _ => by simp [Kd.lev]
  | .box k | .maybe k | .shared k | .excl k | .task k => by simp [Kd.lev]
  | .tuple ks => by simp [Kd.lev]
mutual
/-- a tuple has one item to six -/
def Kd.good : Kd → Bool
  | .int | .bool | .unit | .recd _ => true
  | .box k | .maybe k | .shared k | .excl k | .task k => k.good
  | .tuple ks => decide (1 ≤ ks.length) && decide (ks.length ≤ 6) && Kd.goods ks
def Kd.goods : List Kd → Bool
  | [] => true
  | k :: ks => k.good && Kd.goods ks
end
mutual
def Kd.plain : Kd → Bool
  | .shared _ | .excl _ | .task _ => false
  | .box k | .maybe k => k.plain
  | .tuple ks => Kd.plains ks
  | .int | .bool | .unit | .recd _ => true
def Kd.plains : List Kd → Bool
  | [] => true
  | k :: ks => k.plain && Kd.plains ks
end
mutual
def Kd.copy : Kd → Bool
  | .int | .bool | .unit | .shared _ => true
  | .maybe k => k.copy
  | .tuple ks => Kd.copys ks
  | .box _ | .recd _ | .excl _ | .task _ => false
def Kd.copys : List Kd → Bool
  | [] => true
  | k :: ks => k.copy && Kd.copys ks
end
mutual
def Kd.lvs : Kd → List (List D)
  | .shared _ | .excl _ | .task _ => [[]]
  | .maybe k => k.lvs.map (.str "?" :: ·)
  | .tuple ks => Kd.lvss 0 ks
  | .int | .bool | .unit | .recd _ | .box _ => []
def Kd.lvss : Nat → List Kd → List (List D)
  | _, [] => []
  | i, k :: ks => k.lvs.map (.int (i : Nat) :: ·) ++ Kd.lvss (i + 1) ks
end
theorem Kd.ds_map : ∀ ks : List Kd, Kd.ds ks = ks.map Kd.d
  | [] => rfl
  | k :: ks => by rw [Kd.ds, Kd.ds_map ks]; rfl
theorem Kd.ds_length (ks : List Kd) : (Kd.ds ks).length = ks.length := by rw [Kd.ds_map, List.length_map]
theorem Kd.ds_get {ks : List Kd} {i : Nat} {d : D} (h : (Kd.ds ks)[i]? = some d) : ∃ k, ks[i]? = some k ∧ d = k.d := by
  rw [Kd.ds_map, List.getElem?_map] at h
  obtain ⟨k, h1, h2⟩ := Option.map_eq_some_iff.mp h
  exact ⟨k, h1, h2.symm⟩
theorem Kd.lev_mem : ∀ {ks : List Kd} {k : Kd}, k ∈ ks → k.lev ≤ Kd.levs ks
  | _ :: ks, k, h => by
    rw [Kd.levs]
    rcases List.mem_cons.mp h with rfl | h
    · omega
    · have := Kd.lev_mem h
      omega
theorem Kd.good_mem : ∀ {ks : List Kd} {k : Kd}, Kd.goods ks = true → k ∈ ks → k.good = true
  | _ :: ks, k, g, h => by
    rw [Kd.goods, Bool.and_eq_true] at g
    rcases List.mem_cons.mp h with rfl | h
    · exact g.1
    · exact Kd.good_mem g.2 h
theorem Kd.levs_le : ∀ {ks : List Kd} {n : Nat}, (∀ k, k ∈ ks → k.lev ≤ n) → Kd.levs ks ≤ n
  | [], _, _ => Nat.zero_le _
  | k :: ks, n, h => by
    rw [Kd.levs]
    have h1 := h k (by simp)
    have h2 := Kd.levs_le (ks := ks) (n := n) fun k hk => h k (by simp [hk])
    omega
theorem Kd.goods_of : ∀ {ks : List Kd}, (∀ k, k ∈ ks → k.good = true) → Kd.goods ks = true
  | [], _ => rfl
  | k :: ks, h => by
    rw [Kd.goods, h k (by simp), Kd.goods_of fun k hk => h k (by simp [hk])]
    rfl
theorem Kd.levs_in : ∀ {ks : List Kd}, ks ≠ [] → ∃ k, k ∈ ks ∧ k.lev = Kd.levs ks
  | [k], _ => ⟨k, by simp, by simp [Kd.levs]⟩
  | k :: k2 :: ks, _ => by
    obtain ⟨j, h1, h2⟩ := Kd.levs_in (ks := k2 :: ks) (by simp)
    by_cases c : k.lev ≤ Kd.levs (k2 :: ks)
    · exact ⟨j, List.mem_cons.mpr (.inr h1), by rw [Kd.levs, h2]; omega⟩
    · exact ⟨k, by simp, by rw [Kd.levs]; omega⟩
/-- what max gives of the items' levels -/
theorem Kd.levs_max {ks : List Kd} {m : Int} (h1 : m ∈ ks.map fun k => (k.lev : Int)) (h2 : ∀ y, y ∈ (ks.map fun k => (k.lev : Int)) → y ≤ m) : m = (Kd.levs ks : Int) := by
  obtain ⟨k, hk, rfl⟩ := List.mem_map.mp h1
  obtain ⟨j, hj, e⟩ := Kd.levs_in (ks := ks) (by intro z; rw [z] at hk; cases hk)
  have a := Kd.lev_mem hk
  have b := h2 _ (List.mem_map.mpr ⟨j, hj, rfl⟩)
  omega
theorem Kd.plains_take : ∀ {ks : List Kd} {i : Nat} {k : Kd}, ks[i]? = some k → Kd.plains (ks.take (i + 1)) = (Kd.plains (ks.take i) && k.plain)
  | [], i, k, h => by simp at h
  | a :: r, 0, k, h => by
    have e : a = k := Option.some.inj h
    subst e
    simp [Kd.plains]
  | a :: r, i + 1, k, h => by
    have ih := Kd.plains_take (ks := r) (i := i) (k := k) h
    show Kd.plains (a :: r.take (i + 1)) = (Kd.plains (a :: r.take i) && k.plain)
    rw [Kd.plains, Kd.plains, ih, Bool.and_assoc]
theorem Kd.copys_take : ∀ {ks : List Kd} {i : Nat} {k : Kd}, ks[i]? = some k → Kd.copys (ks.take (i + 1)) = (Kd.copys (ks.take i) && k.copy)
  | [], i, k, h => by simp at h
  | a :: r, 0, k, h => by
    have e : a = k := Option.some.inj h
    subst e
    simp [Kd.copys]
  | a :: r, i + 1, k, h => by
    have ih := Kd.copys_take (ks := r) (i := i) (k := k) h
    show Kd.copys (a :: r.take (i + 1)) = (Kd.copys (a :: r.take i) && k.copy)
    rw [Kd.copys, Kd.copys, ih, Bool.and_assoc]
theorem Kd.plains_false {ks : List Kd} {i : Nat} {k : Kd} (h : ks[i]? = some k) (e : k.plain = false) : Kd.plains ks = false := by
  induction ks generalizing i with
  | nil => simp at h
  | cons a r ih =>
    rw [Kd.plains]
    cases i with
    | zero =>
      have z : a = k := Option.some.inj h
      rw [z, e, Bool.false_and]
    | succ i => rw [ih (i := i) h, Bool.and_false]
theorem Kd.copys_false {ks : List Kd} {i : Nat} {k : Kd} (h : ks[i]? = some k) (e : k.copy = false) : Kd.copys ks = false := by
  induction ks generalizing i with
  | nil => simp at h
  | cons a r ih =>
    rw [Kd.copys]
    cases i with
    | zero =>
      have z : a = k := Option.some.inj h
      rw [z, e, Bool.false_and]
    | succ i => rw [ih (i := i) h, Bool.and_false]
theorem Kd.lvss_take : ∀ {ks : List Kd} {i j : Nat} {k : Kd}, ks[i]? = some k → Kd.lvss j (ks.take (i + 1)) = Kd.lvss j (ks.take i) ++ k.lvs.map (.int ((j + i : Nat) : Int) :: ·)
  | [], i, j, k, h => by simp at h
  | a :: r, 0, j, k, h => by
    have e : a = k := Option.some.inj h
    subst e
    simp [Kd.lvss]
  | a :: r, i + 1, j, k, h => by
    have ih := Kd.lvss_take (ks := r) (i := i) (j := j + 1) (k := k) h
    show Kd.lvss j (a :: r.take (i + 1)) = Kd.lvss j (a :: r.take i) ++ _
    rw [Kd.lvss, Kd.lvss, ih, List.append_assoc, show j + 1 + i = j + (i + 1) by omega]
mutual
theorem Kd.lvs_len : ∀ (k : Kd), k.good = true → k.lvs.length ≤ 6 ^ k.lev
  | .int | .bool | .unit | .recd _ => fun _ => by simp [Kd.lvs]
  | .box _ => fun _ => by simp [Kd.lvs]
  | .shared k | .excl k | .task k => fun _ => by
    simp only [Kd.lvs, List.length_singleton]
    exact Nat.one_le_pow _ _ (by decide)
  | .maybe k => fun g => by
    have h := Kd.lvs_len k g
    simp only [Kd.lvs, List.length_map, Kd.lev]
    exact Nat.le_trans h (Nat.pow_le_pow_right (by decide) (by omega))
  | .tuple ks => fun g => by
    simp only [Kd.good, Bool.and_eq_true, decide_eq_true_eq] at g
    have h := Kd.lvss_len ks 0 (Kd.levs ks) g.2 (Nat.le_refl _)
    simp only [Kd.lvs, Kd.lev, Nat.pow_succ]
    refine Nat.le_trans h ?_
    rw [Nat.mul_comm]
    exact Nat.mul_le_mul_left _ g.1.2
theorem Kd.lvss_len : ∀ (ks : List Kd) (i n : Nat), Kd.goods ks = true → Kd.levs ks ≤ n → (Kd.lvss i ks).length ≤ ks.length * 6 ^ n
  | [], _, _, _, _ => by simp [Kd.lvss]
  | k :: ks, i, n, g, h => by
    rw [Kd.goods, Bool.and_eq_true] at g
    rw [Kd.levs] at h
    have h1 := Kd.lvs_len k g.1
    have h2 := Kd.lvss_len ks (i + 1) n g.2 (by omega)
    have h3 : 6 ^ k.lev ≤ 6 ^ n := Nat.pow_le_pow_right (by decide) (by omega)
    rw [Kd.lvss, List.length_append, List.length_map, List.length_cons, Nat.succ_mul]
    omega
end
theorem Kd.goods_take {ks : List Kd} (i : Nat) (h : Kd.goods ks = true) : Kd.goods (ks.take i) = true := Kd.goods_of fun _ hk => Kd.good_mem h (List.mem_of_mem_take hk)
theorem Kd.levs_take (ks : List Kd) (i : Nat) : Kd.levs (ks.take i) ≤ Kd.levs ks := Kd.levs_le fun _ hk => Kd.lev_mem (List.mem_of_mem_take hk)
theorem Kd.lvs_small {k : Kd} (g : k.good = true) (h : k.lev ≤ 5) : k.lvs.length ≤ 7776 :=
  Nat.le_trans (Kd.lvs_len k g) (Nat.le_trans (Nat.pow_le_pow_right (by decide) h) (by decide))
theorem Kd.lvss_small {ks : List Kd} (i j : Nat) (g : Kd.goods ks = true) (h : Kd.levs ks ≤ 5) (l : ks.length ≤ 6) : (Kd.lvss j (ks.take i)).length ≤ 46656 := by
  refine Nat.le_trans (Kd.lvss_len _ j 5 (Kd.goods_take i g) (Nat.le_trans (Kd.levs_take ks i) h)) ?_
  rw [List.length_take]
  have : min i ks.length ≤ 6 := by omega
  exact Nat.le_trans (Nat.mul_le_mul_right _ this) (by decide)
mutual
/-- a path has no more steps than the kind has levels; its steps are numbers and texts -/
theorem Kd.lvs_item : ∀ (k : Kd) (p : List D), p ∈ k.lvs → p.length ≤ k.lev ∧ D.soks p = true ∧ D.deps p = 0 ∧ D.nbs p = true
  | .int, _, h | .bool, _, h | .unit, _, h | .recd _, _, h | .box _, _, h => by simp [Kd.lvs] at h
  | .shared k, p, h | .excl k, p, h | .task k, p, h => by
    simp only [Kd.lvs, List.mem_singleton] at h
    subst h
    exact ⟨Nat.zero_le _, rfl, rfl, rfl⟩
  | .maybe k, p, h => by
    simp only [Kd.lvs] at h
    obtain ⟨r, hr, rfl⟩ := List.mem_map.mp h
    obtain ⟨h1, h2, h3, h4⟩ := Kd.lvs_item k r hr
    exact ⟨by rw [List.length_cons, Kd.lev]; omega, by rw [D.soks, h2, show (D.str "?").sok = true by decide +kernel]; rfl, by rw [D.deps, h3]; rfl, by rw [D.nbs, h4]; rfl⟩
  | .tuple ks, p, h => by
    simp only [Kd.lvs] at h
    obtain ⟨h1, h2, h3, h4⟩ := Kd.lvss_item ks 0 p h
    exact ⟨by rw [Kd.lev]; omega, h2, h3, h4⟩
theorem Kd.lvss_item : ∀ (ks : List Kd) (i : Nat) (p : List D), p ∈ Kd.lvss i ks → p.length ≤ Kd.levs ks + 1 ∧ D.soks p = true ∧ D.deps p = 0 ∧ D.nbs p = true
  | [], _, _, h => by simp [Kd.lvss] at h
  | k :: ks, i, p, h => by
    rw [Kd.lvss] at h
    rcases List.mem_append.mp h with h | h
    · obtain ⟨r, hr, rfl⟩ := List.mem_map.mp h
      obtain ⟨h1, h2, h3, h4⟩ := Kd.lvs_item k r hr
      exact ⟨by rw [List.length_cons, Kd.levs]; omega, by rw [D.soks, h2]; rfl, by rw [D.deps, h3]; rfl, by rw [D.nbs, h4]; rfl⟩
    · obtain ⟨h1, h2, h3, h4⟩ := Kd.lvss_item ks (i + 1) p h
      exact ⟨by rw [Kd.levs]; omega, h2, h3, h4⟩
end
theorem D.soks_all : ∀ {ds : List D}, (∀ d, d ∈ ds → d.sok = true) → D.soks ds = true
  | [], _ => rfl
  | d :: ds, h => by rw [D.soks, h d (by simp), D.soks_all fun e he => h e (by simp [he])]; rfl
theorem D.deps_all : ∀ {ds : List D} {n : Nat}, (∀ d, d ∈ ds → d.dep ≤ n) → D.deps ds ≤ n
  | [], _, _ => Nat.zero_le _
  | d :: ds, n, h => by
    rw [D.deps]
    have h1 := h d (by simp)
    have h2 := D.deps_all (ds := ds) (n := n) fun e he => h e (by simp [he])
    omega
theorem D.nbs_all : ∀ {ds : List D}, (∀ d, d ∈ ds → d.nb = true) → D.nbs ds = true
  | [], _ => rfl
  | d :: ds, h => by rw [D.nbs, h d (by simp), D.nbs_all fun e he => h e (by simp [he])]; rfl
/-- the leaves of a kind as data -/
theorem Kd.lvs_ok (k : Kd) : (D.tup (k.lvs.map .tup)).sok = true ∧ (D.tup (k.lvs.map .tup)).dep ≤ 2 ∧ (D.tup (k.lvs.map .tup)).nb = true := by
  have g : ∀ d, d ∈ k.lvs.map D.tup → d.sok = true ∧ d.dep ≤ 1 ∧ d.nb = true := fun d hd => by
    obtain ⟨p, hp, rfl⟩ := List.mem_map.mp hd
    obtain ⟨_, h2, h3, h4⟩ := Kd.lvs_item k p hp
    exact ⟨h2, by rw [D.dep, h3]; exact Nat.le_refl _, h4⟩
  exact ⟨D.soks_all fun d hd => (g d hd).1, Nat.succ_le_succ (D.deps_all fun d hd => (g d hd).2.1), D.nbs_all fun d hd => (g d hd).2.2⟩
theorem Kd.ds_at {ks : List Kd} {i : Nat} {k : Kd} (h : ks[i]? = some k) : (Kd.ds ks)[i]? = some k.d := by
  rw [Kd.ds_map, List.getElem?_map, h]
  rfl

/-! ### records, kinds over them, a step -/
abbrev Fl := Str × Kd
abbrev Row := Str × List Fl
def flD (f : Fl) : D := .tup [.str f.1, f.2.d]
def rowD (r : Row) : D := .tup [.str r.1, .tup (r.2.map flD)]
mutual
def Kd.kn (ns : List Str) : Kd → Prop
  | .int | .bool | .unit => True
  | .recd n => n ∈ ns
  | .box k | .maybe k | .shared k | .excl k | .task k => k.kn ns
  | .tuple ks => Kd.kns ns ks
def Kd.kns (ns : List Str) : List Kd → Prop
  | [] => True
  | k :: ks => k.kn ns ∧ Kd.kns ns ks
end
mutual
def Kd.dp (f : Str → Nat) : Kd → Nat
  | .recd n => f n + 1
  | .int | .bool | .unit | .box _ | .shared _ | .excl _ | .task _ => 1
  | .maybe k => k.dp f + 1
  | .tuple ks => Kd.dps f ks + 1
def Kd.dps (f : Str → Nat) : List Kd → Nat
  | [] => 0
  | k :: ks => max (k.dp f) (Kd.dps f ks)
end
theorem Kd.kns_mem {ns : List Str} : ∀ {ks : List Kd} {k : Kd}, Kd.kns ns ks → k ∈ ks → k.kn ns
  | _ :: ks, k, g, h => by
    rw [Kd.kns] at g
    rcases List.mem_cons.mp h with rfl | h
    · exact g.1
    · exact Kd.kns_mem g.2 h
theorem Kd.kns_of {ns : List Str} : ∀ {ks : List Kd}, (∀ k, k ∈ ks → k.kn ns) → Kd.kns ns ks
  | [], _ => trivial
  | k :: ks, h => ⟨h k (by simp), Kd.kns_of fun j hj => h j (by simp [hj])⟩
theorem Kd.dp_mem {f : Str → Nat} : ∀ {ks : List Kd} {k : Kd}, k ∈ ks → k.dp f ≤ Kd.dps f ks
  | _ :: ks, k, h => by
    rw [Kd.dps]
    rcases List.mem_cons.mp h with rfl | h
    · omega
    · have := Kd.dp_mem (f := f) h
      omega
theorem Kd.dp_pos {f : Str → Nat} : ∀ k : Kd, 1 ≤ k.dp f
  | .int | .bool | .unit | .recd _ => by simp [Kd.dp]
  | .box k | .maybe k | .shared k | .excl k | .task k => by simp [Kd.dp]
  | .tuple ks => by simp [Kd.dp]
mutual
theorem Kd.kn_sub {ns ms : List Str} (h : ∀ n, n ∈ ns → n ∈ ms) : ∀ k : Kd, k.kn ns → k.kn ms
  | .int, _ | .bool, _ | .unit, _ => trivial
  | .recd n, g => h n g
  | .box k, g | .maybe k, g | .shared k, g | .excl k, g | .task k, g => Kd.kn_sub h k g
  | .tuple ks, g => Kd.kns_sub h ks g
theorem Kd.kns_sub {ns ms : List Str} (h : ∀ n, n ∈ ns → n ∈ ms) : ∀ ks : List Kd, Kd.kns ns ks → Kd.kns ms ks
  | [], _ => trivial
  | k :: ks, ⟨a, b⟩ => ⟨Kd.kn_sub h k a, Kd.kns_sub h ks b⟩
end
mutual
theorem Kd.dp_le {f : Str → Nat} {ns : List Str} {F : Nat} (h : ∀ n, n ∈ ns → f n ≤ F) : ∀ k : Kd, k.kn ns → k.dp f ≤ k.lev + F
  | .int, _ | .bool, _ | .unit, _ => by simp only [Kd.dp, Kd.lev]; omega
  | .recd n, g => by
    have := h n g
    simp [Kd.dp, Kd.lev]
    omega
  | .box k, g | .shared k, g | .excl k, g | .task k, g => by simp [Kd.dp, Kd.lev]; omega
  | .maybe k, g => by
    have := Kd.dp_le h k g
    simp [Kd.dp, Kd.lev]
    omega
  | .tuple ks, g => by
    have := Kd.dps_le h ks g
    simp [Kd.dp, Kd.lev]
    omega
theorem Kd.dps_le {f : Str → Nat} {ns : List Str} {F : Nat} (h : ∀ n, n ∈ ns → f n ≤ F) : ∀ ks : List Kd, Kd.kns ns ks → Kd.dps f ks ≤ Kd.levs ks + F
  | [], _ => by simp [Kd.dps]
  | k :: ks, ⟨a, b⟩ => by
    have h1 := Kd.dp_le h k a
    have h2 := Kd.dps_le h ks b
    simp only [Kd.dps, Kd.levs]
    omega
end
def optT : Nat → List Kd → List (D × Kd)
  | _, [] => []
  | i, k :: ks => (.int (i : Nat), k) :: optT (i + 1) ks
def opts (rows : List Row) : Kd → List (D × Kd)
  | .maybe k => [(.str "?", k)]
  | .box k | .shared k | .excl k => [(.str "^", k)]
  | .tuple ks => optT 0 ks
  | .recd n => match rows.find? (fun r => decide (r.1 = n)) with
    | some r => r.2.map fun f => (.str f.1, f.2)
    | none => []
  | .int | .bool | .unit | .task _ => []
def aft (rows : List Row) (k : Kd) (s : D) : Option Kd := ((opts rows k).find? fun o => D.eqv o.1 s).map (·.2)
/-- a step: a number or a text -/
def Stp (d : D) : Prop := (∃ i, d = .int i) ∨ ∃ s, d = .str s
/-- a text that can be laid -/
def Sk (s : Str) : Prop := PyData.strOk s = true
/-- .. and begins with a small letter -/
def Wd (s : Str) : Prop := (∃ c, s.cps.toList.head? = some c ∧ 97 ≤ c) ∧ Sk s
theorem Wd.ne {s : Str} (h : Wd s) : s ≠ "?" ∧ s ≠ "^" := by
  obtain ⟨⟨c, h1, h2⟩, _⟩ := h
  refine ⟨fun e => ?_, fun e => ?_⟩
  · rw [e, show (("?" : Str)).cps.toList.head? = some 63 by decide +kernel] at h1
    cases h1
    omega
  · rw [e, show (("^" : Str)).cps.toList.head? = some 94 by decide +kernel] at h1
    cases h1
    omega
/-- the rows that the law draws -/
structure RowsOk (rows : List Row) : Prop where
  nd : (rows.map Prod.fst).Nodup
  ne : rows ≠ []
  len : rows.length ≤ 9
  fl : ∀ r, r ∈ rows → r.2 ≠ [] ∧ r.2.length ≤ 6
  wd : ∀ r, r ∈ rows → ∀ f, f ∈ r.2 → Wd f.1
  sk : ∀ r, r ∈ rows → Sk r.1
  fn : ∀ r, r ∈ rows → (r.2.map Prod.fst).Nodup
  kd : ∀ r, r ∈ rows → ∀ f, f ∈ r.2 → f.2.kn (rows.map Prod.fst) ∧ f.2.lev ≤ 6 ∧ f.2.good = true
  rk : ∃ g : Str → Nat, (∀ n, g n ≤ 45) ∧ ∀ r, r ∈ rows → ∀ f, f ∈ r.2 → f.2.dp g ≤ g r.1
theorem optT_get : ∀ {ks : List Kd} {j i : Nat} {k : Kd}, ks[i]? = some k → (optT j ks)[i]? = some (.int ((j + i : Nat) : Int), k)
  | a :: r, j, 0, k, h => by
    have e : a = k := Option.some.inj h
    subst e
    rfl
  | a :: r, j, i + 1, k, h => by
    have := optT_get (ks := r) (j := j + 1) (i := i) (k := k) h
    rw [optT]
    show (optT (j + 1) r)[i]? = _
    rw [this, show j + 1 + i = j + (i + 1) by omega]
theorem optT_len : ∀ {ks : List Kd} {j : Nat}, (optT j ks).length = ks.length
  | [], _ => rfl
  | _ :: r, j => by rw [optT, List.length_cons, List.length_cons, optT_len]
theorem optT_take : ∀ {ks : List Kd} {i j : Nat} {k : Kd}, ks[i]? = some k → (optT j ks).take (i + 1) = (optT j ks).take i ++ [(.int ((j + i : Nat) : Int), k)] := by
  intro ks i j k h
  rw [List.take_succ, optT_get h]
  rfl
theorem optT_find_str {s : Str} : ∀ {ks : List Kd} {j : Nat}, (optT j ks).find? (fun o => D.eqv o.1 (.str s)) = none
  | [], _ => rfl
  | k :: r, j => by
    rw [optT, List.find?_cons]
    simp [D.eqv, optT_find_str]
theorem optT_find : ∀ {ks : List Kd} {j : Nat} {i : Int}, (optT j ks).find? (fun o => D.eqv o.1 (.int i)) = if (j : Int) ≤ i ∧ i < j + ks.length then (ks[(i - j).toNat]?).map fun k => (.int i, k) else none
  | [], j, i => by
    rw [if_neg (by simp only [List.length_nil]; omega)]
    rfl
  | k :: r, j, i => by
    rw [optT, List.find?_cons]
    by_cases e : (j : Int) = i
    · simp only [D.eqv, e, beq_self_eq_true]
      rw [if_pos (by simp; omega)]
      simp [← e]
    · have ih := optT_find (ks := r) (j := j + 1) (i := i)
      simp only [D.eqv, beq_eq_false_iff_ne.mpr e]
      rw [ih]
      by_cases c : ((j + 1 : Nat) : Int) ≤ i ∧ i < ((j + 1 : Nat) : Int) + r.length
      · rw [if_pos c, if_pos (by simp at c ⊢; omega)]
        have : (i - (j : Int)).toNat = (i - ((j + 1 : Nat) : Int)).toNat + 1 := by omega
        rw [this]
        rfl
      · rw [if_neg c, if_neg (by simp at c ⊢; omega)]
theorem find_row {rows : List Row} {n : Str} (h : n ∈ rows.map Prod.fst) : ∃ r, rows.find? (fun r => decide (r.1 = n)) = some r ∧ r ∈ rows ∧ r.1 = n := by
  cases e : rows.find? (fun r => decide (r.1 = n)) with
  | none =>
    obtain ⟨r, h1, h2⟩ := List.mem_map.mp h
    have := List.find?_eq_none.mp e r h1
    simp [h2] at this
  | some r =>
    have h1 := List.mem_of_find?_eq_some e
    have h2 := List.find?_some e
    exact ⟨r, rfl, h1, by simpa using h2⟩
/-- equality of two steps -/
theorem e_st {K : PySem.W.Frag} {H : Hp} {Q : VK} {x y : V} {d e : D} (hx : Rp K H x d) (hy : Rp K H y e) (sd : Stp d) (se : Stp e) (h : Q (.bl (D.eqv d e)) H) : rEqG K x y H Q := by
  rcases sd with ⟨i, rfl⟩ | ⟨i, rfl⟩ <;> rcases se with ⟨j, rfl⟩ | ⟨j, rfl⟩ <;> cases hx <;> cases hy
  · refine e_int ?_
    have : D.eqv (.int i) (.int j) = decide (i = j) := by
      rw [Bool.eq_iff_iff]
      simp [D.eqv]
    rw [← this]
    exact h
  · exact e_is h
  · exact e_si h
  · refine e_str ?_
    have : D.eqv (.str i) (.str j) = decide (i = j) := by
      rw [Bool.eq_iff_iff]
      simp [D.eqv]
    rw [← this]
    exact h

mutual
/-- its tuples are not long -/
def small : D → Prop
  | .tup ds => ds.length ≤ 1000 ∧ smalls ds
  | .non => False
  | _ => True
def smalls : List D → Prop
  | [] => True
  | d :: ds => small d ∧ smalls ds
end
theorem smalls_get : ∀ {ds : List D} {i : Nat} {d : D}, smalls ds → ds[i]? = some d → small d
  | _ :: _, 0, _, h, e => by cases e; exact h.1
  | _ :: ds, i + 1, d, h, e => smalls_get (ds := ds) (i := i) h.2 (by simpa using e)
theorem deps_get : ∀ {ds : List D} {i : Nat} {d : D}, ds[i]? = some d → d.dep ≤ D.deps ds
  | _ :: _, 0, _, e => by cases e; simp only [D.deps]; omega
  | _ :: ds, i + 1, d, e => by
    have := deps_get (ds := ds) (i := i) (d := d) (by simpa using e)
    simp only [D.deps]
    omega
theorem nbs_get : ∀ {ds : List D} {i : Nat} {d : D}, D.nbs ds = true → ds[i]? = some d → d.nb = true
  | _ :: _, 0, _, h, e => by
    cases e
    simp only [D.nbs, Bool.and_eq_true] at h
    exact h.1
  | _ :: ds, i + 1, d, h, e => by
    simp only [D.nbs, Bool.and_eq_true] at h
    exact nbs_get (ds := ds) (i := i) h.2 (by simpa using e)
mutual
theorem Kd.d_ok : ∀ k : Kd, k.good = true → k.d.nb = true ∧ k.d.dep ≤ 2 * k.lev ∧ small k.d
  | .int, _ | .bool, _ | .unit, _ | .recd _, _ => by simp [Kd.d, D.nb, D.nbs, D.dep, D.deps, Kd.lev, small, smalls]
  | .box k, g | .maybe k, g | .shared k, g | .excl k, g | .task k, g => by
    have := Kd.d_ok k g
    simp [Kd.d, D.nb, D.nbs, D.dep, D.deps, Kd.lev, small, smalls, this]
    omega
  | .tuple ks, g => by
    simp only [Kd.good, Bool.and_eq_true, decide_eq_true_eq] at g
    have := Kd.ds_ok ks g.2
    simp [Kd.d, D.nb, D.nbs, D.dep, D.deps, Kd.lev, small, smalls, this, Kd.ds_length]
    omega
theorem Kd.ds_ok : ∀ ks : List Kd, Kd.goods ks = true → D.nbs (Kd.ds ks) = true ∧ D.deps (Kd.ds ks) ≤ 2 * Kd.levs ks ∧ smalls (Kd.ds ks)
  | [], _ => by simp [Kd.ds, D.nbs, D.deps, smalls]
  | k :: ks, g => by
    rw [Kd.goods, Bool.and_eq_true] at g
    have h1 := Kd.d_ok k g.1
    have h2 := Kd.ds_ok ks g.2
    simp [Kd.ds, D.nbs, D.deps, Kd.levs, smalls, h1, h2]
    omega
end

/-! ### the state: a list of four numbers; the script -/
/-- a new list is not the script -/
def Off (K : PySem.W.Frag) (sc p : Addr) : Prop := p ≠ sc ∨ ∃ ns : List Int, ∀ H', SqL K H' sc (ns.map V.int)
theorem sqlExt {K : PySem.W.Frag} {H H' : Hp} {S : List Addr} {a : Addr} {xs : List V} (h : SqL K H a xs) (e : Ext S H H') (n : a ∉ S) : SqL K H' a xs := by
  rcases h with (h | ⟨o, h⟩) | h
  · exact .inl (.inl (e.keep _ _ h n))
  · exact .inl (.inr ⟨o, e.frz _ _ _ h⟩)
  · exact .inr h
theorem Off.keep {K : PySem.W.Frag} {H H' : Hp} {sc p : Addr} (o : Off K sc p) (h : ∃ ns : List Int, SqL K H sc (ns.map V.int)) (e : Ext [p] H H') : ∃ ns : List Int, SqL K H' sc (ns.map V.int) := by
  obtain ⟨ns, h⟩ := h
  rcases o with o | ⟨ms, o⟩
  · exact ⟨ns, sqlExt h e (by simpa using o.symm)⟩
  · exact ⟨ms, o H'⟩
theorem off_of {K : PySem.W.Frag} {H : Hp} {sc p : Addr} {ns : List Int} (s : SqL K H sc (ns.map V.int)) (h : H p = none) : Off K sc p := by
  rcases s with (s | ⟨o, s⟩) | s
  · exact .inl (ne_of_none s h).symm
  · exact .inl (ne_of_none s h).symm
  · exact .inr ⟨ns, fun H' => .inr s⟩
structure Pk (K : PySem.W.Frag) (H : Hp) (st sc : Addr) : Prop where
  ex : ∃ a b c e : Int, H st = some (.lst [.int a, .int b, .int c, .int e]) ∧ 0 ≤ a ∧ 0 ≤ b ∧ 0 ≤ c ∧ c < 2147483648
  ns : ∃ ns : List Int, SqL K H sc (ns.map V.int)
  ne : Off K sc st
theorem Pk.same {K : PySem.W.Frag} {H H' : Hp} {st sc : Addr} (T : Pk K H st sc) (e : Ext [] H H') : Pk K H' st sc := by
  obtain ⟨⟨a, b, c, e0, h, r⟩, ⟨ns, s⟩, n⟩ := T
  exact ⟨⟨a, b, c, e0, e.same _ _ h, r⟩, ⟨ns, sqlExt s e (by simp)⟩, n⟩
theorem Pk.new {K : PySem.W.Frag} {H : Hp} {st sc p : Addr} (T : Pk K H st sc) (h : H p = none) : p ≠ st := by
  obtain ⟨a, b, c, e0, e, _⟩ := T.ex
  exact (ne_of_none e h).symm
theorem Pk.off {K : PySem.W.Frag} {H : Hp} {st sc p : Addr} (T : Pk K H st sc) (h : H p = none) : Off K sc p := by
  obtain ⟨ns, s⟩ := T.ns
  rcases s with (s | ⟨o, s⟩) | s
  · exact .inl (ne_of_none s h).symm
  · exact .inl (ne_of_none s h).symm
  · exact .inr ⟨ns, fun H' => .inr s⟩
theorem Pk.far {K : PySem.W.Frag} {H H' : Hp} {st sc p : Addr} (T : Pk K H st sc) (e : Ext [p] H H') (h1 : p ≠ st) (h2 : Off K sc p) : Pk K H' st sc := by
  obtain ⟨⟨a, b, c, e0, h, r⟩, ⟨ns, s⟩, n⟩ := T
  refine ⟨⟨a, b, c, e0, e.keep _ _ h (by simpa using h1.symm), r⟩, ?_, n⟩
  rcases h2 with h2 | ⟨ns', h2⟩
  · exact ⟨ns, sqlExt s e (by simpa using h2.symm)⟩
  · exact ⟨ns', h2 H'⟩
def sp_l_pick (K : PySem.W.Frag) (_ : Ad) : Sp := fun vs H Q _ => ∃ (st sc : Addr) (m : Int), vs = [.ref st, .ref sc, .int m] ∧ Pk K H st sc ∧ 0 < m ∧ m ≤ 1000 ∧ ∀ r H', 0 ≤ r → r < m → Ext [st] H H' → Pk K H' st sc → Q (.int r) H'
/-- a list of texts -/
def StrL (H : Hp) (p : Addr) (ss : List Str) : Prop := H p = some (.lst (ss.map V.str))
def sp_l_words (_ : PySem.W.Frag) (_ : Ad) : Sp := fun vs H Q _ => vs = [] ∧ ∀ p H' ss, Ext [] H H' → H p = none → StrL H' p ss → ss.length ≤ 100 → Q (.ref p) H'
def sp_l_name (K : PySem.W.Frag) (_ : Ad) : Sp := fun vs H Q _ => ∃ (st sc : Addr), vs = [.ref st, .ref sc] ∧ Pk K H st sc ∧ ∀ s H', Wd s → s.length ≤ 40 → Ext [st] H H' → Pk K H' st sc → Q (.str s) H'
def sp_l_big (K : PySem.W.Frag) (_ : Ad) : Sp := fun vs H Q _ => ∃ (st sc : Addr), vs = [.ref st, .ref sc] ∧ Pk K H st sc ∧ ∀ s : Str, ∀ H', s.length ≤ 40 → Sk s → Ext [st] H H' → Pk K H' st sc → Q (.str s) H'
def sp_l_new (_ : PySem.W.Frag) (_ : Ad) : Sp := fun vs H Q _ => ∃ (p : Addr) (ss : List Str) (s : Str), vs = [.ref p, .str s] ∧ StrL H p ss ∧ ss.length ≤ 9 ∧ s.length ≤ 40 ∧ ∀ t : Str, t ∉ ss → t.length ≤ 40 → (Wd s → Wd t) → (Sk s → Sk t) → Q (.str t) H
def sp_l_kind (K : PySem.W.Frag) (_ : Ad) (n : Nat) : Sp := fun vs H Q _ => ∃ (st sc p : Addr) (ss : List Str) (room : Int) (pl : Bool), vs = [.ref st, .ref sc, .int room, .bl pl, .ref p] ∧ Pk K H st sc ∧ StrL H p ss ∧ p ≠ st ∧ ss.length ≤ 9 ∧ 1 ≤ room ∧ room ≤ (n : Int) ∧ n ≤ 6 ∧
  ∀ u H' (k : Kd), Ext [st] H H' → Pk K H' st sc → Rp K H' u k.d → (k.lev : Int) ≤ room → k.good = true → k.kn ss → Q u H'
def sp_l_is_plain (K : PySem.W.Frag) (_ : Ad) (n : Nat) : Sp := fun vs H Q _ => ∃ (v : V) (k : Kd), vs = [v] ∧ Rp K H v k.d ∧ k.lev ≤ n ∧ ∀ (b : Bool) H', Ext [] H H' → Q (.bl b) H'
def sp_l_wide (K : PySem.W.Frag) (_ : Ad) : Sp := fun vs H Q _ => ∃ (st sc : Addr), vs = [.ref st, .ref sc] ∧ Pk K H st sc ∧ ∀ u H' (k : Kd), Ext [st] H H' → Pk K H' st sc → Rp K H' u k.d → k.lev ≤ 6 → k.good = true → k.kn [] → Q u H'
def sp_l_any_kind (K : PySem.W.Frag) (_ : Ad) : Sp := fun vs H Q _ => ∃ (st sc p : Addr) (ss : List Str), vs = [.ref st, .ref sc, .ref p] ∧ Pk K H st sc ∧ StrL H p ss ∧ p ≠ st ∧ ss.length ≤ 9 ∧ ∀ u H' (k : Kd), Ext [st] H H' → Pk K H' st sc → Rp K H' u k.d → k.lev ≤ 6 → k.good = true → k.kn ss → Q u H'
def sp_l_same (K : PySem.W.Frag) (_ : Ad) (n : Nat) : Sp := fun vs H Q _ => ∃ (u v : V) (d : D), vs = [u, v] ∧ Rp K H u d ∧ Rp K H v d ∧ d.nb = true ∧ d.dep < n ∧ small d ∧ Q (.bl true) H
/-- the rows, a list or a tuple -/
def RowsV (K : PySem.W.Frag) (H : Hp) (v : V) (rows : List Row) : Prop := Rp K H v (.tup (rows.map rowD)) ∨ ∃ p xs, v = .ref p ∧ H p = some (.lst xs) ∧ RpAll K H xs (rows.map rowD)
structure Rk (rows : List Row) (g : Str → Nat) : Prop where
  rk : ∀ r, r ∈ rows → ∀ f, f ∈ r.2 → f.2.dp g ≤ g r.1
  fl : ∀ r, r ∈ rows → r.2.length ≤ 6
def sp_l_size (K : PySem.W.Frag) (_ : Ad) (n : Nat) : Sp := fun vs H Q _ => ∃ (rv v : V) (rows : List Row) (k : Kd) (g : Str → Nat), vs = [rv, v] ∧ RowsV K H rv rows ∧ Rk rows g ∧ Rp K H v k.d ∧ k.dp g ≤ n ∧ k.good = true ∧ (∀ r, r ∈ rows → ∀ f, f ∈ r.2 → f.2.good = true) ∧ ∀ i H', Ext [] H H' → Q (.int i) H'
def sp_l_is_small (K : PySem.W.Frag) (_ : Ad) (n : Nat) : Sp := fun vs H Q _ => ∃ (rv v : V) (rows : List Row) (k : Kd) (g : Str → Nat) (ss : List Str), vs = [rv, v] ∧ RowsV K H rv rows ∧ Rk rows g ∧ Rp K H v k.d ∧ k.lev ≤ n ∧ k.lev ≤ 6 ∧ k.kn ss ∧ (∀ s, g s ≤ 45) ∧ k.good = true ∧ (∀ r, r ∈ rows → ∀ f, f ∈ r.2 → f.2.good = true) ∧ ∀ (b : Bool) H', Ext [] H H' → Q (.bl b) H'
def sp_l_records (K : PySem.W.Frag) (_ : Ad) : Sp := fun vs H Q _ => ∃ (st sc : Addr), vs = [.ref st, .ref sc] ∧ Pk K H st sc ∧ ∀ u H' (rows : List Row), Ext [st] H H' → Pk K H' st sc → Rp K H' u (.tup (rows.map rowD)) → RowsOk rows → Q u H'
def sp_l_options (K : PySem.W.Frag) (_ : Ad) : Sp := fun vs H Q _ => ∃ (rv v : V) (rows : List Row) (k : Kd), vs = [rv, v] ∧ Rp K H rv (.tup (rows.map rowD)) ∧ Rp K H v k.d ∧ k.good = true ∧ (∀ r, r ∈ rows → r.2.length ≤ 6) ∧ ∀ p H' xs, Ext [] H H' → H p = none → H' p = some (.lst xs) → RpAll K H' xs ((opts rows k).map fun o => .tup [o.1, o.2.d]) → Q (.ref p) H'
def sp_l_step (K : PySem.W.Frag) (_ : Ad) : Sp := fun vs H Q _ => ∃ (st sc : Addr) (rv : V) (rows : List Row), vs = [.ref st, .ref sc, rv] ∧ Pk K H st sc ∧ Rp K H rv (.tup (rows.map rowD)) ∧ RowsOk rows ∧ ∀ u H' d, Ext [st] H H' → Pk K H' st sc → Rp K H' u d → Stp d → Q u H'
def sp_l_small_kind (K : PySem.W.Frag) (_ : Ad) : Sp := fun vs H Q _ => ∃ (st sc : Addr) (rv : V) (rows : List Row), vs = [.ref st, .ref sc, rv] ∧ Pk K H st sc ∧ Rp K H rv (.tup (rows.map rowD)) ∧ RowsOk rows ∧ ∀ u H' (k : Kd), Ext [st] H H' → Pk K H' st sc → Rp K H' u k.d → k.lev ≤ 6 → k.good = true → k.kn (rows.map Prod.fst) → Q u H'
def sp_fields_of (K : PySem.W.Frag) (_ : Ad) : Sp := fun vs H Q _ => ∃ (rv : V) (n : Str) (rows : List Row) (r : Row), vs = [rv, .str n] ∧ Rp K H rv (.tup (rows.map rowD)) ∧ rows.find? (fun r => decide (r.1 = n)) = some r ∧ ∀ u, Rp K H u (.tup (r.2.map flD)) → Q u H
def sp_kind_after (K : PySem.W.Frag) (A : Ad) : Sp := fun vs H Q E => ∃ (rv v sv : V) (rows : List Row) (k : Kd) (s : D), vs = [rv, v, sv] ∧ Rp K H rv (.tup (rows.map rowD)) ∧ Rp K H v k.d ∧ Rp K H sv s ∧ Stp s ∧ RowsOk rows ∧ k.kn (rows.map Prod.fst) ∧ k.good = true ∧
  (∀ k', aft rows k s = some k' → ∀ u H', Ext [] H H' → Rp K H' u k'.d → Q u H') ∧ (aft rows k s = none → ∀ H', Ext [] H H' → E (.ref A.c_NoSuchStep) none H')

/-! ### a dict of kinds by name; a place's way through the kinds -/
abbrev Tb := List (Str × Kd)
def kvsOf (tb : Tb) (vs : List V) : List (Key × V) := (tb.zip vs).map fun p => (Sum.inr p.1.1, p.2)
def TbAt (K : PySem.W.Frag) (H : Hp) (a : Addr) (tb : Tb) : Prop := ∃ vs, H a = some (.dK (kvsOf tb vs)) ∧ RpAll K H vs (tb.map fun p => p.2.d)
theorem TbAt.keep {K : PySem.W.Frag} {H H' : Hp} {S : List Addr} {a : Addr} {tb : Tb} (t : TbAt K H a tb) (e : Ext S H H') (n : a ∉ S) : TbAt K H' a tb := by
  obtain ⟨vs, h1, h2⟩ := t
  exact ⟨vs, e.keep _ _ h1 n, h2.ts e.ts⟩
theorem TbAt.same {K : PySem.W.Frag} {H H' : Hp} {a : Addr} {tb : Tb} (t : TbAt K H a tb) (e : Ext [] H H') : TbAt K H' a tb := t.keep e (by simp)
def lk (tb : Tb) (s : Str) : Option Kd := (tb.find? fun p => decide (p.1 = s)).map (·.2)
theorem lk_cons {s : Str} {p : Str × Kd} {tb : Tb} : lk (p :: tb) s = if p.1 = s then some p.2 else lk tb s := by
  unfold lk
  rw [List.find?_cons]
  by_cases e : p.1 = s <;> simp [e]
theorem lk_mem {tb : Tb} {s : Str} {k : Kd} (h : lk tb s = some k) : (s, k) ∈ tb := by
  induction tb with
  | nil => simp [lk] at h
  | cons p r ih =>
    rw [lk_cons] at h
    by_cases e : p.1 = s
    · rw [if_pos e] at h
      cases h
      rw [← e]
      simp
    · rw [if_neg e] at h
      exact List.mem_cons_of_mem _ (ih h)
theorem lk_none {tb : Tb} {s : Str} : lk tb s = none ↔ s ∉ tb.map Prod.fst := by
  induction tb with
  | nil => simp [lk]
  | cons p r ih =>
    rw [lk_cons, List.map_cons, List.mem_cons]
    by_cases e : p.1 = s
    · simp [e]
    · rw [if_neg e, ih]
      exact ⟨fun h z => z.elim (fun z => e z.symm) h, fun h z => h (.inr z)⟩
theorem lk_get {tb : Tb} {i : Nat} {s : Str} {k : Kd} (nd : (tb.map Prod.fst).Nodup) (h : tb[i]? = some (s, k)) : lk tb s = some k := by
  induction tb generalizing i with
  | nil => simp at h
  | cons p r ih =>
    rw [List.map_cons, List.nodup_cons] at nd
    rw [lk_cons]
    cases i with
    | zero =>
      cases h
      simp
    | succ i =>
      have h' : r[i]? = some (s, k) := h
      have ne : p.1 ≠ s := fun e => nd.1 (by rw [e]; exact List.mem_map.mpr ⟨_, List.mem_of_getElem? h', rfl⟩)
      rw [if_neg ne]
      exact ih nd.2 h'
theorem valV_tb {K : PySem.W.Frag} {H : Hp} {s : Str} : ∀ {tb : Tb} {vs : List V}, RpAll K H vs (tb.map fun p => p.2.d) →
    (lk tb s = none ∧ valV (kvsOf tb vs) (Sum.inr s) = none) ∨ ∃ k v, lk tb s = some k ∧ valV (kvsOf tb vs) (Sum.inr s) = some v ∧ Rp K H v k.d
  | [], vs, _ => .inl ⟨rfl, by simp [kvsOf, valV_nil]⟩
  | p :: r, _, .cons (v := v) (vs := vs) h t => by
    have e0 : kvsOf (p :: r) (v :: vs) = (Sum.inr p.1, v) :: kvsOf r vs := rfl
    rw [e0, lk_cons]
    by_cases e : p.1 = s
    · rw [if_pos e, valV_pos (by rw [e])]
      exact .inr ⟨_, _, rfl, rfl, h⟩
    · rw [if_neg e, valV_neg (fun z => e (Sum.inr.inj z))]
      exact valV_tb t
theorem kvs_keys {K : PySem.W.Frag} {H : Hp} : ∀ {tb : Tb} {vs : List V}, RpAll K H vs (tb.map fun p => p.2.d) → (kvsOf tb vs).map (fun kv => kV kv.1) = (tb.map Prod.fst).map V.str
  | [], _, .nil => rfl
  | p :: r, _, .cons (vs := vs) h t => by
    have ih := kvs_keys t
    show _ :: _ = _ :: _
    rw [← ih]
    rfl
theorem kvs_len {K : PySem.W.Frag} {H : Hp} {tb : Tb} {vs : List V} (h : RpAll K H vs (tb.map fun p => p.2.d)) : (kvsOf tb vs).length = tb.length := by
  have := h.length
  rw [List.length_map] at this
  unfold kvsOf
  rw [List.length_map, List.length_zip]
  omega
theorem kvs_put {K : PySem.W.Frag} {H : Hp} {tb : Tb} {vs : List V} {s : Str} {k : Kd} {v : V} (h : RpAll K H vs (tb.map fun p => p.2.d)) (hs : s ∉ tb.map Prod.fst) : putK (kvsOf tb vs) (Sum.inr s) v = kvsOf (tb ++ [(s, k)]) (vs ++ [v]) := by
  have hl := h.length
  rw [List.length_map] at hl
  unfold putK
  rw [if_neg]
  · unfold kvsOf
    rw [List.zip_append hl.symm, List.map_append]
    rfl
  · rw [List.any_eq_true]
    rintro ⟨q, hq, e⟩
    obtain ⟨⟨a, b⟩, h1, rfl⟩ := List.mem_map.mp hq
    have h2 := List.of_mem_zip h1
    have e2 : a.1 = s := by simpa using e
    exact hs (by rw [← e2]; exact List.mem_map.mpr ⟨a, h2.1, rfl⟩)
section
variable {H : Hp} {K : PySem.W.Frag} {a : Addr} {tb : Tb} {s : Str}
/-- name in d: any word over it -/
theorem tb_in {A : Option V → Prop} (t : TbAt K H a tb) (h1 : lk tb s = none → A none) (h2 : ∀ k v, lk tb s = some k → Rp K H v k.d → A (some v)) : ∃ b o, V.ref a = .ref b ∧ DGet H b (.str s) o ∧ A o := by
  obtain ⟨vs, e, r⟩ := t
  have q := DGet.k (k := Sum.inr s) e
  rcases valV_tb (s := s) r with ⟨l, v⟩ | ⟨k, v, l, e2, rv⟩
  · rw [v] at q
    exact ⟨a, none, rfl, q, h1 l⟩
  · rw [e2] at q
    exact ⟨a, some v, rfl, q, h2 k v l rv⟩
theorem tb_get {A : V → Prop} {k : Kd} (t : TbAt K H a tb) (l : lk tb s = some k) (h : ∀ v, Rp K H v k.d → A v) : ∃ b v, V.ref a = .ref b ∧ DGet H b (.str s) (some v) ∧ A v := by
  obtain ⟨vs, e, r⟩ := t
  have q := DGet.k (k := Sum.inr s) e
  rcases valV_tb (s := s) r with ⟨l2, _⟩ | ⟨k2, v, l2, e2, rv⟩
  · rw [l] at l2
    cases l2
  · rw [l] at l2
    cases l2
    rw [e2] at q
    exact ⟨a, v, rfl, q, h v rv⟩
theorem tb_put {N : Hp → Prop} {k : Kd} {v : V} (t : TbAt K H a tb) (hs : s ∉ tb.map Prod.fst) (hl : tb.length < sizeLine) (rv : Rp K H v k.d) (h : ∀ H', Ext [a] H H' → TbAt K H' a (tb ++ [(s, k)]) → N H') : ∃ b H4, V.ref a = .ref b ∧ DPut H b (.str s) v H4 ∧ N H4 := by
  obtain ⟨vs, e, r⟩ := t
  have q := DPut.k (k := Sum.inr s) (v := v) e (by rw [kvs_len r]; exact hl)
  rw [kvs_put (k := k) r hs] at q
  have x : Ext [a] H (upd H a (.dK (kvsOf (tb ++ [(s, k)]) (vs ++ [v])))) := Ext.mut e (fun _ z => nomatch z) (fun _ _ z => nomatch z) (by simp)
  refine ⟨a, _, rfl, q, h _ x ⟨_, upd_same, ?_⟩⟩
  rw [List.map_append]
  exact (r.ts x.ts).append (.cons (rv.ts x.ts) .nil)
end
/-- along the steps -/
def fol (rows : List Row) : Kd → List D → Option Kd
  | k, [] => some k
  | k, s :: r => (aft rows k s).bind fun j => fol rows j r

/-- the table that the law draws -/
structure TbOk (rows : List Row) (tb : Tb) : Prop where
  nd : (tb.map Prod.fst).Nodup
  sk : ∀ p, p ∈ tb → Sk p.1
  ln : ∀ p, p ∈ tb → p.1.length ≤ 40
  kd : ∀ p, p ∈ tb → p.2.lev ≤ 6 ∧ p.2.good = true ∧ p.2.kn (rows.map Prod.fst)
def sp_kinds_along (K : PySem.W.Frag) (A : Ad) : Sp := fun vs H Q E => ∃ (pv rv : V) (a : Addr) (n : Str) (steps : List D) (rows : List Row) (tb : Tb), vs = [pv, rv, .ref a] ∧ Rp K H pv (.tup [.str n, .tup steps]) ∧ Rp K H rv (.tup (rows.map rowD)) ∧ TbAt K H a tb ∧ (∀ s, s ∈ steps → Stp s) ∧ steps.length ≤ 50 ∧ RowsOk rows ∧ TbOk rows tb ∧
  (lk tb n = none → ∀ H', Ext [] H H' → E (.ref A.c_NoSuchVariable) none H') ∧
  (∀ k, lk tb n = some k → (fol rows k steps = none → ∀ H', Ext [] H H' → E (.ref A.c_NoSuchStep) none H') ∧ ∀ k', fol rows k steps = some k' → ∀ p H' xs v, Ext [] H H' → H' p = some (.lst (xs ++ [v])) → Rp K H' v k'.d → Q (.ref p) H')
def sp_kind_at (K : PySem.W.Frag) (A : Ad) : Sp := fun vs H Q E => ∃ (pv rv : V) (a : Addr) (n : Str) (steps : List D) (rows : List Row) (tb : Tb), vs = [pv, rv, .ref a] ∧ Rp K H pv (.tup [.str n, .tup steps]) ∧ Rp K H rv (.tup (rows.map rowD)) ∧ TbAt K H a tb ∧ (∀ s, s ∈ steps → Stp s) ∧ steps.length ≤ 50 ∧ RowsOk rows ∧ TbOk rows tb ∧
  (lk tb n = none → ∀ H', Ext [] H H' → E (.ref A.c_NoSuchVariable) none H') ∧
  (∀ k, lk tb n = some k → (fol rows k steps = none → ∀ H', Ext [] H H' → E (.ref A.c_NoSuchStep) none H') ∧ ∀ k', fol rows k steps = some k' → ∀ v H', Ext [] H H' → Rp K H' v k'.d → Q v H')
def sp_l_table (K : PySem.W.Frag) (_ : Ad) : Sp := fun vs H Q _ => ∃ (st sc : Addr) (rv : V) (rows : List Row), vs = [.ref st, .ref sc, rv] ∧ Pk K H st sc ∧ Rp K H rv (.tup (rows.map rowD)) ∧ RowsOk rows ∧
  ∀ a H' tb, Ext [st] H H' → H a = none → Pk K H' st sc → TbAt K H' a tb → TbOk rows tb → tb ≠ [] → tb.length ≤ 4 → Q (.ref a) H'
def sp_l_walk (K : PySem.W.Frag) (_ : Ad) : Sp := fun vs H Q _ => ∃ (st sc : Addr) (rv v : V) (rows : List Row) (n : Str) (k : Kd), vs = [.ref st, .ref sc, rv, .str n, v] ∧ Pk K H st sc ∧ Rp K H rv (.tup (rows.map rowD)) ∧ Rp K H v k.d ∧ RowsOk rows ∧ k.lev ≤ 6 ∧ k.good = true ∧ k.kn (rows.map Prod.fst) ∧
  ∀ u H' steps k', Ext [st] H H' → Pk K H' st sc → Rp K H' u (.tup [.tup [.str n, .tup steps], k'.d]) → (∀ s, s ∈ steps → Stp s) → steps.length ≤ 12 → fol rows k steps = some k' → Q u H'
/-- what the law tells of a place: a kind, or a list of a word and True -/
inductive Told where
  | kd (k : Kd) | step | var
def ToldV (K : PySem.W.Frag) (H : Hp) (v : V) : Told → Prop
  | .kd k => Rp K H v k.d ∧ k.lev ≤ 6 ∧ k.good = true
  | .step => ∃ p, v = .ref p ∧ H p = some (.lst [.str "step", .bl true])
  | .var => ∃ p, v = .ref p ∧ H p = some (.lst [.str "variable", .bl true])
def tell (rows : List Row) (tb : Tb) (n : Str) (steps : List D) : Told := match lk tb n with
  | none => .var
  | some k => match fol rows k steps with
    | none => .step
    | some k' => .kd k'
def sp_l_told (K : PySem.W.Frag) (_ : Ad) : Sp := fun vs H Q _ => ∃ (pv rv : V) (a : Addr) (n : Str) (steps : List D) (rows : List Row) (tb : Tb), vs = [pv, rv, .ref a] ∧ Rp K H pv (.tup [.str n, .tup steps]) ∧ Rp K H rv (.tup (rows.map rowD)) ∧ TbAt K H a tb ∧ (∀ s, s ∈ steps → Stp s) ∧ steps.length ≤ 50 ∧ RowsOk rows ∧ TbOk rows tb ∧
  ∀ v H', Ext [] H H' → ToldV K H' v (tell rows tb n steps) → Q v H'
def sp_l_followed (K : PySem.W.Frag) (_ : Ad) : Sp := fun vs H Q _ => ∃ (rv v sv : V) (rows : List Row) (k : Kd) (steps : List D), vs = [rv, v, sv] ∧ Rp K H rv (.tup (rows.map rowD)) ∧ Rp K H v k.d ∧ Rp K H sv (.tup steps) ∧ (∀ s, s ∈ steps → Stp s) ∧ RowsOk rows ∧ k.lev ≤ 6 ∧ k.good = true ∧ k.kn (rows.map Prod.fst) ∧
  ∀ u H', Ext [] H H' → ToldV K H' u (match fol rows k steps with | none => .step | some k' => .kd k') → Q u H'
def sp_law (K : PySem.W.Frag) : Sp := fun vs H Q _ => ∃ (a : Addr) (ns : List Int), vs = [.ref a] ∧ SqL K H a (ns.map V.int) ∧ ns.length ≤ 63 ∧ ∀ H', Q (.bl true) H'

def t_fields_of (K : PySem.W.Frag) (A : Ad) : TS :=
  (tSeqJ (tFor (iTup K (tVar 0)) (gName 2) (tIfS (tTest (tOp (rEqG K) (tOp (rIx K) (tVar 2) (tC (.int 0))) (tVar 1))) (tRet (tOp (rIx K) (tVar 2) (tC (.int 1)))) tNext))
    (tRet (tC .non)))
def t_kind_after (K : PySem.W.Frag) (A : Ad) (E : XK) : TS :=
  (tSeqJ (tIfS (tTest (tOp (rEqG K) (tVar 2) (tC (.str "?")))) (tIfS (tTest (tOp (rEqG K) (tOp (rIx K) (tVar 1) (tC (.int 0))) (tC (.str "maybe")))) (tRet (tOp (rIx K) (tVar 1) (tC (.int 1)))) tNext) (tIfS (tTest (tOp (rEqG K) (tVar 2) (tC (.str "^")))) (tIfS (tTest (tOp (rIn K false) (tOp (rIx K) (tVar 1) (tC (.int 0))) (tTupK K (tCons (tC (.str "box")) (tCons (tC (.str "shared")) (tCons (tC (.str "exclusive")) tNil)))))) (tRet (tOp (rIx K) (tVar 1) (tC (.int 1)))) tNext) (tIfS (tTest (tOp (rEqG K) (tOp (rIx K) (tVar 1) (tC (.int 0))) (tC (.str "tuple")))) (tIfS (tAnd (tB (tCB (rIsi K) (tCons (tVar 2) (tCons (tC (.ty "int")) tNil)))) (tTest (tChain rLeI rLtI (tC (.int 0)) (tVar 2) (tCB (Go.rLen K) (tCons (tOp (rIx K) (tVar 1) (tC (.int 1))) tNil))))) (tRet (tOp (rIx K) (tOp (rIx K) (tVar 1) (tC (.int 1))) (tVar 2))) tNext) (tIfS (tTest (tOp (rEqG K) (tOp (rIx K) (tVar 1) (tC (.int 0))) (tC (.str "record")))) (tFor (iTup K (tCall (sp_fields_of K A) [] E0 (tCons (tVar 0) (tCons (tOp (rIx K) (tVar 1) (tC (.int 1))) tNil)))) (gTup K 2 (gCons (gName 3) (gCons (gName 4) gNil))) (tIfS (tTest (tOp (rEqG K) (tVar 3) (tVar 2))) (tRet (tVar 4)) tNext)) tNext))))
    (tRaiseC A.c_NoSuchStep E))
def t_kinds_along (K : PySem.W.Frag) (A : Ad) (E : XK) : TS :=
  (tSeqJ (tIfS (tB (tDNotIn (tOp (rIx K) (tVar 0) (tC (.int 0))) (tVar 2))) (tRaiseC A.c_NoSuchVariable E) tNext)
    (tSeqJ (tAsg (tDGet (tVar 2) (tOp (rIx K) (tVar 0) (tC (.int 0)))) (gName 3))
    (tSeqJ (tAsg (tLst (tCons (tVar 3) tNil)) (gName 4))
    (tSeqJ (tFor (iTup K (tOp (rIx K) (tVar 0) (tC (.int 1)))) (gName 5) (tSeqJ (tAsg (tCall (sp_kind_after K A) [] E (tCons (tVar 1) (tCons (tVar 3) (tCons (tVar 5) tNil)))) (gName 3))
    (tDrop (tBM K "list" rAppend (tVar 4) (tCons (tVar 3) tNil)))))
    (tRet (tVar 4))))))
def t_kind_at (K : PySem.W.Frag) (A : Ad) (E : XK) : TS :=
  (tRet (tOp (rIx K) (tCallK (sp_kinds_along K A) (gK 1) E (tCons (tVar 0) tNil) (tCons (tVar 1) (tCons (tVar 2) tNil))) (tUn (rU fun i => .int (-i)) (tC (.int 1)))))
def t_l_pick (K : PySem.W.Frag) (A : Ad) : TS :=
  (tSeqJ (tIfS (tTest (tOp rGtI (tOp (rIx K) (tVar 0) (tC (.int 1))) (tC (.int 0)))) (tSeqJ (tAsg (tOp rModI (tCB rInt1 (tCons (tOp (rIx K) (tVar 0) (tC (.int 1))) tNil)) (tVar 2)) (gName 3))
    (tSeqJ (tAsg (tOp rDivI (tOp (rIx K) (tVar 0) (tC (.int 1))) (tVar 2)) (gSub (tVar 0) (tC (.int 1)) rSetL))
    (tRet (tVar 3)))) tNext)
    (tSeqJ (tAsg (tOp (rIx K) (tVar 0) (tC (.int 0))) (gName 4))
    (tSeqJ (tAsg (tOp (rAddG K) (tVar 4) (tC (.int 1))) (gSub (tVar 0) (tC (.int 0)) rSetL))
    (tSeqJ (tIfS (tTest (tOp rLtI (tVar 4) (tCB (Go.rLen K) (tCons (tVar 1) tNil)))) (tSeqJ (tAsg (tCB rAbs (tCons (tCB rInt1 (tCons (tOp (rIx K) (tVar 1) (tVar 4)) tNil)) tNil)) (gName 5))
    (tSeqJ (tIfS (tTest (tOp rGeI (tVar 5) (tOp rPowI (tC (.int 10)) (tC (.int 18))))) (tSeqJ (tAsg (tOp rDivI (tVar 5) (tVar 2)) (gSub (tVar 0) (tC (.int 1)) rSetL))
    (tRet (tOp rModI (tCB rInt1 (tCons (tVar 5) tNil)) (tVar 2)))) tNext)
    (tAsg (tOp rModI (tCB rInt1 (tCons (tOp (rAddG K) (tOp (rAddG K) (tOp rMulI (tOp (rIx K) (tVar 0) (tC (.int 2))) (tC (.int 40014))) (tOp rMulI (tVar 5) (tC (.int 69621)))) (tC (.int 17))) tNil)) (tC (.int 2147483563))) (gSub (tVar 0) (tC (.int 2)) rSetL)))) tNext)
    (tSeqJ (tAsg (tOp rModI (tCB rInt1 (tCons (tOp (rAddG K) (tOp (rAddG K) (tOp rMulI (tOp (rIx K) (tVar 0) (tC (.int 2))) (tC (.int 48271))) (tOp rMulI (tC (.int 11)) (tVar 4))) (tC (.int 5))) tNil)) (tC (.int 2147483647))) (gSub (tVar 0) (tC (.int 2)) rSetL))
    (tRet (tOp rModI (tCB rInt1 (tCons (tOp rDivI (tOp rMulI (tOp (rIx K) (tVar 0) (tC (.int 2))) (tOp (rIx K) (tVar 0) (tC (.int 2)))) (tC (.int 8191))) tNil)) (tVar 2))))))))
def t_l_words (K : PySem.W.Frag) (A : Ad) : TS :=
  (tSeqJ (tAsg (tLst (tCons (tC (.str "and")) (tCons (tC (.str "bool")) (tCons (tC (.str "box")) (tCons (tC (.str "do")) (tCons (tC (.str "else")) (tCons (tC (.str "false")) (tCons (tC (.str "fn")) (tCons (tC (.str "from")) (tCons (tC (.str "if")) (tCons (tC (.str "int")) (tCons (tC (.str "is")) (tCons (tC (.str "let")) (tCons (tC (.str "maybe")) (tCons (tC (.str "mut")) tNil))))))))))))))) (gName 0))
    (tSeqJ (tAsg (tOp (rAddG K) (tVar 0) (tLst (tCons (tC (.str "none")) (tCons (tC (.str "not")) (tCons (tC (.str "or")) (tCons (tC (.str "print")) (tCons (tC (.str "record")) (tCons (tC (.str "return")) (tCons (tC (.str "some")) (tCons (tC (.str "swap")) (tCons (tC (.str "true")) (tCons (tC (.str "unbox")) tNil)))))))))))) (gName 0))
    (tRet (tOp (rAddG K) (tVar 0) (tLst (tCons (tC (.str "unit")) (tCons (tC (.str "while")) (tCons (tC (.str "with")) tNil))))))))
def t_l_name (K : PySem.W.Frag) (A : Ad) : TS :=
  (tSeqJ (tAsg (tC (.str "abcdefghijklmnopqrstuvwxyz")) (gName 2))
    (tSeqJ (tAsg (tOp (rAddG K) (tVar 2) (tC (.str "0123456789_"))) (gName 3))
    (tSeqJ (tAsg (tOp (rAddG K) (tC (.int 1)) (tCall (sp_l_pick K A) [] E0 (tCons (tVar 0) (tCons (tVar 1) (tCons (tC (.int 4)) tNil))))) (gName 4))
    (tSeqJ (tIfS (tTest (tOp (rEqG K) (tVar 4) (tC (.int 4)))) (tAsg (tOp (rAddG K) (tC (.int 1)) (tCall (sp_l_pick K A) [] E0 (tCons (tVar 0) (tCons (tVar 1) (tCons (tC (.int 20)) tNil))))) (gName 4)) tNext)
    (tSeqJ (tAsg (tOp (rIx K) (tVar 2) (tCall (sp_l_pick K A) [] E0 (tCons (tVar 0) (tCons (tVar 1) (tCons (tC (.int 26)) tNil))))) (gName 5))
    (tSeqJ (tFor (iRng1 (tCons (tOp rSubI (tVar 4) (tC (.int 1))) tNil)) (gName 6) (tAsg (tOp (rAddG K) (tVar 5) (tOp (rIx K) (tVar 3) (tCall (sp_l_pick K A) [] E0 (tCons (tVar 0) (tCons (tVar 1) (tCons (tC (.int 37)) tNil)))))) (gName 5)))
    (tSeqJ (tIfS (tTest (tOp (rIn K false) (tVar 5) (tCall (sp_l_words K A) [] E0 tNil))) (tRet (tOp (rAddG K) (tVar 5) (tC (.str "_")))) tNext)
    (tRet (tVar 5)))))))))
def t_l_big (K : PySem.W.Frag) (A : Ad) : TS :=
  (tSeqJ (tAsg (tC (.str "ABCDEFGHIJKLMNOPQRSTUVWXYZ")) (gName 2))
    (tSeqJ (tAsg (tOp (rAddG K) (tVar 2) (tC (.str "abcdefghijklmnopqrstuvwxyz0123456789"))) (gName 3))
    (tSeqJ (tAsg (tOp (rAddG K) (tC (.int 1)) (tCall (sp_l_pick K A) [] E0 (tCons (tVar 0) (tCons (tVar 1) (tCons (tC (.int 4)) tNil))))) (gName 4))
    (tSeqJ (tIfS (tTest (tOp (rEqG K) (tVar 4) (tC (.int 4)))) (tAsg (tOp (rAddG K) (tC (.int 1)) (tCall (sp_l_pick K A) [] E0 (tCons (tVar 0) (tCons (tVar 1) (tCons (tC (.int 20)) tNil))))) (gName 4)) tNext)
    (tSeqJ (tAsg (tOp (rIx K) (tVar 2) (tCall (sp_l_pick K A) [] E0 (tCons (tVar 0) (tCons (tVar 1) (tCons (tC (.int 26)) tNil))))) (gName 5))
    (tSeqJ (tFor (iRng1 (tCons (tOp rSubI (tVar 4) (tC (.int 1))) tNil)) (gName 6) (tAsg (tOp (rAddG K) (tVar 5) (tOp (rIx K) (tVar 3) (tCall (sp_l_pick K A) [] E0 (tCons (tVar 0) (tCons (tVar 1) (tCons (tC (.int 62)) tNil)))))) (gName 5)))
    (tRet (tVar 5))))))))
def t_l_new (K : PySem.W.Frag) (A : Ad) : TS :=
  (tSeqJ (tIfS (tTest (tOp (rIn K true) (tVar 1) (tVar 0))) (tRet (tVar 1)) tNext)
    (tSeqJ (tFor (iRng1 (tCons (tC (.int 100)) tNil)) (gName 2) (tSeqJ (tAsg (tOp (rAddG K) (tSl (rSlG K) (tVar 1) tNoPart (tPart (tC (.int 18)))) (tCB rStrI (tCons (tVar 2) tNil))) (gName 3))
    (tIfS (tTest (tOp (rIn K true) (tVar 3) (tVar 0))) (tRet (tVar 3)) tNext)))
    (tRet (tVar 1))))
def t_l_kind (K : PySem.W.Frag) (A : Ad) (n : Nat) : TS :=
  (tSeqJ (tAsg (tCall (sp_l_pick K A) [] E0 (tCons (tVar 0) (tCons (tVar 1) (tCons (tC (.int 10)) tNil)))) (gName 5))
    (tSeqJ (tIfS (tAnd (tTest (tOp rGtI (tVar 2) (tC (.int 1)))) (tAnd (tTest (tOp rGtI (tOp (rIx K) (tVar 0) (tC (.int 3))) (tC (.int 0)))) (tTest (tOp rGtI (tVar 5) (tC (.int 3)))))) (tSeqJ (tAsg (tOp rSubI (tOp (rIx K) (tVar 0) (tC (.int 3))) (tC (.int 1))) (gSub (tVar 0) (tC (.int 3)) rSetL))
    (tSeqJ (tIfS (tTest (tOp (rEqG K) (tVar 5) (tC (.int 4)))) (tRet (tTupK K (tCons (tC (.str "box")) (tCons (tCall (sp_l_kind K A n) [] E0 (tCons (tVar 0) (tCons (tVar 1) (tCons (tOp rSubI (tVar 2) (tC (.int 1))) (tCons (tC (.bl true)) (tCons (tVar 4) tNil)))))) tNil)))) tNext)
    (tSeqJ (tIfS (tTest (tOp (rEqG K) (tVar 5) (tC (.int 7)))) (tSeqJ (tAsg (tLst tNil) (gName 6))
    (tSeqJ (tFor (iRng1 (tCons (tOp (rAddG K) (tC (.int 2)) (tCall (sp_l_pick K A) [] E0 (tCons (tVar 0) (tCons (tVar 1) (tCons (tC (.int 5)) tNil))))) tNil)) (gName 7) (tDrop (tBM K "list" rAppend (tVar 6) (tCons (tCall (sp_l_kind K A n) [] E0 (tCons (tVar 0) (tCons (tVar 1) (tCons (tOp rSubI (tVar 2) (tC (.int 1))) (tCons (tVar 3) (tCons (tVar 4) tNil)))))) tNil))))
    (tRet (tTupK K (tCons (tC (.str "tuple")) (tCons (tCB (rTupOf K) (tCons (tVar 6) tNil)) tNil)))))) tNext)
    (tSeqJ (tIfS (tOr (tTest (tOp rLtI (tVar 5) (tC (.int 7)))) (tB (tVar 3))) (tRet (tTupK K (tCons (tC (.str "maybe")) (tCons (tCall (sp_l_kind K A n) [] E0 (tCons (tVar 0) (tCons (tVar 1) (tCons (tOp rSubI (tVar 2) (tC (.int 1))) (tCons (tVar 3) (tCons (tVar 4) tNil)))))) tNil)))) tNext)
    (tRet (tTupK K (tCons (tOp (rIx K) (tLst (tCons (tC (.str "shared")) (tCons (tC (.str "exclusive")) tNil))) (tOp rSubI (tVar 5) (tC (.int 8)))) (tCons (tCall (sp_l_kind K A n) [] E0 (tCons (tVar 0) (tCons (tVar 1) (tCons (tOp rSubI (tVar 2) (tC (.int 1))) (tCons (tC (.bl true)) (tCons (tVar 4) tNil)))))) tNil)))))))) tNext)
    (tSeqJ (tIfS (tAnd (tTest (tOp (rEqG K) (tVar 5) (tC (.int 3)))) (tTest (tOp rGtI (tCB (Go.rLen K) (tCons (tVar 4) tNil)) (tC (.int 0))))) (tRet (tTupK K (tCons (tC (.str "record")) (tCons (tOp (rIx K) (tVar 4) (tCall (sp_l_pick K A) [] E0 (tCons (tVar 0) (tCons (tVar 1) (tCons (tCB (Go.rLen K) (tCons (tVar 4) tNil)) tNil))))) tNil)))) tNext)
    (tRet (tTupK K (tCons (tOp (rIx K) (tLst (tCons (tC (.str "int")) (tCons (tC (.str "bool")) (tCons (tC (.str "unit")) tNil)))) (tOp rModI (tCB rInt1 (tCons (tVar 5) tNil)) (tC (.int 3)))) tNil))))))
def t_l_is_plain (K : PySem.W.Frag) (A : Ad) (n : Nat) : TS :=
  (tSeqJ (tIfS (tOr (tTest (tOp (rEqG K) (tOp (rIx K) (tVar 0) (tC (.int 0))) (tC (.str "shared")))) (tTest (tOp (rEqG K) (tOp (rIx K) (tVar 0) (tC (.int 0))) (tC (.str "exclusive"))))) (tRet (tC (.bl false))) tNext)
    (tSeqJ (tIfS (tTest (tOp (rEqG K) (tOp (rIx K) (tVar 0) (tC (.int 0))) (tC (.str "tuple")))) (tFor (iTup K (tOp (rIx K) (tVar 0) (tC (.int 1)))) (gName 1) (tIfS (tNot (tB (tCall (sp_l_is_plain K A n) [] E0 (tCons (tVar 1) tNil)))) (tRet (tC (.bl false))) tNext)) tNext)
    (tSeqJ (tIfS (tOr (tTest (tOp (rEqG K) (tOp (rIx K) (tVar 0) (tC (.int 0))) (tC (.str "maybe")))) (tTest (tOp (rEqG K) (tOp (rIx K) (tVar 0) (tC (.int 0))) (tC (.str "box"))))) (tRet (tCall (sp_l_is_plain K A n) [] E0 (tCons (tOp (rIx K) (tVar 0) (tC (.int 1))) tNil))) tNext)
    (tRet (tC (.bl true))))))
def t_l_wide (K : PySem.W.Frag) (A : Ad) : TS :=
  (tSeqJ (tAsg (tLst (tCons (tTupK K (tCons (tC (.str "shared")) (tCons (tTupK K (tCons (tC (.str "int")) tNil)) tNil))) (tCons (tTupK K (tCons (tC (.str "exclusive")) (tCons (tTupK K (tCons (tC (.str "bool")) tNil)) tNil))) (tCons (tTupK K (tCons (tC (.str "shared")) (tCons (tTupK K (tCons (tC (.str "box")) (tCons (tTupK K (tCons (tC (.str "int")) tNil)) tNil))) tNil))) (tCons (tTupK K (tCons (tC (.str "box")) (tCons (tTupK K (tCons (tC (.str "unit")) tNil)) tNil))) tNil))))) (gName 2))
    (tSeqJ (tAsg (tLst tNil) (gName 3))
    (tSeqJ (tFor (iRng1 (tCons (tOp (rAddG K) (tC (.int 2)) (tCall (sp_l_pick K A) [] E0 (tCons (tVar 0) (tCons (tVar 1) (tCons (tC (.int 5)) tNil))))) tNil)) (gName 4) (tSeqJ (tAsg (tLst tNil) (gName 5))
    (tSeqJ (tFor (iRng1 (tCons (tOp (rAddG K) (tC (.int 2)) (tCall (sp_l_pick K A) [] E0 (tCons (tVar 0) (tCons (tVar 1) (tCons (tC (.int 5)) tNil))))) tNil)) (gName 6) (tDrop (tBM K "list" rAppend (tVar 5) (tCons (tOp (rIx K) (tOp (rAddG K) (tVar 2) (tLst (tCons (tTupK K (tCons (tC (.str "unit")) tNil)) tNil))) (tCall (sp_l_pick K A) [] E0 (tCons (tVar 0) (tCons (tVar 1) (tCons (tC (.int 5)) tNil))))) tNil))))
    (tDrop (tBM K "list" rAppend (tVar 3) (tCons (tTupK K (tCons (tC (.str "tuple")) (tCons (tCB (rTupOf K) (tCons (tVar 5) tNil)) tNil))) tNil))))))
    (tRet (tTupK K (tCons (tC (.str "tuple")) (tCons (tCB (rTupOf K) (tCons (tVar 3) tNil)) tNil)))))))
def t_l_any_kind (K : PySem.W.Frag) (A : Ad) : TS :=
  (tSeqJ (tIfS (tTest (tOp (rEqG K) (tCall (sp_l_pick K A) [] E0 (tCons (tVar 0) (tCons (tVar 1) (tCons (tC (.int 8)) tNil)))) (tC (.int 0)))) (tRet (tCall (sp_l_wide K A) [] E0 (tCons (tVar 0) (tCons (tVar 1) tNil)))) tNext)
    (tSeqJ (tAsg (tC (.int 9)) (gSub (tVar 0) (tC (.int 3)) rSetL))
    (tSeqJ (tIfS (tTest (tOp rGtI (tCall (sp_l_pick K A) [] E0 (tCons (tVar 0) (tCons (tVar 1) (tCons (tC (.int 3)) tNil)))) (tC (.int 0)))) (tRet (tCall (sp_l_kind K A 6) [] E0 (tCons (tVar 0) (tCons (tVar 1) (tCons (tC (.int 6)) (tCons (tC (.bl false)) (tCons (tVar 2) tNil))))))) tNext)
    (tSeqJ (tAsg (tCall (sp_l_kind K A 6) [] E0 (tCons (tVar 0) (tCons (tVar 1) (tCons (tC (.int 2)) (tCons (tC (.bl false)) (tCons (tVar 2) tNil)))))) (gName 3))
    (tSeqJ (tFor (iRng1 (tCons (tCall (sp_l_pick K A) [] E0 (tCons (tVar 0) (tCons (tVar 1) (tCons (tC (.int 5)) tNil)))) tNil)) (gName 4) (tSeqJ (tAsg (tCall (sp_l_pick K A) [] E0 (tCons (tVar 0) (tCons (tVar 1) (tCons (tC (.int 5)) tNil)))) (gName 5))
    (tIfS (tAnd (tTest (tOp rLtI (tVar 5) (tC (.int 3)))) (tB (tCall (sp_l_is_plain K A 12) [] E0 (tCons (tVar 3) tNil)))) (tAsg (tTupK K (tCons (tOp (rIx K) (tLst (tCons (tC (.str "box")) (tCons (tC (.str "shared")) (tCons (tC (.str "exclusive")) tNil)))) (tVar 5)) (tCons (tVar 3) tNil))) (gName 3)) (tIfS (tTest (tOp (rEqG K) (tVar 5) (tC (.int 3)))) (tAsg (tTupK K (tCons (tC (.str "tuple")) (tCons (tTupK K (tCons (tTupK K (tCons (tC (.str "unit")) tNil)) (tCons (tVar 3) tNil))) tNil))) (gName 3)) (tAsg (tTupK K (tCons (tC (.str "maybe")) (tCons (tVar 3) tNil))) (gName 3))))))
    (tRet (tVar 3)))))))
def t_l_same (K : PySem.W.Frag) (A : Ad) (n : Nat) : TS :=
  (tSeqJ (tIfS (tB (tCB (rIsi K) (tCons (tVar 1) (tCons (tC (.ty "tuple")) tNil)))) (tSeqJ (tIfS (tOr (tNot (tB (tCB (rIsi K) (tCons (tVar 0) (tCons (tC (.ty "tuple")) tNil))))) (tTest (tOp (rNeG K) (tCB (Go.rLen K) (tCons (tVar 0) tNil)) (tCB (Go.rLen K) (tCons (tVar 1) tNil))))) (tRet (tC (.bl false))) tNext)
    (tSeqJ (tFor (iRng1 (tCons (tCB (Go.rLen K) (tCons (tVar 1) tNil)) tNil)) (gName 2) (tIfS (tNot (tB (tCall (sp_l_same K A n) [] E0 (tCons (tOp (rIx K) (tVar 0) (tVar 2)) (tCons (tOp (rIx K) (tVar 1) (tVar 2)) tNil))))) (tRet (tC (.bl false))) tNext))
    (tRet (tC (.bl true))))) tNext)
    (tSeqJ (tIfS (tB (tCB (rIsi K) (tCons (tVar 1) (tCons (tC (.ty "bool")) tNil)))) (tRet (tAndV (tCB (rIsi K) (tCons (tVar 0) (tCons (tC (.ty "bool")) tNil))) (tOp (rEqG K) (tVar 0) (tVar 1)))) tNext)
    (tSeqJ (tIfS (tB (tCB (rIsi K) (tCons (tVar 1) (tCons (tC (.ty "int")) tNil)))) (tRet (tAndV (tCB (rIsi K) (tCons (tVar 0) (tCons (tC (.ty "int")) tNil))) (tAndV (tNotV (tCB (rIsi K) (tCons (tVar 0) (tCons (tC (.ty "bool")) tNil)))) (tOp (rEqG K) (tVar 0) (tVar 1))))) tNext)
    (tRet (tAndV (tCB (rIsi K) (tCons (tVar 0) (tCons (tC (.ty "str")) tNil))) (tOp (rEqG K) (tVar 0) (tVar 1)))))))
def t_l_size (K : PySem.W.Frag) (A : Ad) (n : Nat) : TS :=
  (tSeqJ (tIfS (tTest (tOp (rEqG K) (tOp (rIx K) (tVar 1) (tC (.int 0))) (tC (.str "maybe")))) (tRet (tOp (rAddG K) (tC (.int 1)) (tCall (sp_l_size K A n) [] E0 (tCons (tVar 0) (tCons (tOp (rIx K) (tVar 1) (tC (.int 1))) tNil))))) tNext)
    (tSeqJ (tIfS (tTest (tOp (rEqG K) (tOp (rIx K) (tVar 1) (tC (.int 0))) (tC (.str "tuple")))) (tRet (tCB (rSum K) (tCons (tLc (iTup K (tOp (rIx K) (tVar 1) (tC (.int 1)))) (gName 2) tYes (tCall (sp_l_size K A n) [] E0 (tCons (tVar 0) (tCons (tVar 2) tNil))) [2]) tNil))) tNext)
    (tSeqJ (tIfS (tTest (tOp (rEqG K) (tOp (rIx K) (tVar 1) (tC (.int 0))) (tC (.str "record")))) (tFor (iSeqK K (tVar 0)) (gName 3) (tIfS (tTest (tOp (rEqG K) (tOp (rIx K) (tVar 3) (tC (.int 0))) (tOp (rIx K) (tVar 1) (tC (.int 1))))) (tRet (tCB (rSum K) (tCons (tLc (iTup K (tOp (rIx K) (tVar 3) (tC (.int 1)))) (gName 4) tYes (tCall (sp_l_size K A n) [] E0 (tCons (tVar 0) (tCons (tOp (rIx K) (tVar 4) (tC (.int 1))) tNil))) [4]) tNil))) tNext)) tNext)
    (tRet (tC (.int 1))))))
def t_l_is_small (K : PySem.W.Frag) (A : Ad) (n : Nat) : TS :=
  (tSeqJ (tIfS (tTest (tOp rGtI (tCall (sp_l_size K A 60) [] E0 (tCons (tVar 0) (tCons (tVar 1) tNil))) (tC (.int 60)))) (tRet (tC (.bl false))) tNext)
    (tSeqJ (tIfS (tTest (tOp (rEqG K) (tOp (rIx K) (tVar 1) (tC (.int 0))) (tC (.str "tuple")))) (tFor (iTup K (tOp (rIx K) (tVar 1) (tC (.int 1)))) (gName 2) (tIfS (tNot (tB (tCall (sp_l_is_small K A n) [] E0 (tCons (tVar 0) (tCons (tVar 2) tNil))))) (tRet (tC (.bl false))) tNext)) tNext)
    (tSeqJ (tIfS (tTest (tOp (rIn K false) (tOp (rIx K) (tVar 1) (tC (.int 0))) (tLst (tCons (tC (.str "box")) (tCons (tC (.str "maybe")) (tCons (tC (.str "shared")) (tCons (tC (.str "exclusive")) tNil))))))) (tRet (tCall (sp_l_is_small K A n) [] E0 (tCons (tVar 0) (tCons (tOp (rIx K) (tVar 1) (tC (.int 1))) tNil)))) tNext)
    (tRet (tC (.bl true))))))
def t_l_records (K : PySem.W.Frag) (A : Ad) : TS :=
  (tSeqJ (tAsg (tLst tNil) (gName 2))
    (tSeqJ (tFor (iRng1 (tCons (tOp (rAddG K) (tC (.int 1)) (tCall (sp_l_pick K A) [] E0 (tCons (tVar 0) (tCons (tVar 1) (tCons (tC (.int 4)) tNil))))) tNil)) (gName 3) (tDrop (tBM K "list" rAppend (tVar 2) (tCons (tCall (sp_l_new K A) [] E0 (tCons (tVar 2) (tCons (tCall (sp_l_big K A) [] E0 (tCons (tVar 0) (tCons (tVar 1) tNil))) tNil))) tNil))))
    (tSeqJ (tAsg (tLst tNil) (gName 4))
    (tSeqJ (tFor (iRng1 (tCons (tCB (Go.rLen K) (tCons (tVar 2) tNil)) tNil)) (gName 3) (tSeqJ (tAsg (tLst tNil) (gName 5))
    (tSeqJ (tAsg (tLst tNil) (gName 6))
    (tSeqJ (tFor (iRng1 (tCons (tOp (rAddG K) (tC (.int 1)) (tCall (sp_l_pick K A) [] E0 (tCons (tVar 0) (tCons (tVar 1) (tCons (tC (.int 6)) tNil))))) tNil)) (gName 7) (tSeqJ (tDrop (tBM K "list" rAppend (tVar 6) (tCons (tCall (sp_l_new K A) [] E0 (tCons (tVar 6) (tCons (tCall (sp_l_name K A) [] E0 (tCons (tVar 0) (tCons (tVar 1) tNil))) tNil))) tNil)))
    (tSeqJ (tAsg (tC (.int 3)) (gSub (tVar 0) (tC (.int 3)) rSetL))
    (tSeqJ (tAsg (tCall (sp_l_kind K A 6) [] E0 (tCons (tVar 0) (tCons (tVar 1) (tCons (tC (.int 3)) (tCons (tC (.bl true)) (tCons (tSl (rSlG K) (tVar 2) tNoPart (tPart (tVar 3))) tNil)))))) (gName 8))
    (tSeqJ (tIfS (tTest (tOp (rEqG K) (tCall (sp_l_pick K A) [] E0 (tCons (tVar 0) (tCons (tVar 1) (tCons (tC (.int 4)) tNil)))) (tC (.int 0)))) (tAsg (tTupK K (tCons (tC (.str "box")) (tCons (tTupK K (tCons (tC (.str "record")) (tCons (tOp (rIx K) (tVar 2) (tCall (sp_l_pick K A) [] E0 (tCons (tVar 0) (tCons (tVar 1) (tCons (tCB (Go.rLen K) (tCons (tVar 2) tNil)) tNil))))) tNil))) tNil))) (gName 8)) tNext)
    (tSeqJ (tIfS (tOr (tTest (tOp rGtI (tCall (sp_l_size K A 60) [] E0 (tCons (tVar 4) (tCons (tVar 8) tNil))) (tC (.int 8)))) (tNot (tB (tCall (sp_l_is_small K A 12) [] E0 (tCons (tVar 4) (tCons (tVar 8) tNil)))))) (tAsg (tTupK K (tCons (tC (.str "bool")) tNil)) (gName 8)) tNext)
    (tDrop (tBM K "list" rAppend (tVar 5) (tCons (tTupK K (tCons (tOp (rIx K) (tVar 6) (tVar 7)) (tCons (tVar 8) tNil))) tNil)))))))))
    (tDrop (tBM K "list" rAppend (tVar 4) (tCons (tTupK K (tCons (tOp (rIx K) (tVar 2) (tVar 3)) (tCons (tCB (rTupOf K) (tCons (tVar 5) tNil)) tNil))) tNil)))))))
    (tSeqJ (tAsg (tCall (sp_l_pick K A) [] E0 (tCons (tVar 0) (tCons (tVar 1) (tCons (tCB (Go.rLen K) (tCons (tVar 4) tNil)) tNil)))) (gName 9))
    (tRet (tCB (rTupOf K) (tCons (tOp (rAddG K) (tSl (rSlG K) (tVar 4) (tPart (tVar 9)) tNoPart) (tSl (rSlG K) (tVar 4) tNoPart (tPart (tVar 9)))) tNil))))))))
def t_l_options (K : PySem.W.Frag) (A : Ad) : TS :=
  (tSeqJ (tIfS (tTest (tOp (rEqG K) (tOp (rIx K) (tVar 1) (tC (.int 0))) (tC (.str "maybe")))) (tRet (tLst (tCons (tTupK K (tCons (tC (.str "?")) (tCons (tOp (rIx K) (tVar 1) (tC (.int 1))) tNil))) tNil))) tNext)
    (tSeqJ (tIfS (tTest (tOp (rIn K false) (tOp (rIx K) (tVar 1) (tC (.int 0))) (tLst (tCons (tC (.str "box")) (tCons (tC (.str "shared")) (tCons (tC (.str "exclusive")) tNil)))))) (tRet (tLst (tCons (tTupK K (tCons (tC (.str "^")) (tCons (tOp (rIx K) (tVar 1) (tC (.int 1))) tNil))) tNil))) tNext)
    (tSeqJ (tIfS (tTest (tOp (rEqG K) (tOp (rIx K) (tVar 1) (tC (.int 0))) (tC (.str "tuple")))) (tRet (tLc (iRng1 (tCons (tCB (Go.rLen K) (tCons (tOp (rIx K) (tVar 1) (tC (.int 1))) tNil)) tNil)) (gName 2) tYes (tTupK K (tCons (tVar 2) (tCons (tOp (rIx K) (tOp (rIx K) (tVar 1) (tC (.int 1))) (tVar 2)) tNil))) [2])) tNext)
    (tSeqJ (tIfS (tTest (tOp (rEqG K) (tOp (rIx K) (tVar 1) (tC (.int 0))) (tC (.str "record")))) (tFor (iTup K (tVar 0)) (gName 3) (tIfS (tTest (tOp (rEqG K) (tOp (rIx K) (tVar 3) (tC (.int 0))) (tOp (rIx K) (tVar 1) (tC (.int 1))))) (tRet (tCB (rLstOf K) (tCons (tOp (rIx K) (tVar 3) (tC (.int 1))) tNil))) tNext)) tNext)
    (tRet (tLst tNil))))))
def t_l_small_kind (K : PySem.W.Frag) (A : Ad) : TS :=
  (tSeqJ (tAsg (tCall (sp_l_any_kind K A) [] E0 (tCons (tVar 0) (tCons (tVar 1) (tCons (tLc (iTup K (tVar 2)) (gName 4) tYes (tOp (rIx K) (tVar 4) (tC (.int 0))) [4]) tNil)))) (gName 3))
    (tSeqJ (tIfS (tNot (tB (tCall (sp_l_is_small K A 12) [] E0 (tCons (tVar 2) (tCons (tVar 3) tNil))))) (tRet (tTupK K (tCons (tC (.str "record")) (tCons (tOp (rIx K) (tOp (rIx K) (tVar 2) (tC (.int 0))) (tC (.int 0))) tNil)))) tNext)
    (tRet (tVar 3))))
def t_l_table (K : PySem.W.Frag) (A : Ad) : TS :=
  (tSeqJ (tAsg tDNewK (gName 3))
    (tSeqJ (tFor (iRng1 (tCons (tOp (rAddG K) (tC (.int 1)) (tCall (sp_l_pick K A) [] E0 (tCons (tVar 0) (tCons (tVar 1) (tCons (tC (.int 4)) tNil))))) tNil)) (gName 4) (tSeqJ (tAsg (tCall (sp_l_new K A) [] E0 (tCons (tCB rLstD (tCons (tVar 3) tNil)) (tCons (tCall (sp_l_name K A) [] E0 (tCons (tVar 0) (tCons (tVar 1) tNil))) tNil))) (gName 5))
    (sDPut (tVar 3) (tVar 5) (tCall (sp_l_small_kind K A) [] E0 (tCons (tVar 0) (tCons (tVar 1) (tCons (tVar 2) tNil)))))))
    (tRet (tVar 3))))
def t_l_walk (K : PySem.W.Frag) (A : Ad) : TS :=
  (tSeqJ (tAsg (tLst tNil) (gName 5))
    (tSeqJ (tFor (iRng1 (tCons (tCall (sp_l_pick K A) [] E0 (tCons (tVar 0) (tCons (tVar 1) (tCons (tC (.int 13)) tNil)))) tNil)) (gName 6) (tSeqJ (tAsg (tCall (sp_l_options K A) [] E0 (tCons (tVar 2) (tCons (tVar 4) tNil))) (gName 7))
    (tSeqJ (tIfS (tTest (tOp (rEqG K) (tCB (Go.rLen K) (tCons (tVar 7) tNil)) (tC (.int 0)))) tBreak tNext)
    (tSeqJ (tAsg (tOp (rIx K) (tVar 7) (tCall (sp_l_pick K A) [] E0 (tCons (tVar 0) (tCons (tVar 1) (tCons (tCB (Go.rLen K) (tCons (tVar 7) tNil)) tNil))))) (gName 8))
    (tSeqJ (tDrop (tBM K "list" rAppend (tVar 5) (tCons (tOp (rIx K) (tVar 8) (tC (.int 0))) tNil)))
    (tAsg (tOp (rIx K) (tVar 8) (tC (.int 1))) (gName 4)))))))
    (tRet (tTupK K (tCons (tTupK K (tCons (tVar 3) (tCons (tCB (rTupOf K) (tCons (tVar 5) tNil)) tNil))) (tCons (tVar 4) tNil))))))
def t_l_step (K : PySem.W.Frag) (A : Ad) : TS :=
  (tSeqJ (tAsg (tCall (sp_l_pick K A) [] E0 (tCons (tVar 0) (tCons (tVar 1) (tCons (tC (.int 5)) tNil)))) (gName 3))
    (tSeqJ (tIfS (tTest (tOp (rEqG K) (tVar 3) (tC (.int 0)))) (tRet (tC (.str "?"))) tNext)
    (tSeqJ (tIfS (tTest (tOp (rEqG K) (tVar 3) (tC (.int 1)))) (tRet (tC (.str "^"))) tNext)
    (tSeqJ (tIfS (tTest (tOp (rEqG K) (tVar 3) (tC (.int 2)))) (tSeqJ (tAsg (tLst (tCons (tC (.int 8)) (tCons (tC (.int 100)) (tCons (tC (.int 2147483647)) (tCons (tUn (rU fun i => .int (-i)) (tC (.int 2147483648))) tNil))))) (gName 4))
    (tRet (tOp (rIx K) (tOp (rAddG K) (tVar 4) (tOp rRep (tLst (tCons (tOp rSubI (tCall (sp_l_pick K A) [] E0 (tCons (tVar 0) (tCons (tVar 1) (tCons (tC (.int 16)) tNil)))) (tC (.int 8))) tNil)) (tC (.int 4)))) (tCall (sp_l_pick K A) [] E0 (tCons (tVar 0) (tCons (tVar 1) (tCons (tC (.int 8)) tNil))))))) tNext)
    (tSeqJ (tIfS (tTest (tOp (rEqG K) (tVar 3) (tC (.int 3)))) (tRet (tCall (sp_l_name K A) [] E0 (tCons (tVar 0) (tCons (tVar 1) tNil)))) tNext)
    (tSeqJ (tAsg (tOp (rIx K) (tOp (rIx K) (tVar 2) (tCall (sp_l_pick K A) [] E0 (tCons (tVar 0) (tCons (tVar 1) (tCons (tCB (Go.rLen K) (tCons (tVar 2) tNil)) tNil))))) (tC (.int 1))) (gName 5))
    (tRet (tOp (rIx K) (tOp (rIx K) (tVar 5) (tCall (sp_l_pick K A) [] E0 (tCons (tVar 0) (tCons (tVar 1) (tCons (tCB (Go.rLen K) (tCons (tVar 5) tNil)) tNil))))) (tC (.int 0))))))))))
def t_l_told (K : PySem.W.Frag) (A : Ad) : TS :=
  (tTries K [((.ref A.c_NoSuchVariable : Value), (3 : Nat), (fun (a : Addr) (cls : Value) (d : Option Addr) => (tSeqJ (tAsg (tCB (rIsXT K cls d a) (tCons (tVar 3) (tCons (tTupK K (tCons (tC (.ref A.c_KindProblem)) (tCons (tC (.ref A.c_NoSuchFunction)) (tCons (tC (.ref A.c_NoSuchStep)) (tCons (tC (.ref A.c_NotAllocated)) (tCons (tC (.ref A.c_Refused)) tNil)))))) tNil))) (gName 4))
    (tRet (tLst (tCons (tC (.str "variable")) (tCons (tAndV (tCB (rIsX K cls d a) (tCons (tVar 3) (tCons (tC (.ref A.c_ForkError)) tNil))) (tAndV (tCB (rIsX K cls d a) (tCons (tVar 3) (tCons (tC (.ty "ValueError")) tNil))) (tNotV (tVar 4)))) tNil))))))), ((.ref A.c_NoSuchStep : Value), (3 : Nat), (fun (a : Addr) (cls : Value) (d : Option Addr) => (tSeqJ (tAsg (tCB (rIsXT K cls d a) (tCons (tVar 3) (tCons (tTupK K (tCons (tC (.ref A.c_KindProblem)) (tCons (tC (.ref A.c_NoSuchFunction)) (tCons (tC (.ref A.c_NoSuchVariable)) (tCons (tC (.ref A.c_NotAllocated)) (tCons (tC (.ref A.c_Refused)) tNil)))))) tNil))) (gName 4))
    (tRet (tLst (tCons (tC (.str "step")) (tCons (tAndV (tCB (rIsX K cls d a) (tCons (tVar 3) (tCons (tC (.ref A.c_ForkError)) tNil))) (tAndV (tCB (rIsX K cls d a) (tCons (tVar 3) (tCons (tC (.ty "ValueError")) tNil))) (tNotV (tVar 4)))) tNil)))))))] (fun W => (tRet (tCallKS (sp_kind_at K A) (gK 1) (WE W) (tCons (tVar 0) tNil) (tCons (tVar 1) (tCons (tVar 2) tNil))))))
def t_l_followed (K : PySem.W.Frag) (A : Ad) : TS :=
  (tSeqJ (tFor (iTup K (tVar 2)) (gName 3) (tSeqJ (tAsg (tLc (iList K (tCall (sp_l_options K A) [] E0 (tCons (tVar 0) (tCons (tVar 1) tNil)))) (gName 5) (tTest (tOp (rEqG K) (tOp (rIx K) (tVar 5) (tC (.int 0))) (tVar 3))) (tOp (rIx K) (tVar 5) (tC (.int 1))) [5]) (gName 4))
    (tSeqJ (tIfS (tTest (tOp (rEqG K) (tCB (Go.rLen K) (tCons (tVar 4) tNil)) (tC (.int 0)))) (tRet (tLst (tCons (tC (.str "step")) (tCons (tC (.bl true)) tNil)))) tNext)
    (tAsg (tOp (rIx K) (tVar 4) (tC (.int 0))) (gName 1)))))
    (tRet (tVar 1)))
def t_law (K : PySem.W.Frag) (A : Ad) : TS :=
  (tSeqJ (tAsg (tLst (tCons (tC (.int 0)) (tCons (tC (.int 0)) (tCons (tC (.int 1)) (tCons (tC (.int 9)) tNil))))) (gName 1))
    (tSeqJ (tAsg (tCall (sp_l_records K A) [] E0 (tCons (tVar 1) (tCons (tVar 0) tNil))) (gName 2))
    (tSeqJ (tAsg (tCall (sp_l_table K A) [] E0 (tCons (tVar 1) (tCons (tVar 0) (tCons (tVar 2) tNil)))) (gName 3))
    (tSeqJ (tAsg (LiI.tListItems (tVar 3)) (gName 4))
    (tSeqJ (tAsg (tCB rLstD (tCons (tVar 3) tNil)) (gName 5))
    (tSeqJ (tAsg (tOp (rIx K) (tVar 5) (tCall (sp_l_pick K A) [] E0 (tCons (tVar 1) (tCons (tVar 0) (tCons (tCB (Go.rLen K) (tCons (tVar 5) tNil)) tNil))))) (gName 6))
    (tSeqJ (tAsg (tCall (sp_l_walk K A) [] E0 (tCons (tVar 1) (tCons (tVar 0) (tCons (tVar 2) (tCons (tVar 6) (tCons (tDGet (tVar 3) (tVar 6)) tNil)))))) (gTup K 2 (gCons (gName 7) (gCons (gName 8) gNil))))
    (tSeqJ (tAsg (tVar 8) (gName 9))
    (tSeqJ (tAsg (tCall (sp_l_pick K A) [] E0 (tCons (tVar 1) (tCons (tVar 0) (tCons (tC (.int 4)) tNil)))) (gName 10))
    (tSeqJ (tAsg (tCall (sp_l_step K A) [] E0 (tCons (tVar 1) (tCons (tVar 0) (tCons (tVar 2) tNil)))) (gName 11))
    (tSeqJ (tIfS (tAnd (tTest (tOp (rEqG K) (tVar 10) (tC (.int 1)))) (tTest (tOp rLtI (tCB (Go.rLen K) (tCons (tOp (rIx K) (tVar 7) (tC (.int 1))) tNil)) (tC (.int 12))))) (tSeqJ (tAsg (tCall (sp_l_pick K A) [] E0 (tCons (tVar 1) (tCons (tVar 0) (tCons (tOp (rAddG K) (tCB (Go.rLen K) (tCons (tOp (rIx K) (tVar 7) (tC (.int 1))) tNil)) (tC (.int 1))) tNil)))) (gName 12))
    (tSeqJ (tAsg (tSl (rSlG K) (tOp (rIx K) (tVar 7) (tC (.int 1))) (tPart (tOp (rAddG K) (tVar 12) (tCall (sp_l_pick K A) [] E0 (tCons (tVar 1) (tCons (tVar 0) (tCons (tC (.int 2)) tNil)))))) tNoPart) (gName 13))
    (tSeqJ (tAsg (tTupK K (tCons (tVar 6) (tCons (tOp (rAddG K) (tOp (rAddG K) (tSl (rSlG K) (tOp (rIx K) (tVar 7) (tC (.int 1))) tNoPart (tPart (tVar 12))) (tTupK K (tCons (tVar 11) tNil))) (tVar 13)) tNil))) (gName 7))
    (tAsg (tCall (sp_l_followed K A) [] E0 (tCons (tVar 2) (tCons (tDGet (tVar 3) (tVar 6)) (tCons (tOp (rIx K) (tVar 7) (tC (.int 1))) tNil)))) (gName 9))))) tNext)
    (tSeqJ (tIfS (tTest (tOp (rEqG K) (tVar 10) (tC (.int 2)))) (tSeqJ (tIfS (tTest (tOp (rEqG K) (tCall (sp_l_pick K A) [] E0 (tCons (tVar 1) (tCons (tVar 0) (tCons (tC (.int 2)) tNil)))) (tC (.int 0)))) (tAsg (tTupK K (tCons (tVar 6) (tCons (tTupK K (tCons (tVar 11) tNil)) tNil))) (gName 7)) tNext)
    (tSeqJ (tAsg (tTupK K (tCons (tCall (sp_l_new K A) [] E0 (tCons (tVar 5) (tCons (tVar 6) tNil))) (tCons (tOp (rIx K) (tVar 7) (tC (.int 1))) tNil))) (gName 7))
    (tAsg (tLst (tCons (tC (.str "variable")) (tCons (tC (.bl true)) tNil))) (gName 9)))) tNext)
    (tSeqJ (tFor (iRng1 (tCons (tC (.int 2)) tNil)) (gName 14) (tSeqJ (tAsg (tCall (sp_l_told K A) [] E0 (tCons (tVar 7) (tCons (tVar 2) (tCons (tVar 3) tNil)))) (gName 15))
    (tIfS (tB (tCB (rIsi K) (tCons (tVar 9) (tCons (tC (.ty "list")) tNil)))) (tIfS (tTest (tOp (rNeG K) (tVar 15) (tVar 9))) (tRet (tC (.bl false))) tNext) (tIfS (tNot (tB (tCall (sp_l_same K A 16) [] E0 (tCons (tVar 15) (tCons (tVar 9) tNil))))) (tRet (tC (.bl false))) tNext))))
    (tRet (tOp (rEqG K) (LiI.tListItems (tVar 3)) (tVar 4))))))))))))))))

section
variable {K : PySem.W.Frag}
abbrev bd (Q : VK) : Ends := { nx := fun _ H' => Q .non H', rt := Q }
theorem line_of {n : Nat} (h : n ≤ 60000) : n < sizeLine := Nat.lt_of_le_of_lt h (by decide)
theorem pure_l_pick (A : Ad) (vs : List V) (H : Hp) (Q : VK) (E : XK) (h : sp_l_pick K A vs H Q E) : t_l_pick K A (bd Q) (start N_l_pick vs) H := by
  obtain ⟨st, sc, m, rfl, ⟨⟨a, b, c, e, es, a0, b0, c0, c1⟩, ⟨ns, hS⟩, ne⟩, hm, hm2, k⟩ := h
  show t_l_pick K A (bd Q) [some (.ref st), some (.ref sc), some (.int m), none, none, none] H
  unfold t_l_pick
  walk_at "go"
  refine w_iteD (fun c2 => ?_) (fun c2 => ?_)
  · walk_at "go"
    rename_i H1 x1 e1
    have hd : 0 ≤ b / m := Int.ediv_nonneg b0 (by omega)
    exact k _ _ (Int.emod_nonneg _ (by omega)) (Int.emod_lt_of_pos _ hm) x1 ⟨⟨_, _, _, _, e1, a0, hd, c0, c1⟩, (ne.keep ⟨ns, hS⟩ x1), ne⟩
  · walk_at "gs"
    rename_i H1 x1 e1
    obtain ⟨ns1, hS1⟩ := ne.keep ⟨ns, hS⟩ x1
    refine ⟨fun σ H' => ∃ (w : Option V) (c' : Int), σ = [some (.ref st), some (.ref sc), some (.int m), none, some (.int a), w] ∧ Ext [st] H H' ∧ H' st = some (.lst [.int (a + 1), .int b, .int c', .int e]) ∧ 0 ≤ c' ∧ c' < 2147483648, ?_, ?_⟩
    · walk_at "go"
      refine l_L hS1 ?_
      walk_at "go"
      rw [List.length_map]
      refine w_iteD (fun c3 => ?_) (fun c3 => ?_)
      · obtain ⟨z, hz, ez⟩ := atI_int a0 c3
        walk_at "go"
        refine x_L hS1 ez ?_
        walk_at "go"
        generalize (if z < 0 then -z else z) = y at *
        refine r_pow ⟨by decide, by decide, by decide⟩ ?_
        walk_at "go"
        refine w_iteD (fun c4 => ?_) (fun c4 => ?_)
        · walk_at "go"
          rename_i H2 x2 e2
          have h10 : (10 : Int) ^ (18 : Int).toNat = 1000000000000000000 := by decide
          have hd : 0 ≤ y / m := Int.ediv_nonneg (by omega) (by omega)
          exact k _ _ (Int.emod_nonneg _ (by omega)) (Int.emod_lt_of_pos _ hm) (x1.trans x2) ⟨⟨_, _, _, _, e2, by omega, hd, c0, c1⟩, (ne.keep ⟨ns1, hS1⟩ x2), ne⟩
        · walk_at "go"
          rename_i H2 x2 e2
          exact ⟨_, _, rfl, x1.trans x2, e2, by omega, by omega⟩
      · walk_at "go"
        exact ⟨_, c, rfl, x1, e1, c0, c1⟩
    rintro _ H2 ⟨w, c', rfl, x2, e2, d0, d1⟩
    walk_at "go"
    rename_i H3 x3 e3
    refine k _ _ (Int.emod_nonneg _ (by omega)) (Int.emod_lt_of_pos _ hm) (x2.trans x3) ⟨⟨_, _, _, _, e3, by omega, b0, by omega, by omega⟩, (ne.keep ⟨ns, hS⟩ (x2.trans x3)), ne⟩
theorem strl_flat (ss : List Str) : (ss.map V.str).all flatV = true := by
  rw [List.all_eq_true]
  intro x hx
  obtain ⟨s, _, rfl⟩ := List.mem_map.mp hx
  rfl
theorem inV_str (s : Str) : ∀ ss : List Str, inV (.str s) (ss.map V.str) = decide (s ∈ ss)
  | [] => by simp [inV]
  | t :: r => by
    have ih := inV_str s r
    unfold inV at ih ⊢
    rw [List.map_cons, List.any_cons, ih]
    have : eqV (.str t) (.str s) = decide (t = s) := by
      rw [Bool.eq_iff_iff]
      simp [eqV]
    rw [this, Bool.eq_iff_iff]
    simp only [Bool.or_eq_true, decide_eq_true_eq, List.mem_cons]
    exact ⟨fun h => h.imp Eq.symm id, fun h => h.imp Eq.symm id⟩
theorem pure_l_words (A : Ad) (vs : List V) (H : Hp) (Q : VK) (E : XK) (h : sp_l_words K A vs H Q E) : t_l_words K A (bd Q) (start N_l_words vs) H := by
  obtain ⟨rfl, k⟩ := h
  show t_l_words K A (bd Q) [none] H
  unfold t_l_words
  walk_at "go"
  refine w_newL (le_line (by decide)) (fun p1 H1 hp1 x1 e1 => ?_)
  walk_at "go"
  refine w_newL (le_line (by decide)) (fun p2 H2 hp2 x2 e2 => ?_)
  refine a_lst (x2.same _ _ e1) e2 (le_line (by decide)) (fun p3 H3 hp3 x3 e3 => ?_)
  walk_at "go"
  refine w_newL (le_line (by decide)) (fun p4 H4 hp4 x4 e4 => ?_)
  refine a_lst (x4.same _ _ e3) e4 (le_line (by decide)) (fun p5 H5 hp5 x5 e5 => ?_)
  exact k p5 H5 ["and", "bool", "box", "do", "else", "false", "fn", "from", "if", "int", "is", "let", "maybe", "mut", "none", "not", "or", "print", "record", "return", "some", "swap", "true", "unbox", "unit", "while", "with"]
    ((((x1.trans x2).trans x3).trans x4).trans x5) ((((x1.trans x2).trans x3).trans x4).free hp5 (by simp)) e5 (by decide)
theorem pick_at {α : Type} {xs : List α} {n : Nat} {r : Int} (hl : xs.length = n) (h0 : 0 ≤ r) (h1 : r < (n : Int)) : ∃ c, atI xs r = some c ∧ c ∈ xs := by
  have hk : r.toNat < xs.length := by omega
  exact ⟨xs[r.toNat], at_nat (j := r.toNat) (by omega) (List.getElem?_eq_getElem hk), List.getElem_mem hk⟩
theorem str_add_len (a b : Str) : (a ++ b).length = a.length + b.length := by
  show (a.cps ++ b.cps).size = a.cps.size + b.cps.size
  simp
theorem str_add_cps (a b : Str) : (a ++ b).cps.toList = a.cps.toList ++ b.cps.toList := by
  show (a.cps ++ b.cps).toList = _
  simp
theorem sk_iff {s : Str} : Sk s ↔ ∀ c, c ∈ s.cps.toList → c < 1114112 := by
  unfold Sk PyData.strOk
  rw [Array.all_eq_true']
  simp
theorem Sk.add {s t : Str} (h : Sk s) (h2 : Sk t) : Sk (s ++ t) := by
  rw [sk_iff] at *
  intro c hc
  rw [str_add_cps] at hc
  rcases List.mem_append.mp hc with hc | hc
  · exact h c hc
  · exact h2 c hc
theorem sk_one {c : Nat} (h : c < 1114112) : Sk ⟨#[c]⟩ := by
  rw [sk_iff]
  intro d hd
  have : d = c := by simpa using hd
  omega
theorem Wd.add {s t : Str} (h : Wd s) (ht : Sk t) : Wd (s ++ t) := by
  obtain ⟨⟨c, h1, h2⟩, h3⟩ := h
  refine ⟨⟨c, ?_, h2⟩, h3.add ht⟩
  rw [str_add_cps]
  cases e : s.cps.toList with
  | nil => rw [e] at h1; cases h1
  | cons x y => rw [e] at h1; exact h1
theorem pure_l_name (A : Ad) (vs : List V) (H : Hp) (Q : VK) (E : XK) (h : sp_l_name K A vs H Q E) : t_l_name K A (bd Q) (start N_l_name vs) H := by
  obtain ⟨st, sc, rfl, T, k⟩ := h
  show t_l_name K A (bd Q) [some (.ref st), some (.ref sc), none, none, none, none, none] H
  unfold t_l_name
  walk_at "gs"
  refine a_str (le_line (by decide +kernel)) ?_
  walk_at "gs"
  refine ⟨st, sc, _, rfl, T, by omega, by omega, fun r1 H1 a0 a1 x1 T1 => ?_⟩
  walk_at "gs"
  generalize hch : ("abcdefghijklmnopqrstuvwxyz" : Str) ++ ("0123456789_" : Str) = chars
  have hcl : chars.cps.toList.length = 37 := by rw [← hch]; decide +kernel
  have hca : ∀ c, c ∈ chars.cps.toList → c < 1114112 := by rw [← hch]; decide +kernel
  refine ⟨fun σ H' => ∃ size : Int, 1 ≤ size ∧ size ≤ 20 ∧ σ = [some (.ref st), some (.ref sc), some (.str "abcdefghijklmnopqrstuvwxyz"), some (.str chars), some (.int size), none, none] ∧ Ext [st] H H' ∧ Pk K H' st sc, ?_, ?_⟩
  · walk_at "go"
    refine w_iteD (fun c => ?_) (fun c => ?_)
    · walk_at "go"
      refine ⟨st, sc, _, rfl, T1, by omega, by omega, fun r2 H2 b0 b1 x2 T2 => ?_⟩
      walk_at "go"
      exact ⟨_, by omega, by omega, rfl, x1.trans x2, T2⟩
    · walk_at "go"
      exact ⟨_, by omega, by omega, rfl, x1, T1⟩
  rintro _ H2 ⟨size, s0, s1, rfl, x2, T2⟩
  walk_at "gs"
  refine ⟨st, sc, _, rfl, T2, by omega, by omega, fun r3 H3 c0 c1 x3 T3 => ?_⟩
  obtain ⟨ch, hc1, hc2⟩ := pick_at (xs := ("abcdefghijklmnopqrstuvwxyz" : Str).cps.toList) (n := 26) (by decide +kernel) c0 c1
  have hall : ∀ c, c ∈ ("abcdefghijklmnopqrstuvwxyz" : Str).cps.toList → 97 ≤ c ∧ c < 1114112 := by decide +kernel
  refine x_str (le_line (by decide +kernel)) hc1 ?_
  have W0 : Wd ⟨#[ch]⟩ := ⟨⟨ch, rfl, (hall ch hc2).1⟩, sk_one (hall ch hc2).2⟩
  walk_at "gs"
  refine ⟨fun σ H' => ∃ (w : Str) (v6 : Option V), Wd w ∧ w.length ≤ 20 ∧ σ = [some (.ref st), some (.ref sc), some (.str "abcdefghijklmnopqrstuvwxyz"), some (.str chars), some (.int size), some (.str w), v6] ∧ Ext [st] H H' ∧ Pk K H' st sc, ?_, ?_⟩
  · walk_at "go"
    refine f_rng (fun i σ H' => ∃ (w : Str) (v6 : Option V), Wd w ∧ w.length = i + 1 ∧ σ = [some (.ref st), some (.ref sc), some (.str "abcdefghijklmnopqrstuvwxyz"), some (.str chars), some (.int size), some (.str w), v6] ∧ Ext [st] H H' ∧ Pk K H' st sc) ?_ ?_ ?_
    · exact ⟨_, _, W0, rfl, rfl, x2.trans x3, T3⟩
    · rintro i σ H4 hi ⟨w, v6, hw, lw, rfl, x4, T4⟩
      walk_at "go"
      refine ⟨st, sc, _, rfl, T4, by omega, by omega, fun r5 H5 d0 d1 x5 T5 => ?_⟩
      obtain ⟨c5, hc5, hm5⟩ := pick_at hcl d0 d1
      have hcl2 : chars.length = 37 := by
        show chars.cps.size = 37
        rw [← hcl, Array.length_toList]
      refine x_str (le_line (by omega)) hc5 ?_
      have l1 : (⟨#[c5]⟩ : Str).length = 1 := rfl
      refine a_str (le_line (by omega)) ?_
      walk_at "go"
      exact ⟨_, _, hw.add (sk_one (hca c5 hm5)), by rw [str_add_len]; omega, rfl, x4.trans x5, T5⟩
    · rintro σ H4 ⟨w, v6, hw, lw, rfl, x4, T4⟩
      exact ⟨w, v6, hw, by omega, rfl, x4, T4⟩
  rintro _ H4 ⟨w, v6, hw, lw, rfl, x4, T4⟩
  walk_at "go"
  refine ⟨rfl, fun p H5 ss x5 hp e5 ls => ?_⟩
  refine w_inl rfl e5 (strl_flat ss) ?_
  rw [if_neg (by decide), inV_str]
  walk_at "go"
  refine w_iteD (fun c => ?_) (fun c => ?_)
  · walk_at "go"
    have l1 : ("_" : Str).length = 1 := by decide +kernel
    refine a_str (le_line (by omega)) ?_
    exact k _ _ (hw.add (by unfold Sk; decide +kernel)) (by rw [str_add_len]; omega) (x4.trans x5.any) (T4.same x5)
  · walk_at "go"
    exact k _ _ hw (by omega) (x4.trans x5.any) (T4.same x5)
theorem pure_l_big (A : Ad) (vs : List V) (H : Hp) (Q : VK) (E : XK) (h : sp_l_big K A vs H Q E) : t_l_big K A (bd Q) (start N_l_big vs) H := by
  obtain ⟨st, sc, rfl, T, k⟩ := h
  show t_l_big K A (bd Q) [some (.ref st), some (.ref sc), none, none, none, none, none] H
  unfold t_l_big
  walk_at "gs"
  refine a_str (le_line (by decide +kernel)) ?_
  walk_at "gs"
  refine ⟨st, sc, _, rfl, T, by omega, by omega, fun r1 H1 a0 a1 x1 T1 => ?_⟩
  walk_at "gs"
  generalize hch : ("ABCDEFGHIJKLMNOPQRSTUVWXYZ" : Str) ++ ("abcdefghijklmnopqrstuvwxyz0123456789" : Str) = chars
  have hcl : chars.cps.toList.length = 62 := by rw [← hch]; decide +kernel
  have hca : ∀ c, c ∈ chars.cps.toList → c < 1114112 := by rw [← hch]; decide +kernel
  refine ⟨fun σ H' => ∃ size : Int, 1 ≤ size ∧ size ≤ 20 ∧ σ = [some (.ref st), some (.ref sc), some (.str "ABCDEFGHIJKLMNOPQRSTUVWXYZ"), some (.str chars), some (.int size), none, none] ∧ Ext [st] H H' ∧ Pk K H' st sc, ?_, ?_⟩
  · walk_at "go"
    refine w_iteD (fun c => ?_) (fun c => ?_)
    · walk_at "go"
      refine ⟨st, sc, _, rfl, T1, by omega, by omega, fun r2 H2 b0 b1 x2 T2 => ?_⟩
      walk_at "go"
      exact ⟨_, by omega, by omega, rfl, x1.trans x2, T2⟩
    · walk_at "go"
      exact ⟨_, by omega, by omega, rfl, x1, T1⟩
  rintro _ H2 ⟨size, s0, s1, rfl, x2, T2⟩
  walk_at "gs"
  refine ⟨st, sc, _, rfl, T2, by omega, by omega, fun r3 H3 c0 c1 x3 T3 => ?_⟩
  obtain ⟨ch, hc1, hc2⟩ := pick_at (xs := ("ABCDEFGHIJKLMNOPQRSTUVWXYZ" : Str).cps.toList) (n := 26) (by decide +kernel) c0 c1
  have hall : ∀ c, c ∈ ("ABCDEFGHIJKLMNOPQRSTUVWXYZ" : Str).cps.toList → c < 1114112 := by decide +kernel
  refine x_str (le_line (by decide +kernel)) hc1 ?_
  walk_at "go"
  refine f_rng (fun i σ H' => ∃ (w : Str) (v6 : Option V), Sk w ∧ w.length = i + 1 ∧ σ = [some (.ref st), some (.ref sc), some (.str "ABCDEFGHIJKLMNOPQRSTUVWXYZ"), some (.str chars), some (.int size), some (.str w), v6] ∧ Ext [st] H H' ∧ Pk K H' st sc) ?_ ?_ ?_
  · exact ⟨_, _, sk_one (hall ch hc2), rfl, rfl, x2.trans x3, T3⟩
  · rintro i σ H4 hi ⟨w, v6, kw, lw, rfl, x4, T4⟩
    walk_at "go"
    refine ⟨st, sc, _, rfl, T4, by omega, by omega, fun r5 H5 d0 d1 x5 T5 => ?_⟩
    obtain ⟨c5, hc5, hm5⟩ := pick_at hcl d0 d1
    have hcl2 : chars.length = 62 := by
      show chars.cps.size = 62
      rw [← hcl, Array.length_toList]
    refine x_str (le_line (by omega)) hc5 ?_
    have l1 : (⟨#[c5]⟩ : Str).length = 1 := rfl
    refine a_str (le_line (by omega)) ?_
    walk_at "go"
    exact ⟨_, _, kw.add (sk_one (hca c5 hm5)), by rw [str_add_len]; omega, rfl, x4.trans x5, T5⟩
  · rintro σ H4 ⟨w, v6, kw, lw, rfl, x4, T4⟩
    walk_at "go"
    exact k _ _ (by omega) kw x4 T4
end

section
variable {K : PySem.W.Frag}
/-- more than nine different texts do not stand in a list of nine -/
theorem nodup_le {α : Type} [DecidableEq α] : ∀ {xs ys : List α}, xs.Nodup → (∀ x, x ∈ xs → x ∈ ys) → xs.length ≤ ys.length
  | [], _, _, _ => Nat.zero_le _
  | x :: xs, ys, h, s => by
    obtain ⟨h1, h2⟩ := List.nodup_cons.mp h
    have hx := s x (by simp)
    have := nodup_le (xs := xs) (ys := ys.erase x) h2 fun y hy => by
      have ne : y ≠ x := fun e => h1 (e ▸ hy)
      exact (List.mem_erase_of_ne ne).mpr (s y (by simp [hy]))
    rw [List.length_erase_of_mem hx] at this
    have : 0 < ys.length := List.length_pos_of_mem hx
    rw [List.length_cons]
    omega
def cand (w : Str) (k : Nat) : Str := cutS w none (some 18) ++ (toString (k : Int) : Str)
theorem cand_some {w : Str} {ss : List Str} (h : ss.length ≤ 9) : ∃ k, k < 100 ∧ cand w k ∉ ss := by
  refine Classical.byContradiction fun no => ?_
  have all : ∀ k, k < 100 → cand w k ∈ ss := fun k hk => Classical.byContradiction fun q => no ⟨k, hk, q⟩
  have nd : ((List.range 10).map (cand w)).Nodup := by
    have nd0 : ((List.range 10).map fun k : Nat => ((toString (k : Int) : Str)).cps.toList).Nodup := by decide +kernel
    have e : ((List.range 10).map fun k : Nat => ((toString (k : Int) : Str)).cps.toList) = ((List.range 10).map (cand w)).map fun s => s.cps.toList.drop (cutS w none (some 18)).cps.toList.length := by
      rw [List.map_map]
      refine List.map_congr_left fun k _ => ?_
      show _ = (cutS w none (some 18) ++ (toString (k : Int) : Str)).cps.toList.drop _
      rw [str_add_cps, List.drop_left]
    rw [e] at nd0
    exact List.Pairwise.imp (fun h q => h (by rw [q])) (List.pairwise_map.mp nd0)
  have := nodup_le nd (ys := ss) fun x hx => by
    obtain ⟨k, hk, rfl⟩ := List.mem_map.mp hx
    exact all k (by have := List.mem_range.mp hk; omega)
  rw [List.length_map, List.length_range] at this
  omega
theorem str_k_len (k : Nat) (h : k < 100) : ((toString (k : Int) : Str)).length ≤ 2 := by
  have : ∀ k : Fin 100, ((toString ((k.val : Nat) : Int) : Str)).length ≤ 2 := by decide +kernel
  exact this ⟨k, h⟩
theorem cutS_to (w : Str) (n : Nat) : (cutS w none (some (n : Int))).cps.toList = w.cps.toList.take n := by
  unfold cutS
  show ((List.drop _ _).take _) = _
  rw [HT.sIx_none, HT.sIx_nat]
  simp only [List.drop_zero, Nat.sub_zero]
  show List.take (min n w.cps.size) w.cps.toList = _
  rw [← Array.length_toList, ← List.take_eq_take_min]
theorem cand_len {w : Str} {k : Nat} (h : k < 100) : (cand w k).length ≤ 20 := by
  have h1 := str_k_len k h
  have h2 : (cutS w none (some 18)).length ≤ 18 := by
    show (cutS w none (some ((18 : Nat) : Int))).cps.size ≤ 18
    rw [← Array.length_toList, cutS_to, List.length_take]
    omega
  unfold cand
  rw [str_add_len]
  omega
theorem str_k_sk (k : Nat) (h : k < 100) : Sk (toString (k : Int) : Str) := by
  have : ∀ k : Fin 100, PyData.strOk ((toString ((k.val : Nat) : Int) : Str)) = true := by decide +kernel
  exact this ⟨k, h⟩
theorem cand_sk {w : Str} {k : Nat} (hk : k < 100) (h : Sk w) : Sk (cand w k) := by
  refine Sk.add ?_ (str_k_sk k hk)
  rw [sk_iff] at *
  intro c hc
  exact h c (List.mem_of_mem_take (by rw [← cutS_to w 18]; exact hc))
theorem cand_wd {w : Str} {k : Nat} (hk : k < 100) (h : Wd w) : Wd (cand w k) := by
  refine ⟨?_, cand_sk hk h.2⟩
  obtain ⟨⟨c, h1, h2⟩, _⟩ := h
  refine ⟨c, ?_, h2⟩
  unfold cand
  rw [str_add_cps]
  have e18 : (cutS w none (some 18)).cps.toList = w.cps.toList.take 18 := cutS_to w 18
  rw [e18]
  cases e : w.cps.toList with
  | nil => rw [e] at h1; cases h1
  | cons x y => rw [e] at h1; exact h1
theorem s_str {H : Hp} {Q : VK} {z : Str} {lo hi : Option Int} (hz : z.length ≤ sizeLine) (h : Q (.str (cutS z lo hi)) H) : rSlG K (.str z) lo hi H Q := .inr (.inr ⟨z, rfl, hz, h⟩)
theorem pure_l_new (A : Ad) (vs : List V) (H : Hp) (Q : VK) (E : XK) (h : sp_l_new K A vs H Q E) : t_l_new K A (bd Q) (start N_l_new vs) H := by
  obtain ⟨p, ss, w, rfl, es, hl, hw, k⟩ := h
  show t_l_new K A (bd Q) [some (.ref p), some (.str w), none, none] H
  unfold t_l_new
  walk_at "go"
  refine w_inl rfl es (strl_flat ss) ?_
  rw [if_pos rfl, inV_str]
  walk_at "go"
  refine w_iteND (fun c => ?_) (fun c => ?_)
  · walk_at "go"
    exact k _ c hw id id
  walk_at "go"
  refine f_rng (fun i σ H' => H' = H ∧ (∀ j, j < i → cand w j ∈ ss) ∧ ∃ w2 w3, σ = [some (.ref p), some (.str w), w2, w3]) ⟨rfl, fun j hj => by omega, _, _, rfl⟩ ?_ ?_
  · rintro i σ H' hi ⟨rfl, hj, w2, w3, rfl⟩
    walk_at "go"
    refine s_str (le_line (by omega)) ?_
    walk_at "go"
    rw [show (0 : Int) + (i : Int) = ((i : Nat) : Int) by omega]
    refine b_str ?_ ?_
    · have : i < 100 := hi
      have h2 : ((i : Nat) : Int).natAbs = i := by omega
      rw [h2]
      refine Nat.lt_of_le_of_lt (Nat.log2_le_self i) (by omega)
    have hc := str_k_len i hi
    have h2 : (cutS w none (some 18)).length ≤ 40 := Nat.le_trans (cutS_length _ _ _) hw
    refine a_str (le_line (by omega)) ?_
    walk_at "go"
    show rIn K true (.str (cand w i)) _ _ _
    refine w_inl rfl es (strl_flat ss) ?_
    rw [if_pos rfl, inV_str]
    walk_at "go"
    refine w_iteND (fun c => ?_) (fun c => ?_)
    · walk_at "go"
      exact k _ c (Nat.le_trans (cand_len hi) (by decide)) (fun h => cand_wd hi h) fun h => cand_sk hi h
    · walk_at "go"
      refine ⟨rfl, fun j hj2 => ?_, _, _, rfl⟩
      by_cases e : j = i
      · rw [e]; exact c
      · exact hj j (by omega)
  · rintro σ H' ⟨rfl, hj, w2, w3, rfl⟩
    obtain ⟨j, h1, h2⟩ := cand_some (w := w) hl
    exact absurd (hj j (by simpa using h1)) h2
theorem no_l_is_plain {A : Ad} (vs : List V) (H : Hp) (Q : VK) (E : XK) : ¬ sp_l_is_plain K A 0 vs H Q E := by
  rintro ⟨v, k, _, _, h, _⟩
  have := k.lev_pos
  omega
theorem no_l_kind {A : Ad} (vs : List V) (H : Hp) (Q : VK) (E : XK) : ¬ sp_l_kind K A 0 vs H Q E := by
  rintro ⟨st, sc, p, ss, room, pl, _, _, _, _, _, h1, h2, _⟩
  omega
theorem no_l_same {A : Ad} (vs : List V) (H : Hp) (Q : VK) (E : XK) : ¬ sp_l_same K A 0 vs H Q E := by
  rintro ⟨u, v, d, _, _, _, _, h, _⟩
  omega
theorem no_l_size {A : Ad} (vs : List V) (H : Hp) (Q : VK) (E : XK) : ¬ sp_l_size K A 0 vs H Q E := by
  rintro ⟨rv, v, rows, k, g, _, _, _, _, h, _⟩
  have := k.dp_pos (f := g)
  omega
theorem no_l_is_small {A : Ad} (vs : List V) (H : Hp) (Q : VK) (E : XK) : ¬ sp_l_is_small K A 0 vs H Q E := by
  rintro ⟨rv, v, rows, k, g, ss, _, _, _, _, h, _⟩
  have := k.lev_pos
  omega
theorem pure_l_is_plain (A : Ad) (n : Nat) (vs : List V) (H : Hp) (Q : VK) (E : XK) (h : sp_l_is_plain K A (n + 1) vs H Q E) : t_l_is_plain K A n (bd Q) (start N_l_is_plain vs) H := by
  obtain ⟨v, k, rfl, hv, hl, q⟩ := h
  show t_l_is_plain K A n (bd Q) [some v, none] H
  unfold t_l_is_plain
  cases k <;> rw [Kd.d] at hv <;> rw [Kd.lev] at hl
  case box k => walk_at "go"; exact ⟨_, k, rfl, by walk_at "rp", by omega, q⟩
  case maybe k => walk_at "go"; exact ⟨_, k, rfl, by walk_at "rp", by omega, q⟩
  case tuple ks =>
    walk_at "go"
    refine f_tup (ds := Kd.ds ks) (fun i σ H' => ∃ w, σ = [some v, w] ∧ Ext [] H H') ⟨none, rfl, Ext.refl⟩ ?_ ?_ ?_
    · rintro i σ H' _ ⟨w, _, x⟩
      walk_at "rp"
    · rintro i d u σ H' hd hu ⟨w, rfl, x⟩
      obtain ⟨k, hk, rfl⟩ := Kd.ds_get hd
      have hkl := Kd.lev_mem (List.mem_of_getElem? hk)
      walk_at "go"
      refine ⟨_, k, rfl, hu, by omega, fun b H2 x2 => ?_⟩
      walk_at "go"
      refine w_ite (fun c => ?_) (fun c => ?_)
      · walk_at "go"
        exact q _ _ (x.trans x2)
      · walk_at "go"
        exact ⟨_, rfl, x.trans x2⟩
    · rintro σ H' ⟨w, rfl, x⟩
      walk_at "go"
      exact q _ _ x
  all_goals (walk_at "go"; exact q _ _ Ext.refl)
theorem pure_l_same (A : Ad) (n : Nat) (vs : List V) (H : Hp) (Q : VK) (E : XK) (h : sp_l_same K A (n + 1) vs H Q E) : t_l_same K A n (bd Q) (start N_l_same vs) H := by
  obtain ⟨u, v, d, rfl, hu, hv, hb, hd, hs, q⟩ := h
  show t_l_same K A n (bd Q) [some u, some v, none] H
  unfold t_l_same
  cases d with
  | non => exact hs.elim
  | bl b => simp [D.nb] at hb
  | int i =>
    have := hv.intI
    subst this
    have := hu.intI
    subst this
    walk_at "go"
    rw [decide_eq_true rfl]
    exact q
  | str s =>
    have := hv.strI
    subst this
    have := hu.strI
    subst this
    walk_at "go"
    rw [decide_eq_true rfl]
    exact q
  | tup ds =>
    have hd2 : D.deps ds < n := by
      have : D.deps ds + 1 < n + 1 := hd
      omega
    have hb2 : D.nbs ds = true := hb
    have hl : ds.length ≤ 1000 := hs.1
    walk_at "go"
    refine w_iteND (fun c => absurd rfl c) (fun c => ?_)
    walk_at "go"
    refine f_rng (fun i σ H' => H' = H ∧ ∃ w, σ = [some u, some v, w]) ⟨rfl, _, rfl⟩ ?_ ?_
    · rintro i σ H' hi ⟨rfl, w, rfl⟩
      have i2 : i < ds.length := by omega
      have hg : ds[i]? = some ds[i] := by simp [i2]
      walk_at "go"
      refine x_D hu (at_nat (by omega) hg) fun u2 ru => ?_
      walk_at "go"
      refine x_D hv (at_nat (by omega) hg) fun v2 rv => ?_
      walk_at "go"
      refine ⟨_, _, _, rfl, ru, rv, nbs_get hb2 hg, Nat.lt_of_le_of_lt (deps_get hg) hd2, smalls_get hs.2 hg, ?_⟩
      walk_at "go"
      exact ⟨rfl, _, rfl⟩
    · rintro σ H' ⟨rfl, w, rfl⟩
      walk_at "go"
      exact q
end

section
variable {K : PySem.W.Frag}
theorem StrL.same {H H' : Hp} {p : Addr} {ss : List Str} (h : StrL H p ss) (e : Ext [] H H') : StrL H' p ss := e.same _ _ h
theorem StrL.keep {H H' : Hp} {p : Addr} {ss : List Str} {S : List Addr} (h : StrL H p ss) (e : Ext S H H') (n : p ∉ S) : StrL H' p ss := e.keep _ _ h n
theorem strl_get {ss : List Str} {i : Nat} (h : i < ss.length) : (ss.map V.str)[i]? = some (.str (ss[i]'h)) := by
  rw [List.getElem?_map]
  simp [h]
theorem pick_str {ss : List Str} {r : Int} (h0 : 0 ≤ r) (h1 : r < (ss.length : Int)) : ∃ s, atI (ss.map V.str) r = some (.str s) ∧ s ∈ ss := by
  have hk : r.toNat < ss.length := by omega
  exact ⟨ss[r.toNat], at_nat (j := r.toNat) (by omega) (strl_get hk), List.getElem_mem hk⟩
theorem pure_l_kind (A : Ad) (n : Nat) (vs : List V) (H : Hp) (Q : VK) (E : XK) (h : sp_l_kind K A (n + 1) vs H Q E) : t_l_kind K A n (bd Q) (start N_l_kind vs) H := by
  obtain ⟨st, sc, p, ss, room, pl, rfl, T, es, nps, hl, r1, r2, hn, q⟩ := h
  show t_l_kind K A n (bd Q) [some (.ref st), some (.ref sc), some (.int room), some (.bl pl), some (.ref p), none, none, none] H
  unfold t_l_kind
  have np : p ∉ [st] := by simpa using nps
  walk_at "gs"
  refine ⟨st, sc, _, rfl, T, by omega, by omega, fun c H1 c0 c1 x1 T1 => ?_⟩
  have es1 := es.keep x1 np
  walk_at "gs"
  refine ⟨fun σ H' => H' = H1 ∧ σ = [some (.ref st), some (.ref sc), some (.int room), some (.bl pl), some (.ref p), some (.int c), none, none], ?_, ?_⟩
  · walk_at "go"
    refine w_iteD (fun b1 => ?_) (fun b1 => ?_)
    · obtain ⟨⟨a, b, d, e, est, ra⟩, hns, hne⟩ := T1
      walk_at "go"
      refine w_iteD (fun b2 => ?_) (fun b2 => ?_)
      · walk_at "go"
        refine w_iteD (fun b3 => ?_) (fun b3 => ?_)
        · walk_at "gs"
          rename_i H2 x2 e2
          have T2 : Pk K H2 st sc := ⟨⟨_, _, _, _, e2, ra⟩, (hne.keep hns x2), hne⟩
          have es2 := es1.keep x2 np
          have X2 := x1.trans x2
          walk_at "go"
          refine w_iteD (fun b4 => ?_) (fun b4 => ?_)
          · walk_at "go"
            refine ⟨st, sc, p, ss, _, _, rfl, T2, es2, nps, hl, by omega, by omega, by omega, fun u H3 k x3 T3 rk lk gk nk => ?_⟩
            walk_at "go"
            rename_i v H4 x4 r4
            exact q _ H4 (.box k) ((X2.trans x3).trans x4.any) (T3.same x4) r4 (by simp only [Kd.lev]; omega) gk nk
          walk_at "go"
          refine w_iteD (fun b5 => ?_) (fun b5 => ?_)
          · walk_at "go"
            refine w_newL (by walk_at "len") (fun it H3 hit x3 e3 => ?_)
            have T3 := T2.same x3
            have nit := T2.new hit
            walk_at "go"
            refine ⟨st, sc, _, rfl, T3, by omega, by omega, fun m H4 m0 m1 x4 T4 => ?_⟩
            have es4 := (es2.same x3).keep x4 np
            have e4 := x4.keep _ _ e3 (by simpa using nit)
            walk_at "go"
            have hitp : it ≠ p := (ne_of_none es2 hit).symm
            have hitn : ¬ it = st := nit
            refine f_rng (fun i σ H' => ∃ (ks : List Kd) (xs : List V) (w : Option V), σ = [some (.ref st), some (.ref sc), some (.int room), some (.bl pl), some (.ref p), some (.int c), some (.ref it), w] ∧ ks.length = i ∧ Ext [st, it] H2 H' ∧ Pk K H' st sc ∧ H' it = some (.lst xs) ∧ RpAll K H' xs (Kd.ds ks) ∧ StrL H' p ss ∧ ∀ k, k ∈ ks → (k.lev : Int) ≤ room - 1 ∧ k.good = true ∧ k.kn ss) ?_ ?_ ?_
            · exact ⟨[], [], _, rfl, rfl, (x3.any.trans (x4.wide (by simp))), T4, e4, .nil, es4, fun k hk => absurd hk (by simp)⟩
            · rintro i σ H5 hi ⟨ks, xs, w, rfl, lks, x5, T5, e5, r5, es5, hks⟩
              have lxs := r5.length
              rw [Kd.ds_length] at lxs
              walk_at "go"
              refine ⟨ty_l e5, ?_⟩
              walk_at "go"
              refine ⟨st, sc, p, ss, _, _, rfl, T5, es5, nps, hl, by omega, by omega, by omega, fun u H6 k x6 T6 rk lk gk nk => ?_⟩
              have e6 := x6.keep _ _ e5 (by simpa using nit)
              walk_at "go"
              refine m_app e6 (line_of (by omega)) (fun H7 x7 e7 => ?_)
              walk_at "go"
              have hsc : Off K sc it := T2.off hit
              refine ⟨ks ++ [k], _, _, rfl, by simp [lks], (x5.trans (x6.wide (by simp))).trans (x7.wide (by simp)), T6.far x7 nit hsc, e7, ?_, (es5.keep x6 np).keep x7 (by simpa using hitp.symm), fun j hj => ?_⟩
              · rw [Kd.ds_map, List.map_append, ← Kd.ds_map]
                exact ((r5.ts x6.ts).ts x7.ts).append (.cons (rk.ts x7.ts) .nil)
              · rcases List.mem_append.mp hj with hj | hj
                · exact hks j hj
                · rw [List.mem_singleton.mp hj]
                  exact ⟨lk, gk, nk⟩
            · rintro σ H5 ⟨ks, xs, w, rfl, lks, x5, T5, e5, r5, es5, hks⟩
              walk_at "go"
              refine b_tupl e5 r5 (fun u H6 x6 r6 => ?_)
              walk_at "go"
              rename_i v H7 x7 r7
              have X5 : Ext [st] H2 H5 := by
                refine ⟨fun b o e n => x5.keep b o e ?_, x5.tup, x5.frz⟩
                simp only [List.mem_cons, List.not_mem_nil, or_false, not_or] at n ⊢
                exact ⟨n, ne_of_none e hit⟩
              have lv : Kd.levs ks ≤ (room - 1).toNat := Kd.levs_le fun k hk => by have := (hks k hk).1; omega
              refine q _ H7 (.tuple ks) ((X2.trans X5).trans (x6.trans x7).any) (T5.same (x6.trans x7)) r7 (by simp only [Kd.lev]; omega) ?_ (Kd.kns_of fun k hk => (hks k hk).2.2)
              simp only [Kd.good, Bool.and_eq_true, decide_eq_true_eq]
              exact ⟨⟨by omega, by omega⟩, Kd.goods_of fun k hk => (hks k hk).2.1⟩
          walk_at "go"
          refine w_iteD (fun b6 => ?_) (fun b6 => ?_)
          · walk_at "go"
            refine ⟨st, sc, p, ss, _, _, rfl, T2, es2, nps, hl, by omega, by omega, by omega, fun u H3 k x3 T3 rk lk gk nk => ?_⟩
            walk_at "go"
            rename_i v H4 x4 r4
            exact q _ H4 (.maybe k) ((X2.trans x3).trans x4.any) (T3.same x4) r4 (by simp only [Kd.lev]; omega) gk nk
          · cases pl with
            | true =>
              walk_at "go"
              refine ⟨st, sc, p, ss, _, _, rfl, T2, es2, nps, hl, by omega, by omega, by omega, fun u H3 k x3 T3 rk lk gk nk => ?_⟩
              walk_at "go"
              rename_i v H4 x4 r4
              exact q _ H4 (.maybe k) ((X2.trans x3).trans x4.any) (T3.same x4) r4 (by simp only [Kd.lev]; omega) gk nk
            | false =>
              walk_at "go"
              refine w_newL (by walk_at "len") (fun l9 H9 hl9 x9 e9 => ?_)
              have cc : c = 8 ∨ c = 9 := by omega
              rcases cc with rfl | rfl
              · walk_at "go"
                refine ⟨st, sc, p, ss, _, _, rfl, T2.same x9, es2.same x9, nps, hl, by omega, by omega, by omega, fun u H3 k x3 T3 rk lk gk nk => ?_⟩
                walk_at "go"
                rename_i v H4 x4 r4
                exact q _ H4 (.shared k) (((X2.trans x9.any).trans x3).trans x4.any) (T3.same x4) r4 (by simp only [Kd.lev]; omega) gk nk
              · walk_at "go"
                refine ⟨st, sc, p, ss, _, _, rfl, T2.same x9, es2.same x9, nps, hl, by omega, by omega, by omega, fun u H3 k x3 T3 rk lk gk nk => ?_⟩
                walk_at "go"
                rename_i v H4 x4 r4
                exact q _ H4 (.excl k) (((X2.trans x9.any).trans x3).trans x4.any) (T3.same x4) r4 (by simp only [Kd.lev]; omega) gk nk
        · walk_at "go"
          exact ⟨rfl, rfl⟩
      · walk_at "go"
        exact ⟨rfl, rfl⟩
    · walk_at "go"
      exact ⟨rfl, rfl⟩
  rintro _ H2 ⟨rfl, rfl⟩
  walk_at "gs"
  refine ⟨fun σ H' => H' = H2 ∧ σ = [some (.ref st), some (.ref sc), some (.int room), some (.bl pl), some (.ref p), some (.int c), none, none], ?_, ?_⟩
  · walk_at "go"
    refine w_iteD (fun b1 => ?_) (fun b1 => ?_)
    · walk_at "go"
      rw [List.length_map]
      refine w_iteD (fun b2 => ?_) (fun b2 => ?_)
      · walk_at "go"
        rw [List.length_map]
        refine ⟨st, sc, _, rfl, T1, b2, by omega, fun r H3 r0 r1 x3 T3 => ?_⟩
        obtain ⟨s, hs1, hs2⟩ := pick_str r0 r1
        refine x_l (es1.keep x3 np) hs1 ?_
        walk_at "go"
        rename_i v H4 x4 r4
        exact q _ H4 (.recd s) ((x1.trans x3).trans x4.any) (T3.same x4) r4 (by simp only [Kd.lev]; omega) rfl hs2
      · walk_at "go"
        exact ⟨rfl, rfl⟩
    · walk_at "go"
      exact ⟨rfl, rfl⟩
  rintro _ H3 ⟨rfl, rfl⟩
  walk_at "go"
  refine w_newL (by walk_at "len") (fun l9 H9 hl9 x9 e9 => ?_)
  walk_at "go"
  have m0 : 0 ≤ c % 3 := by omega
  have m1 : c % 3 < 3 := by omega
  generalize c % 3 = r at *
  have cc : r = 0 ∨ r = 1 ∨ r = 2 := by omega
  rcases cc with rfl | rfl | rfl
  · walk_at "go"
    rename_i v H4 x4 r4
    exact q _ H4 .int ((x1.trans x9.any).trans x4.any) ((T1.same x9).same x4) r4 (by simp only [Kd.lev]; omega) rfl trivial
  · walk_at "go"
    rename_i v H4 x4 r4
    exact q _ H4 .bool ((x1.trans x9.any).trans x4.any) ((T1.same x9).same x4) r4 (by simp only [Kd.lev]; omega) rfl trivial
  · walk_at "go"
    rename_i v H4 x4 r4
    exact q _ H4 .unit ((x1.trans x9.any).trans x4.any) ((T1.same x9).same x4) r4 (by simp only [Kd.lev]; omega) rfl trivial
end

section
variable {K : PySem.W.Frag}
theorem Rp.rpall1 {H : Hp} {x : V} {xs : List V} {d : D} {ds : List D} (h : RpAll K H (x :: xs) (d :: ds)) : Rp K H x d := by cases h; assumption
theorem pure_l_size (A : Ad) (n : Nat) (vs : List V) (H : Hp) (Q : VK) (E : XK) (h : sp_l_size K A (n + 1) vs H Q E) : t_l_size K A n (bd Q) (start N_l_size vs) H := by
  obtain ⟨rv, v, rows, k, g, rfl, hrv, hrk, hv, hd, hg, hgs, q⟩ := h
  show t_l_size K A n (bd Q) [some rv, some v, none, none, none] H
  unfold t_l_size
  have mono : ∀ {H' : Hp}, Ext [] H H' → RowsV K H' rv rows := fun e => by
    rcases hrv with h | ⟨p, xs, rfl, h1, h2⟩
    · exact .inl (h.ts e.ts)
    · exact .inr ⟨p, xs, rfl, e.same _ _ h1, h2.ts e.ts⟩
  cases k <;> rw [Kd.d] at hv <;> rw [Kd.dp] at hd <;> rw [Kd.good] at hg
  case maybe k =>
    walk_at "go"
    refine ⟨_, _, rows, k, g, rfl, hrv, hrk, by walk_at "rp", by omega, hg, hgs, fun i H' x => ?_⟩
    walk_at "go"
    exact q _ _ x
  case tuple ks =>
    simp only [Bool.and_eq_true, decide_eq_true_eq] at hg
    walk_at "go"
    intro L hL
    refine c_tup (ds := Kd.ds ks) (fun i H' acc => Ext [] H H' ∧ ∃ ns : List Int, acc = ns.map V.int) hL ?_ ?_ ?_ ?_
    · rintro i H' acc _ ⟨x, _⟩
      walk_at "rp"
    · intro H' e l
      exact ⟨e, [], rfl⟩
    · rintro i d u H2 acc hd2 hu e1 e2 ⟨x, ns, rfl⟩
      obtain ⟨k, hk, rfl⟩ := Kd.ds_get hd2
      have hkl := Kd.dp_mem (f := g) (List.mem_of_getElem? hk)
      have hi : i < ks.length := (List.getElem?_eq_some_iff.mp hk).1
      walk_at "go"
      refine ⟨_, _, rows, k, g, rfl, mono x, hrk, hu, by omega, Kd.good_mem hg.2 (List.mem_of_getElem? hk), hgs, fun z H3 x3 => ?_⟩
      exact turn1 (x3.same _ _ e1) e2 (line_of (by omega)) fun H4 x4 l4 => ⟨(x.trans x3).out hL x4, ns ++ [z], by simp⟩
    · rintro H2 acc e1 ⟨x, ns, rfl⟩
      walk_at "go"
      exact ⟨L, ns, rfl, SqL.of e1, q _ _ x⟩
  case recd nm =>
    -- a row's turn, whichever way the rows are walked
    have turn : ∀ (D0 : Ends) (d : D) (u : V) (r : Row) (w2 w3 w4 : Option V), r ∈ rows → Rp K H u (rowD r) → D0.rt = Q → D0.nx [some rv, some v, w2, some u, w4] H →
        tIfS (tTest (tOp (rEqG K) (tOp (rIx K) (tVar 3) (tC (.int 0))) (tOp (rIx K) (tVar 1) (tC (.int 1))))) (tRet (tCB (rSum K) (tCons (tLc (iTup K (tOp (rIx K) (tVar 3) (tC (.int 1)))) (gName 4) tYes (tCall (sp_l_size K A n) [] E0 (tCons (tVar 0) (tCons (tOp (rIx K) (tVar 4) (tC (.int 1))) tNil))) [4]) tNil))) tNext D0 [some rv, some v, w2, some u, w4] H := by
      intro D0 d u r w2 w3 w4 hr hu hrt hnx
      have hru : Rp K H u (.tup [.str r.1, .tup (r.2.map flD)]) := hu
      walk_at "go"
      refine w_iteD (fun c => ?_) (fun c => ?_)
      · walk_at "go"
        intro L hL
        refine c_tup (ds := r.2.map flD) (fun i H' acc => Ext [] H H' ∧ ∃ ns : List Int, acc = ns.map V.int) hL ?_ ?_ ?_ ?_
        · rintro i H' acc _ ⟨x, _⟩
          walk_at "rp"
        · intro H' e l
          exact ⟨e, [], rfl⟩
        · rintro i d2 u2 H2 acc hd2 hu2 e1 e2 ⟨x, ns, rfl⟩
          rw [List.getElem?_map] at hd2
          obtain ⟨f, hf, rfl⟩ := Option.map_eq_some_iff.mp hd2
          have hfm := List.mem_of_getElem? hf
          have hi : i < r.2.length := (List.getElem?_eq_some_iff.mp hf).1
          have h6 := hrk.fl r hr
          have hfd := hrk.rk r hr f hfm
          have hu3 : Rp K H2 u2 (.tup [.str f.1, f.2.d]) := hu2
          walk_at "go"
          refine ⟨_, _, rows, f.2, g, rfl, mono x, hrk, by walk_at "rp", by omega, hgs r hr f hfm, hgs, fun z H3 x3 => ?_⟩
          exact turn1 (x3.same _ _ e1) e2 (line_of (by omega)) fun H4 x4 l4 => ⟨(x.trans x3).out hL x4, ns ++ [z], by simp⟩
        · rintro H2 acc e1 ⟨x, ns, rfl⟩
          walk_at "go"
          exact ⟨L, ns, rfl, SqL.of e1, q _ _ x⟩
      · walk_at "go"
        exact hnx
    walk_at "go"
    rcases hrv with h | ⟨p, xs, rfl, h1, h2⟩
    · refine .inr ?_
      walk_at "go"
      refine f_tup (ds := rows.map rowD) (fun i σ H' => H' = H ∧ ∃ w2 w3 w4, σ = [some _, some v, w2, w3, w4]) ⟨rfl, _, _, _, rfl⟩ ?_ ?_ ?_
      · rintro i σ H' _ ⟨rfl, _⟩
        exact h
      · rintro i d u σ H' hd2 hu ⟨rfl, w2, w3, w4, rfl⟩
        rw [List.getElem?_map] at hd2
        obtain ⟨r, hr, rfl⟩ := Option.map_eq_some_iff.mp hd2
        exact turn _ (rowD r) u r w2 w3 w4 (List.mem_of_getElem? hr) hu rfl ⟨rfl, _, _, _, rfl⟩
      · rintro σ H' ⟨rfl, w2, w3, w4, rfl⟩
        walk_at "go"
        exact q _ _ Ext.refl
    · refine .inl ?_
      walk_at "go"
      refine w_exl (SqL.of h1) ?_
      refine f_lst (xs := xs) (fun i σ H' => H' = H ∧ ∃ w2 w3 w4, σ = [some (.ref p), some v, w2, w3, w4]) ⟨rfl, _, _, _, rfl⟩ ?_ ?_ ?_
      · rintro i σ H' _ ⟨rfl, _⟩
        exact SqL.of h1
      · rintro i u σ H' hu ⟨rfl, w2, w3, w4, rfl⟩
        obtain ⟨d, hd2, hru⟩ := h2.get hu
        rw [List.getElem?_map] at hd2
        obtain ⟨r, hr, rfl⟩ := Option.map_eq_some_iff.mp hd2
        exact turn _ (rowD r) u r w2 w3 w4 (List.mem_of_getElem? hr) hru rfl ⟨rfl, _, _, _, rfl⟩
      · rintro σ H' ⟨rfl, w2, w3, w4, rfl⟩
        walk_at "go"
        exact q _ _ Ext.refl
  all_goals (walk_at "go"; exact q _ _ Ext.refl)
theorem pure_l_is_small (A : Ad) (n : Nat) (vs : List V) (H : Hp) (Q : VK) (E : XK) (h : sp_l_is_small K A (n + 1) vs H Q E) : t_l_is_small K A n (bd Q) (start N_l_is_small vs) H := by
  obtain ⟨rv, v, rows, k, g, ss, rfl, hrv, hrk, hv, hl, hl6, hn, hg45, hg, hgs, q⟩ := h
  show t_l_is_small K A n (bd Q) [some rv, some v, none] H
  unfold t_l_is_small
  have mono : ∀ {H' : Hp}, Ext [] H H' → RowsV K H' rv rows := fun e => by
    rcases hrv with h | ⟨p, xs, rfl, h1, h2⟩
    · exact .inl (h.ts e.ts)
    · exact .inr ⟨p, xs, rfl, e.same _ _ h1, h2.ts e.ts⟩
  have hdp := Kd.dp_le (f := g) (ns := ss) (F := 45) (fun s _ => hg45 s) k hn
  walk_at "go"
  refine ⟨_, _, rows, k, g, rfl, hrv, hrk, hv, by omega, hg, hgs, fun i H1 x1 => ?_⟩
  walk_at "go"
  refine w_iteD (fun c => ?_) (fun c => ?_)
  · walk_at "go"
    exact q _ _ x1
  cases k <;> rw [Kd.d] at hv <;> rw [Kd.lev] at hl hl6 <;> rw [Kd.good] at hg <;> rw [Kd.kn] at hn
  case box k => walk_at "go"; exact ⟨_, _, rows, k, g, ss, rfl, mono (by walk_at "ext"), hrk, by walk_at "rp", by omega, by omega, hn, hg45, hg, hgs, fun b H' x => q _ _ (by walk_at "ext")⟩
  case maybe k => walk_at "go"; exact ⟨_, _, rows, k, g, ss, rfl, mono (by walk_at "ext"), hrk, by walk_at "rp", by omega, by omega, hn, hg45, hg, hgs, fun b H' x => q _ _ (by walk_at "ext")⟩
  case shared k => walk_at "go"; exact ⟨_, _, rows, k, g, ss, rfl, mono (by walk_at "ext"), hrk, by walk_at "rp", by omega, by omega, hn, hg45, hg, hgs, fun b H' x => q _ _ (by walk_at "ext")⟩
  case excl k => walk_at "go"; exact ⟨_, _, rows, k, g, ss, rfl, mono (by walk_at "ext"), hrk, by walk_at "rp", by omega, by omega, hn, hg45, hg, hgs, fun b H' x => q _ _ (by walk_at "ext")⟩
  case tuple ks =>
    simp only [Bool.and_eq_true, decide_eq_true_eq] at hg
    walk_at "go"
    refine f_tup (ds := Kd.ds ks) (fun i σ H' => ∃ w, σ = [some rv, some v, w] ∧ Ext [] H1 H') ⟨none, rfl, Ext.refl⟩ ?_ ?_ ?_
    · rintro i σ H' _ ⟨w, _, x⟩
      walk_at "rp"
    · rintro i d u σ H' hd hu ⟨w, rfl, x⟩
      obtain ⟨k, hk, rfl⟩ := Kd.ds_get hd
      have hkl := Kd.lev_mem (List.mem_of_getElem? hk)
      walk_at "go"
      refine ⟨_, _, rows, k, g, ss, rfl, mono (x1.trans x), hrk, hu, by omega, by omega, Kd.kns_mem hn (List.mem_of_getElem? hk), hg45, Kd.good_mem hg.2 (List.mem_of_getElem? hk), hgs, fun b H2 x2 => ?_⟩
      walk_at "go"
      refine w_ite (fun c => ?_) (fun c => ?_)
      · walk_at "go"
        exact q _ _ ((x1.trans x).trans x2)
      · walk_at "go"
        exact ⟨_, rfl, x.trans x2⟩
    · rintro σ H' ⟨w, rfl, x⟩
      walk_at "go"
      exact q _ _ (by walk_at "ext")
  all_goals (walk_at "go"; exact q _ _ (by walk_at "ext"))
theorem pure_fields_of (A : Ad) (vs : List V) (H : Hp) (Q : VK) (E : XK) (h : sp_fields_of K A vs H Q E) : t_fields_of K A (bd Q) (start N_fields_of vs) H := by
  obtain ⟨rv, nm, rows, r, rfl, hr, hf, q⟩ := h
  show t_fields_of K A (bd Q) [some rv, some (.str nm), none] H
  unfold t_fields_of
  walk_at "go"
  refine f_tup (ds := rows.map rowD) (fun i σ H' => H' = H ∧ ∃ w, σ = [some _, some (.str nm), w] ∧ ∀ j r', j < i → rows[j]? = some r' → r'.1 ≠ nm) ⟨rfl, _, rfl, fun j r' hj => by omega⟩ ?_ ?_ ?_
  · rintro i σ H' _ ⟨rfl, _⟩
    exact hr
  · rintro i d u σ H' hd hu ⟨rfl, w, rfl, hno⟩
    rw [List.getElem?_map] at hd
    obtain ⟨r2, hr2, rfl⟩ := Option.map_eq_some_iff.mp hd
    have hu2 : Rp K H' u (.tup [.str r2.1, .tup (r2.2.map flD)]) := hu
    walk_at "go"
    refine w_iteD (fun c => ?_) (fun c => ?_)
    · have e : r2 = r := by
        obtain ⟨l1, l2, e1, e2⟩ := List.find?_eq_some_iff_append.mp hf |>.2
        have hi := (List.getElem?_eq_some_iff.mp hr2).1
        have e3 : l1.length = i := by
          rcases Nat.lt_trichotomy l1.length i with h | h | h
          · exact absurd (by have := (List.find?_eq_some_iff_append.mp hf).1; simpa using this) (hno l1.length r h (by rw [e1]; simp))
          · exact h
          · have : r2 ∈ l1 := by
              rw [e1, List.getElem?_append_left h] at hr2
              exact List.mem_of_getElem? hr2
            have := e2 r2 this
            simp [c] at this
        rw [e1, ← e3] at hr2
        simpa using hr2.symm
      subst e
      walk_at "go"
      exact q _ (by assumption)
    · walk_at "go"
      refine ⟨rfl, _, rfl, fun j r' hj hr' => ?_⟩
      by_cases e : j = i
      · rw [e, hr2] at hr'
        cases hr'
        exact c
      · exact hno j r' (by omega) hr'
  · rintro σ H' ⟨rfl, w, rfl, hno⟩
    have h1 := List.mem_of_find?_eq_some hf
    have h2 := List.find?_some hf
    obtain ⟨j, hj⟩ := List.getElem?_of_mem h1
    have := (List.getElem?_eq_some_iff.mp hj).1
    exact absurd (by simpa using h2) (hno j r (by simpa using this) hj)
end

section
variable {K : PySem.W.Frag}
theorem w_chain {σ : St} {H : Hp} {Q : VK} {r r' : R2} {ta tb tc : TE} (h : ta σ H fun x H1 => tb σ H1 fun y H2 => r x y H2 fun z H3 => ∃ k, z = .bl k ∧ (if k = true then tc σ H3 fun w' H4 => r' y w' H4 Q else Q (.bl false) H3)) : tChain r r' ta tb tc σ H Q := h
theorem opts_some {rows : List Row} {n : Str} {r : Row} (h : rows.find? (fun r => decide (r.1 = n)) = some r) : opts rows (.recd n) = r.2.map fun f => (D.str f.1, f.2) := by simp only [opts, h]
theorem opts_none {rows : List Row} {n : Str} (h : rows.find? (fun r => decide (r.1 = n)) = none) : opts rows (.recd n) = [] := by simp only [opts, h]
theorem pure_kind_after (A : Ad) (vs : List V) (H : Hp) (Q : VK) (E : XK) (h : sp_kind_after K A vs H Q E) : t_kind_after K A E (bd Q) (start N_kind_after vs) H := by
  obtain ⟨rv, v, sv, rows, k, s, rfl, hrv, hv, hs, st, R, hkn, hg, q1, q2⟩ := h
  show t_kind_after K A E (bd Q) [some rv, some v, some sv, none, none] H
  unfold t_kind_after
  refine ⟨fun σ H' => Ext [] H H' ∧ aft rows k s = none, ?_, ?_⟩
  rotate_left
  · rintro σ H' ⟨x, e⟩
    exact q2 e H' x
  have hnf : ∀ {n : Str}, k = .recd n → ∀ t, (t = ("?" : Str) ∨ t = ("^" : Str)) → aft rows (.recd n) (.str t) = none := by
    intro n _ t ht
    unfold aft
    cases e : rows.find? (fun r => decide (r.1 = n)) with
    | none =>
      rw [opts_none e]
      rfl
    | some r =>
      have hr := List.mem_of_find?_eq_some e
      rw [opts_some e, List.find?_eq_none.mpr]
      · rfl
      · intro o ho
        obtain ⟨f, hf, rfl⟩ := List.mem_map.mp ho
        have := (R.wd r hr f hf).ne
        rcases ht with rfl | rfl <;> simp [D.eqv, this]
  -- a record's fields, one after the other
  have fields : ∀ (r : Row), (∀ s', s = s' → rows.find? (fun x => decide (x.1 = r.1)) = some r) → k = .recd r.1 → ∀ (a : Addr) (D0 : Ends), Rp K H (.ref a) (.tup (r.2.map flD)) → D0.rt = Q → (aft rows k s = none → ∀ w3 w4 H', Ext [] H H' → D0.nx [some rv, some v, some sv, w3, w4] H') →
      ForOk (Itt K a) (gTup K 2 (gCons (gName 3) (gCons (gName 4) gNil))) (tIfS (tTest (tOp (rEqG K) (tVar 3) (tVar 2))) (tRet (tVar 4)) tNext) D0 [some rv, some v, some sv, none, none] H := by
    intro r hr hk a D0 ha hrt hnx
    have hop : opts rows k = r.2.map fun f => (D.str f.1, f.2) := by
      rw [hk, opts_some (hr s rfl)]
    refine f_tupG (ds := r.2.map flD) (fun i σ H' => H' = H ∧ (∃ w3 w4, σ = [some rv, some v, some sv, w3, w4]) ∧ ∀ j f, j < i → r.2[j]? = some f → D.eqv (.str f.1) s = false) ⟨rfl, ⟨_, _, rfl⟩, fun j f hj => by omega⟩ ?_ ?_ ?_
    · rintro i σ H' _ ⟨rfl, _⟩
      exact ha
    · rintro i d u σ H' hd hu ⟨rfl, ⟨w3, w4, rfl⟩, hno⟩
      rw [List.getElem?_map] at hd
      obtain ⟨f, hf, rfl⟩ := Option.map_eq_some_iff.mp hd
      refine w_gT2 (d1 := .str f.1) (d2 := f.2.d) hu fun v1 v2 r1 r2 => ?_
      walk_at "go"
      refine e_st r1 hs (.inr ⟨_, rfl⟩) st ?_
      walk_at "go"
      refine w_ite (fun c => ?_) (fun c => ?_)
      · have e : aft rows k s = some f.2 := by
          unfold aft
          rw [hop]
          have : (r.2.map fun f => (D.str f.1, f.2)).find? (fun o => D.eqv o.1 s) = some (D.str f.1, f.2) := by
            rw [List.find?_eq_some_iff_append]
            refine ⟨c, (r.2.take i).map (fun f => (D.str f.1, f.2)), (r.2.drop (i + 1)).map (fun f => (D.str f.1, f.2)), ?_, ?_⟩
            · have hi := (List.getElem?_eq_some_iff.mp hf)
              obtain ⟨h1, h2⟩ := hi
              rw [← List.map_cons (f := fun f : Fl => (D.str f.1, f.2)), ← List.map_append, ← h2, ← List.drop_eq_getElem_cons h1, List.take_append_drop]
            · intro o ho
              obtain ⟨f2, hf2, rfl⟩ := List.mem_map.mp ho
              obtain ⟨j, hj⟩ := List.getElem?_of_mem hf2
              have hji : j < i := by
                have := (List.getElem?_eq_some_iff.mp hj).1
                rw [List.length_take] at this
                omega
              rw [List.getElem?_take_of_lt hji] at hj
              simpa using hno j f2 hji hj
          rw [this]
          rfl
        walk_at "go"
        have z := q1 f.2 e v2 H' Ext.refl r2
        rw [← hrt] at z
        exact z
      · walk_at "go"
        refine ⟨rfl, ⟨_, _, rfl⟩, fun j f2 hj hf2 => ?_⟩
        by_cases e : j = i
        · rw [e, hf] at hf2
          cases hf2
          exact c
        · exact hno j f2 (by omega) hf2
    · rintro σ H' ⟨rfl, ⟨w3, w4, rfl⟩, hno⟩
      refine hnx ?_ _ _ _ Ext.refl
      unfold aft
      rw [hop, List.find?_eq_none.mpr]
      · rfl
      · intro o ho
        obtain ⟨f2, hf2, rfl⟩ := List.mem_map.mp ho
        obtain ⟨j, hj⟩ := List.getElem?_of_mem hf2
        have := (List.getElem?_eq_some_iff.mp hj).1
        simpa using hno j f2 (by simpa using this) hj
  rcases st with ⟨i, rfl⟩ | ⟨t, rfl⟩
  · have := hs.intI
    subst this
    cases k <;> rw [Kd.d] at hv
    case tuple ks =>
      walk_at "go"
      have e : aft rows (.tuple ks) (.int i) = if 0 ≤ i ∧ i < (ks.length : Int) then ks[i.toNat]? else none := by
        unfold aft opts
        rw [optT_find]
        by_cases c : 0 ≤ i ∧ i < (ks.length : Int)
        · rw [if_pos (by omega), if_pos c]
          simp only [Int.sub_zero, Int.ofNat_zero, Int.natCast_zero, Int.cast_ofNat_Int]
          cases ks[i.toNat]? <;> rfl
        · rw [if_neg (by omega), if_neg c]
          rfl
      refine w_chain ?_
      walk_at "go"
      refine w_iteD (fun c1 => ?_) (fun c1 => ?_)
      · walk_at "go"
        rw [Kd.ds_length]
        refine w_iteD (fun c2 => ?_) (fun c2 => ?_)
        · rw [if_pos ⟨c1, c2⟩] at e
          have hlt : i.toNat < ks.length := by omega
          rw [List.getElem?_eq_getElem hlt] at e
          walk_at "go"
          refine x_D (by assumption) (at_nat (j := i.toNat) (by omega) (Kd.ds_at (List.getElem?_eq_getElem hlt))) fun u ru => ?_
          exact q1 _ e u H Ext.refl ru
        · walk_at "go"
          exact ⟨Ext.refl, by rw [e, if_neg (by omega)]⟩
      · walk_at "go"
        exact ⟨Ext.refl, by rw [e, if_neg (by omega)]⟩
    case recd n =>
      obtain ⟨r, hr1, hr2, rfl⟩ := find_row hkn
      walk_at "go"
      refine ⟨rv, r.1, rows, r, rfl, hrv, hr1, fun u ru => ?_⟩
      walk_at "go"
      exact fields r (fun _ _ => hr1) rfl _ _ ru rfl (fun e w3 w4 H' x => ⟨x, e⟩)
    all_goals (walk_at "go"; exact ⟨by walk_at "ext", by simp [aft, opts, D.eqv]⟩)
  · have := hs.strI
    subst this
    by_cases c1 : t = "?"
    · subst c1
      cases k <;> rw [Kd.d] at hv
      case maybe k =>
        walk_at "go"
        try rw [decide_eq_true rfl]
        walk_at "go"
        exact q1 k (by simp [aft, opts, D.eqv]) _ _ Ext.refl (by assumption)
      case recd n =>
        have e := hnf rfl "?" (.inl rfl)
        walk_at "go"
        try rw [decide_eq_true rfl]
        walk_at "go"
        exact ⟨by walk_at "ext", e⟩
      case tuple ks =>
        walk_at "go"
        try rw [decide_eq_true rfl]
        walk_at "go"
        exact ⟨by walk_at "ext", by simp [aft, opts, optT_find_str]⟩
      all_goals
        walk_at "go"
        try rw [decide_eq_true rfl]
        walk_at "go"
        refine ⟨by walk_at "ext", ?_⟩
        simp [aft, opts, D.eqv] <;> decide +kernel
    by_cases c2 : t = "^"
    · subst c2
      have d1 : decide (("^" : Str) = "?") = false := by decide +kernel
      cases k <;> rw [Kd.d] at hv
      case recd n =>
        have e := hnf rfl "^" (.inr rfl)
        walk_at "go"
        try rw [decide_eq_true rfl]
        walk_at "go"
        exact ⟨by walk_at "ext", e⟩
      case tuple ks =>
        walk_at "go"
        try rw [decide_eq_true rfl]
        walk_at "go"
        exact ⟨by walk_at "ext", by simp [aft, opts, optT_find_str]⟩
      case box k =>
        walk_at "go"
        try rw [decide_eq_true rfl]
        walk_at "go"
        exact q1 k (by simp [aft, opts, D.eqv]) _ _ (by walk_at "ext") (by assumption)
      case shared k =>
        walk_at "go"
        try rw [decide_eq_true rfl]
        walk_at "go"
        exact q1 k (by simp [aft, opts, D.eqv]) _ _ (by walk_at "ext") (by assumption)
      case excl k =>
        walk_at "go"
        try rw [decide_eq_true rfl]
        walk_at "go"
        exact q1 k (by simp [aft, opts, D.eqv]) _ _ (by walk_at "ext") (by assumption)
      all_goals
        walk_at "go"
        try rw [decide_eq_true rfl]
        walk_at "go"
        refine ⟨by walk_at "ext", ?_⟩
        simp [aft, opts, D.eqv] <;> decide +kernel
    · have d1 : decide (t = "?") = false := by simpa using c1
      have d2 : decide (t = "^") = false := by simpa using c2
      have n1 : ¬ ("?" : Str) = t := fun e => c1 e.symm
      have n2 : ¬ ("^" : Str) = t := fun e => c2 e.symm
      cases k <;> rw [Kd.d] at hv
      case tuple ks =>
        walk_at "go"
        exact ⟨by walk_at "ext", by simp [aft, opts, optT_find_str]⟩
      case recd n =>
        obtain ⟨r, hr1, hr2, rfl⟩ := find_row hkn
        walk_at "go"
        refine ⟨rv, r.1, rows, r, rfl, hrv, hr1, fun u ru => ?_⟩
        walk_at "go"
        exact fields r (fun _ _ => hr1) rfl _ _ ru rfl (fun e w3 w4 H' x => ⟨x, e⟩)
      all_goals (walk_at "go"; exact ⟨by walk_at "ext", by simp [aft, opts, D.eqv, n1, n2]⟩)
end

section
variable {K : PySem.W.Frag}
theorem pure_l_options (A : Ad) (vs : List V) (H : Hp) (Q : VK) (E : XK) (h : sp_l_options K A vs H Q E) : t_l_options K A (bd Q) (start N_l_options vs) H := by
  obtain ⟨rv, v, rows, k, rfl, hrv, hv, hg, h6, q⟩ := h
  show t_l_options K A (bd Q) [some rv, some v, none, none] H
  unfold t_l_options
  cases k <;> rw [Kd.d] at hv <;> rw [Kd.good] at hg
  case maybe k =>
    walk_at "go"
    rename_i u H1 x1 r1
    refine w_newL (by walk_at "len") (fun p H2 hp x2 e2 => ?_)
    exact q p H2 _ (x1.trans x2) (x1.free hp (by simp)) e2 (.cons (r1.ts x2.ts) .nil)
  case box k =>
    walk_at "go"
    rename_i u H1 x1 r1
    refine w_newL (by walk_at "len") (fun p H2 hp x2 e2 => ?_)
    have X : Ext [] H H2 := by walk_at "ext"
    exact q p H2 _ X (Ext.free (H := H) (S := []) (by walk_at "ext") hp (by simp)) e2 (.cons (r1.ts x2.ts) .nil)
  case shared k =>
    walk_at "go"
    rename_i u H1 x1 r1
    refine w_newL (by walk_at "len") (fun p H2 hp x2 e2 => ?_)
    have X : Ext [] H H2 := by walk_at "ext"
    exact q p H2 _ X (Ext.free (H := H) (S := []) (by walk_at "ext") hp (by simp)) e2 (.cons (r1.ts x2.ts) .nil)
  case excl k =>
    walk_at "go"
    rename_i u H1 x1 r1
    refine w_newL (by walk_at "len") (fun p H2 hp x2 e2 => ?_)
    have X : Ext [] H H2 := by walk_at "ext"
    exact q p H2 _ X (Ext.free (H := H) (S := []) (by walk_at "ext") hp (by simp)) e2 (.cons (r1.ts x2.ts) .nil)
  case tuple ks =>
    simp only [Bool.and_eq_true, decide_eq_true_eq] at hg
    have hlen : (Kd.ds ks).length ≤ 6 := by rw [Kd.ds_length]; omega
    walk_at "go"
    rename_i H1 x1 u1 ru1
    have hb : Ext [] H H1 := by walk_at "ext"
    intro L hL
    refine c_rng (fun i H' acc => Ext [] H1 H' ∧ RpAll K H' acc (((optT 0 ks).take i).map fun o => .tup [o.1, o.2.d])) hL ?_ ?_ ?_
    · intro H2 e l
      exact ⟨e, .nil⟩
    · rintro i H2 acc hi e1 e2 ⟨x, r2⟩
      have hi2 : i < ks.length := by
        rw [Kd.ds_length] at hi
        omega
      have hk := List.getElem?_eq_getElem hi2
      walk_at "go"
      refine x_D (by assumption) (at_nat (j := i) (by omega) (Kd.ds_at hk)) fun u ru => ?_
      walk_at "go"
      rename_i w H3 x3 r3
      refine turn1 (x3.same _ _ e1) e2 (line_of (by omega)) fun H4 x4 l4 => ⟨(x.trans x3).out hL x4, ?_⟩
      rw [optT_take hk, List.map_append]
      refine ((r2.ts x3.ts).ts x4.ts).append (.cons ?_ .nil)
      have e : ((0 + i : Nat) : Int) = 0 + (i : Int) := by omega
      show Rp K H4 w (.tup [.int ((0 + i : Nat) : Int), ks[i].d])
      rw [e]
      exact r3.ts x4.ts
    · rintro H2 acc e1 ⟨x, r2⟩
      rw [List.take_of_length_le (by rw [optT_len, Kd.ds_length]; omega)] at r2
      exact q L H2 acc (hb.trans x) (hb.free hL (by simp)) e1 r2
  case recd n =>
    walk_at "go"
    have hop : ∀ {r}, rows.find? (fun r => decide (r.1 = n)) = some r → _ := fun {r} h => opts_some (rows := rows) (n := n) (r := r) h
    rename_i H1 x1 ra
    have hb : Ext [] H H1 := x1
    have hrv1 : Rp K H1 (.ref ra) (.tup (rows.map rowD)) := hrv.ts hb.ts
    refine f_tup (ds := rows.map rowD) (fun i σ H' => H' = H1 ∧ ∃ w2 w3, σ = [some _, some v, w2, w3] ∧ ∀ j r', j < i → rows[j]? = some r' → r'.1 ≠ n) ⟨rfl, _, _, rfl, fun j r' hj => by omega⟩ ?_ ?_ ?_
    · rintro i σ H' _ ⟨rfl, _⟩
      exact hrv1
    · rintro i d u σ H' hd hu ⟨rfl, w2, w3, rfl, hno⟩
      rw [List.getElem?_map] at hd
      obtain ⟨r2, hr2, rfl⟩ := Option.map_eq_some_iff.mp hd
      have hu2 : Rp K H' u (.tup [.str r2.1, .tup (r2.2.map flD)]) := hu
      have hvn : Rp K H v (.tup [.str "record", .str n]) := hv
      walk_at "go"
      refine w_iteD (fun c => ?_) (fun c => ?_)
      · have ff : rows.find? (fun r => decide (r.1 = n)) = some r2 := by
          obtain ⟨h1, h2⟩ := List.getElem?_eq_some_iff.mp hr2
          rw [List.find?_eq_some_iff_append]
          refine ⟨by simpa using c, rows.take i, rows.drop (i + 1), ?_, ?_⟩
          · rw [← h2, ← List.drop_eq_getElem_cons h1, List.take_append_drop]
          · intro r' hr'
            obtain ⟨j, hj⟩ := List.getElem?_of_mem hr'
            have hji : j < i := by
              have := (List.getElem?_eq_some_iff.mp hj).1
              rw [List.length_take] at this
              omega
            rw [List.getElem?_take_of_lt hji] at hj
            simpa using hno j r' hji hj
        walk_at "go"
        rename_i y ry
        refine b_lstT ry fun p H2 xs hp x2 e2 r3 => ?_
        refine q p H2 xs (hb.trans x2) (hb.free hp (by simp)) e2 ?_
        rw [opts_some ff, List.map_map]
        exact r3
      · refine ⟨rfl, _, _, rfl, fun j r' hj hr' => ?_⟩
        by_cases e : j = i
        · rw [e, hr2] at hr'
          cases hr'
          exact c
        · exact hno j r' (by omega) hr'
    · rintro σ H' ⟨rfl, w2, w3, rfl, hno⟩
      have ff : rows.find? (fun r => decide (r.1 = n)) = none := by
        rw [List.find?_eq_none]
        intro r hr
        obtain ⟨j, hj⟩ := List.getElem?_of_mem hr
        have := (List.getElem?_eq_some_iff.mp hj).1
        simpa using hno j r (by simpa using this) hj
      walk_at "go"
      refine w_newL (by walk_at "len") (fun p H2 hp x2 e2 => ?_)
      refine q p H2 _ (hb.trans x2) (hb.free hp (by simp)) e2 ?_
      rw [opts_none ff]
      exact .nil
  all_goals
    walk_at "go"
    refine w_newL (by walk_at "len") (fun p H2 hp x2 e2 => ?_)
    exact q p H2 _ (by walk_at "ext") (Ext.free (H := H) (S := []) (by walk_at "ext") hp (by simp)) e2 .nil
theorem rows_get {H : Hp} {rv : V} {rows : List Row} {r : Int} (hrv : Rp K H rv (.tup (rows.map rowD))) (h0 : 0 ≤ r) (h1 : r < (rows.length : Int)) : ∃ w, w ∈ rows ∧ atI (rows.map rowD) r = some (rowD w) := by
  have hk : r.toNat < rows.length := by omega
  exact ⟨rows[r.toNat], List.getElem_mem hk, at_nat (j := r.toNat) (by omega) (by rw [List.getElem?_map, List.getElem?_eq_getElem hk]; rfl)⟩
theorem pure_l_step (A : Ad) (vs : List V) (H : Hp) (Q : VK) (E : XK) (h : sp_l_step K A vs H Q E) : t_l_step K A (bd Q) (start N_l_step vs) H := by
  obtain ⟨st, sc, rv, rows, rfl, T, hrv, R, q⟩ := h
  show t_l_step K A (bd Q) [some (.ref st), some (.ref sc), some rv, none, none, none] H
  unfold t_l_step
  walk_at "gs"
  refine ⟨st, sc, _, rfl, T, by omega, by omega, fun c H1 c0 c1 x1 T1 => ?_⟩
  have cc : c = 0 ∨ c = 1 ∨ c = 2 ∨ c = 3 ∨ c = 4 := by omega
  rcases cc with rfl | rfl | rfl | rfl | rfl
  · walk_at "go"
    exact q _ _ _ x1 T1 (.str _) (.inr ⟨_, rfl⟩)
  · walk_at "go"
    exact q _ _ _ x1 T1 (.str _) (.inr ⟨_, rfl⟩)
  · walk_at "go"
    refine w_newL (by walk_at "len") (fun p H2 hp x2 e2 => ?_)
    have T2 := T1.same x2
    have np := T1.new hp
    walk_at "go"
    refine ⟨st, sc, _, rfl, T2, by omega, by omega, fun r H3 r0 r1 x3 T3 => ?_⟩
    have e3 := x3.keep _ _ e2 (by simpa using np)
    walk_at "go"
    refine w_newL (by walk_at "len") (fun p4 H4 hp4 x4 e4 => ?_)
    have T4 := T3.same x4
    walk_at "go"
    refine m_rep e4 (by omega) (by omega) (le_line (by show (1 : Nat) * 4 ≤ 1000; decide)) (fun p5 H5 hp5 x5 e5 => ?_)
    refine a_lst ((x4.trans x5).same _ _ e3) e5 (le_line (by show (4 : Nat) + 4 ≤ 1000; decide)) (fun p6 H6 hp6 x6 e6 => ?_)
    have T6 := (T4.same x5).same x6
    have np6 := (T4.same x5).new hp6
    walk_at "go"
    refine ⟨st, sc, _, rfl, T6, by omega, by omega, fun r7 H7 a0 a1 x7 T7 => ?_⟩
    have e7 := x7.keep _ _ e6 (by simpa using np6)
    have X : Ext [st] H H7 := (((((x1.trans x2.any).trans x3).trans x4.any).trans x5.any).trans x6.any).trans x7
    have gl : ∃ i : Int, atI ([V.int 8, V.int 100, V.int 2147483647, V.int (-2147483648)] ++ (List.replicate (4 : Int).toNat [V.int (r - 8)]).flatten) r7 = some (.int i) := by
      have c8 : r7 = 0 ∨ r7 = 1 ∨ r7 = 2 ∨ r7 = 3 ∨ r7 = 4 ∨ r7 = 5 ∨ r7 = 6 ∨ r7 = 7 := by omega
      rcases c8 with rfl | rfl | rfl | rfl | rfl | rfl | rfl | rfl <;> exact ⟨_, rfl⟩
    obtain ⟨i, hi⟩ := gl
    refine x_l e7 hi ?_
    exact q _ _ _ X T7 (.int _) (.inl ⟨_, rfl⟩)
  · walk_at "go"
    refine ⟨st, sc, rfl, T1, fun s H2 hs ls x2 T2 => ?_⟩
    exact q _ _ _ (x1.trans x2) T2 (.str _) (.inr ⟨_, rfl⟩)
  · have hne : 0 < rows.length := List.length_pos_iff.mpr R.ne
    have h9 := R.len
    have hrl : ((rows.map rowD).length : Int) = rows.length := by simp
    walk_at "go"
    rw [hrl]
    refine ⟨st, sc, _, rfl, T1, by omega, by omega, fun r H2 r0 r1 x2 T2 => ?_⟩
    have hrv2 : Rp K H2 rv (.tup (rows.map rowD)) := hrv.ts (x1.ts.trans x2.ts)
    obtain ⟨w, hw, ew⟩ := rows_get hrv2 r0 r1
    refine x_D hrv2 ew fun y ry => ?_
    have ry2 : Rp K H2 y (.tup [.str w.1, .tup (w.2.map flD)]) := ry
    obtain ⟨f1, f2⟩ := R.fl w hw
    have hfp : 0 < w.2.length := List.length_pos_iff.mpr f1
    have hfl : ((w.2.map flD).length : Int) = w.2.length := by simp
    walk_at "go"
    rw [hfl]
    rename_i y3 ry3
    refine ⟨st, sc, _, rfl, T2, by omega, by omega, fun r3 H3 a0 a1 x3 T3 => ?_⟩
    have hk : r3.toNat < w.2.length := by omega
    refine x_D (ry3.ts x3.ts) (at_nat (j := r3.toNat) (v := flD w.2[r3.toNat]) (by omega) (by rw [List.getElem?_map, List.getElem?_eq_getElem hk]; rfl)) fun y4 ry4 => ?_
    have ry5 : Rp K H3 y4 (.tup [.str (w.2[r3.toNat]).1, (w.2[r3.toNat]).2.d]) := ry4
    walk_at "go"
    exact q _ _ _ ((x1.trans x2).trans x3) T3 (.str _) (.inr ⟨_, rfl⟩)
end

section
variable {K : PySem.W.Frag}
def forms : List Kd := [.shared .int, .excl .bool, .shared (.box .int), .box .unit]
def okK (n : Nat) (k : Kd) : Prop := k.lev ≤ n ∧ k.good = true ∧ k.kn []
theorem forms_ok : ∀ k, k ∈ forms ++ [Kd.unit] → okK 3 k := by
  intro k hk
  simp only [forms, List.cons_append, List.nil_append, List.mem_cons, List.not_mem_nil, or_false] at hk
  rcases hk with rfl | rfl | rfl | rfl | rfl <;> exact ⟨by simp [Kd.lev], rfl, trivial⟩
theorem tup_ok {n : Nat} {ks : List Kd} (h : ∀ k, k ∈ ks → okK n k) (h2 : 1 ≤ ks.length) (h6 : ks.length ≤ 6) : okK (n + 1) (.tuple ks) := by
  refine ⟨?_, ?_, Kd.kns_of fun k hk => (h k hk).2.2⟩
  · have := Kd.levs_le (ks := ks) (n := n) fun k hk => (h k hk).1
    simp only [Kd.lev]
    omega
  · simp only [Kd.good, Bool.and_eq_true, decide_eq_true_eq]
    exact ⟨⟨h2, h6⟩, Kd.goods_of fun k hk => (h k hk).2.1⟩
/-- a list that was not there is of no matter -/
theorem Ext.less {S : List Addr} {p : Addr} {H H' : Hp} (e : Ext (p :: S) H H') (h : H p = none) : Ext S H H' :=
  ⟨fun b o q n => e.keep b o q (by simp only [List.mem_cons, not_or]; exact ⟨ne_of_none q h, n⟩), e.tup, e.frz⟩
theorem pure_l_wide (A : Ad) (vs : List V) (H : Hp) (Q : VK) (E : XK) (h : sp_l_wide K A vs H Q E) : t_l_wide K A (bd Q) (start N_l_wide vs) H := by
  obtain ⟨st, sc, rfl, T, q⟩ := h
  show t_l_wide K A (bd Q) [some (.ref st), some (.ref sc), none, none, none, none, none] H
  unfold t_l_wide
  walk_at "go"
  rename_i a1 H1 y1 s1 a2 H2 y2 s2 a3 H3 y3 s3 a4 H4 y4 s4 a5 H5 y5 s5 a6 H6 y6 s6 a7 H7 y7 s7 a8 H8 y8 s8 a9 H9 y9 s9
  have F9 : RpAll K H9 [a2, a4, a7, a9] (Kd.ds forms) := by
    refine .cons ?_ (.cons ?_ (.cons ?_ (.cons ?_ .nil)))
    · exact s2.ts ((((((y3.trans y4).trans y5).trans y6).trans y7).trans y8).trans y9).ts
    · exact s4.ts ((((y5.trans y6).trans y7).trans y8).trans y9).ts
    · exact s7.ts (y8.trans y9).ts
    · exact s9
  have X9 : Ext [] H H9 := (((((((y1.trans y2).trans y3).trans y4).trans y5).trans y6).trans y7).trans y8).trans y9
  refine w_newL (by walk_at "len") (fun F H10 hF x10 e10 => ?_)
  walk_at "go"
  refine w_newL (by walk_at "len") (fun L H11 hL x11 e11 => ?_)
  have T11 := ((T.same X9).same x10).same x11
  have F11 := (F9.ts x10.ts).ts x11.ts
  have e10' := x11.same _ _ e10
  have X11 := (X9.trans x10).trans x11
  have hLF : ¬ F = L := ne_of_none e10 hL
  have nL : L ≠ st := ((T.same X9).same x10).new hL
  have nF : F ≠ st := (T.same X9).new hF
  have oL : Off K sc L := ((T.same X9).same x10).off hL
  walk_at "go"
  refine ⟨st, sc, _, rfl, T11, by omega, by omega, fun m H12 m0 m1 x12 T12 => ?_⟩
  walk_at "go"
  refine f_rng (fun i σ H' => ∃ (ks : List Kd) (xs : List V) (w4 w5 w6 : Option V), σ = [some (.ref st), some (.ref sc), some (.ref F), some (.ref L), w4, w5, w6] ∧ ks.length = i ∧ Ext [L, st] H10 H' ∧ Pk K H' st sc ∧ H' F = some (.lst [a2, a4, a7, a9]) ∧ RpAll K H' [a2, a4, a7, a9] (Kd.ds forms) ∧ H' L = some (.lst xs) ∧ RpAll K H' xs (Kd.ds ks) ∧ ∀ k, k ∈ ks → okK 4 k) ?_ ?_ ?_
  · exact ⟨[], [], _, _, _, rfl, rfl, x11.any.trans (x12.wide (by simp)), T12, x12.keep _ _ e10' (by simpa using nF), F11.ts x12.ts, x12.keep _ _ e11 (by simpa using nL), .nil, fun k hk => absurd hk (by simp)⟩
  · rintro i σ H13 hi ⟨ks, xs, w4, w5, w6, rfl, lks, x13, T13, eF, rF, eL, rL, okk⟩
    have lxs := rL.length
    rw [Kd.ds_length] at lxs
    walk_at "go"
    refine w_newL (by walk_at "len") (fun I H14 hI x14 e14 => ?_)
    have T14 := T13.same x14
    have nI : I ≠ st := T13.new hI
    have hIF : ¬ F = I := ne_of_none eF hI
    have hIL : ¬ L = I := ne_of_none eL hI
    have oI : Off K sc I := T13.off hI
    walk_at "go"
    refine ⟨st, sc, _, rfl, T14, by omega, by omega, fun m2 H15 n0 n1 x15 T15 => ?_⟩
    walk_at "go"
    refine f_rng (fun j σ H' => ∃ (js : List Kd) (ys : List V) (w6 : Option V), σ = [some (.ref st), some (.ref sc), some (.ref F), some (.ref L), some (.int (0 + i)), some (.ref I), w6] ∧ js.length = j ∧ Ext [I, st] H13 H' ∧ Pk K H' st sc ∧ H' I = some (.lst ys) ∧ RpAll K H' ys (Kd.ds js) ∧ ∀ k, k ∈ js → okK 3 k) ?_ ?_ ?_
    · exact ⟨[], [], _, rfl, rfl, x14.any.trans (x15.wide (by simp)), T15, x15.keep _ _ e14 (by simpa using nI), .nil, fun k hk => absurd hk (by simp)⟩
    · rintro j σ H16 hj ⟨js, ys, w6, rfl, ljs, x16, T16, eI, rI, okj⟩
      have lys := rI.length
      rw [Kd.ds_length] at lys
      have eF16 := x16.keep _ _ eF (by simp; exact ⟨hIF, nF⟩)
      have rF16 := rF.ts x16.ts
      walk_at "go"
      refine ⟨ty_l eI, ?_⟩
      walk_at "go"
      rename_i u17 H17 x17 r17
      refine w_newL (by walk_at "len") (fun p18 H18 hp18 x18 e18 => ?_)
      refine a_lst ((x17.trans x18).same _ _ eF16) e18 (le_line (by show (4 : Nat) + 1 ≤ 1000; decide)) (fun p19 H19 hp19 x19 e19 => ?_)
      have X19 : Ext [] H16 H19 := (x17.trans x18).trans x19
      have n19 : p19 ≠ st := ((T16.same x17).same x18).new hp19
      walk_at "go"
      refine ⟨st, sc, _, rfl, T16.same X19, by omega, by omega, fun r H20 r0 r1 x20 T20 => ?_⟩
      have rA : RpAll K H20 ([a2, a4, a7, a9] ++ [u17]) (Kd.ds (forms ++ [Kd.unit])) := (rF16.ts (X19.ts.trans x20.ts)).append (.cons (r17.ts (((x18.trans x19).ts).trans x20.ts)) .nil)
      have hr5 : r.toNat < (forms ++ [Kd.unit]).length := by
        show r.toNat < 5
        omega
      obtain ⟨v, hv, rv⟩ := rA.getD (Kd.ds_at (List.getElem?_eq_getElem hr5))
      refine x_l (x20.keep _ _ e19 (by simpa using n19)) (at_nat (j := r.toNat) (by omega) hv) ?_
      have X20 : Ext [st] H16 H20 := X19.any.trans x20
      walk_at "go"
      refine m_app (X20.keep _ _ eI (by simpa using nI)) (line_of (by omega)) (fun H21 x21 e21 => ?_)
      walk_at "go"
      refine ⟨js ++ [(forms ++ [Kd.unit])[r.toNat]], _, _, rfl, by simp [ljs], (x16.trans (X20.wide (by simp))).trans (x21.wide (by simp)), T20.far x21 nI oI, e21, ?_, fun k hk => ?_⟩
      · rw [Kd.ds_map, List.map_append, ← Kd.ds_map]
        exact ((rI.ts X20.ts).ts x21.ts).append (.cons (rv.ts x21.ts) .nil)
      · rcases List.mem_append.mp hk with hk | hk
        · exact okj k hk
        · rw [List.mem_singleton.mp hk]
          exact forms_ok _ (List.getElem_mem hr5)
    · rintro σ H16 ⟨js, ys, w6, rfl, ljs, x16, T16, eI, rI, okj⟩
      have x16' : Ext [st] H13 H16 := Ext.less x16 hI
      have eL16 := x16'.keep _ _ eL (by simpa using nL)
      walk_at "go"
      refine ⟨ty_l eL16, ?_⟩
      walk_at "go"
      refine b_tupl eI rI (fun u H17 x17 r17 => ?_)
      walk_at "go"
      rename_i v H18 x18 r18
      refine m_app ((x17.trans x18).same _ _ eL16) (line_of (by omega)) (fun H19 x19 e19 => ?_)
      walk_at "go"
      have X : Ext [L, st] H13 H19 := ((x16'.wide (by simp)).trans (x17.trans x18).any).trans (x19.wide (by simp))
      refine ⟨ks ++ [.tuple js], _, _, _, _, rfl, by simp [lks], x13.trans X, (T16.same (x17.trans x18)).far x19 nL oL, X.keep _ _ eF (by simp; exact ⟨hLF, nF⟩), rF.ts X.ts, e19, ?_, fun k hk => ?_⟩
      · rw [Kd.ds_map, List.map_append, ← Kd.ds_map]
        refine (((rL.ts x16.ts).ts (x17.trans x18).ts).ts x19.ts).append (.cons ?_ .nil)
        exact r18.ts x19.ts
      · rcases List.mem_append.mp hk with hk | hk
        · exact okk k hk
        · rw [List.mem_singleton.mp hk]
          exact tup_ok okj (by omega) (by omega)
  · rintro σ H13 ⟨ks, xs, w4, w5, w6, rfl, lks, x13, T13, eF, rF, eL, rL, okk⟩
    walk_at "go"
    refine b_tupl eL rL (fun u H14 x14 r14 => ?_)
    walk_at "go"
    rename_i v H15 x15 r15
    obtain ⟨o1, o2, o3⟩ := tup_ok okk (by omega) (by omega)
    have X : Ext [st] H10 H13 := Ext.less x13 hL
    exact q v H15 (.tuple ks) (((X9.trans x10).any.trans X).trans (x14.trans x15).any) (T13.same (x14.trans x15)) r15 (by omega) o2 o3
theorem pure_l_any_kind (A : Ad) (vs : List V) (H : Hp) (Q : VK) (E : XK) (h : sp_l_any_kind K A vs H Q E) : t_l_any_kind K A (bd Q) (start N_l_any_kind vs) H := by
  obtain ⟨st, sc, p, ss, rfl, T, es, nps, hl, q⟩ := h
  show t_l_any_kind K A (bd Q) [some (.ref st), some (.ref sc), some (.ref p), none, none, none] H
  unfold t_l_any_kind
  have np : p ∉ [st] := by simpa using nps
  walk_at "go"
  refine ⟨st, sc, _, rfl, T, by omega, by omega, fun c H1 c0 c1 x1 T1 => ?_⟩
  have es1 := es.keep x1 np
  walk_at "go"
  refine w_iteD (fun b1 => ?_) (fun b1 => ?_)
  · walk_at "go"
    refine ⟨st, sc, rfl, T1, fun u H2 k x2 T2 rk lk gk nk => ?_⟩
    exact q u H2 k (x1.trans x2) T2 rk lk gk (Kd.kn_sub (fun n hn => absurd hn (by simp)) k nk)
  obtain ⟨⟨a, b, d, e, est, ra⟩, hns, hne⟩ := T1
  walk_at "go"
  rename_i H2 x2 e2
  have T2 : Pk K H2 st sc := ⟨⟨_, _, _, _, e2, ra⟩, (hne.keep hns x2), hne⟩
  have es2 := es1.keep x2 np
  have X2 := x1.trans x2
  refine ⟨st, sc, _, rfl, T2, by omega, by omega, fun c3 H3 d0 d1 x3 T3 => ?_⟩
  have es3 := es2.keep x3 np
  walk_at "go"
  refine w_iteD (fun b2 => ?_) (fun b2 => ?_)
  · walk_at "go"
    refine ⟨st, sc, p, ss, _, _, rfl, T3, es3, nps, hl, by omega, by omega, by omega, fun u H4 k x4 T4 rk lk gk nk => ?_⟩
    exact q u H4 k ((X2.trans x3).trans x4) T4 rk (by omega) gk nk
  walk_at "go"
  refine ⟨st, sc, p, ss, _, _, rfl, T3, es3, nps, hl, by omega, by omega, by omega, fun u H4 k x4 T4 rk lk gk nk => ?_⟩
  walk_at "go"
  refine ⟨st, sc, _, rfl, T4, by omega, by omega, fun m H5 m0 m1 x5 T5 => ?_⟩
  walk_at "go"
  refine f_rng (fun i σ H' => ∃ (v : V) (k : Kd) (w4 w5 : Option V), σ = [some (.ref st), some (.ref sc), some (.ref p), some v, w4, w5] ∧ Ext [st] H H' ∧ Pk K H' st sc ∧ Rp K H' v k.d ∧ k.lev ≤ 2 + i ∧ k.good = true ∧ k.kn ss) ?_ ?_ ?_
  · exact ⟨u, k, _, _, rfl, ((X2.trans x3).trans x4).trans x5, T5, rk.ts x5.ts, by omega, gk, nk⟩
  · rintro i σ H6 hi ⟨v, k, w4, w5, rfl, x6, T6, rv, lv, gv, nv⟩
    walk_at "go"
    refine ⟨st, sc, _, rfl, T6, by omega, by omega, fun c7 H7 e0 e1 x7 T7 => ?_⟩
    have rv7 := rv.ts x7.ts
    have X7 := x6.trans x7
    have wrap : ∀ (D0 : Ends) (H8 : Hp), Ext [] H7 H8 → (∀ σ H', (∃ (v : V) (k : Kd) (w4 w5 : Option V), σ = [some (.ref st), some (.ref sc), some (.ref p), some v, w4, w5] ∧ Ext [st] H H' ∧ Pk K H' st sc ∧ Rp K H' v k.d ∧ k.lev ≤ 2 + (i + 1) ∧ k.good = true ∧ k.kn ss) → D0.nx σ H') →
        (tIfS (tTest (tOp (rEqG K) (tVar 5) (tC (.int 3)))) (tAsg (tTupK K (tCons (tC (.str "tuple")) (tCons (tTupK K (tCons (tTupK K (tCons (tC (.str "unit")) tNil)) (tCons (tVar 3) tNil))) tNil))) (gName 3)) (tAsg (tTupK K (tCons (tC (.str "maybe")) (tCons (tVar 3) tNil))) (gName 3))) D0 [some (.ref st), some (.ref sc), some (.ref p), some v, some (.int (0 + i)), some (.int c7)] H8 := by
      intro D0 H78 x78 hnx
      have hv : Rp K H78 v k.d := rv7.ts x78.ts
      walk_at "go"
      refine w_iteD (fun b3 => ?_) (fun b3 => ?_)
      · walk_at "go"
        rename_i a1 H8 x8 r8 a2 H9 x9 r9 a3 H10 x10 r10
        refine hnx _ _ ⟨_, .tuple [.unit, k], _, _, rfl, (X7.trans x78.any).trans ((x8.trans x9).trans x10).any, (T7.same x78).same ((x8.trans x9).trans x10), r10, ?_, ?_, ?_⟩
        · simp only [Kd.lev, Kd.levs]
          omega
        · simp [Kd.good, Kd.goods, gv]
        · exact ⟨trivial, nv, trivial⟩
      · walk_at "go"
        rename_i a1 H8 x8 r8
        exact hnx _ _ ⟨_, .maybe k, _, _, rfl, (X7.trans x78.any).trans x8.any, (T7.same x78).same x8, r8, by simp only [Kd.lev]; omega, gv, nv⟩
    walk_at "go"
    refine w_iteD (fun b4 => ?_) (fun b4 => ?_)
    · walk_at "go"
      refine ⟨v, k, rfl, rv7, by omega, fun pl H8 x8 => ?_⟩
      walk_at "go"
      cases pl with
      | true =>
        walk_at "go"
        refine w_newL (by walk_at "len") (fun l9 H9 hl9 x9 e9 => ?_)
        have rv9 := (rv7.ts x8.ts).ts x9.ts
        have X9 := (X7.trans x8.any).trans x9.any
        have T9 := (T7.same x8).same x9
        have cc : c7 = 0 ∨ c7 = 1 ∨ c7 = 2 := by omega
        rcases cc with rfl | rfl | rfl
        · walk_at "go"
          rename_i v2 H4 x4 r4
          exact ⟨_, .box k, _, _, rfl, X9.trans x4.any, T9.same x4, r4, by simp only [Kd.lev]; omega, gv, nv⟩
        · walk_at "go"
          rename_i v2 H4 x4 r4
          exact ⟨_, .shared k, _, _, rfl, X9.trans x4.any, T9.same x4, r4, by simp only [Kd.lev]; omega, gv, nv⟩
        · walk_at "go"
          rename_i v2 H4 x4 r4
          exact ⟨_, .excl k, _, _, rfl, X9.trans x4.any, T9.same x4, r4, by simp only [Kd.lev]; omega, gv, nv⟩
      | false =>
        refine w_iteF rfl ?_
        exact wrap _ H8 x8 fun _ _ h => h
    · exact wrap _ H7 Ext.refl fun _ _ h => h
  · rintro σ H6 ⟨v, k, w4, w5, rfl, x6, T6, rv, lv, gv, nv⟩
    walk_at "go"
    exact q v H6 k x6 T6 rv (by omega) gv nv
end

section
variable {K : PySem.W.Frag}
theorem rows_names {rows : List Row} : (rows.map rowD).length = rows.length := by simp
theorem pure_l_small_kind (A : Ad) (vs : List V) (H : Hp) (Q : VK) (E : XK) (h : sp_l_small_kind K A vs H Q E) : t_l_small_kind K A (bd Q) (start N_l_small_kind vs) H := by
  obtain ⟨st, sc, rv, rows, rfl, T, hrv, R, q⟩ := h
  show t_l_small_kind K A (bd Q) [some (.ref st), some (.ref sc), some rv, none, none] H
  unfold t_l_small_kind
  have h9 := R.len
  walk_at "go"
  intro L hL
  have nL := T.new hL
  refine c_tup (ds := rows.map rowD) (fun i H' acc => Ext [] H H' ∧ acc = (((rows.map Prod.fst).take i).map V.str)) hL ?_ ?_ ?_ ?_
  · rintro i H' acc _ ⟨x, _⟩
    exact hrv.ts x.ts
  · intro H1 x1 e1
    exact ⟨x1, rfl⟩
  · rintro i d u H1 acc hd hu e1 e2 ⟨x1, rfl⟩
    rw [List.getElem?_map] at hd
    obtain ⟨r, hr, rfl⟩ := Option.map_eq_some_iff.mp hd
    have hi := (List.getElem?_eq_some_iff.mp hr).1
    have hu2 : Rp K H1 u (.tup [.str r.1, .tup (r.2.map flD)]) := hu
    walk_at "go"
    refine turn1 (acc := _) e1 e2 (line_of (by omega)) (fun H4 x4 e5 => ⟨x1.out hL x4, ?_⟩)
    rw [List.take_succ, List.map_append, List.getElem?_map, hr]
    rfl
  · rintro H1 acc e1 ⟨x1, rfl⟩
    rw [List.length_map] at e1
    rw [List.take_of_length_le (by simp)] at e1
    walk_at "go"
    refine ⟨st, sc, L, rows.map Prod.fst, rfl, T.same x1, e1, nL, by simp; omega, fun u H2 k x2 T2 rk lk gk nk => ?_⟩
    obtain ⟨g, g45, hg⟩ := R.rk
    have hrv2 : Rp K H2 _ (.tup (rows.map rowD)) := hrv.ts (x1.ts.trans x2.ts)
    walk_at "go"
    refine ⟨_, _, rows, k, g, rows.map Prod.fst, rfl, .inl hrv2, ⟨hg, fun r hr => (R.fl r hr).2⟩, rk, by omega, by omega, nk, g45, gk, fun r hr f hf => (R.kd r hr f hf).2.2, fun b H3 x3 => ?_⟩
    have X3 : Ext [st] H H3 := (x1.any.trans x2).trans x3.any
    walk_at "go"
    cases b with
    | true =>
      walk_at "go"
      exact q _ _ k X3 (T2.same x3) (rk.ts x3.ts) lk gk nk
    | false =>
      walk_at "go"
      have hne : 0 < rows.length := List.length_pos_iff.mpr R.ne
      refine x_D (hrv2.ts x3.ts) (at_nat (j := 0) (v := rowD rows[0]) rfl (by rw [List.getElem?_map, List.getElem?_eq_getElem hne]; rfl)) fun y ry => ?_
      have ry2 : Rp K H3 y (.tup [.str rows[0].1, .tup (rows[0].2.map flD)]) := ry
      walk_at "go"
      rename_i v H4 x4 r4
      refine q v H4 (.recd rows[0].1) (X3.trans x4.any) ((T2.same x3).same x4) r4 (by simp [Kd.lev]) rfl ?_
      exact List.mem_map.mpr ⟨rows[0], List.getElem_mem hne, rfl⟩
end

/-- a rank for the names -/
theorem rank_of : ∀ {ss : List Str} (f : Nat → Nat), ss.Nodup → ∃ g : Str → Nat, (∀ i (h : i < ss.length), g (ss[i]'h) = f i) ∧ ∀ n, n ∉ ss → g n = 0
  | [], f, _ => ⟨fun _ => 0, fun i h => absurd h (by simp), fun _ _ => rfl⟩
  | x :: r, f, h => by
    obtain ⟨h1, h2⟩ := List.nodup_cons.mp h
    obtain ⟨g, g1, g2⟩ := rank_of (ss := r) (fun i => f (i + 1)) h2
    refine ⟨fun n => if n = x then f 0 else g n, fun i hi => ?_, fun n hn => ?_⟩
    · cases i with
      | zero => simp
      | succ i =>
        have hi2 : i < r.length := by simpa using hi
        have : r[i] ≠ x := fun e => h1 (e ▸ List.getElem_mem hi2)
        simp only [List.getElem_cons_succ]
        rw [if_neg this]
        exact g1 i hi2
    · simp only [List.mem_cons, not_or] at hn
      show (if n = x then f 0 else g n) = 0
      rw [if_neg hn.1]
      exact g2 n hn.2
theorem rank45 {ss : List Str} (nd : ss.Nodup) (hl : ss.length ≤ 9) : ∃ g : Str → Nat, (∀ i (h : i < ss.length), g (ss[i]'h) = 5 * (i + 1)) ∧ ∀ n, g n ≤ 45 := by
  obtain ⟨g, g1, g2⟩ := rank_of (fun i => 5 * (i + 1)) nd
  refine ⟨g, g1, fun n => ?_⟩
  by_cases h : n ∈ ss
  · obtain ⟨i, hi, e⟩ := List.mem_iff_getElem.mp h
    rw [← e, g1 i hi]
    omega
  · rw [g2 n h]
    omega
/-- the rows so far -/
structure RowsP (g : Str → Nat) (ss : List Str) (rows : List Row) : Prop where
  nm : rows.map Prod.fst = ss.take rows.length
  fl : ∀ r, r ∈ rows → r.2 ≠ [] ∧ r.2.length ≤ 6
  wd : ∀ r, r ∈ rows → ∀ f, f ∈ r.2 → Wd f.1
  kd : ∀ r, r ∈ rows → ∀ f, f ∈ r.2 → f.2.kn ss ∧ f.2.lev ≤ 6 ∧ f.2.good = true
  rk : ∀ r, r ∈ rows → ∀ f, f ∈ r.2 → f.2.dp g ≤ g r.1
  fn : ∀ r, r ∈ rows → (r.2.map Prod.fst).Nodup
theorem RowsP.rkk {g : Str → Nat} {ss : List Str} {rows : List Row} (P : RowsP g ss rows) : Rk rows g := ⟨P.rk, fun r hr => (P.fl r hr).2⟩
theorem RowsP.turn {g : Str → Nat} {ss : List Str} {rows : List Row} (P : RowsP g ss rows) (nd : ss.Nodup) (hl : ss.length ≤ 9) (h1 : 1 ≤ rows.length) (hr : rows.length = ss.length) (hg : ∀ n, g n ≤ 45) (hsk : ∀ n, n ∈ ss → Sk n) (t : Nat) : RowsOk (rows.drop t ++ rows.take t) := by
  have mem : ∀ r, r ∈ rows.drop t ++ rows.take t → r ∈ rows := fun r h => by
    rcases List.mem_append.mp h with h | h
    · exact List.mem_of_mem_drop h
    · exact List.mem_of_mem_take h
  have pm : (rows.drop t ++ rows.take t).Perm rows := by
    have := List.perm_append_comm (l₁ := rows.drop t) (l₂ := rows.take t)
    rwa [List.take_append_drop] at this
  have nm : rows.map Prod.fst = ss := by
    rw [P.nm, hr, List.take_length]
  have sub : ∀ n, n ∈ ss → n ∈ (rows.drop t ++ rows.take t).map Prod.fst := fun n h => by
    rw [← nm] at h
    exact (pm.map Prod.fst).mem_iff.mpr h
  refine ⟨?_, ?_, ?_, fun r h => P.fl r (mem r h), fun r h => P.wd r (mem r h), fun r h => hsk r.1 (by rw [← nm]; exact List.mem_map.mpr ⟨r, mem r h, rfl⟩), fun r h => P.fn r (mem r h), fun r h f hf => ?_, g, hg, fun r h => P.rk r (mem r h)⟩
  · rw [(pm.map Prod.fst).nodup_iff, nm]
    exact nd
  · intro e
    have := pm.length_eq
    rw [e] at this
    simp at this
    omega
  · rw [pm.length_eq]
    omega
  · obtain ⟨a, b, c⟩ := P.kd r (mem r h) f hf
    exact ⟨Kd.kn_sub sub _ a, b, c⟩

theorem optT_all : ∀ {ks : List Kd} {i : Nat} {o : D × Kd}, o ∈ optT i ks → Stp o.1 ∧ o.2 ∈ ks
  | k :: ks, i, o, h => by
    rw [optT] at h
    rcases List.mem_cons.mp h with rfl | h
    · exact ⟨.inl ⟨_, rfl⟩, by simp⟩
    · obtain ⟨a, b⟩ := optT_all h
      exact ⟨a, by simp [b]⟩
theorem opts_all {rows : List Row} (R : RowsOk rows) {k : Kd} (lk : k.lev ≤ 6) (gk : k.good = true) : (opts rows k).length ≤ 6 ∧ ∀ o, o ∈ opts rows k → Stp o.1 ∧ o.2.lev ≤ 6 ∧ o.2.good = true := by
  cases k with
  | maybe k =>
    rw [Kd.lev] at lk
    rw [Kd.good] at gk
    refine ⟨by simp [opts], fun o ho => ?_⟩
    simp only [opts, List.mem_singleton] at ho
    subst ho
    exact ⟨.inr ⟨_, rfl⟩, by show k.lev ≤ 6; omega, gk⟩
  | box k =>
    rw [Kd.lev] at lk
    rw [Kd.good] at gk
    refine ⟨by simp [opts], fun o ho => ?_⟩
    simp only [opts, List.mem_singleton] at ho
    subst ho
    exact ⟨.inr ⟨_, rfl⟩, by show k.lev ≤ 6; omega, gk⟩
  | shared k =>
    rw [Kd.lev] at lk
    rw [Kd.good] at gk
    refine ⟨by simp [opts], fun o ho => ?_⟩
    simp only [opts, List.mem_singleton] at ho
    subst ho
    exact ⟨.inr ⟨_, rfl⟩, by show k.lev ≤ 6; omega, gk⟩
  | excl k =>
    rw [Kd.lev] at lk
    rw [Kd.good] at gk
    refine ⟨by simp [opts], fun o ho => ?_⟩
    simp only [opts, List.mem_singleton] at ho
    subst ho
    exact ⟨.inr ⟨_, rfl⟩, by show k.lev ≤ 6; omega, gk⟩
  | tuple ks =>
    rw [Kd.lev] at lk
    simp only [Kd.good, Bool.and_eq_true, decide_eq_true_eq] at gk
    refine ⟨by simp only [opts, optT_len]; omega, fun o ho => ?_⟩
    obtain ⟨a, b⟩ := optT_all (ks := ks) (i := 0) ho
    have := Kd.lev_mem b
    exact ⟨a, by omega, Kd.good_mem gk.2 b⟩
  | recd n =>
    cases e : rows.find? (fun r => decide (r.1 = n)) with
    | none =>
      rw [opts_none e]
      exact ⟨by simp, fun o ho => absurd ho (by simp)⟩
    | some r =>
      have hr := List.mem_of_find?_eq_some e
      rw [opts_some e]
      refine ⟨by rw [List.length_map]; exact (R.fl r hr).2, fun o ho => ?_⟩
      obtain ⟨f, hf, rfl⟩ := List.mem_map.mp ho
      exact ⟨.inr ⟨_, rfl⟩, (R.kd r hr f hf).2⟩
  | int => exact ⟨by simp [opts], fun o ho => absurd ho (by simp [opts])⟩
  | bool => exact ⟨by simp [opts], fun o ho => absurd ho (by simp [opts])⟩
  | unit => exact ⟨by simp [opts], fun o ho => absurd ho (by simp [opts])⟩
  | task k => exact ⟨by simp [opts], fun o ho => absurd ho (by simp [opts])⟩

section
variable {K : PySem.W.Frag}
theorem pure_l_records (A : Ad) (vs : List V) (H : Hp) (Q : VK) (E : XK) (h : sp_l_records K A vs H Q E) : t_l_records K A (bd Q) (start N_l_records vs) H := by
  obtain ⟨st, sc, rfl, T, q⟩ := h
  show t_l_records K A (bd Q) [some (.ref st), some (.ref sc), none, none, none, none, none, none, none, none] H
  unfold t_l_records
  walk_at "gs"
  refine w_newL (by walk_at "len") (fun N H1 hN x1 e1 => ?_)
  have nN : N ≠ st := T.new hN
  have oN : Off K sc N := T.off hN
  have T1 := T.same x1
  walk_at "gs"
  refine ⟨fun σ H' => ∃ (ss : List Str) (w3 : Option V), σ = [some (.ref st), some (.ref sc), some (.ref N), w3, none, none, none, none, none, none] ∧ 1 ≤ ss.length ∧ ss.length ≤ 9 ∧ (ss.Nodup ∧ ∀ n, n ∈ ss → Sk n) ∧ Ext [N, st] H H' ∧ Pk K H' st sc ∧ StrL H' N ss, ?_, ?_⟩
  · walk_at "go"
    refine ⟨st, sc, _, rfl, T1, by omega, by omega, fun r4 H4 a0 a1 x4 T4 => ?_⟩
    walk_at "go"
    have X4 : Ext [st] H1 H4 := x4
    refine f_rng (fun i σ H' => ∃ (ss : List Str) (w3 : Option V), σ = [some (.ref st), some (.ref sc), some (.ref N), w3, none, none, none, none, none, none] ∧ ss.length = i ∧ (ss.Nodup ∧ ∀ n, n ∈ ss → Sk n) ∧ Ext [N, st] H H' ∧ Pk K H' st sc ∧ StrL H' N ss) ?_ ?_ ?_
    · exact ⟨[], _, rfl, rfl, ⟨List.nodup_nil, fun n hn => absurd hn (by simp)⟩, x1.any.trans (X4.wide (by simp)), T4, X4.keep _ _ e1 (by simpa using nN)⟩
    · rintro i σ H5 hi ⟨ss, w3, rfl, lss, ⟨nd, sk⟩, x5, T5, es⟩
      walk_at "go"
      refine ⟨ty_l es, ?_⟩
      walk_at "go"
      refine ⟨st, sc, rfl, T5, fun s H6 ls ks6 x6 T6 => ?_⟩
      have es6 := es.keep x6 (by simpa using nN)
      walk_at "go"
      refine ⟨N, ss, s, rfl, es6, by omega, ls, fun t ht lt _ kt => ?_⟩
      walk_at "go"
      refine m_app es6 (line_of (by rw [List.length_map]; omega)) (fun H7 x7 e7 => ?_)
      walk_at "go"
      refine ⟨ss ++ [t], _, rfl, by simp [lss], ?_, (x5.trans (x6.wide (by simp))).trans (x7.wide (by simp)), T6.far x7 nN oN, ?_⟩
      · refine ⟨?_, fun n hn => ?_⟩
        · rw [List.nodup_append]
          refine ⟨nd, by simp, fun a ha b hb => ?_⟩
          rw [List.mem_singleton.mp hb]
          exact fun e => ht (e ▸ ha)
        · rcases List.mem_append.mp hn with h | h
          · exact sk n h
          · rw [List.mem_singleton.mp h]
            exact kt ks6
      · show H7 N = some (.lst ((ss ++ [t]).map V.str))
        rw [e7, List.map_append]
        rfl
    · rintro σ H5 ⟨ss, w3, rfl, lss, nd, x5, T5, es⟩
      exact ⟨ss, w3, rfl, by omega, by omega, nd, x5, T5, es⟩
  rintro _ H2 ⟨ss, w3, rfl, l1, l9, ⟨nd, sks⟩, x2, T2, es2⟩
  obtain ⟨g, g1, g45⟩ := rank45 nd l9
  have X2 : Ext [st] H H2 := Ext.less x2 hN
  walk_at "gs"
  refine w_newL (by walk_at "len") (fun R H3 hR x3 e3 => ?_)
  have nR : R ≠ st := T2.new hR
  have oR : Off K sc R := T2.off hR
  have nNR : ¬ N = R := ne_of_none es2 hR
  have T3 := T2.same x3
  have es3 := es2.same x3
  walk_at "gs"
  have hlss : ((ss.map V.str).length : Int) = ss.length := by simp
  refine ⟨fun σ H' => ∃ (rows : List Row) (xs : List V) (w3 w5 w6 w7 w8 w9 : Option V), σ = [some (.ref st), some (.ref sc), some (.ref N), w3, some (.ref R), w5, w6, w7, w8, w9] ∧ rows.length = ss.length ∧ RowsP g ss rows ∧ Ext [R, st] H2 H' ∧ Pk K H' st sc ∧ H' R = some (.lst xs) ∧ RpAll K H' xs (rows.map rowD), ?_, ?_⟩
  · walk_at "go"
    refine f_rng (fun i σ H' => ∃ (rows : List Row) (xs : List V) (w3 w5 w6 w7 w8 w9 : Option V), σ = [some (.ref st), some (.ref sc), some (.ref N), w3, some (.ref R), w5, w6, w7, w8, w9] ∧ rows.length = i ∧ RowsP g ss rows ∧ Ext [R, st] H2 H' ∧ Pk K H' st sc ∧ H' R = some (.lst xs) ∧ RpAll K H' xs (rows.map rowD)) ?_ ?_ ?_
    · exact ⟨[], [], _, _, _, _, _, _, rfl, rfl, ⟨by simp, fun r hr => absurd hr (by simp), fun r hr => absurd hr (by simp), fun r hr => absurd hr (by simp), fun r hr => absurd hr (by simp), fun r hr => absurd hr (by simp)⟩, x3.any, T3, e3, .nil⟩
    · rintro i σ H4 hi ⟨rows, xs, w3, w5, w6, w7, w8, w9, rfl, lr, P, x4, T4, eR, rR⟩
      rw [List.length_map] at hi
      have hi2 : i < ss.length := by omega
      have lxs := rR.length
      rw [List.length_map] at lxs
      have es4 := es2.keep x4 (by simp; exact ⟨nNR, nN⟩)
      walk_at "gs"
      refine w_newL (by walk_at "len") (fun Fd H5 hFd x5 e5 => ?_)
      have nFd : Fd ≠ st := T4.new hFd
      have oFd : Off K sc Fd := T4.off hFd
      have nNF : ¬ N = Fd := ne_of_none es4 hFd
      have nRF : ¬ R = Fd := ne_of_none eR hFd
      have T5 := T4.same x5
      walk_at "gs"
      refine w_newL (by walk_at "len") (fun Tk H6 hTk x6 e6 => ?_)
      have nTk : Tk ≠ st := T5.new hTk
      have oTk : Off K sc Tk := T5.off hTk
      have nNT : ¬ N = Tk := ne_of_none (es4.same x5) hTk
      have nRT : ¬ R = Tk := ne_of_none (x5.same _ _ eR) hTk
      have nFT : ¬ Fd = Tk := ne_of_none e5 hTk
      have T6 := T5.same x6
      have hTk4 := x5.free hTk (by simp)
      walk_at "gs"
      refine ⟨fun σ H' => ∃ (fs : List Fl) (ys : List V) (w6 w7 w8 : Option V), σ = [some (.ref st), some (.ref sc), some (.ref N), some (.int (0 + i)), some (.ref R), some (.ref Fd), w6, w7, w8, w9] ∧ fs ≠ [] ∧ fs.length ≤ 6 ∧ (fs.map Prod.fst).Nodup ∧ Ext [Tk, Fd, st] H4 H' ∧ Pk K H' st sc ∧ H' Fd = some (.lst ys) ∧ RpAll K H' ys (fs.map flD) ∧ ∀ f, f ∈ fs → Wd f.1 ∧ f.2.kn ss ∧ f.2.lev ≤ 6 ∧ f.2.good = true ∧ f.2.dp g ≤ 5 * (i + 1), ?_, ?_⟩
      · walk_at "go"
        refine ⟨st, sc, _, rfl, T6, by omega, by omega, fun r7 H7 a0 a1 x7 T7 => ?_⟩
        walk_at "go"
        refine f_rng (fun j σ H' => ∃ (ts : List Str) (fs : List Fl) (ys : List V) (w7 w8 : Option V), σ = [some (.ref st), some (.ref sc), some (.ref N), some (.int (0 + i)), some (.ref R), some (.ref Fd), some (.ref Tk), w7, w8, w9] ∧ ts.length = j ∧ fs.length = j ∧ (∀ t, t ∈ ts → Wd t) ∧ (fs.map Prod.fst = ts ∧ ts.Nodup) ∧ Ext [Tk, Fd, st] H4 H' ∧ Pk K H' st sc ∧ StrL H' Tk ts ∧ H' Fd = some (.lst ys) ∧ RpAll K H' ys (fs.map flD) ∧ ∀ f, f ∈ fs → Wd f.1 ∧ f.2.kn ss ∧ f.2.lev ≤ 6 ∧ f.2.good = true ∧ f.2.dp g ≤ 5 * (i + 1)) ?_ ?_ ?_
        · exact ⟨[], [], [], _, _, rfl, rfl, rfl, fun t ht => absurd ht (by simp), ⟨rfl, List.nodup_nil⟩, (x5.any.trans x6.any).trans (x7.wide (by simp)), T7, x7.keep _ _ e6 (by simpa using nTk), x7.keep _ _ (x6.same _ _ e5) (by simpa using nFd), .nil, fun f hf => absurd hf (by simp)⟩
        · rintro j σ H8 hj ⟨ts, fs, ys, w7, w8, rfl, lts, lfs, wts, ⟨fts, ndt⟩, x8, T8, eT, eF, rF, okf⟩
          have lys := rF.length
          rw [List.length_map] at lys
          walk_at "gs"
          refine ⟨ty_l eT, ?_⟩
          walk_at "gs"
          refine ⟨st, sc, rfl, T8, fun s H9 ws ls x9 T9 => ?_⟩
          have eT9 := StrL.keep eT x9 (by simpa using nTk)
          walk_at "gs"
          refine ⟨Tk, ts, s, rfl, eT9, by omega, ls, fun t ht lt wt _ => ?_⟩
          walk_at "gs"
          refine m_app eT9 (line_of (by rw [List.length_map]; omega)) (fun H10 x10 e10 => ?_)
          have eT10 : StrL H10 Tk (ts ++ [t]) := by
            show H10 Tk = some (.lst ((ts ++ [t]).map V.str))
            rw [e10, List.map_append]
            rfl
          have T10 := T9.far x10 nTk oTk
          obtain ⟨⟨a, b, d, e, est, ra⟩, hns, hne⟩ := T10
          walk_at "gs"
          rename_i H11 x11 e11
          have T11 : Pk K H11 st sc := ⟨⟨_, _, _, _, e11, ra⟩, (hne.keep hns x11), hne⟩
          have eT11 := eT10.keep x11 (by simpa using nTk)
          have X11 : Ext [Tk, Fd, st] H4 H11 := ((x8.trans (x9.wide (by simp))).trans (x10.wide (by simp))).trans (x11.wide (by simp))
          have es11 := es4.keep X11 (by simp; exact ⟨nNT, nNF, nN⟩)
          refine s_L (SqL.of es11) (fun p14 H14 hp14 x14 e14 => ?_)
          have T14 := T11.same x14
          have n14 : p14 ≠ st := T11.new hp14
          rw [cut_to _ (by omega)] at e14
          have e14' : StrL H14 p14 (ss.take i) := by
            show H14 p14 = some (.lst ((ss.take i).map V.str))
            rw [e14, List.map_take]
            congr 3
            omega
          walk_at "gs"
          refine ⟨st, sc, p14, ss.take i, 3, true, rfl, T14, e14', n14, by rw [List.length_take]; omega, by omega, by omega, by omega, fun u H15 k x15 T15 rk lk gk nk => ?_⟩
          have X15 : Ext [Tk, Fd, st] H4 H15 := (X11.trans x14.any).trans (x15.wide (by simp))
          have eT15 : StrL H15 Tk (ts ++ [t]) := (eT11.same x14).keep x15 (by simpa using nTk)
          have eF15 := x15.keep _ _ (x14.same _ _ (x11.keep _ _ (x10.keep _ _ (x9.keep _ _ eF (by simpa using nFd)) (by simpa using nFT)) (by simpa using nFd))) (by simpa using nFd)
          have kd0 : k.kn ss ∧ k.lev ≤ 6 ∧ k.good = true ∧ k.dp g ≤ 5 * (i + 1) := by
            refine ⟨Kd.kn_sub (fun n hn => List.mem_of_mem_take hn) k nk, by omega, gk, ?_⟩
            have := Kd.dp_le (f := g) (ns := ss.take i) (F := 5 * i) (fun n hn => by
              obtain ⟨j2, hj2, e2⟩ := List.mem_iff_getElem.mp hn
              rw [List.length_take] at hj2
              rw [List.getElem_take] at e2
              rw [← e2, g1 j2 (by omega)]
              omega) k nk
            omega
          have rF15 : RpAll K H15 ys (fs.map flD) := rF.ts ((((x9.ts.trans x10.ts).trans x11.ts).trans x14.ts).trans x15.ts)
          walk_at "gs"
          refine ⟨fun σ H' => ∃ (v : V) (k : Kd), σ = [some (.ref st), some (.ref sc), some (.ref N), some (.int (0 + i)), some (.ref R), some (.ref Fd), some (.ref Tk), some (.int (0 + j)), some v, w9] ∧ Ext [st] H15 H' ∧ Pk K H' st sc ∧ Rp K H' v k.d ∧ k.kn ss ∧ k.lev ≤ 6 ∧ k.good = true ∧ k.dp g ≤ 5 * (i + 1), ?_, ?_⟩
          · walk_at "go"
            refine ⟨st, sc, _, rfl, T15, by omega, by omega, fun r16 H16 b0 b1 x16 T16 => ?_⟩
            have es16 := es4.keep (X15.trans (x16.wide (by simp))) (by simp; exact ⟨nNT, nNF, nN⟩)
            walk_at "go"
            refine w_iteD (fun c => ?_) (fun c => ?_)
            · walk_at "go"
              rw [List.length_map]
              refine ⟨st, sc, _, rfl, T16, by omega, by omega, fun r17 H17 c0 c1 x17 T17 => ?_⟩
              obtain ⟨nm, hs1, hs2⟩ := pick_str c0 c1
              refine x_l (es16.keep x17 (by simpa using nN)) hs1 ?_
              walk_at "go"
              rename_i v18 H18 x18 r18 v19 H19 x19 r19
              exact ⟨_, .box (.recd nm), rfl, (x16.trans x17).trans (x18.trans x19).any, T17.same (x18.trans x19), r19, hs2, by simp [Kd.lev], rfl, by simp [Kd.dp]; omega⟩
            · walk_at "go"
              exact ⟨u, k, rfl, x16, T16, rk.ts x16.ts, kd0.1, kd0.2.1, kd0.2.2.1, kd0.2.2.2⟩
          rintro _ H16 ⟨v16, k16, rfl, x16, T16, r16, kn16, kl16, kg16, kd16⟩
          have X16 : Ext [Tk, Fd, st] H4 H16 := X15.trans (x16.wide (by simp))
          have eR16 := X16.keep _ _ eR (by simp; exact ⟨nRT, nRF, nR⟩)
          have rR16 : RpAll K H16 xs (rows.map rowD) := rR.ts X16.ts
          have goods : ∀ r, r ∈ rows → ∀ f, f ∈ r.2 → f.2.good = true := fun r hr f hf => (P.kd r hr f hf).2.2
          walk_at "gs"
          refine ⟨fun σ H' => ∃ (v : V) (k : Kd), σ = [some (.ref st), some (.ref sc), some (.ref N), some (.int (0 + i)), some (.ref R), some (.ref Fd), some (.ref Tk), some (.int (0 + j)), some v, w9] ∧ Ext [] H16 H' ∧ Rp K H' v k.d ∧ k.kn ss ∧ k.lev ≤ 6 ∧ k.good = true ∧ k.dp g ≤ 5 * (i + 1), ?_, ?_⟩
          · walk_at "go"
            refine ⟨_, _, rows, k16, g, rfl, .inr ⟨R, xs, rfl, eR16, rR16⟩, P.rkk, r16, by omega, kg16, goods, fun z H17 x17 => ?_⟩
            walk_at "go"
            refine w_iteD (fun c => ?_) (fun c => ?_)
            · walk_at "go"
              rename_i v18 H18 x18 r18
              exact ⟨_, .bool, rfl, x17.trans x18, r18, trivial, by simp [Kd.lev], rfl, by simp [Kd.dp]; omega⟩
            · walk_at "go"
              refine ⟨_, _, rows, k16, g, ss, rfl, .inr ⟨R, xs, rfl, x17.same _ _ eR16, rR16.ts x17.ts⟩, P.rkk, r16.ts x17.ts, by omega, by omega, kn16, g45, kg16, goods, fun bb H18 x18 => ?_⟩
              walk_at "go"
              cases bb with
              | true =>
                walk_at "go"
                exact ⟨_, k16, rfl, x17.trans x18, r16.ts (x17.trans x18).ts, kn16, kl16, kg16, kd16⟩
              | false =>
                walk_at "go"
                rename_i v19 H19 x19 r19
                exact ⟨_, .bool, rfl, (x17.trans x18).trans x19, r19, trivial, by simp [Kd.lev], rfl, by simp [Kd.dp]; omega⟩
          rintro _ H17 ⟨v17, k17, rfl, x17, r17, kn17, kl17, kg17, kd17⟩
          have eF17 := x17.same _ _ (x16.keep _ _ eF15 (by simpa using nFd))
          have eT17 : StrL H17 Tk (ts ++ [t]) := (eT15.keep x16 (by simpa using nTk)).same x17
          walk_at "go"
          refine ⟨ty_l eF17, ?_⟩
          walk_at "go"
          refine x_l eT17 (at_nat (j := ts.length) (v := .str t) (by omega) (by rw [List.map_append]; simp)) ?_
          walk_at "go"
          rename_i v18 H18 x18 r18
          refine m_app (x18.same _ _ eF17) (line_of (by omega)) (fun H19 x19 e19 => ?_)
          walk_at "go"
          refine ⟨ts ++ [t], fs ++ [(t, k17)], _, _, _, rfl, by simp [lts], by simp [lfs], fun t2 ht2 => ?_, ⟨by rw [List.map_append, fts]; rfl, ?_⟩, (X16.trans (x17.trans x18).any).trans (x19.wide (by simp)), ((T16.same x17).same x18).far x19 nFd oFd, (eT17.same x18).keep x19 (by simpa using fun e => nFT e.symm), e19, ?_, fun f hf => ?_⟩
          · rcases List.mem_append.mp ht2 with h | h
            · exact wts t2 h
            · rw [List.mem_singleton.mp h]
              exact wt ws
          · rw [List.nodup_append]
            refine ⟨ndt, by simp, fun a ha b hb => ?_⟩
            rw [List.mem_singleton.mp hb]
            exact fun e => ht (e ▸ ha)
          · rw [List.map_append]
            exact (((rF15.ts x16.ts).ts (x17.trans x18).ts).ts x19.ts).append (.cons (r18.ts x19.ts) .nil)
          · rcases List.mem_append.mp hf with h | h
            · exact okf f h
            · rw [List.mem_singleton.mp h]
              exact ⟨wt ws, kn17, kl17, kg17, kd17⟩
        · rintro σ H8 ⟨ts, fs, ys, w7, w8, rfl, lts, lfs, wts, ⟨fts, ndt⟩, x8, T8, eT, eF, rF, okf⟩
          refine ⟨fs, ys, _, _, _, rfl, ?_, by omega, by rw [fts]; exact ndt, x8, T8, eF, rF, okf⟩
          intro e
          rw [e] at lfs
          simp at lfs
          omega
      rintro _ H8 ⟨fs, ys, w6', w7', w8', rfl, fne, lfs, fnd, x8, T8, eF, rF, okf⟩
      have es8 := es4.keep x8 (by simp; exact ⟨nNT, nNF, nN⟩)
      have eR8 := x8.keep _ _ eR (by simp; exact ⟨nRT, nRF, nR⟩)
      have X8 : Ext [st] H4 H8 := Ext.less (Ext.less x8 hTk4) hFd
      walk_at "go"
      refine ⟨ty_l eR8, ?_⟩
      walk_at "go"
      refine x_l es8 (at_nat (j := i) (v := .str ss[i]) (by omega) (strl_get hi2)) ?_
      walk_at "go"
      refine b_tupl eF rF (fun u H9 x9 r9 => ?_)
      walk_at "go"
      rename_i v10 H10 x10 r10
      refine m_app ((x9.trans x10).same _ _ eR8) (line_of (by omega)) (fun H11 x11 e11 => ?_)
      walk_at "go"
      have hgi := g1 i hi2
      refine ⟨rows ++ [(ss[i], fs)], _, _, _, _, _, _, _, rfl, by simp [lr], ⟨?_, fun r hr => ?_, fun r hr f hf => ?_, fun r hr f hf => ?_, fun r hr f hf => ?_, fun r hr => ?_⟩, ((x4.trans (X8.wide (by simp))).trans (x9.trans x10).any).trans (x11.wide (by simp)), ((T8.same x9).same x10).far x11 nR oR, e11, ?_⟩
      · rw [List.map_append, P.nm, List.length_append, List.length_singleton, List.take_succ, lr, List.getElem?_eq_getElem hi2]
        rfl
      · rcases List.mem_append.mp hr with h | h
        · exact P.fl r h
        · rw [List.mem_singleton.mp h]
          exact ⟨fne, lfs⟩
      · rcases List.mem_append.mp hr with h | h
        · exact P.wd r h f hf
        · rw [List.mem_singleton.mp h] at hf
          exact (okf f hf).1
      · rcases List.mem_append.mp hr with h | h
        · exact P.kd r h f hf
        · rw [List.mem_singleton.mp h] at hf
          exact ⟨(okf f hf).2.1, (okf f hf).2.2.1, (okf f hf).2.2.2.1⟩
      · rcases List.mem_append.mp hr with h | h
        · exact P.rk r h f hf
        · rw [List.mem_singleton.mp h] at hf ⊢
          show f.2.dp g ≤ g ss[i]
          rw [hgi]
          exact (okf f hf).2.2.2.2
      · rcases List.mem_append.mp hr with h | h
        · exact P.fn r h
        · rw [List.mem_singleton.mp h]
          exact fnd
      · rw [List.map_append]
        exact (((rR.ts x8.ts).ts (x9.trans x10).ts).ts x11.ts).append (.cons (r10.ts x11.ts) .nil)
    · rintro σ H4 ⟨rows, xs, w3, w5, w6, w7, w8, w9, rfl, lr, P, x4, T4, eR, rR⟩
      refine ⟨rows, xs, _, _, _, _, _, _, rfl, ?_, P, x4, T4, eR, rR⟩
      rw [lr]
      simp
  rintro _ H4 ⟨rows, xs, w3, w5, w6, w7, w8, w9, rfl, lr, P, x4, T4, eR, rR⟩
  have lxs := rR.length
  rw [List.length_map] at lxs
  have X4 : Ext [st] H H4 := X2.trans (Ext.less x4 hR)
  walk_at "go"
  refine ⟨st, sc, _, rfl, T4, by omega, by omega, fun t H5 t0 t1 x5 T5 => ?_⟩
  have eR5 := x5.keep _ _ eR (by simpa using nR)
  have rR5 := rR.ts x5.ts
  walk_at "go"
  refine s_L (SqL.of eR5) (fun p6 H6 hp6 x6 e6 => ?_)
  rw [cut_from _ t0] at e6
  walk_at "go"
  refine s_L (SqL.of (x6.same _ _ eR5)) (fun p7 H7 hp7 x7 e7 => ?_)
  rw [cut_to _ t0] at e7
  refine a_lst (x7.same _ _ e6) e7 (Nat.le_of_lt (line_of (by rw [List.length_drop, List.length_take]; omega))) (fun p8 H8 hp8 x8 e8 => ?_)
  walk_at "go"
  have X8 : Ext [] H5 H8 := (x6.trans x7).trans x8
  have rA : RpAll K H8 (xs.drop t.toNat ++ xs.take t.toNat) ((rows.drop t.toNat ++ rows.take t.toNat).map rowD) := by
    rw [List.map_append, List.map_drop, List.map_take]
    exact ((rR5.ts X8.ts).drop _).append ((rR5.ts X8.ts).take _)
  refine b_tupl e8 rA (fun u H9 x9 r9 => ?_)
  exact q u H9 _ ((X4.trans x5).trans (X8.trans x9).any) (T5.same (X8.trans x9)) r9 (P.turn nd l9 (by omega) lr g45 sks t.toNat)
end

section
variable {K : PySem.W.Frag}
theorem opts_kn {rows : List Row} (R : RowsOk rows) {k : Kd} (nk : k.kn (rows.map Prod.fst)) : ∀ o, o ∈ opts rows k → o.2.kn (rows.map Prod.fst) := by
  intro o ho
  cases k with
  | maybe k => simp only [opts, List.mem_singleton] at ho; subst ho; exact nk
  | box k => simp only [opts, List.mem_singleton] at ho; subst ho; exact nk
  | shared k => simp only [opts, List.mem_singleton] at ho; subst ho; exact nk
  | excl k => simp only [opts, List.mem_singleton] at ho; subst ho; exact nk
  | tuple ks => exact Kd.kns_mem nk (optT_all (ks := ks) (i := 0) ho).2
  | recd n =>
    cases e : rows.find? (fun r => decide (r.1 = n)) with
    | none => rw [opts_none e] at ho; exact absurd ho (by simp)
    | some r =>
      rw [opts_some e] at ho
      obtain ⟨f, hf, rfl⟩ := List.mem_map.mp ho
      exact (R.kd r (List.mem_of_find?_eq_some e) f hf).1
  | int => exact absurd ho (by simp [opts])
  | bool => exact absurd ho (by simp [opts])
  | unit => exact absurd ho (by simp [opts])
  | task k => exact absurd ho (by simp [opts])
structure KdOk (rows : List Row) (k : Kd) : Prop where
  lev : k.lev ≤ 6
  good : k.good = true
  kn : k.kn (rows.map Prod.fst)
theorem aft_ok {rows : List Row} (R : RowsOk rows) {k k' : Kd} {s : D} (h : KdOk rows k) (e : aft rows k s = some k') : KdOk rows k' := by
  unfold aft at e
  obtain ⟨o, ho, rfl⟩ := Option.map_eq_some_iff.mp e
  have hm := List.mem_of_find?_eq_some ho
  obtain ⟨_, h2, h3⟩ := (opts_all R h.lev h.good).2 o hm
  exact ⟨h2, h3, opts_kn R h.kn o hm⟩
theorem fol_ok {rows : List Row} (R : RowsOk rows) : ∀ {steps : List D} {k k' : Kd}, KdOk rows k → fol rows k steps = some k' → KdOk rows k'
  | [], k, k', h, e => by
    cases e
    exact h
  | s :: r, k, k', h, e => by
    rw [fol] at e
    obtain ⟨j, h1, h2⟩ := Option.bind_eq_some_iff.mp e
    exact fol_ok R (aft_ok R h h1) h2
theorem fol_append {rows : List Row} : ∀ {a b : List D} {k : Kd}, fol rows k (a ++ b) = (fol rows k a).bind fun j => fol rows j b
  | [], b, k => rfl
  | s :: r, b, k => by
    show (aft rows k s).bind (fun j => fol rows j (r ++ b)) = ((aft rows k s).bind fun j => fol rows j r).bind fun j => fol rows j b
    cases aft rows k s with
    | none => rfl
    | some j => exact fol_append (a := r)
theorem fol_one {rows : List Row} {a : List D} {s : D} {k : Kd} : fol rows k (a ++ [s]) = (fol rows k a).bind fun j => aft rows j s := by
  rw [fol_append]
  congr 1
  funext j
  show (aft rows j s).bind (fun j => some j) = aft rows j s
  cases aft rows j s <;> rfl
theorem take_one {steps : List D} {i : Nat} {s : D} (h : steps[i]? = some s) : steps.take (i + 1) = steps.take i ++ [s] := by
  rw [List.take_succ, h]
  rfl
theorem fol_cut {rows : List Row} {steps : List D} {i : Nat} {k : Kd} (h : fol rows k (steps.take i) = none) : fol rows k steps = none := by
  rw [← List.take_append_drop i steps, fol_append, h]
  rfl
theorem pure_kinds_along (A : Ad) (vs : List V) (H : Hp) (Q : VK) (E : XK) (h : sp_kinds_along K A vs H Q E) : t_kinds_along K A E (bd Q) (start N_kinds_along vs) H := by
  obtain ⟨pv, rv, a, n, steps, rows, tb, rfl, hp, hr, ht, hst, hsl, R, T, q1, q2⟩ := h
  show t_kinds_along K A E (bd Q) [some pv, some rv, some (.ref a), none, none, none] H
  unfold t_kinds_along
  walk_at "go"
  refine tb_in ht (fun l => ?_) (fun k v l rv0 => ?_)
  · walk_at "go"
    exact q1 l H Ext.refl
  obtain ⟨qn, qk⟩ := q2 k l
  have ok0 : KdOk rows k := (let ⟨a, b, c⟩ := T.kd _ (lk_mem l); ⟨a, b, c⟩)
  walk_at "go"
  refine tb_get ht l fun v1 rv1 => ?_
  walk_at "go"
  refine w_newL (by walk_at "len") (fun p H1 hp1 x1 e1 => ?_)
  walk_at "go"
  refine f_tup (ds := steps) (fun i σ H' => ∃ (v : V) (xs : List V) (j : Kd) (w : Option V), σ = [some pv, some rv, some (.ref a), some v, some (.ref p), w] ∧ Ext [p] H1 H' ∧ H' p = some (.lst (xs ++ [v])) ∧ xs.length = i ∧ Rp K H' v j.d ∧ fol rows k (steps.take i) = some j) ?_ ?_ ?_ ?_
  · exact ⟨v1, [], k, _, rfl, Ext.refl, e1, rfl, rv1.ts x1.ts, rfl⟩
  · rintro i σ H' _ ⟨v, xs, j, w, rfl, x, _, _, _, _⟩
    walk_at "rp"
  · rintro i s u σ H' hs hu ⟨v, xs, j, w, rfl, y, ep, lx, rj, fj⟩
    have x : Ext [] H H' := Ext.less (x1.any.trans y) hp1
    have okj := fol_ok R ok0 fj
    have il := (List.getElem?_eq_some_iff.mp hs).1
    walk_at "go"
    refine ⟨_, _, _, rows, j, s, rfl, hr.ts x.ts, rj, hu, hst s (List.mem_of_getElem? hs), R, okj.kn, okj.good, fun j2 e u2 H2 x2 r2 => ?_, fun e H2 x2 => ?_⟩
    · have ep2 := x2.same _ _ ep
      walk_at "go"
      refine ⟨ty_l ep2, ?_⟩
      walk_at "go"
      refine m_app ep2 (line_of (by rw [List.length_append]; simp; omega)) (fun H3 x3 e3 => ?_)
      walk_at "go"
      refine ⟨u2, xs ++ [v], j2, _, rfl, (y.trans x2.any).trans x3, e3, by simp [lx], r2.ts x3.ts, ?_⟩
      rw [take_one hs, fol_one, fj]
      exact e
    · refine qn ?_ H2 (x.trans x2)
      refine fol_cut (i := i + 1) ?_
      rw [take_one hs, fol_one, fj]
      exact e
  · rintro σ H' ⟨v, xs, j, w, rfl, y, ep, lx, rj, fj⟩
    have x : Ext [] H H' := Ext.less (x1.any.trans y) hp1
    rw [List.take_length] at fj
    walk_at "go"
    exact qk j fj p H' xs v x ep rj
theorem at_last {xs : List V} {v : V} : atI (xs ++ [v]) (-1) = some v := by
  have e : ixN (xs ++ [v]).length (-1) = some xs.length := by
    unfold ixN
    rw [List.length_append, List.length_singleton, if_neg (by omega), if_pos (by omega)]
    congr 1
    omega
  unfold atI
  rw [e]
  simp
theorem pure_kind_at (A : Ad) (vs : List V) (H : Hp) (Q : VK) (E : XK) (h : sp_kind_at K A vs H Q E) : t_kind_at K A E (bd Q) (start N_kind_at vs) H := by
  obtain ⟨pv, rv, a, n, steps, rows, tb, rfl, hp, hr, ht, hst, hsl, R, T, q1, q2⟩ := h
  show t_kind_at K A E (bd Q) [some pv, some rv, some (.ref a)] H
  unfold t_kind_at
  walk_at "go"
  refine w_callK ?_
  walk_at "go"
  refine ⟨pv, rv, a, n, steps, rows, tb, rfl, hp, hr, ht, hst, hsl, R, T, q1, fun k l => ⟨(q2 k l).1, fun k' e p H1 xs v x1 e1 r1 => ?_⟩⟩
  walk_at "go"
  refine x_l e1 (i := -1) (v := v) ?_ ?_
  · exact at_last
  exact (q2 k l).2 k' e v H1 x1 r1
end

section
variable {K : PySem.W.Frag}
theorem pure_l_told (A : Ad) (fx : Fx K A) (vs : List V) (H : Hp) (Q : VK) (E : XK) (h : sp_l_told K A vs H Q E) : t_l_told K A (bd Q) (start N_l_told vs) H := by
  obtain ⟨pv, rv, a, n, steps, rows, tb, rfl, hp, hr, ht, hst, hsl, R, T, q⟩ := h
  show t_l_told K A (bd Q) [some pv, some rv, some (.ref a), none, none] H
  unfold t_l_told tTries
  walk_at "go"
  refine w_callKS ?_
  walk_at "go"
  refine ⟨pv, rv, a, n, steps, rows, tb, rfl, hp, hr, ht, hst, hsl, R, T, fun l H1 x1 => ?_, fun k l => ⟨fun f H1 x1 => ?_, fun k' f v H1 x1 r1 => ?_⟩⟩
  · refine ⟨true, fx.e_NoSuchVariable_NoSuchVariable, fun _ e he => ?_, fun z => Bool.noConfusion z⟩
    walk_at "go"
    refine ⟨le_line (by show (5 : Nat) ≤ 1000; decide), fun p hp => ?_⟩
    refine ⟨A.c_NoSuchVariable, p, _, [.ref A.c_KindProblem, .ref A.c_NoSuchFunction, .ref A.c_NoSuchStep, .ref A.c_NotAllocated, .ref A.c_Refused], false, rfl, rfl, fx.xc_NoSuchVariable, rfl, upd_same, .cons (.own _) (.cons (.own _) (.cons (.own _) (.cons (.own _) (.cons (.own _) .nil)))), ?_, ?_⟩
    · simp [PySem.W.kitAny, fx.k_NoSuchVariable_KindProblem, fx.k_NoSuchVariable_NoSuchFunction, fx.k_NoSuchVariable_NoSuchStep, fx.k_NoSuchVariable_NotAllocated, fx.k_NoSuchVariable_Refused]
    have x2 : Ext [] H1 (upd H1 p (.tup [.ref A.c_KindProblem, .ref A.c_NoSuchFunction, .ref A.c_NoSuchStep, .ref A.c_NotAllocated, .ref A.c_Refused])) := Ext.new hp
    generalize upd H1 p (.tup [.ref A.c_KindProblem, .ref A.c_NoSuchFunction, .ref A.c_NoSuchStep, .ref A.c_NotAllocated, .ref A.c_Refused]) = H2 at *
    walk_at "go"
    refine ⟨A.c_NoSuchVariable, _, _, true, rfl, rfl, fx.xc_NoSuchVariable, rfl, .own _, fx.k_NoSuchVariable_ForkError, ?_⟩
    walk_at "go"
    refine ⟨A.c_NoSuchVariable, _, _, true, rfl, rfl, fx.xc_NoSuchVariable, rfl, .ty _, fx.k_NoSuchVariable_ValueError, ?_⟩
    walk_at "go"
    refine w_newL (le_line (by show (2 : Nat) ≤ 1000; decide)) (fun p3 H3 hp3 x3 e3 => ?_)
    refine q _ H3 ((x1.trans x2).trans x3) ?_
    unfold tell
    rw [l]
    exact ⟨p3, rfl, e3⟩
  · refine ⟨false, fx.e_NoSuchStep_NoSuchVariable, fun z => Bool.noConfusion z, fun _ => ?_⟩
    refine ⟨true, fx.e_NoSuchStep_NoSuchStep, fun _ e he => ?_, fun z => Bool.noConfusion z⟩
    walk_at "go"
    refine ⟨le_line (by show (5 : Nat) ≤ 1000; decide), fun p hp => ?_⟩
    refine ⟨A.c_NoSuchStep, p, _, [.ref A.c_KindProblem, .ref A.c_NoSuchFunction, .ref A.c_NoSuchVariable, .ref A.c_NotAllocated, .ref A.c_Refused], false, rfl, rfl, fx.xc_NoSuchStep, rfl, upd_same, .cons (.own _) (.cons (.own _) (.cons (.own _) (.cons (.own _) (.cons (.own _) .nil)))), ?_, ?_⟩
    · simp [PySem.W.kitAny, fx.k_NoSuchStep_KindProblem, fx.k_NoSuchStep_NoSuchFunction, fx.k_NoSuchStep_NoSuchVariable, fx.k_NoSuchStep_NotAllocated, fx.k_NoSuchStep_Refused]
    have x2 : Ext [] H1 (upd H1 p (.tup [.ref A.c_KindProblem, .ref A.c_NoSuchFunction, .ref A.c_NoSuchVariable, .ref A.c_NotAllocated, .ref A.c_Refused])) := Ext.new hp
    generalize upd H1 p (.tup [.ref A.c_KindProblem, .ref A.c_NoSuchFunction, .ref A.c_NoSuchVariable, .ref A.c_NotAllocated, .ref A.c_Refused]) = H2 at *
    walk_at "go"
    refine ⟨A.c_NoSuchStep, _, _, true, rfl, rfl, fx.xc_NoSuchStep, rfl, .own _, fx.k_NoSuchStep_ForkError, ?_⟩
    walk_at "go"
    refine ⟨A.c_NoSuchStep, _, _, true, rfl, rfl, fx.xc_NoSuchStep, rfl, .ty _, fx.k_NoSuchStep_ValueError, ?_⟩
    walk_at "go"
    refine w_newL (le_line (by show (2 : Nat) ≤ 1000; decide)) (fun p3 H3 hp3 x3 e3 => ?_)
    refine q _ H3 ((x1.trans x2).trans x3) ?_
    unfold tell
    rw [l]
    simp only [f]
    exact ⟨p3, rfl, e3⟩
  · have ok0 : KdOk rows k := (let ⟨a, b, c⟩ := T.kd _ (lk_mem l); ⟨a, b, c⟩)
    have ok := fol_ok R ok0 f
    refine q _ H1 x1 ?_
    unfold tell
    rw [l]
    simp only [f]
    exact ⟨r1, ok.lev, ok.good⟩
theorem filt_aft {rows : List Row} {k : Kd} {d : D} {due : List (D × Kd)} (h : (opts rows k).filter (fun o => D.eqv o.1 d) = due) : aft rows k d = due.head?.map (·.2) := by
  unfold aft
  rw [← h, List.head?_filter]
/-- the options that are the step -/
theorem c_opt {σ : St} {H : Hp} {Q : VK} {te : TE} {p : Addr} {xs : List V} {g : Nat} {tt : TT} {L : Addr} {rows : List Row} {k : Kd} (d : D) (R : RowsOk rows) (ok : KdOk rows k) (e : H p = some (.lst xs)) (rr : RpAll K H xs ((opts rows k).map fun o => .tup [o.1, o.2.d])) (hL : H L = none)
    (ht : ∀ (o : D × Kd) v H' (P : Bool → Hp → Prop), Stp o.1 → Rp K H' v (.tup [o.1, o.2.d]) → Ext [] H H' → P (D.eqv o.1 d) H' → tt (σ.set g (some v)) H' P) (he : ∀ (o : D × Kd) v H' (P : VK), Rp K H' v (.tup [o.1, o.2.d]) → (∀ w, Rp K H' w o.2.d → P w H') → te (σ.set g (some v)) H' P)
    (hd : ∀ H' ys, Ext [] H H' → H' L = some (.lst ys) → RpAll K H' ys (((opts rows k).filter fun o => D.eqv o.1 d).map fun o => o.2.d) → Q (.ref L) H') : LcOk (Itl K p) (gName g) tt te [g] σ L H Q := by
  obtain ⟨ol, oa⟩ := opts_all R ok.lev ok.good
  have lxs := rr.length
  rw [List.length_map] at lxs
  refine c_lst (xs := xs) (fun i H' acc => Ext [] H H' ∧ RpAll K H' acc ((((opts rows k).take i).filter fun o => D.eqv o.1 d).map fun o => o.2.d)) hL ?_ ?_ ?_ ?_
  · rintro i H' acc _ ⟨x, _⟩
    exact SqL.of (x.same _ _ e)
  · intro H7 x7 e7
    exact ⟨x7, .nil⟩
  · rintro i u H7 acc hi e1' e2' ⟨x7, r7⟩
    obtain ⟨d8, hd8, rd8⟩ := (rr.ts x7.ts).get hi
    rw [List.getElem?_map] at hd8
    obtain ⟨o, ho, rfl⟩ := Option.map_eq_some_iff.mp hd8
    have il := (List.getElem?_eq_some_iff.mp ho).1
    have tk : (opts rows k).take (i + 1) = (opts rows k).take i ++ [o] := by
      rw [List.take_succ, ho]
      rfl
    refine ht o u H7 _ (oa o (List.mem_of_getElem? ho)).1 rd8 x7 ?_
    by_cases c : D.eqv o.1 d = true
    · rw [if_pos c]
      refine he o u H7 _ rd8 fun w rw_ => ?_
      refine turn1 (acc := acc) e1' e2' (line_of (by omega)) (fun H8 x8 e8 => ⟨x7.out hL x8, ?_⟩)
      rw [tk, List.filter_append, List.map_append]
      refine (r7.ts x8.ts).append ?_
      rw [show [o].filter (fun o => D.eqv o.1 d) = [o] by simp [c]]
      exact .cons (rw_.ts x8.ts) .nil
    · rw [if_neg c]
      refine turn0 e1' e2' ⟨x7, ?_⟩
      rw [tk, List.filter_append, show [o].filter (fun o => D.eqv o.1 d) = [] by simp [c], List.append_nil]
      exact r7
  · rintro H7 ys e7 ⟨x7, r7⟩
    rw [List.take_of_length_le (by omega)] at r7
    exact hd H7 ys x7 e7 r7
theorem pure_l_followed (A : Ad) (vs : List V) (H : Hp) (Q : VK) (E : XK) (h : sp_l_followed K A vs H Q E) : t_l_followed K A (bd Q) (start N_l_followed vs) H := by
  obtain ⟨rv, v, sv, rows, k, steps, rfl, hr, hv, hs, hst, R, lv, gk, nk, q⟩ := h
  show t_l_followed K A (bd Q) [some rv, some v, some sv, none, none, none] H
  unfold t_l_followed
  have ok0 : KdOk rows k := ⟨lv, gk, nk⟩
  walk_at "go"
  rename_i ta
  refine f_tup (ds := steps) (fun i σ H' => ∃ (v : V) (j : Kd) (w3 w4 w5 : Option V), σ = [some rv, some v, some (.ref ta), w3, w4, w5] ∧ Ext [] H H' ∧ Rp K H' v j.d ∧ fol rows k (steps.take i) = some j) ?_ ?_ ?_ ?_
  · exact ⟨v, k, _, _, _, rfl, Ext.refl, hv, rfl⟩
  · rintro i σ H' _ ⟨v, j, w3, w4, w5, rfl, x, _, _⟩
    exact hs.ts x.ts
  · rintro i s u σ H' hsi hu ⟨v, j, w3, w4, w5, rfl, x, rj, fj⟩
    have okj := fol_ok R ok0 fj
    have sst := hst s (List.mem_of_getElem? hsi)
    have hnext : fol rows k (steps.take (i + 1)) = aft rows j s := by
      rw [take_one hsi, fol_one, fj]
      rfl
    walk_at "go"
    refine ⟨_, _, rows, j, rfl, hr.ts x.ts, rj, okj.good, fun r hr => (R.fl r hr).2, fun p H4 xs x4 hp4 e4 r4 => ?_⟩
    refine w_exl (SqL.of e4) ?_
    intro L hL
    refine c_opt s R okj e4 r4 hL ?_ ?_ ?_
    · intro o v9 H5 P so ro x5 hP
      have hu5 := (hu.ts x4.ts).ts x5.ts
      walk_at "go"
      rename_i v10 r10
      refine e_st r10 hu5 so sst ?_
      walk_at "go"
      exact hP
    · intro o v9 H5 P ro hP
      walk_at "go"
      exact hP _ (by assumption)
    intro H5 ys x5 e5 r5
    have lys := r5.length
    rw [List.length_map] at lys
    obtain ⟨due, hf⟩ : ∃ due, (opts rows j).filter (fun o => D.eqv o.1 s) = due := ⟨_, rfl⟩
    have ha := filt_aft hf
    rw [hf] at r5 lys
    have X5 : Ext [] H H5 := (x.trans x4).trans x5
    walk_at "go"
    refine w_iteD (fun c => ?_) (fun c => ?_)
    · have dn : due = [] := List.eq_nil_of_length_eq_zero (by omega)
      rw [dn] at ha
      walk_at "go"
      refine w_newL (le_line (by show (2 : Nat) ≤ 1000; decide)) (fun p3 H6 hp3 x6 e6 => ?_)
      refine q _ H6 (X5.trans x6) ?_
      have fn : fol rows k steps = none := fol_cut (i := i + 1) (hnext.trans ha)
      simp only [fn]
      exact ⟨p3, rfl, e6⟩
    · cases hdu : due with
      | nil =>
        rw [hdu] at lys
        exact absurd (by rw [lys]; rfl) c
      | cons o r =>
        rw [hdu] at ha r5
        cases hys : ys with
        | nil =>
          rw [hys] at r5
          cases r5
        | cons y ys2 =>
          rw [hys] at r5 e5
          walk_at "go"
          refine x_l e5 (at_nat (j := 0) rfl rfl) ?_
          walk_at "go"
          exact ⟨y, o.2, _, _, _, rfl, X5, Rp.rpall1 r5, hnext.trans ha⟩
  · rintro σ H' ⟨v, j, w3, w4, w5, rfl, x, rj, fj⟩
    rw [List.take_length] at fj
    have okj := fol_ok R ok0 fj
    walk_at "go"
    refine q _ H' x ?_
    simp only [fj]
    exact ⟨rj, okj.lev, okj.good⟩
end

section
variable {K : PySem.W.Frag}
theorem l_D2 {H : Hp} {Q : VK} {a : Addr} {tb : Tb} (t : TbAt K H a tb) (h : ∀ p H', H p = none → Ext [] H H' → StrL H' p (tb.map Prod.fst) → Q (.ref p) H') : rLstD [.ref a] H Q := by
  obtain ⟨vs, e, r⟩ := t
  refine ⟨a, _, rfl, .inl e, fun p hp => h p _ hp (Ext.new hp) ?_⟩
  rw [kvs_keys r]
  exact upd_same
theorem pure_l_table (A : Ad) (vs : List V) (H : Hp) (Q : VK) (E : XK) (h : sp_l_table K A vs H Q E) : t_l_table K A (bd Q) (start N_l_table vs) H := by
  obtain ⟨st, sc, rv, rows, rfl, T, hr, R, q⟩ := h
  show t_l_table K A (bd Q) [some (.ref st), some (.ref sc), some rv, none, none, none] H
  unfold t_l_table
  walk_at "go"
  refine fun a ha => ?_
  have x1 : Ext [] H (upd H a (.dK [])) := Ext.new ha
  have t1 : TbAt K (upd H a (.dK [])) a [] := ⟨[], upd_same, .nil⟩
  generalize upd H a (.dK []) = H1 at *
  have na : a ≠ st := T.new ha
  have oa : Off K sc a := T.off ha
  walk_at "go"
  refine ⟨st, sc, _, rfl, T.same x1, by omega, by omega, fun m H2 m0 m1 x2 T2 => ?_⟩
  walk_at "go"
  refine f_rng (fun i σ H' => ∃ (tb : Tb) (w4 w5 : Option V), σ = [some (.ref st), some (.ref sc), some rv, some (.ref a), w4, w5] ∧ tb.length = i ∧ Ext [a, st] H H' ∧ Pk K H' st sc ∧ TbAt K H' a tb ∧ TbOk rows tb) ?_ ?_ ?_
  · exact ⟨[], _, _, rfl, rfl, x1.any.trans (x2.wide (by simp)), T2, t1.keep x2 (by simpa using na), ⟨List.nodup_nil, fun p hp => absurd hp (by simp), fun p hp => absurd hp (by simp), fun p hp => absurd hp (by simp)⟩⟩
  · rintro i σ H3 hi ⟨tb, w4, w5, rfl, ltb, x3, T3, t3, ok⟩
    walk_at "go"
    refine l_D2 t3 fun p H4 hp x4 e4 => ?_
    have np : p ≠ st := T3.new hp
    walk_at "go"
    refine ⟨st, sc, rfl, T3.same x4, fun s H5 ws ls x5 T5 => ?_⟩
    have e5 := e4.keep x5 (by simpa using np)
    walk_at "go"
    refine ⟨p, tb.map Prod.fst, s, rfl, e5, by rw [List.length_map]; omega, ls, fun t ht lt wt _ => ?_⟩
    walk_at "go"
    refine ⟨st, sc, _, rows, rfl, T5, hr.ts ((x3.ts.trans x4.ts).trans x5.ts), R, fun u H6 k x6 T6 rk lk gk nk => ?_⟩
    have t6 := ((t3.same x4).keep x5 (by simpa using na)).keep x6 (by simpa using na)
    walk_at "go"
    refine tb_put t6 ht (line_of (by omega)) rk fun H7 x7 t7 => ?_
    refine ⟨tb ++ [(t, k)], _, _, rfl, by simp [ltb], (((x3.trans x4.any).trans (x5.wide (by simp))).trans (x6.wide (by simp))).trans (x7.wide (by simp)), T6.far x7 na oa, t7, ?_, fun pp hpp => ?_, fun pp hpp => ?_, fun pp hpp => ?_⟩
    · rw [List.map_append, List.nodup_append]
      refine ⟨ok.nd, by simp, fun a ha b hb => ?_⟩
      rw [show b = t by simpa using hb]
      exact fun e => ht (e ▸ ha)
    · rcases List.mem_append.mp hpp with h | h
      · exact ok.sk pp h
      · rw [List.mem_singleton.mp h]
        exact (wt ws).2
    · rcases List.mem_append.mp hpp with h | h
      · exact ok.ln pp h
      · rw [List.mem_singleton.mp h]
        exact lt
    · rcases List.mem_append.mp hpp with h | h
      · exact ok.kd pp h
      · rw [List.mem_singleton.mp h]
        exact ⟨lk, gk, nk⟩
  · rintro σ H3 ⟨tb, w4, w5, rfl, ltb, x3, T3, t3, ok⟩
    walk_at "go"
    refine q a H3 tb (Ext.less x3 ha) ha T3 t3 ok ?_ (by omega)
    intro e
    rw [e] at ltb
    simp at ltb
    omega
theorem eqv_self {d : D} (h : Stp d) : D.eqv d d = true := by
  rcases h with ⟨i, rfl⟩ | ⟨s, rfl⟩ <;> simp [D.eqv]
theorem find_lk {s : Str} : ∀ {fs : List Fl}, ((fs.map fun f => (D.str f.1, f.2)).find? fun o => D.eqv o.1 (.str s)).map (·.2) = lk fs s
  | [] => rfl
  | f :: r => by
    rw [List.map_cons, List.find?_cons, lk_cons]
    by_cases e : f.1 = s
    · simp [D.eqv, e]
    · simp only [D.eqv, beq_eq_false_iff_ne.mpr e]
      rw [if_neg e]
      exact find_lk
/-- an option's own step leads to it -/
theorem aft_self {rows : List Row} (R : RowsOk rows) {k : Kd} {o : D × Kd} (h : o ∈ opts rows k) : aft rows k o.1 = some o.2 := by
  cases k with
  | maybe k => simp only [opts, List.mem_singleton] at h; subst h; simp [aft, opts, D.eqv]
  | box k => simp only [opts, List.mem_singleton] at h; subst h; simp [aft, opts, D.eqv]
  | shared k => simp only [opts, List.mem_singleton] at h; subst h; simp [aft, opts, D.eqv]
  | excl k => simp only [opts, List.mem_singleton] at h; subst h; simp [aft, opts, D.eqv]
  | tuple ks =>
    obtain ⟨i, hi⟩ := List.getElem?_of_mem (show o ∈ optT 0 ks from h)
    have hl := (List.getElem?_eq_some_iff.mp hi).1
    rw [optT_len] at hl
    have hk := List.getElem?_eq_getElem hl
    rw [optT_get hk] at hi
    cases hi
    unfold aft
    show ((optT 0 ks).find? _).map _ = _
    rw [optT_find, if_pos (by simp; omega)]
    have e : (((0 + i : Nat) : Int) - ((0 : Nat) : Int)).toNat = i := by omega
    rw [e, hk]
    rfl
  | recd n =>
    cases e : rows.find? (fun r => decide (r.1 = n)) with
    | none => rw [opts_none e] at h; exact absurd h (by simp)
    | some r =>
      rw [opts_some e] at h
      obtain ⟨f, hf, rfl⟩ := List.mem_map.mp h
      obtain ⟨i, hi⟩ := List.getElem?_of_mem hf
      unfold aft
      rw [opts_some e, find_lk]
      exact lk_get (R.fn r (List.mem_of_find?_eq_some e)) hi
  | int => exact absurd h (by simp [opts])
  | bool => exact absurd h (by simp [opts])
  | unit => exact absurd h (by simp [opts])
  | task k => exact absurd h (by simp [opts])
theorem pure_l_walk (A : Ad) (vs : List V) (H : Hp) (Q : VK) (E : XK) (h : sp_l_walk K A vs H Q E) : t_l_walk K A (bd Q) (start N_l_walk vs) H := by
  obtain ⟨st, sc, rv, v, rows, n, k, rfl, T, hr, hv, R, lv, gk, nk, q⟩ := h
  show t_l_walk K A (bd Q) [some (.ref st), some (.ref sc), some rv, some (.str n), some v, none, none, none, none] H
  unfold t_l_walk
  have ok0 : KdOk rows k := ⟨lv, gk, nk⟩
  walk_at "gs"
  refine w_newL (by walk_at "len") (fun p H1 hp x1 e1 => ?_)
  have np : p ≠ st := T.new hp
  have op : Off K sc p := T.off hp
  walk_at "gs"
  refine ⟨fun σ H' => ∃ (steps : List D) (xs : List V) (j : Kd) (v : V) (w6 w7 w8 : Option V), σ = [some (.ref st), some (.ref sc), some rv, some (.str n), some v, some (.ref p), w6, w7, w8] ∧ steps.length ≤ 12 ∧ Ext [p, st] H H' ∧ Pk K H' st sc ∧ H' p = some (.lst xs) ∧ RpAll K H' xs steps ∧ (∀ s, s ∈ steps → Stp s) ∧ Rp K H' v j.d ∧ fol rows k steps = some j, ?_, ?_⟩
  · walk_at "go"
    refine ⟨st, sc, _, rfl, T.same x1, by omega, by omega, fun m H2 m0 m1 x2 T2 => ?_⟩
    walk_at "go"
    refine f_rng (fun i σ H' => ∃ (steps : List D) (xs : List V) (j : Kd) (v : V) (w6 w7 w8 : Option V), σ = [some (.ref st), some (.ref sc), some rv, some (.str n), some v, some (.ref p), w6, w7, w8] ∧ steps.length = i ∧ Ext [p, st] H H' ∧ Pk K H' st sc ∧ H' p = some (.lst xs) ∧ RpAll K H' xs steps ∧ (∀ s, s ∈ steps → Stp s) ∧ Rp K H' v j.d ∧ fol rows k steps = some j) ?_ ?_ ?_
    · exact ⟨[], [], k, v, _, _, _, rfl, rfl, x1.any.trans (x2.wide (by simp)), T2, x2.keep _ _ e1 (by simpa using np), .nil, fun s hs => absurd hs (by simp), hv.ts (x1.ts.trans x2.ts), rfl⟩
    · rintro i σ H3 hi ⟨steps, xs, j, v, w6, w7, w8, rfl, lst, x3, T3, e3, r3, hst, rj, fj⟩
      have okj := fol_ok R ok0 fj
      obtain ⟨ol, oa⟩ := opts_all R okj.lev okj.good
      have lxs := r3.length
      walk_at "go"
      refine ⟨_, _, rows, j, rfl, hr.ts x3.ts, rj, okj.good, fun r hr => (R.fl r hr).2, fun l H4 ys x4 hl4 e4 r4 => ?_⟩
      have nl : l ≠ st := T3.new hl4
      have lys := r4.length
      rw [List.length_map] at lys
      walk_at "go"
      refine w_iteD (fun c => ?_) (fun c => ?_)
      · walk_at "go"
        exact ⟨steps, xs, j, v, _, _, _, rfl, by omega, x3.trans x4.any, T3.same x4, x4.same _ _ e3, r3.ts x4.ts, hst, rj.ts x4.ts, fj⟩
      · walk_at "go"
        refine ⟨st, sc, _, rfl, T3.same x4, by omega, by omega, fun r5 H5 a0 a1 x5 T5 => ?_⟩
        have e5 := x5.keep _ _ e4 (by simpa using nl)
        have hk : r5.toNat < ys.length := by omega
        have hy := List.getElem?_eq_getElem hk
        obtain ⟨d8, hd8, rd8⟩ := (r4.ts x5.ts).get hy
        rw [List.getElem?_map] at hd8
        obtain ⟨o, ho, rfl⟩ := Option.map_eq_some_iff.mp hd8
        have om := List.mem_of_getElem? ho
        refine x_l e5 (at_nat (j := r5.toNat) (by omega) hy) ?_
        have X5 : Ext [st] H3 H5 := x4.any.trans x5
        have e35 := X5.keep _ _ e3 (by simpa using np)
        walk_at "go"
        refine ⟨ty_l e35, ?_⟩
        walk_at "go"
        rename_i u10 ru10
        refine m_app e35 (line_of (by omega)) (fun H6 x6 e6 => ?_)
        walk_at "go"
        rename_i u11 ru11
        refine ⟨steps ++ [o.1], xs ++ [u10], o.2, u11, _, _, _, rfl, by simp [lst], (x3.trans (X5.wide (by simp))).trans (x6.wide (by simp)), T5.far x6 np op, e6, ?_, fun s hs => ?_, by assumption, ?_⟩
        · exact ((r3.ts X5.ts).ts x6.ts).append (.cons (ru10.ts x6.ts) .nil)
        · rcases List.mem_append.mp hs with h | h
          · exact hst s h
          · rw [List.mem_singleton.mp h]
            exact (oa o om).1
        · rw [fol_one, fj]
          exact aft_self R om
    · rintro σ H3 ⟨steps, xs, j, v, w6, w7, w8, rfl, lst, x3, T3, e3, r3, hst, rj, fj⟩
      exact ⟨steps, xs, j, v, _, _, _, rfl, by omega, x3, T3, e3, r3, hst, rj, fj⟩
  rintro _ H3 ⟨steps, xs, j, v, w6, w7, w8, rfl, lst, x3, T3, e3, r3, hst, rj, fj⟩
  have X3 : Ext [st] H H3 := Ext.less x3 hp
  walk_at "go"
  refine b_tupl e3 r3 (fun u H4 x4 r4 => ?_)
  walk_at "go"
  rename_i u5 H5 x5 r5 u6 H6 x6 r6
  exact q u6 H6 steps j (X3.trans ((x4.trans x5).trans x6).any) (T3.same ((x4.trans x5).trans x6)) r6 hst lst fj
end

section
variable {K : PySem.W.Frag}
def itD (p : Str × Kd) : D := .tup [.str p.1, p.2.d]
theorem items_rp {H' : Hp} : ∀ {tb : Tb} {vs : List V} {ts : List Addr} {H : Hp}, RpAll K H vs (tb.map fun p => p.2.d) → Ext [] H H' → Paired (fun (t : Addr) (q : Key × V) => H' t = some (.tup [kV q.1, q.2])) ts (kvsOf tb vs) → RpAll K H' (ts.map V.ref) (tb.map itD)
  | [], _, ts, _, .nil, _, h => by
    cases h
    exact .nil
  | p :: r, _, ts, H, .cons (v := v) (vs := vs) h1 t1, x, h => by
    have e0 : kvsOf (p :: r) (v :: vs) = (Sum.inr p.1, v) :: kvsOf r vs := rfl
    rw [e0] at h
    cases h with
    | cons ha ht =>
      exact .cons (.tup (SqT.of ha) (.cons (.str _) (.cons (h1.ts x.ts) .nil))) (items_rp t1 x ht)
/-- list(d.items()) -/
theorem l_items {H : Hp} {Q : VK} {a : Addr} {tb : Tb} (t : TbAt K H a tb) (h : ∀ p H' xs, H p = none → Ext [] H H' → H' p = some (.lst xs) → RpAll K H' xs (tb.map itD) → Q (.ref p) H') : LiI.rItemsL (.ref a) H Q := by
  obtain ⟨vs, e, r⟩ := t
  refine ⟨a, _, rfl, e, fun H' p ts keep hp _ _ ep pr => ?_⟩
  have x : Ext [] H H' := ⟨fun b o q _ => keep b o q, fun b xs q => keep b _ q, fun b o u q => keep b _ q⟩
  exact h p H' _ hp x ep (items_rp r x pr)
theorem w_items {σ : St} {H : Hp} {Q : VK} {te : TE} (h : te σ H fun x H1 => LiI.rItemsL x H1 Q) : LiI.tListItems te σ H Q := h
/-- == of two lists of the same data -/
theorem e_lists {H : Hp} {Q : VK} {p q : Addr} {xs ys : List V} {ds : List D} (hp : H p = some (.lst xs)) (hq : H q = some (.lst ys)) (r1 : RpAll K H xs ds) (r2 : RpAll K H ys ds) (nb : D.nbs ds = true) (sk : D.soks ds = true) (dp : D.deps ds ≤ 60) (h : Q (.bl true) H) : rEqG K (.ref p) (.ref q) H Q := by
  have sh : SeqAt.shaped (PyData.list (D.pys ds)) = true := by
    have := D.shaped (d := .tup ds) sk (by show D.deps ds + 1 ≤ 64; omega)
    unfold SeqAt.shaped at this ⊢
    simpa [D.py, PyData.canLay0, PyData.depth] using this
  refine .inr ⟨_, _, .lst (SqL.of hp) r1.dp, .lst (SqL.of hq) r2.dp, sh, sh, ?_⟩
  have e : PyData.eqv (.list (D.pys ds)) (.list (D.pys ds)) = true := by
    have h1 := D.eqvs_py ds ds
    have h2 := (D.eqvs_iff ds ds nb nb).mpr rfl
    rw [h2] at h1
    simpa [PyData.eqv] using h1
  rw [e]
  exact h
end

mutual
theorem Kd.sokd {ns : List Str} (h : ∀ n, n ∈ ns → Sk n) : ∀ k : Kd, k.kn ns → k.d.sok = true
  | .int, _ | .bool, _ | .unit, _ => by decide +kernel
  | .recd n, g => by
    have e : (D.str "record").sok = true := by decide +kernel
    have e2 : (D.str n).sok = true := h n g
    simp only [Kd.d, D.sok, D.soks] at *
    simp [e, e2]
  | .box k, g => by
    have e : (D.str "box").sok = true := by decide +kernel
    have := Kd.sokd h k g
    simp only [Kd.d, D.sok, D.soks] at *
    simp [e, this]
  | .maybe k, g => by
    have e : (D.str "maybe").sok = true := by decide +kernel
    have := Kd.sokd h k g
    simp only [Kd.d, D.sok, D.soks] at *
    simp [e, this]
  | .shared k, g => by
    have e : (D.str "shared").sok = true := by decide +kernel
    have := Kd.sokd h k g
    simp only [Kd.d, D.sok, D.soks] at *
    simp [e, this]
  | .excl k, g => by
    have e : (D.str "exclusive").sok = true := by decide +kernel
    have := Kd.sokd h k g
    simp only [Kd.d, D.sok, D.soks] at *
    simp [e, this]
  | .task k, g => by
    have e : (D.str "task").sok = true := by decide +kernel
    have := Kd.sokd h k g
    simp only [Kd.d, D.sok, D.soks] at *
    simp [e, this]
  | .tuple ks, g => by
    have e : (D.str "tuple").sok = true := by decide +kernel
    have := Kd.soksd h ks g
    simp only [Kd.d, D.sok, D.soks] at *
    simp [e, this]
theorem Kd.soksd {ns : List Str} (h : ∀ n, n ∈ ns → Sk n) : ∀ ks : List Kd, Kd.kns ns ks → D.soks (Kd.ds ks) = true
  | [], _ => rfl
  | k :: ks, ⟨a, b⟩ => by
    rw [Kd.ds, D.soks, Kd.sokd h k a, Kd.soksd h ks b]
    rfl
end
theorem tb_data {rows : List Row} (R : RowsOk rows) {tb : Tb} (T : TbOk rows tb) : D.nbs (tb.map itD) = true ∧ D.soks (tb.map itD) = true ∧ D.deps (tb.map itD) ≤ 60 := by
  have hsk : ∀ n, n ∈ rows.map Prod.fst → Sk n := fun n hn => by
    obtain ⟨r, hr, rfl⟩ := List.mem_map.mp hn
    exact R.sk r hr
  have each : ∀ d, d ∈ tb.map itD → d.nb = true ∧ d.sok = true ∧ d.dep ≤ 60 := fun d hd => by
    obtain ⟨p, hp, rfl⟩ := List.mem_map.mp hd
    obtain ⟨a, b, c⟩ := T.kd p hp
    obtain ⟨n1, n2, _⟩ := Kd.d_ok p.2 b
    have s1 := Kd.sokd hsk p.2 c
    have s2 : PyData.strOk p.1 = true := T.sk p hp
    refine ⟨by simp [itD, D.nb, D.nbs, n1], by simp [itD, D.sok, D.soks, s1, s2], ?_⟩
    simp only [itD, D.dep, D.deps]
    omega
  exact ⟨D.nbs_all fun d hd => (each d hd).1, D.soks_all fun d hd => (each d hd).2.1, D.deps_all fun d hd => (each d hd).2.2⟩
section
variable {K : PySem.W.Frag}
theorem n_words {H : Hp} {Q : VK} {p q : Addr} {w : Str} (sk : PyData.strOk w = true) (hp : H p = some (.lst [.str w, .bl true])) (hq : H q = some (.lst [.str w, .bl true])) (h : Q (.bl false) H) : rNeG K (.ref p) (.ref q) H Q := by
  have sh : SeqAt.shaped (PyData.list (D.pys [.str w, .bl true])) = true := by
    have := D.shaped (d := .tup [.str w, .bl true]) (by simp [D.sok, D.soks, sk]) (by simp [D.dep, D.deps])
    unfold SeqAt.shaped at this ⊢
    simpa [D.py, PyData.canLay0, PyData.depth] using this
  have r1 : RpAll K H [.str w, .bl true] [.str w, .bl true] := .cons (.str _) (.cons (.bl _) .nil)
  refine .inr ⟨_, _, .lst (SqL.of hp) r1.dp, .lst (SqL.of hq) r1.dp, sh, sh, ?_⟩
  have e : PyData.eqv (.list (D.pys [.str w, .bl true])) (.list (D.pys [.str w, .bl true])) = true := by
    have h1 := D.eqvs_py [.str w, .bl true] [.str w, .bl true]
    simp [D.eqvs, D.eqv] at h1
    simpa [PyData.eqv] using h1
  rw [e]
  exact h
theorem pure_law (A : Ad) (vs : List V) (H : Hp) (Q : VK) (E : XK) (h : sp_law K vs H Q E) : t_law K A (bd Q) (start N_law vs) H := by
  obtain ⟨a, ns, rfl, hS, hl, q⟩ := h
  show t_law K A (bd Q) [some (.ref a), none, none, none, none, none, none, none, none, none, none, none, none, none, none, none] H
  unfold t_law
  walk_at "gs"
  refine w_newL (by walk_at "len") (fun st H1 hst x1 e1 => ?_)
  have T1 : Pk K H1 st a := ⟨⟨_, _, _, _, e1, by omega, by omega, by omega, by omega⟩, ⟨ns, sqlExt hS x1 (by simp)⟩, off_of hS hst⟩
  walk_at "gs"
  refine ⟨st, a, rfl, T1, fun u2 H2 rows x2 T2 r2 R => ?_⟩
  walk_at "gs"
  refine ⟨st, a, u2, rows, rfl, T2, r2, R, fun ta H3 tb x3 hta T3 t3 ok tne tl4 => ?_⟩
  have nta : ta ≠ st := T2.new hta
  have r3 := r2.ts x3.ts
  walk_at "gs"
  refine w_items ?_
  walk_at "gs"
  refine l_items t3 fun cp H4 cxs hcp x4 ecp rcp => ?_
  have ncp : cp ≠ st := T3.new hcp
  have t4 := t3.same x4
  walk_at "gs"
  refine l_D2 t4 fun nm H5 hnm x5 enm => ?_
  have nnm : nm ≠ st := (T3.same x4).new hnm
  have t5 := t4.same x5
  have T5 := (T3.same x4).same x5
  have hnl : ((tb.map Prod.fst).map V.str).length = tb.length := by simp
  have tpos : 0 < tb.length := List.length_pos_iff.mpr tne
  have lnm : H5 nm = some (.lst ((tb.map Prod.fst).map V.str)) := enm
  walk_at "gs"
  rw [hnl]
  refine ⟨st, a, _, rfl, T5, by omega, by omega, fun r6 H6 a0 a1 x6 T6 => ?_⟩
  have hk6 : r6.toNat < tb.length := by omega
  have t6 := t5.keep x6 (by simpa using nta)
  have enm6 := enm.keep x6 (by simpa using nnm)
  obtain ⟨⟨s, k⟩, hsk⟩ : ∃ p, tb[r6.toNat]? = some p := ⟨_, List.getElem?_eq_getElem hk6⟩
  have lks := lk_get ok.nd hsk
  obtain ⟨l6, g6, n6⟩ := ok.kd _ (List.mem_of_getElem? hsk)
  have ssk : Sk s := ok.sk _ (List.mem_of_getElem? hsk)
  have r6' := ((r3.ts x4.ts).ts x5.ts).ts x6.ts
  refine x_l enm6 (at_nat (j := r6.toNat) (v := .str s) (by omega) (by rw [List.getElem?_map, List.getElem?_map, hsk]; rfl)) ?_
  walk_at "gs"
  refine tb_get t6 lks fun kv rkv => ?_
  walk_at "gs"
  refine ⟨st, a, _, kv, rows, s, k, rfl, T6, r6', rkv, R, l6, g6, n6, fun u7 H7 steps k' x7 T7 r7 hst7 l7 f7 => ?_⟩
  have okk : KdOk rows k := ⟨l6, g6, n6⟩
  have okk' := fol_ok R okk f7
  have t7 := t6.keep x7 (by simpa using nta)
  have ecp7 := (((x5.same _ _ ecp) |> fun e => x6.keep _ _ e (by simpa using ncp)) |> fun e => x7.keep _ _ e (by simpa using ncp))
  have rcp7 := ((rcp.ts x5.ts).ts x6.ts).ts x7.ts
  have enm7 := enm6.keep x7 (by simpa using nnm)
  have rr7 := r6'.ts x7.ts
  refine w_gT2 (d1 := .tup [.str s, .tup steps]) (d2 := k'.d) r7 fun v7 v8 rv7 rv8 => ?_
  walk_at "gs"
  refine ⟨st, a, _, rfl, T7, by omega, by omega, fun ch H8 b0 b1 x8 T8 => ?_⟩
  walk_at "gs"
  refine ⟨st, a, u2, rows, rfl, T8, rr7.ts x8.ts, R, fun sv H9 d x9 T9 rd sd => ?_⟩
  have X79 : Ext [st] H7 H9 := x8.trans x9
  have t9 := t7.keep X79 (by simpa using nta)
  have rr9 := rr7.ts X79.ts
  have told0 : tell rows tb s steps = .kd k' := by
    unfold tell
    rw [lks]
    simp only [f7]
  walk_at "gs"
  refine ⟨fun σ H' => ∃ (pv dv : V) (steps : List D) (w8 w12 w13 : Option V), σ = [some (.ref a), some (.ref st), some u2, some (.ref ta), some (.ref cp), some (.ref nm), some (.str s), some pv, w8, some dv, some (.int ch), some sv, w12, w13, none, none] ∧ Ext [st] H9 H' ∧ Pk K H' st a ∧ Rp K H' pv (.tup [.str s, .tup steps]) ∧ ToldV K H' dv (tell rows tb s steps) ∧ (∀ s, s ∈ steps → Stp s) ∧ steps.length ≤ 30, ?_, ?_⟩
  · refine w_ifS ?_
    have rv79 : Rp K H9 v7 (.tup [.str s, .tup steps]) := rv7.ts X79.ts
    have same : ∀ (D0 : Ends), (∀ σ H', (∃ (pv dv : V) (steps : List D) (w8 w12 w13 : Option V), σ = [some (.ref a), some (.ref st), some u2, some (.ref ta), some (.ref cp), some (.ref nm), some (.str s), some pv, w8, some dv, some (.int ch), some sv, w12, w13, none, none] ∧ Ext [st] H9 H' ∧ Pk K H' st a ∧ Rp K H' pv (.tup [.str s, .tup steps]) ∧ ToldV K H' dv (tell rows tb s steps) ∧ (∀ s, s ∈ steps → Stp s) ∧ steps.length ≤ 30) → D0.nx σ H') →
        tNext D0 [some (.ref a), some (.ref st), some u2, some (.ref ta), some (.ref cp), some (.ref nm), some (.str s), some v7, some v8, some v8, some (.int ch), some sv, none, none, none, none] H9 := fun D0 hn =>
      hn _ _ ⟨v7, v8, steps, _, _, _, rfl, Ext.refl, T9, rv79, by rw [told0]; exact ⟨rv8.ts X79.ts, okk'.lev, okk'.good⟩, hst7, by omega⟩
    refine w_andB (decide (ch = 1)) (decide ((steps.length : Int) < 12)) (fun P hP => ?_) (fun _ P hP => ?_) ?_
    · walk_at "go"
      exact hP
    · walk_at "go"
      exact hP
    refine w_ite (fun c => ?_) (fun c => ?_)
    · walk_at "go"
      rename_i stv rst
      refine ⟨st, a, _, rfl, T9, by omega, by omega, fun at_ H10 c0 c1 x10 T10 => ?_⟩
      walk_at "go"
      refine ⟨st, a, _, rfl, T10, by omega, by omega, fun r11 H11 d0 d1 x11 T11 => ?_⟩
      walk_at "go"
      rename_i v12 H12 x12 r12 vB rB v13 H13 x13 r13 v14 H14 x14 r14
      rw [cut_from _ (by omega)] at r12
      rw [cut_to _ c0] at r13
      refine a_tup (r13.ts x14.ts) r14 (le_line (by simp [List.length_take]; omega)) (fun v15 H15 x15 r15 => ?_)
      walk_at "go"
      refine a_tup r15 (r12.ts ((x13.ts.trans x14.ts).trans x15.ts)) (le_line (by simp; omega)) (fun v16 H16 x16 r16 => ?_)
      walk_at "go"
      rename_i v17 H17 x17 r17
      have Xn : Ext [] H11 H17 := ((((x12.trans x13).trans x14).trans x15).trans x16).trans x17
      have X917 : Ext [st] H9 H17 := (x10.trans x11).trans Xn.any
      have hst17 : ∀ s, s ∈ List.take at_.toNat steps ++ [d] ++ List.drop (at_ + r11).toNat steps → Stp s := fun s hs => by
        rcases List.mem_append.mp hs with hs | hs
        · rcases List.mem_append.mp hs with hs | hs
          · exact hst7 s (List.mem_of_mem_take hs)
          · rw [List.mem_singleton.mp hs]
            exact sd
        · exact hst7 s (List.mem_of_mem_drop hs)
      refine tb_get (t9.keep X917 (by simpa using nta)) lks fun kv2 rkv2 => ?_
      walk_at "go"
      rename_i v18 r18
      refine ⟨_, _, _, rows, k, _, rfl, rr9.ts X917.ts, rkv2, r18, hst17, R, l6, g6, n6, fun u19 H19 x19 td => ?_⟩
      walk_at "go"
      refine ⟨v17, u19, _, _, _, _, rfl, X917.trans x19.any, (T11.same Xn).same x19, r17.ts x19.ts, ?_, hst17, by simp; omega⟩
      unfold tell
      rw [lks]
      exact td
    · exact same _ fun _ _ h => h
  rintro _ H10 ⟨pv, dv, steps2, w8, w12, w13, rfl, x10, T10, rp10, td10, hst10, l10⟩
  have t10 := t9.keep x10 (by simpa using nta)
  have X710 : Ext [st] H7 H10 := X79.trans x10
  have ecp10 := X710.keep _ _ ecp7 (by simpa using ncp)
  have rcp10 := rcp7.ts X710.ts
  have enm10 := enm7.keep X710 (by simpa using nnm)
  have rr10 := rr7.ts X710.ts
  walk_at "gs"
  refine ⟨fun σ H' => ∃ (pv dv : V) (n : Str) (steps : List D) (w8 w12 w13 : Option V), σ = [some (.ref a), some (.ref st), some u2, some (.ref ta), some (.ref cp), some (.ref nm), some (.str s), some pv, w8, some dv, some (.int ch), some sv, w12, w13, none, none] ∧ Ext [st] H10 H' ∧ Rp K H' pv (.tup [.str n, .tup steps]) ∧ ToldV K H' dv (tell rows tb n steps) ∧ (∀ s, s ∈ steps → Stp s) ∧ steps.length ≤ 30, ?_, ?_⟩
  · walk_at "go"
    refine w_iteD (fun c => ?_) (fun c => ?_)
    · walk_at "gs"
      refine ⟨fun σ H' => ∃ (pv : V) (steps : List D), σ = [some (.ref a), some (.ref st), some u2, some (.ref ta), some (.ref cp), some (.ref nm), some (.str s), some pv, w8, some dv, some (.int ch), some sv, w12, w13, none, none] ∧ Ext [st] H10 H' ∧ Rp K H' pv (.tup [.str s, .tup steps]) ∧ (∀ s, s ∈ steps → Stp s) ∧ steps.length ≤ 30, ?_, ?_⟩
      · walk_at "go"
        refine ⟨st, a, _, rfl, T10, by omega, by omega, fun r11 H11 d0 d1 x11 T11 => ?_⟩
        walk_at "go"
        refine w_iteD (fun c2 => ?_) (fun c2 => ?_)
        · have rd11 := (rd.ts x10.ts).ts x11.ts
          walk_at "go"
          rename_i v12 H12 x12 r12 v13 H13 x13 r13
          exact ⟨v13, [d], rfl, x11.trans (x12.trans x13).any, r13, fun s hs => by rw [List.mem_singleton.mp hs]; exact sd, by simp⟩
        · walk_at "go"
          exact ⟨pv, steps2, rfl, x11, rp10.ts x11.ts, hst10, l10⟩
      rintro _ H11 ⟨pv, steps3, rfl, x11, rp11, hst11, l11⟩
      have enm11 := enm10.keep x11 (by simpa using nnm)
      walk_at "go"
      refine ⟨nm, tb.map Prod.fst, s, rfl, enm11, by rw [List.length_map]; omega, ok.ln _ (List.mem_of_getElem? hsk), fun t ht lt _ _ => ?_⟩
      walk_at "go"
      rename_i vB rB v12 H12 x12 r12
      refine w_newL (by walk_at "len") (fun p13 H13 hp13 x13 e13 => ?_)
      walk_at "go"
      refine ⟨v12, _, t, steps3, _, _, _, rfl, x11.trans (x12.trans x13).any, r12.ts x13.ts, ?_, hst11, l11⟩
      have ln := lk_none.mpr ht
      unfold tell
      rw [ln]
      exact ⟨p13, rfl, e13⟩
    · walk_at "go"
      exact ⟨pv, dv, s, steps2, _, _, _, rfl, Ext.refl, rp10, td10, hst10, l10⟩
  rintro _ H11 ⟨pv, dv, n, steps3, w8, w12, w13, rfl, x11, rp11, td11, hst11, l11⟩
  have t11 := t10.keep x11 (by simpa using nta)
  have ecp11 := x11.keep _ _ ecp10 (by simpa using ncp)
  have rcp11 := rcp10.ts x11.ts
  have rr11 := rr10.ts x11.ts
  walk_at "go"
  refine f_rng (fun i σ H' => ∃ w14 w15, σ = [some (.ref a), some (.ref st), some u2, some (.ref ta), some (.ref cp), some (.ref nm), some (.str s), some pv, w8, some dv, some (.int ch), some sv, w12, w13, w14, w15] ∧ Ext [] H11 H') ⟨_, _, rfl, Ext.refl⟩ ?_ ?_
  · rintro i σ H12 hi ⟨w14, w15, rfl, x12⟩
    have rp12 := rp11.ts x12.ts
    walk_at "go"
    refine ⟨pv, u2, ta, n, steps3, rows, tb, rfl, rp12, rr11.ts x12.ts, t11.same x12, hst11, by omega, R, ok, fun v H13 x13 td => ?_⟩
    have x113 := x12.trans x13
    cases e : tell rows tb n steps3 with
    | kd k9 =>
      rw [e] at td td11
      obtain ⟨ra, _, g9⟩ := td
      obtain ⟨rb, l9, _⟩ := td11
      obtain ⟨nb, dp, sm⟩ := Kd.d_ok k9 g9
      have rb2 := rb.ts x113.ts
      have tupd : ∃ ds, k9.d = .tup ds := by cases k9 <;> exact ⟨_, rfl⟩
      obtain ⟨ds, eds⟩ := tupd
      have rb3 : Rp K H13 dv (.tup ds) := by rw [← eds]; exact rb2
      walk_at "go"
      refine ⟨v, dv, k9.d, rfl, ra, rb2, nb, by omega, sm, ?_⟩
      walk_at "go"
      exact ⟨_, _, rfl, x113⟩
    | step =>
      rw [e] at td td11
      obtain ⟨p1, rfl, ep1⟩ := td
      obtain ⟨p2, rfl, ep2⟩ := td11
      have ep3 := x113.same _ _ ep2
      walk_at "go"
      refine n_words (by decide +kernel) ep1 ep3 ?_
      walk_at "go"
      exact ⟨_, _, rfl, x113⟩
    | var =>
      rw [e] at td td11
      obtain ⟨p1, rfl, ep1⟩ := td
      obtain ⟨p2, rfl, ep2⟩ := td11
      have ep3 := x113.same _ _ ep2
      walk_at "go"
      refine n_words (by decide +kernel) ep1 ep3 ?_
      walk_at "go"
      exact ⟨_, _, rfl, x113⟩
  · rintro σ H12 ⟨w14, w15, rfl, x12⟩
    obtain ⟨d1, d2, d3⟩ := tb_data R ok
    walk_at "go"
    refine w_items ?_
    walk_at "go"
    refine l_items (t11.same x12) fun p9 H13 xs9 hp9 x13 e9 r9 => ?_
    walk_at "go"
    refine e_lists e9 ((x12.trans x13).same _ _ ecp11) r9 (rcp11.ts (x12.trans x13).ts) d1 d2 d3 ?_
    exact q _
end

section
variable {P : Program} {w : World} {K : PySem.W.Frag} {mg : Str → Option Value} {base : Heap}
theorem has_fields_of (F0 : Dfn K mg "fields_of" s_fields_of ["records", "name"]) (A : Ad)       : Has P w K mg base CX0 1 "fields_of" ["records", "name"] (sp_fields_of K A) :=
  F0.has fun f fd F => F.ok sc_fields_of (by intro vs H Q E h; row_has h) (fun cdv A0 outer s H vs Q E hr h => ⟨t_fields_of K A,
    (pss_consJ (ps_for PassesOwn.never rfl (pi_tup (pv 0)) (pg_name (i := 2) sc_fields_of.nd rfl (by first | exact Or.inl rfl | exact Or.inr rfl)) (pss_one (ps_if (pt_cmpR (o_eq hr.units) (pe_ix ix_seq (pv 2) pe_int (fun _ _ => rfl)) (pv 1) (nomark _)) (pss_one (ps_ret (pe_ix ix_seq (pv 2) pe_int (fun _ _ => rfl)))) pss_nil)))
    (pss_one (ps_ret pe_non))),
    pure_fields_of A vs H Q E h⟩)
theorem has_kind_after (F0 : Dfn K mg "kind_after" s_kind_after ["records", "kind", "step"]) (A : Ad)  (h_fields_of : Has P w K mg base CX0 1 "fields_of" ["records", "name"] (sp_fields_of K A))  (x_NoSuchStep : ExO K mg "NoSuchStep" A.c_NoSuchStep) (z_isinstance : mg "isinstance" = none) (z_int : mg "int" = none) (z_len : mg "len" = none)  : Has P w K mg base (L2.CX P w) 2 "kind_after" ["records", "kind", "step"] (sp_kind_after K A) :=
  F0.has fun f fd F => F.okX sc_kind_after (by intro vs H Q E h; row_has h) (fun cdv A0 outer s H vs Q E hr h => ⟨t_kind_after K A E,
    (pss_consJ (ps_if (pt_cmpR (o_eq hr.units) (pv 2) pe_str (nomark _)) (pss_one (ps_if (pt_cmpR (o_eq hr.units) (pe_ix ix_seq (pv 1) pe_int (fun _ _ => rfl)) pe_str (nomark _)) (pss_one (ps_ret (pe_ix ix_seq (pv 1) pe_int (fun _ _ => rfl)))) pss_nil)) (pss_one (ps_if (pt_cmpR (o_eq hr.units) (pv 2) pe_str (nomark _)) (pss_one (ps_if (pt_cmpR op_in_seq (pe_ix ix_seq (pv 1) pe_int (fun _ _ => rfl)) (pe_tup (pa_cons pe_str (pa_cons pe_str (pa_cons pe_str pa_nil)))) rfl) (pss_one (ps_ret (pe_ix ix_seq (pv 1) pe_int (fun _ _ => rfl)))) pss_nil)) (pss_one (ps_if (pt_cmpR (o_eq hr.units) (pe_ix ix_seq (pv 1) pe_int (fun _ _ => rfl)) pe_str (nomark _)) (pss_one (ps_if (PW.pt (pw_and (pt_val (pe_callB call_isi (by rfl) z_isinstance (by decide +kernel) (pa_cons (pv 2) (pa_cons (pe_bltn (v := .ty "int") (by rfl) z_int (by decide +kernel) rfl) pa_nil)))) (pw_and1 (pt_chain op_le op_lt pe_int (pv 2) (pe_callB call_len (by rfl) z_len PySem.boot_len (pa_cons (pe_ix ix_seq (pv 1) pe_int (fun _ _ => rfl)) pa_nil)))))) (pss_one (ps_ret (pe_ix ix_seq (pe_ix ix_seq (pv 1) pe_int (fun _ _ => rfl)) (pv 2) (fun _ _ => rfl)))) pss_nil)) (pss_one (ps_if (pt_cmpR (o_eq hr.units) (pe_ix ix_seq (pv 1) pe_int (fun _ _ => rfl)) pe_str (nomark _)) (pss_one (ps_for (passes_of rfl) rfl (pi_tup (pe_callH h_fields_of (hr.mono (by omega)) rfl pass0 (pa_cons (pv 0) (pa_cons (pe_ix ix_seq (pv 1) pe_int (fun _ _ => rfl)) pa_nil)))) (pg_tup rfl (pgs_cons (pg_name (i := 3) sc_kind_after.nd rfl (by first | exact Or.inl rfl | exact Or.inr rfl)) (pgs_cons (pg_name (i := 4) sc_kind_after.nd rfl (by first | exact Or.inl rfl | exact Or.inr rfl)) pgs_nil))) (pss_one (ps_if (pt_cmpR (o_eq hr.units) (pv 3) (pv 2) (nomark _)) (pss_one (ps_ret (pv 4))) pss_nil)))) pss_nil)))))))
    (pss_one (ps_raiseC rfl (takes_of rfl rfl rfl rfl) x_NoSuchStep rfl))),
    pure_kind_after A vs H Q E h⟩)
theorem has_kinds_along (F0 : DfnK K mg "kinds_along" s_kinds_along 1 ["place", "records", "kinds"] ["records", "kinds"]) (A : Ad)  (h_kind_after : Has P w K mg base (L2.CX P w) 2 "kind_after" ["records", "kind", "step"] (sp_kind_after K A))  (x_NoSuchVariable : ExO K mg "NoSuchVariable" A.c_NoSuchVariable)   : HasK P w K mg base (L2.CX P w) 3 "kinds_along" 1 ["place", "records", "kinds"] ["records", "kinds"] (sp_kinds_along K A) :=
  F0.has fun f fd F => F.okX sc_kinds_along (by intro vs H Q E h; row_has h) (fun cdv A0 outer s H vs Q E hr h => ⟨t_kinds_along K A E,
    (pss_consJ (ps_if (pt_cmp (pc_dnotin (hu_of hr) (pe_ix ix_seq (pv 0) pe_int (fun _ _ => rfl)) (pv 2)) (by rfl)) (pss_one (ps_raiseC rfl (takes_of rfl rfl rfl rfl) x_NoSuchVariable rfl)) pss_nil)
    (pss_consJ (ps_set (i := 3) sc_kinds_along.nd rfl (by first | exact Or.inl rfl | exact Or.inr rfl) (pe_dget (hu_of hr) (pv 2) (pe_ix ix_seq (pv 0) pe_int (fun _ _ => rfl)) (fun _ _ => rfl)))
    (pss_consJ (ps_set (i := 4) sc_kinds_along.nd rfl (by first | exact Or.inl rfl | exact Or.inr rfl) (pe_lst (pa_cons (pv 3) pa_nil)))
    (pss_consJ (ps_for (passes_of rfl) rfl (pi_tup (pe_ix ix_seq (pv 0) pe_int (fun _ _ => rfl))) (pg_name (i := 5) sc_kinds_along.nd rfl (by first | exact Or.inl rfl | exact Or.inr rfl)) (pss_consJ (ps_set (i := 3) sc_kinds_along.nd rfl (by first | exact Or.inl rfl | exact Or.inr rfl) (pe_callH h_kind_after (hr.mono (by omega)) rfl (passE (takes_of rfl rfl rfl rfl)) (pa_cons (pv 1) (pa_cons (pv 3) (pa_cons (pv 5) pa_nil)))))
    (pss_one (ps_expr (pe_bm PySem.F.plainAttrs_list PySem.F.slot_list_append PySem.F.type_list_append mt_append (pv 4) (pa_cons (pv 3) pa_nil))))))
    (pss_one (ps_ret (pv 4))))))),
    pure_kinds_along A vs H Q E h⟩)
theorem has_kind_at (F0 : DfnK K mg "kind_at" s_kind_at 1 ["place", "records", "kinds"] ["records", "kinds"]) (A : Ad)  (h_kinds_along : HasK P w K mg base (L2.CX P w) 3 "kinds_along" 1 ["place", "records", "kinds"] ["records", "kinds"] (sp_kinds_along K A))     : HasK P w K mg base (L2.CX P w) 4 "kind_at" 1 ["place", "records", "kinds"] ["records", "kinds"] (sp_kind_at K A) :=
  F0.has fun f fd F => F.okX sc_kind_at (by intro vs H Q E h; row_has h) (fun cdv A0 outer s H vs Q E hr h => ⟨t_kind_at K A E,
    (pss_one (ps_ret (pe_ix ix_seq (pe_callKH h_kinds_along (hr.mono (by omega)) rfl (passE (takes_of rfl rfl rfl rfl)) (pa_cons (pv 0) pa_nil) (pk_cons (pv 1) (pk_cons (pv 2) pk_nil))) (pe_un un_neg pe_int) (fun _ _ => rfl)))),
    pure_kind_at A vs H Q E h⟩)
theorem has_l_pick (F0 : Dfn K mg "_law_pick" s_l_pick ["state", "script", "many"]) (A : Ad)     (z_int : mg "int" = none) (z_len : mg "len" = none) (z_abs : mg "abs" = none)  : Has P w K mg base CX0 1 "_law_pick" ["state", "script", "many"] (sp_l_pick K A) :=
  F0.has fun f fd F => F.ok sc_l_pick (by intro vs H Q E h; row_has h) (fun cdv A0 outer s H vs Q E hr h => ⟨t_l_pick K A,
    (pss_consJ (ps_if (pt_cmpR op_gt (pe_ix ix_seq (pv 0) pe_int (fun _ _ => rfl)) pe_int (nomark _)) (pss_consJ (ps_set (i := 3) sc_l_pick.nd rfl (by first | exact Or.inl rfl | exact Or.inr rfl) (pe_op op_mod (pe_callTy call_int1 (by rfl) z_int (by decide +kernel) (pa_cons (pe_ix ix_seq (pv 0) pe_int (fun _ _ => rfl)) pa_nil)) (pv 2)))
    (pss_consJ (ps_asg (pe_op op_fdiv (pe_ix ix_seq (pv 0) pe_int (fun _ _ => rfl)) (pv 2)) (pg_sub (pv 0) pe_int set_list))
    (pss_one (ps_ret (pv 3))))) pss_nil)
    (pss_consJ (ps_set (i := 4) sc_l_pick.nd rfl (by first | exact Or.inl rfl | exact Or.inr rfl) (pe_ix ix_seq (pv 0) pe_int (fun _ _ => rfl)))
    (pss_consJ (ps_asg (pe_op o_add (pv 4) pe_int) (pg_sub (pv 0) pe_int set_list))
    (pss_consJ (ps_if (pt_cmpR op_lt (pv 4) (pe_callB call_len (by rfl) z_len PySem.boot_len (pa_cons (pv 1) pa_nil)) (nomark _)) (pss_consJ (ps_set (i := 5) sc_l_pick.nd rfl (by first | exact Or.inl rfl | exact Or.inr rfl) (pe_callB call_abs (by rfl) z_abs (by decide +kernel) (pa_cons (pe_callTy call_int1 (by rfl) z_int (by decide +kernel) (pa_cons (pe_ix ix_seq (pv 1) (pv 4) (fun _ _ => rfl)) pa_nil)) pa_nil)))
    (pss_consJ (ps_if (pt_cmpR op_ge (pv 5) (pe_op op_pow pe_int pe_int) (nomark _)) (pss_consJ (ps_asg (pe_op op_fdiv (pv 5) (pv 2)) (pg_sub (pv 0) pe_int set_list))
    (pss_one (ps_ret (pe_op op_mod (pe_callTy call_int1 (by rfl) z_int (by decide +kernel) (pa_cons (pv 5) pa_nil)) (pv 2))))) pss_nil)
    (pss_one (ps_asg (pe_op op_mod (pe_callTy call_int1 (by rfl) z_int (by decide +kernel) (pa_cons (pe_op o_add (pe_op o_add (pe_op op_mul (pe_ix ix_seq (pv 0) pe_int (fun _ _ => rfl)) pe_int) (pe_op op_mul (pv 5) pe_int)) pe_int) pa_nil)) pe_int) (pg_sub (pv 0) pe_int set_list))))) pss_nil)
    (pss_consJ (ps_asg (pe_op op_mod (pe_callTy call_int1 (by rfl) z_int (by decide +kernel) (pa_cons (pe_op o_add (pe_op o_add (pe_op op_mul (pe_ix ix_seq (pv 0) pe_int (fun _ _ => rfl)) pe_int) (pe_op op_mul pe_int (pv 4))) pe_int) pa_nil)) pe_int) (pg_sub (pv 0) pe_int set_list))
    (pss_one (ps_ret (pe_op op_mod (pe_callTy call_int1 (by rfl) z_int (by decide +kernel) (pa_cons (pe_op op_fdiv (pe_op op_mul (pe_ix ix_seq (pv 0) pe_int (fun _ _ => rfl)) (pe_ix ix_seq (pv 0) pe_int (fun _ _ => rfl))) pe_int) pa_nil)) (pv 2))))))))),
    pure_l_pick A vs H Q E h⟩)
theorem has_l_words (F0 : Dfn K mg "_law_words" s_l_words []) (A : Ad)       : Has P w K mg base CX0 1 "_law_words" [] (sp_l_words K A) :=
  F0.has fun f fd F => F.ok sc_l_words (by intro vs H Q E h; row_has h) (fun cdv A0 outer s H vs Q E hr h => ⟨t_l_words K A,
    (pss_consJ (ps_set (i := 0) sc_l_words.nd rfl (by first | exact Or.inl rfl | exact Or.inr rfl) (pe_lst (pa_cons pe_str (pa_cons pe_str (pa_cons pe_str (pa_cons pe_str (pa_cons pe_str (pa_cons pe_str (pa_cons pe_str (pa_cons pe_str (pa_cons pe_str (pa_cons pe_str (pa_cons pe_str (pa_cons pe_str (pa_cons pe_str (pa_cons pe_str pa_nil))))))))))))))))
    (pss_consJ (ps_set (i := 0) sc_l_words.nd rfl (by first | exact Or.inl rfl | exact Or.inr rfl) (pe_op o_add (pv 0) (pe_lst (pa_cons pe_str (pa_cons pe_str (pa_cons pe_str (pa_cons pe_str (pa_cons pe_str (pa_cons pe_str (pa_cons pe_str (pa_cons pe_str (pa_cons pe_str (pa_cons pe_str pa_nil)))))))))))))
    (pss_one (ps_ret (pe_op o_add (pv 0) (pe_lst (pa_cons pe_str (pa_cons pe_str (pa_cons pe_str pa_nil))))))))),
    pure_l_words A vs H Q E h⟩)
theorem has_l_name (F0 : Dfn K mg "_law_name" s_l_name ["state", "script"]) (A : Ad)  (h_l_pick : Has P w K mg base CX0 1 "_law_pick" ["state", "script", "many"] (sp_l_pick K A)) (h_l_words : Has P w K mg base CX0 1 "_law_words" [] (sp_l_words K A))   (z_range : mg "range" = none)  : Has P w K mg base CX0 2 "_law_name" ["state", "script"] (sp_l_name K A) :=
  F0.has fun f fd F => F.ok sc_l_name (by intro vs H Q E h; row_has h) (fun cdv A0 outer s H vs Q E hr h => ⟨t_l_name K A,
    (pss_consJ (ps_set (i := 2) sc_l_name.nd rfl (by first | exact Or.inl rfl | exact Or.inr rfl) pe_str)
    (pss_consJ (ps_set (i := 3) sc_l_name.nd rfl (by first | exact Or.inl rfl | exact Or.inr rfl) (pe_op o_add (pv 2) pe_str))
    (pss_consJ (ps_set (i := 4) sc_l_name.nd rfl (by first | exact Or.inl rfl | exact Or.inr rfl) (pe_op o_add pe_int (pe_callH h_l_pick (hr.mono (by omega)) rfl pass0 (pa_cons (pv 0) (pa_cons (pv 1) (pa_cons pe_int pa_nil))))))
    (pss_consJ (ps_if (pt_cmpR (o_eq hr.units) (pv 4) pe_int (nomark _)) (pss_one (ps_set (i := 4) sc_l_name.nd rfl (by first | exact Or.inl rfl | exact Or.inr rfl) (pe_op o_add pe_int (pe_callH h_l_pick (hr.mono (by omega)) rfl pass0 (pa_cons (pv 0) (pa_cons (pv 1) (pa_cons pe_int pa_nil))))))) pss_nil)
    (pss_consJ (ps_set (i := 5) sc_l_name.nd rfl (by first | exact Or.inl rfl | exact Or.inr rfl) (pe_ix ix_seq (pv 2) (pe_callH h_l_pick (hr.mono (by omega)) rfl pass0 (pa_cons (pv 0) (pa_cons (pv 1) (pa_cons pe_int pa_nil)))) (fun _ _ => rfl)))
    (pss_consJ (ps_for PassesOwn.never rfl (pi_range1 (by rfl) z_range (pa_cons (pe_op op_sub (pv 4) pe_int) pa_nil)) (pg_name (i := 6) sc_l_name.nd rfl (by first | exact Or.inl rfl | exact Or.inr rfl)) (pss_one (ps_set (i := 5) sc_l_name.nd rfl (by first | exact Or.inl rfl | exact Or.inr rfl) (pe_op o_add (pv 5) (pe_ix ix_seq (pv 3) (pe_callH h_l_pick (hr.mono (by omega)) rfl pass0 (pa_cons (pv 0) (pa_cons (pv 1) (pa_cons pe_int pa_nil)))) (fun _ _ => rfl))))))
    (pss_consJ (ps_if (pt_cmpR op_in_seq (pv 5) (pe_callH0 h_l_words (hr.mono (by omega)) rfl pass0) rfl) (pss_one (ps_ret (pe_op o_add (pv 5) pe_str))) pss_nil)
    (pss_one (ps_ret (pv 5)))))))))),
    pure_l_name A vs H Q E h⟩)
theorem has_l_big (F0 : Dfn K mg "_law_big" s_l_big ["state", "script"]) (A : Ad)  (h_l_pick : Has P w K mg base CX0 1 "_law_pick" ["state", "script", "many"] (sp_l_pick K A))   (z_range : mg "range" = none)  : Has P w K mg base CX0 2 "_law_big" ["state", "script"] (sp_l_big K A) :=
  F0.has fun f fd F => F.ok sc_l_big (by intro vs H Q E h; row_has h) (fun cdv A0 outer s H vs Q E hr h => ⟨t_l_big K A,
    (pss_consJ (ps_set (i := 2) sc_l_big.nd rfl (by first | exact Or.inl rfl | exact Or.inr rfl) pe_str)
    (pss_consJ (ps_set (i := 3) sc_l_big.nd rfl (by first | exact Or.inl rfl | exact Or.inr rfl) (pe_op o_add (pv 2) pe_str))
    (pss_consJ (ps_set (i := 4) sc_l_big.nd rfl (by first | exact Or.inl rfl | exact Or.inr rfl) (pe_op o_add pe_int (pe_callH h_l_pick (hr.mono (by omega)) rfl pass0 (pa_cons (pv 0) (pa_cons (pv 1) (pa_cons pe_int pa_nil))))))
    (pss_consJ (ps_if (pt_cmpR (o_eq hr.units) (pv 4) pe_int (nomark _)) (pss_one (ps_set (i := 4) sc_l_big.nd rfl (by first | exact Or.inl rfl | exact Or.inr rfl) (pe_op o_add pe_int (pe_callH h_l_pick (hr.mono (by omega)) rfl pass0 (pa_cons (pv 0) (pa_cons (pv 1) (pa_cons pe_int pa_nil))))))) pss_nil)
    (pss_consJ (ps_set (i := 5) sc_l_big.nd rfl (by first | exact Or.inl rfl | exact Or.inr rfl) (pe_ix ix_seq (pv 2) (pe_callH h_l_pick (hr.mono (by omega)) rfl pass0 (pa_cons (pv 0) (pa_cons (pv 1) (pa_cons pe_int pa_nil)))) (fun _ _ => rfl)))
    (pss_consJ (ps_for PassesOwn.never rfl (pi_range1 (by rfl) z_range (pa_cons (pe_op op_sub (pv 4) pe_int) pa_nil)) (pg_name (i := 6) sc_l_big.nd rfl (by first | exact Or.inl rfl | exact Or.inr rfl)) (pss_one (ps_set (i := 5) sc_l_big.nd rfl (by first | exact Or.inl rfl | exact Or.inr rfl) (pe_op o_add (pv 5) (pe_ix ix_seq (pv 3) (pe_callH h_l_pick (hr.mono (by omega)) rfl pass0 (pa_cons (pv 0) (pa_cons (pv 1) (pa_cons pe_int pa_nil)))) (fun _ _ => rfl))))))
    (pss_one (ps_ret (pv 5))))))))),
    pure_l_big A vs H Q E h⟩)
theorem has_l_new (F0 : Dfn K mg "_law_new" s_l_new ["taken", "word"]) (A : Ad)     (z_range : mg "range" = none) (z_str : mg "str" = none)  : Has P w K mg base CX0 1 "_law_new" ["taken", "word"] (sp_l_new K A) :=
  F0.has fun f fd F => F.ok sc_l_new (by intro vs H Q E h; row_has h) (fun cdv A0 outer s H vs Q E hr h => ⟨t_l_new K A,
    (pss_consJ (ps_if (pt_cmpR op_notIn_seq (pv 1) (pv 0) rfl) (pss_one (ps_ret (pv 1))) pss_nil)
    (pss_consJ (ps_for PassesOwn.never rfl (pi_range1 (by rfl) z_range (pa_cons pe_int pa_nil)) (pg_name (i := 2) sc_l_new.nd rfl (by first | exact Or.inl rfl | exact Or.inr rfl)) (pss_consJ (ps_set (i := 3) sc_l_new.nd rfl (by first | exact Or.inl rfl | exact Or.inr rfl) (pe_op o_add (pe_slice o_sl (pv 1) po_none (po_some pe_int)) (pe_callTy call_str_int (by rfl) z_str (by decide +kernel) (pa_cons (pv 2) pa_nil))))
    (pss_one (ps_if (pt_cmpR op_notIn_seq (pv 3) (pv 0) rfl) (pss_one (ps_ret (pv 3))) pss_nil))))
    (pss_one (ps_ret (pv 1))))),
    pure_l_new A vs H Q E h⟩)
theorem step_l_kind (n : Nat) (F0 : Dfn K mg "_law_kind" s_l_kind ["state", "script", "room", "plain", "names"]) (A : Ad) (h_l_pick : Has P w K mg base CX0 1 "_law_pick" ["state", "script", "many"] (sp_l_pick K A)) (h_l_kind : Has P w K mg base CX0 (n + 3) "_law_kind" ["state", "script", "room", "plain", "names"] (sp_l_kind K A n))   (z_range : mg "range" = none) (z_tuple : mg "tuple" = none) (z_len : mg "len" = none) (z_int : mg "int" = none)  : Has P w K mg base CX0 (n + 3 + 1) "_law_kind" ["state", "script", "room", "plain", "names"] (sp_l_kind K A (n + 1)) :=
  F0.has fun f fd F => F.ok sc_l_kind (by intro vs H Q E h; row_has h) (fun cdv A0 outer s H vs Q E hr h => ⟨t_l_kind K A n,
    (pss_consJ (ps_set (i := 5) sc_l_kind.nd rfl (by first | exact Or.inl rfl | exact Or.inr rfl) (pe_callH h_l_pick (hr.mono (by omega)) rfl pass0 (pa_cons (pv 0) (pa_cons (pv 1) (pa_cons pe_int pa_nil)))))
    (pss_consJ (ps_if (PW.pt (pw_and (pt_cmpR op_gt (pv 2) pe_int (nomark _)) (pw_and (pt_cmpR op_gt (pe_ix ix_seq (pv 0) pe_int (fun _ _ => rfl)) pe_int (nomark _)) (pw_and1 (pt_cmpR op_gt (pv 5) pe_int (nomark _)))))) (pss_consJ (ps_asg (pe_op op_sub (pe_ix ix_seq (pv 0) pe_int (fun _ _ => rfl)) pe_int) (pg_sub (pv 0) pe_int set_list))
    (pss_consJ (ps_if (pt_cmpR (o_eq hr.units) (pv 5) pe_int (nomark _)) (pss_one (ps_ret (pe_tup (pa_cons pe_str (pa_cons (pe_callH h_l_kind (hr.mono (by omega)) rfl pass0 (pa_cons (pv 0) (pa_cons (pv 1) (pa_cons (pe_op op_sub (pv 2) pe_int) (pa_cons pe_bl (pa_cons (pv 4) pa_nil)))))) pa_nil))))) pss_nil)
    (pss_consJ (ps_if (pt_cmpR (o_eq hr.units) (pv 5) pe_int (nomark _)) (pss_consJ (ps_set (i := 6) sc_l_kind.nd rfl (by first | exact Or.inl rfl | exact Or.inr rfl) (pe_lst pa_nil))
    (pss_consJ (ps_for PassesOwn.never rfl (pi_range1 (by rfl) z_range (pa_cons (pe_op o_add pe_int (pe_callH h_l_pick (hr.mono (by omega)) rfl pass0 (pa_cons (pv 0) (pa_cons (pv 1) (pa_cons pe_int pa_nil))))) pa_nil)) (pg_name (i := 7) sc_l_kind.nd rfl (by first | exact Or.inl rfl | exact Or.inr rfl)) (pss_one (ps_expr (pe_bm PySem.F.plainAttrs_list PySem.F.slot_list_append PySem.F.type_list_append mt_append (pv 6) (pa_cons (pe_callH h_l_kind (hr.mono (by omega)) rfl pass0 (pa_cons (pv 0) (pa_cons (pv 1) (pa_cons (pe_op op_sub (pv 2) pe_int) (pa_cons (pv 3) (pa_cons (pv 4) pa_nil)))))) pa_nil)))))
    (pss_one (ps_ret (pe_tup (pa_cons pe_str (pa_cons (pe_callTy call_tuple_of (by rfl) z_tuple (by decide +kernel) (pa_cons (pv 6) pa_nil)) pa_nil))))))) pss_nil)
    (pss_consJ (ps_if (PW.pt (pw_or (pt_cmpR op_lt (pv 5) pe_int (nomark _)) (pw_or1 (pt_val (pv 3))))) (pss_one (ps_ret (pe_tup (pa_cons pe_str (pa_cons (pe_callH h_l_kind (hr.mono (by omega)) rfl pass0 (pa_cons (pv 0) (pa_cons (pv 1) (pa_cons (pe_op op_sub (pv 2) pe_int) (pa_cons (pv 3) (pa_cons (pv 4) pa_nil)))))) pa_nil))))) pss_nil)
    (pss_one (ps_ret (pe_tup (pa_cons (pe_ix ix_seq (pe_lst (pa_cons pe_str (pa_cons pe_str pa_nil))) (pe_op op_sub (pv 5) pe_int) (fun _ _ => rfl)) (pa_cons (pe_callH h_l_kind (hr.mono (by omega)) rfl pass0 (pa_cons (pv 0) (pa_cons (pv 1) (pa_cons (pe_op op_sub (pv 2) pe_int) (pa_cons pe_bl (pa_cons (pv 4) pa_nil)))))) pa_nil))))))))) pss_nil)
    (pss_consJ (ps_if (PW.pt (pw_and (pt_cmpR (o_eq hr.units) (pv 5) pe_int (nomark _)) (pw_and1 (pt_cmpR op_gt (pe_callB call_len (by rfl) z_len PySem.boot_len (pa_cons (pv 4) pa_nil)) pe_int (nomark _))))) (pss_one (ps_ret (pe_tup (pa_cons pe_str (pa_cons (pe_ix ix_seq (pv 4) (pe_callH h_l_pick (hr.mono (by omega)) rfl pass0 (pa_cons (pv 0) (pa_cons (pv 1) (pa_cons (pe_callB call_len (by rfl) z_len PySem.boot_len (pa_cons (pv 4) pa_nil)) pa_nil)))) (fun _ _ => rfl)) pa_nil))))) pss_nil)
    (pss_one (ps_ret (pe_tup (pa_cons (pe_ix ix_seq (pe_lst (pa_cons pe_str (pa_cons pe_str (pa_cons pe_str pa_nil)))) (pe_op op_mod (pe_callTy call_int1 (by rfl) z_int (by decide +kernel) (pa_cons (pv 5) pa_nil)) pe_int) (fun _ _ => rfl)) pa_nil))))))),
    pure_l_kind A n vs H Q E h⟩)
theorem has_l_kind (F0 : Dfn K mg "_law_kind" s_l_kind ["state", "script", "room", "plain", "names"]) (A : Ad) (h_l_pick : Has P w K mg base CX0 1 "_law_pick" ["state", "script", "many"] (sp_l_pick K A))   (z_range : mg "range" = none) (z_tuple : mg "tuple" = none) (z_len : mg "len" = none) (z_int : mg "int" = none)  : ∀ n : Nat, Has P w K mg base CX0 (n + 3) "_law_kind" ["state", "script", "room", "plain", "names"] (sp_l_kind K A n)
  | 0 => F0.never no_l_kind
  | n + 1 => (step_l_kind n F0 A h_l_pick (has_l_kind F0 A h_l_pick  z_range z_tuple z_len z_int  n)  z_range z_tuple z_len z_int ).mono (by omega)
theorem step_l_is_plain (n : Nat) (F0 : Dfn K mg "_law_is_plain" s_l_is_plain ["kind"]) (A : Ad) (h_l_is_plain : Has P w K mg base CX0 (n + 0) "_law_is_plain" ["kind"] (sp_l_is_plain K A n))     : Has P w K mg base CX0 (n + 0 + 1) "_law_is_plain" ["kind"] (sp_l_is_plain K A (n + 1)) :=
  F0.has fun f fd F => F.ok sc_l_is_plain (by intro vs H Q E h; row_has h) (fun cdv A0 outer s H vs Q E hr h => ⟨t_l_is_plain K A n,
    (pss_consJ (ps_if (PW.pt (pw_or (pt_cmpR (o_eq hr.units) (pe_ix ix_seq (pv 0) pe_int (fun _ _ => rfl)) pe_str (nomark _)) (pw_or1 (pt_cmpR (o_eq hr.units) (pe_ix ix_seq (pv 0) pe_int (fun _ _ => rfl)) pe_str (nomark _))))) (pss_one (ps_ret pe_bl)) pss_nil)
    (pss_consJ (ps_if (pt_cmpR (o_eq hr.units) (pe_ix ix_seq (pv 0) pe_int (fun _ _ => rfl)) pe_str (nomark _)) (pss_one (ps_for PassesOwn.never rfl (pi_tup (pe_ix ix_seq (pv 0) pe_int (fun _ _ => rfl))) (pg_name (i := 1) sc_l_is_plain.nd rfl (by first | exact Or.inl rfl | exact Or.inr rfl)) (pss_one (ps_if (pt_not (pt_val (pe_callH h_l_is_plain (hr.mono (by omega)) rfl pass0 (pa_cons (pv 1) pa_nil)))) (pss_one (ps_ret pe_bl)) pss_nil)))) pss_nil)
    (pss_consJ (ps_if (PW.pt (pw_or (pt_cmpR (o_eq hr.units) (pe_ix ix_seq (pv 0) pe_int (fun _ _ => rfl)) pe_str (nomark _)) (pw_or1 (pt_cmpR (o_eq hr.units) (pe_ix ix_seq (pv 0) pe_int (fun _ _ => rfl)) pe_str (nomark _))))) (pss_one (ps_ret (pe_callH h_l_is_plain (hr.mono (by omega)) rfl pass0 (pa_cons (pe_ix ix_seq (pv 0) pe_int (fun _ _ => rfl)) pa_nil)))) pss_nil)
    (pss_one (ps_ret pe_bl))))),
    pure_l_is_plain A n vs H Q E h⟩)
theorem has_l_is_plain (F0 : Dfn K mg "_law_is_plain" s_l_is_plain ["kind"]) (A : Ad)      : ∀ n : Nat, Has P w K mg base CX0 (n + 0) "_law_is_plain" ["kind"] (sp_l_is_plain K A n)
  | 0 => F0.never no_l_is_plain
  | n + 1 => (step_l_is_plain n F0 A (has_l_is_plain F0 A     n)   ).mono (by omega)
theorem has_l_wide (F0 : Dfn K mg "_law_wide" s_l_wide ["state", "script"]) (A : Ad)  (h_l_pick : Has P w K mg base CX0 1 "_law_pick" ["state", "script", "many"] (sp_l_pick K A))   (z_range : mg "range" = none) (z_tuple : mg "tuple" = none)  : Has P w K mg base CX0 2 "_law_wide" ["state", "script"] (sp_l_wide K A) :=
  F0.has fun f fd F => F.ok sc_l_wide (by intro vs H Q E h; row_has h) (fun cdv A0 outer s H vs Q E hr h => ⟨t_l_wide K A,
    (pss_consJ (ps_set (i := 2) sc_l_wide.nd rfl (by first | exact Or.inl rfl | exact Or.inr rfl) (pe_lst (pa_cons (pe_tup (pa_cons pe_str (pa_cons (pe_tup (pa_cons pe_str pa_nil)) pa_nil))) (pa_cons (pe_tup (pa_cons pe_str (pa_cons (pe_tup (pa_cons pe_str pa_nil)) pa_nil))) (pa_cons (pe_tup (pa_cons pe_str (pa_cons (pe_tup (pa_cons pe_str (pa_cons (pe_tup (pa_cons pe_str pa_nil)) pa_nil))) pa_nil))) (pa_cons (pe_tup (pa_cons pe_str (pa_cons (pe_tup (pa_cons pe_str pa_nil)) pa_nil))) pa_nil))))))
    (pss_consJ (ps_set (i := 3) sc_l_wide.nd rfl (by first | exact Or.inl rfl | exact Or.inr rfl) (pe_lst pa_nil))
    (pss_consJ (ps_for PassesOwn.never rfl (pi_range1 (by rfl) z_range (pa_cons (pe_op o_add pe_int (pe_callH h_l_pick (hr.mono (by omega)) rfl pass0 (pa_cons (pv 0) (pa_cons (pv 1) (pa_cons pe_int pa_nil))))) pa_nil)) (pg_name (i := 4) sc_l_wide.nd rfl (by first | exact Or.inl rfl | exact Or.inr rfl)) (pss_consJ (ps_set (i := 5) sc_l_wide.nd rfl (by first | exact Or.inl rfl | exact Or.inr rfl) (pe_lst pa_nil))
    (pss_consJ (ps_for PassesOwn.never rfl (pi_range1 (by rfl) z_range (pa_cons (pe_op o_add pe_int (pe_callH h_l_pick (hr.mono (by omega)) rfl pass0 (pa_cons (pv 0) (pa_cons (pv 1) (pa_cons pe_int pa_nil))))) pa_nil)) (pg_name (i := 6) sc_l_wide.nd rfl (by first | exact Or.inl rfl | exact Or.inr rfl)) (pss_one (ps_expr (pe_bm PySem.F.plainAttrs_list PySem.F.slot_list_append PySem.F.type_list_append mt_append (pv 5) (pa_cons (pe_ix ix_seq (pe_op o_add (pv 2) (pe_lst (pa_cons (pe_tup (pa_cons pe_str pa_nil)) pa_nil))) (pe_callH h_l_pick (hr.mono (by omega)) rfl pass0 (pa_cons (pv 0) (pa_cons (pv 1) (pa_cons pe_int pa_nil)))) (fun _ _ => rfl)) pa_nil)))))
    (pss_one (ps_expr (pe_bm PySem.F.plainAttrs_list PySem.F.slot_list_append PySem.F.type_list_append mt_append (pv 3) (pa_cons (pe_tup (pa_cons pe_str (pa_cons (pe_callTy call_tuple_of (by rfl) z_tuple (by decide +kernel) (pa_cons (pv 5) pa_nil)) pa_nil))) pa_nil)))))))
    (pss_one (ps_ret (pe_tup (pa_cons pe_str (pa_cons (pe_callTy call_tuple_of (by rfl) z_tuple (by decide +kernel) (pa_cons (pv 3) pa_nil)) pa_nil)))))))),
    pure_l_wide A vs H Q E h⟩)
theorem has_l_any_kind (F0 : Dfn K mg "_law_any_kind" s_l_any_kind ["state", "script", "names"]) (A : Ad)  (h_l_pick : Has P w K mg base CX0 1 "_law_pick" ["state", "script", "many"] (sp_l_pick K A)) (h_l_wide : Has P w K mg base CX0 2 "_law_wide" ["state", "script"] (sp_l_wide K A)) (h_l_kind : Has P w K mg base CX0 9 "_law_kind" ["state", "script", "room", "plain", "names"] (sp_l_kind K A 6)) (h_l_is_plain : Has P w K mg base CX0 12 "_law_is_plain" ["kind"] (sp_l_is_plain K A 12))   (z_range : mg "range" = none)  : Has P w K mg base CX0 13 "_law_any_kind" ["state", "script", "names"] (sp_l_any_kind K A) :=
  F0.has fun f fd F => F.ok sc_l_any_kind (by intro vs H Q E h; row_has h) (fun cdv A0 outer s H vs Q E hr h => ⟨t_l_any_kind K A,
    (pss_consJ (ps_if (pt_cmpR (o_eq hr.units) (pe_callH h_l_pick (hr.mono (by omega)) rfl pass0 (pa_cons (pv 0) (pa_cons (pv 1) (pa_cons pe_int pa_nil)))) pe_int (nomark _)) (pss_one (ps_ret (pe_callH h_l_wide (hr.mono (by omega)) rfl pass0 (pa_cons (pv 0) (pa_cons (pv 1) pa_nil))))) pss_nil)
    (pss_consJ (ps_asg pe_int (pg_sub (pv 0) pe_int set_list))
    (pss_consJ (ps_if (pt_cmpR op_gt (pe_callH h_l_pick (hr.mono (by omega)) rfl pass0 (pa_cons (pv 0) (pa_cons (pv 1) (pa_cons pe_int pa_nil)))) pe_int (nomark _)) (pss_one (ps_ret (pe_callH h_l_kind (hr.mono (by omega)) rfl pass0 (pa_cons (pv 0) (pa_cons (pv 1) (pa_cons pe_int (pa_cons pe_bl (pa_cons (pv 2) pa_nil)))))))) pss_nil)
    (pss_consJ (ps_set (i := 3) sc_l_any_kind.nd rfl (by first | exact Or.inl rfl | exact Or.inr rfl) (pe_callH h_l_kind (hr.mono (by omega)) rfl pass0 (pa_cons (pv 0) (pa_cons (pv 1) (pa_cons pe_int (pa_cons pe_bl (pa_cons (pv 2) pa_nil)))))))
    (pss_consJ (ps_for PassesOwn.never rfl (pi_range1 (by rfl) z_range (pa_cons (pe_callH h_l_pick (hr.mono (by omega)) rfl pass0 (pa_cons (pv 0) (pa_cons (pv 1) (pa_cons pe_int pa_nil)))) pa_nil)) (pg_name (i := 4) sc_l_any_kind.nd rfl (by first | exact Or.inl rfl | exact Or.inr rfl)) (pss_consJ (ps_set (i := 5) sc_l_any_kind.nd rfl (by first | exact Or.inl rfl | exact Or.inr rfl) (pe_callH h_l_pick (hr.mono (by omega)) rfl pass0 (pa_cons (pv 0) (pa_cons (pv 1) (pa_cons pe_int pa_nil)))))
    (pss_one (ps_if (PW.pt (pw_and (pt_cmpR op_lt (pv 5) pe_int (nomark _)) (pw_and1 (pt_val (pe_callH h_l_is_plain (hr.mono (by omega)) rfl pass0 (pa_cons (pv 3) pa_nil)))))) (pss_one (ps_set (i := 3) sc_l_any_kind.nd rfl (by first | exact Or.inl rfl | exact Or.inr rfl) (pe_tup (pa_cons (pe_ix ix_seq (pe_lst (pa_cons pe_str (pa_cons pe_str (pa_cons pe_str pa_nil)))) (pv 5) (fun _ _ => rfl)) (pa_cons (pv 3) pa_nil))))) (pss_one (ps_if (pt_cmpR (o_eq hr.units) (pv 5) pe_int (nomark _)) (pss_one (ps_set (i := 3) sc_l_any_kind.nd rfl (by first | exact Or.inl rfl | exact Or.inr rfl) (pe_tup (pa_cons pe_str (pa_cons (pe_tup (pa_cons (pe_tup (pa_cons pe_str pa_nil)) (pa_cons (pv 3) pa_nil))) pa_nil))))) (pss_one (ps_set (i := 3) sc_l_any_kind.nd rfl (by first | exact Or.inl rfl | exact Or.inr rfl) (pe_tup (pa_cons pe_str (pa_cons (pv 3) pa_nil)))))))))))
    (pss_one (ps_ret (pv 3)))))))),
    pure_l_any_kind A vs H Q E h⟩)
theorem step_l_same (n : Nat) (F0 : Dfn K mg "_law_same" s_l_same ["actual", "due"]) (A : Ad) (h_l_same : Has P w K mg base CX0 (n + 0) "_law_same" ["actual", "due"] (sp_l_same K A n))   (z_isinstance : mg "isinstance" = none) (z_tuple : mg "tuple" = none) (z_len : mg "len" = none) (z_range : mg "range" = none) (z_bool : mg "bool" = none) (z_int : mg "int" = none) (z_str : mg "str" = none)  : Has P w K mg base CX0 (n + 0 + 1) "_law_same" ["actual", "due"] (sp_l_same K A (n + 1)) :=
  F0.has fun f fd F => F.ok sc_l_same (by intro vs H Q E h; row_has h) (fun cdv A0 outer s H vs Q E hr h => ⟨t_l_same K A n,
    (pss_consJ (ps_if (pt_val (pe_callB call_isi (by rfl) z_isinstance (by decide +kernel) (pa_cons (pv 1) (pa_cons (pe_bltn (v := .ty "tuple") (by rfl) z_tuple (by decide +kernel) rfl) pa_nil)))) (pss_consJ (ps_if (PW.pt (pw_or (pt_not (pt_val (pe_callB call_isi (by rfl) z_isinstance (by decide +kernel) (pa_cons (pv 0) (pa_cons (pe_bltn (v := .ty "tuple") (by rfl) z_tuple (by decide +kernel) rfl) pa_nil))))) (pw_or1 (pt_cmpR (o_ne hr.units) (pe_callB call_len (by rfl) z_len PySem.boot_len (pa_cons (pv 0) pa_nil)) (pe_callB call_len (by rfl) z_len PySem.boot_len (pa_cons (pv 1) pa_nil)) (nomark _))))) (pss_one (ps_ret pe_bl)) pss_nil)
    (pss_consJ (ps_for PassesOwn.never rfl (pi_range1 (by rfl) z_range (pa_cons (pe_callB call_len (by rfl) z_len PySem.boot_len (pa_cons (pv 1) pa_nil)) pa_nil)) (pg_name (i := 2) sc_l_same.nd rfl (by first | exact Or.inl rfl | exact Or.inr rfl)) (pss_one (ps_if (pt_not (pt_val (pe_callH h_l_same (hr.mono (by omega)) rfl pass0 (pa_cons (pe_ix ix_seq (pv 0) (pv 2) (fun _ _ => rfl)) (pa_cons (pe_ix ix_seq (pv 1) (pv 2) (fun _ _ => rfl)) pa_nil))))) (pss_one (ps_ret pe_bl)) pss_nil)))
    (pss_one (ps_ret pe_bl)))) pss_nil)
    (pss_consJ (ps_if (pt_val (pe_callB call_isi (by rfl) z_isinstance (by decide +kernel) (pa_cons (pv 1) (pa_cons (pe_bltn (v := .ty "bool") (by rfl) z_bool (by decide +kernel) rfl) pa_nil)))) (pss_one (ps_ret (pe_and (pe_callB call_isi (by rfl) z_isinstance (by decide +kernel) (pa_cons (pv 0) (pa_cons (pe_bltn (v := .ty "bool") (by rfl) z_bool (by decide +kernel) rfl) pa_nil))) (pe_one (pe_cmpR (o_eq hr.units) (pv 0) (pv 1) (nomark _)))))) pss_nil)
    (pss_consJ (ps_if (pt_val (pe_callB call_isi (by rfl) z_isinstance (by decide +kernel) (pa_cons (pv 1) (pa_cons (pe_bltn (v := .ty "int") (by rfl) z_int (by decide +kernel) rfl) pa_nil)))) (pss_one (ps_ret (pe_and (pe_callB call_isi (by rfl) z_isinstance (by decide +kernel) (pa_cons (pv 0) (pa_cons (pe_bltn (v := .ty "int") (by rfl) z_int (by decide +kernel) rfl) pa_nil))) (pe_and (pe_not (pe_callB call_isi (by rfl) z_isinstance (by decide +kernel) (pa_cons (pv 0) (pa_cons (pe_bltn (v := .ty "bool") (by rfl) z_bool (by decide +kernel) rfl) pa_nil)))) (pe_one (pe_cmpR (o_eq hr.units) (pv 0) (pv 1) (nomark _))))))) pss_nil)
    (pss_one (ps_ret (pe_and (pe_callB call_isi (by rfl) z_isinstance (by decide +kernel) (pa_cons (pv 0) (pa_cons (pe_bltn (v := .ty "str") (by rfl) z_str (by decide +kernel) rfl) pa_nil))) (pe_one (pe_cmpR (o_eq hr.units) (pv 0) (pv 1) (nomark _))))))))),
    pure_l_same A n vs H Q E h⟩)
theorem has_l_same (F0 : Dfn K mg "_law_same" s_l_same ["actual", "due"]) (A : Ad)    (z_isinstance : mg "isinstance" = none) (z_tuple : mg "tuple" = none) (z_len : mg "len" = none) (z_range : mg "range" = none) (z_bool : mg "bool" = none) (z_int : mg "int" = none) (z_str : mg "str" = none)  : ∀ n : Nat, Has P w K mg base CX0 (n + 0) "_law_same" ["actual", "due"] (sp_l_same K A n)
  | 0 => F0.never no_l_same
  | n + 1 => (step_l_same n F0 A (has_l_same F0 A   z_isinstance z_tuple z_len z_range z_bool z_int z_str  n)  z_isinstance z_tuple z_len z_range z_bool z_int z_str ).mono (by omega)
theorem step_l_size (n : Nat) (F0 : Dfn K mg "_law_size" s_l_size ["rows", "kind"]) (A : Ad) (h_l_size : Has P w K mg base CX0 (n + 0) "_law_size" ["rows", "kind"] (sp_l_size K A n))   (z_sum : mg "sum" = none)  : Has P w K mg base CX0 (n + 0 + 1) "_law_size" ["rows", "kind"] (sp_l_size K A (n + 1)) :=
  F0.has fun f fd F => F.ok sc_l_size (by intro vs H Q E h; row_has h) (fun cdv A0 outer s H vs Q E hr h => ⟨t_l_size K A n,
    (pss_consJ (ps_if (pt_cmpR (o_eq hr.units) (pe_ix ix_seq (pv 1) pe_int (fun _ _ => rfl)) pe_str (nomark _)) (pss_one (ps_ret (pe_op o_add pe_int (pe_callH h_l_size (hr.mono (by omega)) rfl pass0 (pa_cons (pv 0) (pa_cons (pe_ix ix_seq (pv 1) pe_int (fun _ _ => rfl)) pa_nil)))))) pss_nil)
    (pss_consJ (ps_if (pt_cmpR (o_eq hr.units) (pe_ix ix_seq (pv 1) pe_int (fun _ _ => rfl)) pe_str (nomark _)) (pss_one (ps_ret (pe_callB (cr_sum rfl) (by rfl) z_sum (by decide +kernel) (pa_cons (pe_lc (own := [("item", 2)]) (g := (gName 2)) (tt := tYes) (te := (tCall (sp_l_size K A n) [] E0 (tCons (tVar 0) (tCons (tVar 2) tNil))))  rfl sc_l_size.nd (pi_tup (pe_ix ix_seq (pv 1) pe_int (fun _ _ => rfl))) (blkOk_by (own := [("item", 2)]) (N := N_l_size) (sc := defScope s_l_size) (by decide +kernel)) (fun _ _ _ _ _ => (pg_name (i := 2) sc_l_size.nd rfl (by first | exact Or.inl rfl | exact Or.inr rfl))) (fun _ _ _ _ _ => pts_nil) (fun _ _ _ _ _ => (pe_callH h_l_size (hr.mono (by omega)) rfl pass0 (pa_cons (pv 0) (pa_cons (pv 2) pa_nil))))) pa_nil)))) pss_nil)
    (pss_consJ (ps_if (pt_cmpR (o_eq hr.units) (pe_ix ix_seq (pv 1) pe_int (fun _ _ => rfl)) pe_str (nomark _)) (pss_one (ps_for PassesOwn.never rfl (pi_seqK (pv 0)) (pg_name (i := 3) sc_l_size.nd rfl (by first | exact Or.inl rfl | exact Or.inr rfl)) (pss_one (ps_if (pt_cmpR (o_eq hr.units) (pe_ix ix_seq (pv 3) pe_int (fun _ _ => rfl)) (pe_ix ix_seq (pv 1) pe_int (fun _ _ => rfl)) (nomark _)) (pss_one (ps_ret (pe_callB (cr_sum rfl) (by rfl) z_sum (by decide +kernel) (pa_cons (pe_lc (own := [("field", 4)]) (g := (gName 4)) (tt := tYes) (te := (tCall (sp_l_size K A n) [] E0 (tCons (tVar 0) (tCons (tOp (rIx K) (tVar 4) (tC (.int 1))) tNil))))  rfl sc_l_size.nd (pi_tup (pe_ix ix_seq (pv 3) pe_int (fun _ _ => rfl))) (blkOk_by (own := [("field", 4)]) (N := N_l_size) (sc := defScope s_l_size) (by decide +kernel)) (fun _ _ _ _ _ => (pg_name (i := 4) sc_l_size.nd rfl (by first | exact Or.inl rfl | exact Or.inr rfl))) (fun _ _ _ _ _ => pts_nil) (fun _ _ _ _ _ => (pe_callH h_l_size (hr.mono (by omega)) rfl pass0 (pa_cons (pv 0) (pa_cons (pe_ix ix_seq (pv 4) pe_int (fun _ _ => rfl)) pa_nil))))) pa_nil)))) pss_nil)))) pss_nil)
    (pss_one (ps_ret pe_int))))),
    pure_l_size A n vs H Q E h⟩)
theorem has_l_size (F0 : Dfn K mg "_law_size" s_l_size ["rows", "kind"]) (A : Ad)    (z_sum : mg "sum" = none)  : ∀ n : Nat, Has P w K mg base CX0 (n + 0) "_law_size" ["rows", "kind"] (sp_l_size K A n)
  | 0 => F0.never no_l_size
  | n + 1 => (step_l_size n F0 A (has_l_size F0 A   z_sum  n)  z_sum ).mono (by omega)
theorem step_l_is_small (n : Nat) (F0 : Dfn K mg "_law_is_small" s_l_is_small ["rows", "kind"]) (A : Ad) (h_l_size : Has P w K mg base CX0 60 "_law_size" ["rows", "kind"] (sp_l_size K A 60)) (h_l_is_small : Has P w K mg base CX0 (n + 60) "_law_is_small" ["rows", "kind"] (sp_l_is_small K A n))     : Has P w K mg base CX0 (n + 60 + 1) "_law_is_small" ["rows", "kind"] (sp_l_is_small K A (n + 1)) :=
  F0.has fun f fd F => F.ok sc_l_is_small (by intro vs H Q E h; row_has h) (fun cdv A0 outer s H vs Q E hr h => ⟨t_l_is_small K A n,
    (pss_consJ (ps_if (pt_cmpR op_gt (pe_callH h_l_size (hr.mono (by omega)) rfl pass0 (pa_cons (pv 0) (pa_cons (pv 1) pa_nil))) pe_int (nomark _)) (pss_one (ps_ret pe_bl)) pss_nil)
    (pss_consJ (ps_if (pt_cmpR (o_eq hr.units) (pe_ix ix_seq (pv 1) pe_int (fun _ _ => rfl)) pe_str (nomark _)) (pss_one (ps_for PassesOwn.never rfl (pi_tup (pe_ix ix_seq (pv 1) pe_int (fun _ _ => rfl))) (pg_name (i := 2) sc_l_is_small.nd rfl (by first | exact Or.inl rfl | exact Or.inr rfl)) (pss_one (ps_if (pt_not (pt_val (pe_callH h_l_is_small (hr.mono (by omega)) rfl pass0 (pa_cons (pv 0) (pa_cons (pv 2) pa_nil))))) (pss_one (ps_ret pe_bl)) pss_nil)))) pss_nil)
    (pss_consJ (ps_if (pt_cmpR op_in_seq (pe_ix ix_seq (pv 1) pe_int (fun _ _ => rfl)) (pe_lst (pa_cons pe_str (pa_cons pe_str (pa_cons pe_str (pa_cons pe_str pa_nil))))) rfl) (pss_one (ps_ret (pe_callH h_l_is_small (hr.mono (by omega)) rfl pass0 (pa_cons (pv 0) (pa_cons (pe_ix ix_seq (pv 1) pe_int (fun _ _ => rfl)) pa_nil))))) pss_nil)
    (pss_one (ps_ret pe_bl))))),
    pure_l_is_small A n vs H Q E h⟩)
theorem has_l_is_small (F0 : Dfn K mg "_law_is_small" s_l_is_small ["rows", "kind"]) (A : Ad) (h_l_size : Has P w K mg base CX0 60 "_law_size" ["rows", "kind"] (sp_l_size K A 60))     : ∀ n : Nat, Has P w K mg base CX0 (n + 60) "_law_is_small" ["rows", "kind"] (sp_l_is_small K A n)
  | 0 => F0.never no_l_is_small
  | n + 1 => (step_l_is_small n F0 A h_l_size (has_l_is_small F0 A h_l_size    n)   ).mono (by omega)
theorem has_l_records (F0 : Dfn K mg "_law_records" s_l_records ["state", "script"]) (A : Ad)  (h_l_pick : Has P w K mg base CX0 1 "_law_pick" ["state", "script", "many"] (sp_l_pick K A)) (h_l_new : Has P w K mg base CX0 1 "_law_new" ["taken", "word"] (sp_l_new K A)) (h_l_big : Has P w K mg base CX0 2 "_law_big" ["state", "script"] (sp_l_big K A)) (h_l_name : Has P w K mg base CX0 2 "_law_name" ["state", "script"] (sp_l_name K A)) (h_l_kind : Has P w K mg base CX0 9 "_law_kind" ["state", "script", "room", "plain", "names"] (sp_l_kind K A 6)) (h_l_size : Has P w K mg base CX0 60 "_law_size" ["rows", "kind"] (sp_l_size K A 60)) (h_l_is_small : Has P w K mg base CX0 72 "_law_is_small" ["rows", "kind"] (sp_l_is_small K A 12))   (z_range : mg "range" = none) (z_len : mg "len" = none) (z_tuple : mg "tuple" = none)  : Has P w K mg base CX0 73 "_law_records" ["state", "script"] (sp_l_records K A) :=
  F0.has fun f fd F => F.ok sc_l_records (by intro vs H Q E h; row_has h) (fun cdv A0 outer s H vs Q E hr h => ⟨t_l_records K A,
    (pss_consJ (ps_set (i := 2) sc_l_records.nd rfl (by first | exact Or.inl rfl | exact Or.inr rfl) (pe_lst pa_nil))
    (pss_consJ (ps_for PassesOwn.never rfl (pi_range1 (by rfl) z_range (pa_cons (pe_op o_add pe_int (pe_callH h_l_pick (hr.mono (by omega)) rfl pass0 (pa_cons (pv 0) (pa_cons (pv 1) (pa_cons pe_int pa_nil))))) pa_nil)) (pg_name (i := 3) sc_l_records.nd rfl (by first | exact Or.inl rfl | exact Or.inr rfl)) (pss_one (ps_expr (pe_bm PySem.F.plainAttrs_list PySem.F.slot_list_append PySem.F.type_list_append mt_append (pv 2) (pa_cons (pe_callH h_l_new (hr.mono (by omega)) rfl pass0 (pa_cons (pv 2) (pa_cons (pe_callH h_l_big (hr.mono (by omega)) rfl pass0 (pa_cons (pv 0) (pa_cons (pv 1) pa_nil))) pa_nil))) pa_nil)))))
    (pss_consJ (ps_set (i := 4) sc_l_records.nd rfl (by first | exact Or.inl rfl | exact Or.inr rfl) (pe_lst pa_nil))
    (pss_consJ (ps_for PassesOwn.never rfl (pi_range1 (by rfl) z_range (pa_cons (pe_callB call_len (by rfl) z_len PySem.boot_len (pa_cons (pv 2) pa_nil)) pa_nil)) (pg_name (i := 3) sc_l_records.nd rfl (by first | exact Or.inl rfl | exact Or.inr rfl)) (pss_consJ (ps_set (i := 5) sc_l_records.nd rfl (by first | exact Or.inl rfl | exact Or.inr rfl) (pe_lst pa_nil))
    (pss_consJ (ps_set (i := 6) sc_l_records.nd rfl (by first | exact Or.inl rfl | exact Or.inr rfl) (pe_lst pa_nil))
    (pss_consJ (ps_for PassesOwn.never rfl (pi_range1 (by rfl) z_range (pa_cons (pe_op o_add pe_int (pe_callH h_l_pick (hr.mono (by omega)) rfl pass0 (pa_cons (pv 0) (pa_cons (pv 1) (pa_cons pe_int pa_nil))))) pa_nil)) (pg_name (i := 7) sc_l_records.nd rfl (by first | exact Or.inl rfl | exact Or.inr rfl)) (pss_consJ (ps_expr (pe_bm PySem.F.plainAttrs_list PySem.F.slot_list_append PySem.F.type_list_append mt_append (pv 6) (pa_cons (pe_callH h_l_new (hr.mono (by omega)) rfl pass0 (pa_cons (pv 6) (pa_cons (pe_callH h_l_name (hr.mono (by omega)) rfl pass0 (pa_cons (pv 0) (pa_cons (pv 1) pa_nil))) pa_nil))) pa_nil)))
    (pss_consJ (ps_asg pe_int (pg_sub (pv 0) pe_int set_list))
    (pss_consJ (ps_set (i := 8) sc_l_records.nd rfl (by first | exact Or.inl rfl | exact Or.inr rfl) (pe_callH h_l_kind (hr.mono (by omega)) rfl pass0 (pa_cons (pv 0) (pa_cons (pv 1) (pa_cons pe_int (pa_cons pe_bl (pa_cons (pe_slice o_sl (pv 2) po_none (po_some (pv 3))) pa_nil)))))))
    (pss_consJ (ps_if (pt_cmpR (o_eq hr.units) (pe_callH h_l_pick (hr.mono (by omega)) rfl pass0 (pa_cons (pv 0) (pa_cons (pv 1) (pa_cons pe_int pa_nil)))) pe_int (nomark _)) (pss_one (ps_set (i := 8) sc_l_records.nd rfl (by first | exact Or.inl rfl | exact Or.inr rfl) (pe_tup (pa_cons pe_str (pa_cons (pe_tup (pa_cons pe_str (pa_cons (pe_ix ix_seq (pv 2) (pe_callH h_l_pick (hr.mono (by omega)) rfl pass0 (pa_cons (pv 0) (pa_cons (pv 1) (pa_cons (pe_callB call_len (by rfl) z_len PySem.boot_len (pa_cons (pv 2) pa_nil)) pa_nil)))) (fun _ _ => rfl)) pa_nil))) pa_nil))))) pss_nil)
    (pss_consJ (ps_if (PW.pt (pw_or (pt_cmpR op_gt (pe_callH h_l_size (hr.mono (by omega)) rfl pass0 (pa_cons (pv 4) (pa_cons (pv 8) pa_nil))) pe_int (nomark _)) (pw_or1 (pt_not (pt_val (pe_callH h_l_is_small (hr.mono (by omega)) rfl pass0 (pa_cons (pv 4) (pa_cons (pv 8) pa_nil)))))))) (pss_one (ps_set (i := 8) sc_l_records.nd rfl (by first | exact Or.inl rfl | exact Or.inr rfl) (pe_tup (pa_cons pe_str pa_nil)))) pss_nil)
    (pss_one (ps_expr (pe_bm PySem.F.plainAttrs_list PySem.F.slot_list_append PySem.F.type_list_append mt_append (pv 5) (pa_cons (pe_tup (pa_cons (pe_ix ix_seq (pv 6) (pv 7) (fun _ _ => rfl)) (pa_cons (pv 8) pa_nil))) pa_nil))))))))))
    (pss_one (ps_expr (pe_bm PySem.F.plainAttrs_list PySem.F.slot_list_append PySem.F.type_list_append mt_append (pv 4) (pa_cons (pe_tup (pa_cons (pe_ix ix_seq (pv 2) (pv 3) (fun _ _ => rfl)) (pa_cons (pe_callTy call_tuple_of (by rfl) z_tuple (by decide +kernel) (pa_cons (pv 5) pa_nil)) pa_nil))) pa_nil))))))))
    (pss_consJ (ps_set (i := 9) sc_l_records.nd rfl (by first | exact Or.inl rfl | exact Or.inr rfl) (pe_callH h_l_pick (hr.mono (by omega)) rfl pass0 (pa_cons (pv 0) (pa_cons (pv 1) (pa_cons (pe_callB call_len (by rfl) z_len PySem.boot_len (pa_cons (pv 4) pa_nil)) pa_nil)))))
    (pss_one (ps_ret (pe_callTy call_tuple_of (by rfl) z_tuple (by decide +kernel) (pa_cons (pe_op o_add (pe_slice o_sl (pv 4) (po_some (pv 9)) po_none) (pe_slice o_sl (pv 4) po_none (po_some (pv 9)))) pa_nil))))))))),
    pure_l_records A vs H Q E h⟩)
theorem has_l_options (F0 : Dfn K mg "_law_options" s_l_options ["rows", "kind"]) (A : Ad)     (z_len : mg "len" = none) (z_range : mg "range" = none) (z_list : mg "list" = none)  : Has P w K mg base CX0 1 "_law_options" ["rows", "kind"] (sp_l_options K A) :=
  F0.has fun f fd F => F.ok sc_l_options (by intro vs H Q E h; row_has h) (fun cdv A0 outer s H vs Q E hr h => ⟨t_l_options K A,
    (pss_consJ (ps_if (pt_cmpR (o_eq hr.units) (pe_ix ix_seq (pv 1) pe_int (fun _ _ => rfl)) pe_str (nomark _)) (pss_one (ps_ret (pe_lst (pa_cons (pe_tup (pa_cons pe_str (pa_cons (pe_ix ix_seq (pv 1) pe_int (fun _ _ => rfl)) pa_nil))) pa_nil)))) pss_nil)
    (pss_consJ (ps_if (pt_cmpR op_in_seq (pe_ix ix_seq (pv 1) pe_int (fun _ _ => rfl)) (pe_lst (pa_cons pe_str (pa_cons pe_str (pa_cons pe_str pa_nil)))) rfl) (pss_one (ps_ret (pe_lst (pa_cons (pe_tup (pa_cons pe_str (pa_cons (pe_ix ix_seq (pv 1) pe_int (fun _ _ => rfl)) pa_nil))) pa_nil)))) pss_nil)
    (pss_consJ (ps_if (pt_cmpR (o_eq hr.units) (pe_ix ix_seq (pv 1) pe_int (fun _ _ => rfl)) pe_str (nomark _)) (pss_one (ps_ret (pe_lc (own := [("k", 2)]) (g := (gName 2)) (tt := tYes) (te := (tTupK K (tCons (tVar 2) (tCons (tOp (rIx K) (tOp (rIx K) (tVar 1) (tC (.int 1))) (tVar 2)) tNil))))  rfl sc_l_options.nd (pi_range1 (by rfl) z_range (pa_cons (pe_callB call_len (by rfl) z_len PySem.boot_len (pa_cons (pe_ix ix_seq (pv 1) pe_int (fun _ _ => rfl)) pa_nil)) pa_nil)) (blkOk_by (own := [("k", 2)]) (N := N_l_options) (sc := defScope s_l_options) (by decide +kernel)) (fun _ _ _ _ _ => (pg_name (i := 2) sc_l_options.nd rfl (by first | exact Or.inl rfl | exact Or.inr rfl))) (fun _ _ _ _ _ => pts_nil) (fun _ _ _ _ _ => (pe_tup (pa_cons (pv 2) (pa_cons (pe_ix ix_seq (pe_ix ix_seq (pv 1) pe_int (fun _ _ => rfl)) (pv 2) (fun _ _ => rfl)) pa_nil))))))) pss_nil)
    (pss_consJ (ps_if (pt_cmpR (o_eq hr.units) (pe_ix ix_seq (pv 1) pe_int (fun _ _ => rfl)) pe_str (nomark _)) (pss_one (ps_for PassesOwn.never rfl (pi_tup (pv 0)) (pg_name (i := 3) sc_l_options.nd rfl (by first | exact Or.inl rfl | exact Or.inr rfl)) (pss_one (ps_if (pt_cmpR (o_eq hr.units) (pe_ix ix_seq (pv 3) pe_int (fun _ _ => rfl)) (pe_ix ix_seq (pv 1) pe_int (fun _ _ => rfl)) (nomark _)) (pss_one (ps_ret (pe_callTy call_list_of (by rfl) z_list (by decide +kernel) (pa_cons (pe_ix ix_seq (pv 3) pe_int (fun _ _ => rfl)) pa_nil)))) pss_nil)))) pss_nil)
    (pss_one (ps_ret (pe_lst pa_nil))))))),
    pure_l_options A vs H Q E h⟩)
theorem has_l_small_kind (F0 : Dfn K mg "_law_small_kind" s_l_small_kind ["state", "script", "rows"]) (A : Ad)  (h_l_any_kind : Has P w K mg base CX0 13 "_law_any_kind" ["state", "script", "names"] (sp_l_any_kind K A)) (h_l_is_small : Has P w K mg base CX0 72 "_law_is_small" ["rows", "kind"] (sp_l_is_small K A 12))     : Has P w K mg base CX0 73 "_law_small_kind" ["state", "script", "rows"] (sp_l_small_kind K A) :=
  F0.has fun f fd F => F.ok sc_l_small_kind (by intro vs H Q E h; row_has h) (fun cdv A0 outer s H vs Q E hr h => ⟨t_l_small_kind K A,
    (pss_consJ (ps_set (i := 3) sc_l_small_kind.nd rfl (by first | exact Or.inl rfl | exact Or.inr rfl) (pe_callH h_l_any_kind (hr.mono (by omega)) rfl pass0 (pa_cons (pv 0) (pa_cons (pv 1) (pa_cons (pe_lc (own := [("row", 4)]) (g := (gName 4)) (tt := tYes) (te := (tOp (rIx K) (tVar 4) (tC (.int 0))))  rfl sc_l_small_kind.nd (pi_tup (pv 2)) (blkOk_by (own := [("row", 4)]) (N := N_l_small_kind) (sc := defScope s_l_small_kind) (by decide +kernel)) (fun _ _ _ _ _ => (pg_name (i := 4) sc_l_small_kind.nd rfl (by first | exact Or.inl rfl | exact Or.inr rfl))) (fun _ _ _ _ _ => pts_nil) (fun _ _ _ _ _ => (pe_ix ix_seq (pv 4) pe_int (fun _ _ => rfl)))) pa_nil)))))
    (pss_consJ (ps_if (pt_not (pt_val (pe_callH h_l_is_small (hr.mono (by omega)) rfl pass0 (pa_cons (pv 2) (pa_cons (pv 3) pa_nil))))) (pss_one (ps_ret (pe_tup (pa_cons pe_str (pa_cons (pe_ix ix_seq (pe_ix ix_seq (pv 2) pe_int (fun _ _ => rfl)) pe_int (fun _ _ => rfl)) pa_nil))))) pss_nil)
    (pss_one (ps_ret (pv 3))))),
    pure_l_small_kind A vs H Q E h⟩)
theorem has_l_table (F0 : Dfn K mg "_law_table" s_l_table ["state", "script", "rows"]) (A : Ad)  (h_l_pick : Has P w K mg base CX0 1 "_law_pick" ["state", "script", "many"] (sp_l_pick K A)) (h_l_new : Has P w K mg base CX0 1 "_law_new" ["taken", "word"] (sp_l_new K A)) (h_l_name : Has P w K mg base CX0 2 "_law_name" ["state", "script"] (sp_l_name K A)) (h_l_small_kind : Has P w K mg base CX0 73 "_law_small_kind" ["state", "script", "rows"] (sp_l_small_kind K A))   (z_range : mg "range" = none) (z_list : mg "list" = none)  : Has P w K mg base CX0 74 "_law_table" ["state", "script", "rows"] (sp_l_table K A) :=
  F0.has fun f fd F => F.ok sc_l_table (by intro vs H Q E h; row_has h) (fun cdv A0 outer s H vs Q E hr h => ⟨t_l_table K A,
    (pss_consJ (ps_set (i := 3) sc_l_table.nd rfl (by first | exact Or.inl rfl | exact Or.inr rfl) pe_dnewK)
    (pss_consJ (ps_for PassesOwn.never rfl (pi_range1 (by rfl) z_range (pa_cons (pe_op o_add pe_int (pe_callH h_l_pick (hr.mono (by omega)) rfl pass0 (pa_cons (pv 0) (pa_cons (pv 1) (pa_cons pe_int pa_nil))))) pa_nil)) (pg_name (i := 4) sc_l_table.nd rfl (by first | exact Or.inl rfl | exact Or.inr rfl)) (pss_consJ (ps_set (i := 5) sc_l_table.nd rfl (by first | exact Or.inl rfl | exact Or.inr rfl) (pe_callH h_l_new (hr.mono (by omega)) rfl pass0 (pa_cons (pe_callTy (call_listD (by rfl)) (by rfl) z_list (by decide +kernel) (pa_cons (pv 3) pa_nil)) (pa_cons (pe_callH h_l_name (hr.mono (by omega)) rfl pass0 (pa_cons (pv 0) (pa_cons (pv 1) pa_nil))) pa_nil))))
    (pss_one (ps_dput (hu_of hr) (pv 3) (pv 5) (pe_callH h_l_small_kind (hr.mono (by omega)) rfl pass0 (pa_cons (pv 0) (pa_cons (pv 1) (pa_cons (pv 2) pa_nil)))) rfl))))
    (pss_one (ps_ret (pv 3))))),
    pure_l_table A vs H Q E h⟩)
theorem has_l_walk (F0 : Dfn K mg "_law_walk" s_l_walk ["state", "script", "rows", "name", "kind"]) (A : Ad)  (h_l_pick : Has P w K mg base CX0 1 "_law_pick" ["state", "script", "many"] (sp_l_pick K A)) (h_l_options : Has P w K mg base CX0 1 "_law_options" ["rows", "kind"] (sp_l_options K A))   (z_range : mg "range" = none) (z_len : mg "len" = none) (z_tuple : mg "tuple" = none)  : Has P w K mg base CX0 2 "_law_walk" ["state", "script", "rows", "name", "kind"] (sp_l_walk K A) :=
  F0.has fun f fd F => F.ok sc_l_walk (by intro vs H Q E h; row_has h) (fun cdv A0 outer s H vs Q E hr h => ⟨t_l_walk K A,
    (pss_consJ (ps_set (i := 5) sc_l_walk.nd rfl (by first | exact Or.inl rfl | exact Or.inr rfl) (pe_lst pa_nil))
    (pss_consJ (ps_for PassesOwn.never rfl (pi_range1 (by rfl) z_range (pa_cons (pe_callH h_l_pick (hr.mono (by omega)) rfl pass0 (pa_cons (pv 0) (pa_cons (pv 1) (pa_cons pe_int pa_nil)))) pa_nil)) (pg_name (i := 6) sc_l_walk.nd rfl (by first | exact Or.inl rfl | exact Or.inr rfl)) (pss_consJ (ps_set (i := 7) sc_l_walk.nd rfl (by first | exact Or.inl rfl | exact Or.inr rfl) (pe_callH h_l_options (hr.mono (by omega)) rfl pass0 (pa_cons (pv 2) (pa_cons (pv 4) pa_nil))))
    (pss_consJ (ps_if (pt_cmpR (o_eq hr.units) (pe_callB call_len (by rfl) z_len PySem.boot_len (pa_cons (pv 7) pa_nil)) pe_int (nomark _)) (pss_one ps_break) pss_nil)
    (pss_consJ (ps_set (i := 8) sc_l_walk.nd rfl (by first | exact Or.inl rfl | exact Or.inr rfl) (pe_ix ix_seq (pv 7) (pe_callH h_l_pick (hr.mono (by omega)) rfl pass0 (pa_cons (pv 0) (pa_cons (pv 1) (pa_cons (pe_callB call_len (by rfl) z_len PySem.boot_len (pa_cons (pv 7) pa_nil)) pa_nil)))) (fun _ _ => rfl)))
    (pss_consJ (ps_expr (pe_bm PySem.F.plainAttrs_list PySem.F.slot_list_append PySem.F.type_list_append mt_append (pv 5) (pa_cons (pe_ix ix_seq (pv 8) pe_int (fun _ _ => rfl)) pa_nil)))
    (pss_one (ps_set (i := 4) sc_l_walk.nd rfl (by first | exact Or.inl rfl | exact Or.inr rfl) (pe_ix ix_seq (pv 8) pe_int (fun _ _ => rfl)))))))))
    (pss_one (ps_ret (pe_tup (pa_cons (pe_tup (pa_cons (pv 3) (pa_cons (pe_callTy call_tuple_of (by rfl) z_tuple (by decide +kernel) (pa_cons (pv 5) pa_nil)) pa_nil))) (pa_cons (pv 4) pa_nil))))))),
    pure_l_walk A vs H Q E h⟩)
theorem has_l_step (F0 : Dfn K mg "_law_step" s_l_step ["state", "script", "rows"]) (A : Ad)  (h_l_pick : Has P w K mg base CX0 1 "_law_pick" ["state", "script", "many"] (sp_l_pick K A)) (h_l_name : Has P w K mg base CX0 2 "_law_name" ["state", "script"] (sp_l_name K A))   (z_len : mg "len" = none)  : Has P w K mg base CX0 3 "_law_step" ["state", "script", "rows"] (sp_l_step K A) :=
  F0.has fun f fd F => F.ok sc_l_step (by intro vs H Q E h; row_has h) (fun cdv A0 outer s H vs Q E hr h => ⟨t_l_step K A,
    (pss_consJ (ps_set (i := 3) sc_l_step.nd rfl (by first | exact Or.inl rfl | exact Or.inr rfl) (pe_callH h_l_pick (hr.mono (by omega)) rfl pass0 (pa_cons (pv 0) (pa_cons (pv 1) (pa_cons pe_int pa_nil)))))
    (pss_consJ (ps_if (pt_cmpR (o_eq hr.units) (pv 3) pe_int (nomark _)) (pss_one (ps_ret pe_str)) pss_nil)
    (pss_consJ (ps_if (pt_cmpR (o_eq hr.units) (pv 3) pe_int (nomark _)) (pss_one (ps_ret pe_str)) pss_nil)
    (pss_consJ (ps_if (pt_cmpR (o_eq hr.units) (pv 3) pe_int (nomark _)) (pss_consJ (ps_set (i := 4) sc_l_step.nd rfl (by first | exact Or.inl rfl | exact Or.inr rfl) (pe_lst (pa_cons pe_int (pa_cons pe_int (pa_cons pe_int (pa_cons (pe_un un_neg pe_int) pa_nil))))))
    (pss_one (ps_ret (pe_ix ix_seq (pe_op o_add (pv 4) (pe_op op_rep (pe_lst (pa_cons (pe_op op_sub (pe_callH h_l_pick (hr.mono (by omega)) rfl pass0 (pa_cons (pv 0) (pa_cons (pv 1) (pa_cons pe_int pa_nil)))) pe_int) pa_nil)) pe_int)) (pe_callH h_l_pick (hr.mono (by omega)) rfl pass0 (pa_cons (pv 0) (pa_cons (pv 1) (pa_cons pe_int pa_nil)))) (fun _ _ => rfl))))) pss_nil)
    (pss_consJ (ps_if (pt_cmpR (o_eq hr.units) (pv 3) pe_int (nomark _)) (pss_one (ps_ret (pe_callH h_l_name (hr.mono (by omega)) rfl pass0 (pa_cons (pv 0) (pa_cons (pv 1) pa_nil))))) pss_nil)
    (pss_consJ (ps_set (i := 5) sc_l_step.nd rfl (by first | exact Or.inl rfl | exact Or.inr rfl) (pe_ix ix_seq (pe_ix ix_seq (pv 2) (pe_callH h_l_pick (hr.mono (by omega)) rfl pass0 (pa_cons (pv 0) (pa_cons (pv 1) (pa_cons (pe_callB call_len (by rfl) z_len PySem.boot_len (pa_cons (pv 2) pa_nil)) pa_nil)))) (fun _ _ => rfl)) pe_int (fun _ _ => rfl)))
    (pss_one (ps_ret (pe_ix ix_seq (pe_ix ix_seq (pv 5) (pe_callH h_l_pick (hr.mono (by omega)) rfl pass0 (pa_cons (pv 0) (pa_cons (pv 1) (pa_cons (pe_callB call_len (by rfl) z_len PySem.boot_len (pa_cons (pv 5) pa_nil)) pa_nil)))) (fun _ _ => rfl)) pe_int (fun _ _ => rfl)))))))))),
    pure_l_step A vs H Q E h⟩)
theorem has_l_told (F0 : Dfn K mg "_law_told" s_l_told ["place", "rows", "table"]) (A : Ad) (fx : Fx K A)  (h_kind_at : HasK P w K mg base (L2.CX P w) 4 "kind_at" 1 ["place", "records", "kinds"] ["records", "kinds"] (sp_kind_at K A)) (g_NoSuchVariable : mg "NoSuchVariable" = some (.ref A.c_NoSuchVariable)) (g_Refused : mg "Refused" = some (.ref A.c_Refused)) (g_NotAllocated : mg "NotAllocated" = some (.ref A.c_NotAllocated)) (g_NoSuchStep : mg "NoSuchStep" = some (.ref A.c_NoSuchStep)) (g_NoSuchFunction : mg "NoSuchFunction" = some (.ref A.c_NoSuchFunction)) (g_KindProblem : mg "KindProblem" = some (.ref A.c_KindProblem)) (g_ForkError : mg "ForkError" = some (.ref A.c_ForkError))  (z_isinstance : mg "isinstance" = none) (z_ValueError : mg "ValueError" = none)  : Has P w K mg base CX0 5 "_law_told" ["place", "rows", "table"] (sp_l_told K A) :=
  F0.has fun f fd F => F.ok sc_l_told (by intro vs H Q E h; row_has h) (fun cdv A0 outer s H vs Q E hr h => ⟨t_l_told K A,
    (pss_one (ps_tries (tb := fun W => (tRet (tCallKS (sp_kind_at K A) (gK 1) (WE W) (tCons (tVar 0) tNil) (tCons (tVar 1) (tCons (tVar 2) tNil))))) (l := [((.ref A.c_NoSuchVariable : Value), (3 : Nat), (fun (a : Addr) (cls : Value) (d : Option Addr) => (tSeqJ (tAsg (tCB (rIsXT K cls d a) (tCons (tVar 3) (tCons (tTupK K (tCons (tC (.ref A.c_KindProblem)) (tCons (tC (.ref A.c_NoSuchFunction)) (tCons (tC (.ref A.c_NoSuchStep)) (tCons (tC (.ref A.c_NotAllocated)) (tCons (tC (.ref A.c_Refused)) tNil)))))) tNil))) (gName 4))
    (tRet (tLst (tCons (tC (.str "variable")) (tCons (tAndV (tCB (rIsX K cls d a) (tCons (tVar 3) (tCons (tC (.ref A.c_ForkError)) tNil))) (tAndV (tCB (rIsX K cls d a) (tCons (tVar 3) (tCons (tC (.ty "ValueError")) tNil))) (tNotV (tVar 4)))) tNil))))))), ((.ref A.c_NoSuchStep : Value), (3 : Nat), (fun (a : Addr) (cls : Value) (d : Option Addr) => (tSeqJ (tAsg (tCB (rIsXT K cls d a) (tCons (tVar 3) (tCons (tTupK K (tCons (tC (.ref A.c_KindProblem)) (tCons (tC (.ref A.c_NoSuchFunction)) (tCons (tC (.ref A.c_NoSuchVariable)) (tCons (tC (.ref A.c_NotAllocated)) (tCons (tC (.ref A.c_Refused)) tNil)))))) tNil))) (gName 4))
    (tRet (tLst (tCons (tC (.str "step")) (tCons (tAndV (tCB (rIsX K cls d a) (tCons (tVar 3) (tCons (tC (.ref A.c_ForkError)) tNil))) (tAndV (tCB (rIsX K cls d a) (tCons (tVar 3) (tCons (tC (.ty "ValueError")) tNil))) (tNotV (tVar 4)))) tNil)))))))]) (Wout := fun _ _ _ _ => False) rfl rfl sc_l_told.nd takes0 (fun W pn xe tk _ => (pss_one (ps_ret (pe_callKS h_kind_at (hr.mono (by omega)) rfl tk (pa_cons (pv 0) pa_nil) (pk_cons (pv 1) (pk_cons (pv 2) pk_nil)))))) (Clauses.cons ⟨rfl, by decide, Or.inl g_NoSuchVariable⟩ rfl rfl (fun a oe cls d pn hz hf => (pss_consJ (ps_set (i := 4) sc_l_told.nd rfl (by first | exact Or.inl rfl | exact Or.inr rfl) (pe_callB (call_isXT hz hf) (by rfl) z_isinstance (by decide +kernel) (pa_cons (pv 3) (pa_cons (pe_tup (pa_cons (pe_glob (v := .ref A.c_KindProblem) (by rfl) g_KindProblem rfl (by decide)) (pa_cons (pe_glob (v := .ref A.c_NoSuchFunction) (by rfl) g_NoSuchFunction rfl (by decide)) (pa_cons (pe_glob (v := .ref A.c_NoSuchStep) (by rfl) g_NoSuchStep rfl (by decide)) (pa_cons (pe_glob (v := .ref A.c_NotAllocated) (by rfl) g_NotAllocated rfl (by decide)) (pa_cons (pe_glob (v := .ref A.c_Refused) (by rfl) g_Refused rfl (by decide)) pa_nil)))))) pa_nil))))
    (pss_one (ps_ret (pe_lst (pa_cons pe_str (pa_cons (pe_and (pe_callB (call_isX hz hf) (by rfl) z_isinstance (by decide +kernel) (pa_cons (pv 3) (pa_cons (pe_glob (v := .ref A.c_ForkError) (by rfl) g_ForkError rfl (by decide)) pa_nil))) (pe_and (pe_callB (call_isX hz hf) (by rfl) z_isinstance (by decide +kernel) (pa_cons (pv 3) (pa_cons (pe_bltn (v := .ty "ValueError") (by rfl) z_ValueError (by decide +kernel) rfl) pa_nil))) (pe_one (pe_not (pv 4))))) pa_nil))))))) (Clauses.cons ⟨rfl, by decide, Or.inl g_NoSuchStep⟩ rfl rfl (fun a oe cls d pn hz hf => (pss_consJ (ps_set (i := 4) sc_l_told.nd rfl (by first | exact Or.inl rfl | exact Or.inr rfl) (pe_callB (call_isXT hz hf) (by rfl) z_isinstance (by decide +kernel) (pa_cons (pv 3) (pa_cons (pe_tup (pa_cons (pe_glob (v := .ref A.c_KindProblem) (by rfl) g_KindProblem rfl (by decide)) (pa_cons (pe_glob (v := .ref A.c_NoSuchFunction) (by rfl) g_NoSuchFunction rfl (by decide)) (pa_cons (pe_glob (v := .ref A.c_NoSuchVariable) (by rfl) g_NoSuchVariable rfl (by decide)) (pa_cons (pe_glob (v := .ref A.c_NotAllocated) (by rfl) g_NotAllocated rfl (by decide)) (pa_cons (pe_glob (v := .ref A.c_Refused) (by rfl) g_Refused rfl (by decide)) pa_nil)))))) pa_nil))))
    (pss_one (ps_ret (pe_lst (pa_cons pe_str (pa_cons (pe_and (pe_callB (call_isX hz hf) (by rfl) z_isinstance (by decide +kernel) (pa_cons (pv 3) (pa_cons (pe_glob (v := .ref A.c_ForkError) (by rfl) g_ForkError rfl (by decide)) pa_nil))) (pe_and (pe_callB (call_isX hz hf) (by rfl) z_isinstance (by decide +kernel) (pa_cons (pv 3) (pa_cons (pe_bltn (v := .ty "ValueError") (by rfl) z_ValueError (by decide +kernel) rfl) pa_nil))) (pe_one (pe_not (pv 4))))) pa_nil))))))) Clauses.nil)))),
    pure_l_told A fx vs H Q E h⟩)
theorem has_l_followed (F0 : Dfn K mg "_law_followed" s_l_followed ["rows", "kind", "steps"]) (A : Ad)  (h_l_options : Has P w K mg base CX0 1 "_law_options" ["rows", "kind"] (sp_l_options K A))   (z_len : mg "len" = none)  : Has P w K mg base CX0 2 "_law_followed" ["rows", "kind", "steps"] (sp_l_followed K A) :=
  F0.has fun f fd F => F.ok sc_l_followed (by intro vs H Q E h; row_has h) (fun cdv A0 outer s H vs Q E hr h => ⟨t_l_followed K A,
    (pss_consJ (ps_for PassesOwn.never rfl (pi_tup (pv 2)) (pg_name (i := 3) sc_l_followed.nd rfl (by first | exact Or.inl rfl | exact Or.inr rfl)) (pss_consJ (ps_setLc (i := 4) (own := [("option", 5)]) (g := (gName 5)) (tt := (tTest (tOp (rEqG K) (tOp (rIx K) (tVar 5) (tC (.int 0))) (tVar 3)))) (te := (tOp (rIx K) (tVar 5) (tC (.int 1))))  rfl sc_l_followed.nd rfl rfl (sw_true rfl rfl rfl (by decide +kernel)) (pi_list (pe_callH h_l_options (hr.mono (by omega)) rfl pass0 (pa_cons (pv 0) (pa_cons (pv 1) pa_nil)))) (blkOk_by (own := [("option", 5)]) (N := N_l_followed) (sc := defScope s_l_followed) (by decide +kernel)) (fun _ _ _ _ _ => (pg_name (i := 5) sc_l_followed.nd rfl (by first | exact Or.inl rfl | exact Or.inr rfl))) (fun _ _ _ _ _ => (pts_one (pt_cmpR (o_eq hr.units) (pe_ix ix_seq (pv 5) pe_int (fun _ _ => rfl)) (pv 3) (nomark _)))) (fun _ _ _ _ _ => (pe_ix ix_seq (pv 5) pe_int (fun _ _ => rfl))))
    (pss_consJ (ps_if (pt_cmpR (o_eq hr.units) (pe_callB call_len (by rfl) z_len PySem.boot_len (pa_cons (pv 4) pa_nil)) pe_int (nomark _)) (pss_one (ps_ret (pe_lst (pa_cons pe_str (pa_cons pe_bl pa_nil))))) pss_nil)
    (pss_one (ps_set (i := 1) sc_l_followed.nd rfl (by first | exact Or.inl rfl | exact Or.inr rfl) (pe_ix ix_seq (pv 4) pe_int (fun _ _ => rfl)))))))
    (pss_one (ps_ret (pv 1)))),
    pure_l_followed A vs H Q E h⟩)
theorem ok_law {f : Addr} {fd : FuncData} (F : Fun K "law" "law" s_law f fd) (A : Ad)  (h_l_records : Has P w K mg base CX0 73 "_law_records" ["state", "script"] (sp_l_records K A)) (h_l_table : Has P w K mg base CX0 74 "_law_table" ["state", "script", "rows"] (sp_l_table K A)) (h_l_pick : Has P w K mg base CX0 1 "_law_pick" ["state", "script", "many"] (sp_l_pick K A)) (h_l_walk : Has P w K mg base CX0 2 "_law_walk" ["state", "script", "rows", "name", "kind"] (sp_l_walk K A)) (h_l_step : Has P w K mg base CX0 3 "_law_step" ["state", "script", "rows"] (sp_l_step K A)) (h_l_followed : Has P w K mg base CX0 2 "_law_followed" ["rows", "kind", "steps"] (sp_l_followed K A)) (h_l_new : Has P w K mg base CX0 1 "_law_new" ["taken", "word"] (sp_l_new K A)) (h_l_told : Has P w K mg base CX0 5 "_law_told" ["place", "rows", "table"] (sp_l_told K A)) (h_l_same : Has P w K mg base CX0 16 "_law_same" ["actual", "due"] (sp_l_same K A 16))   (z_list : mg "list" = none) (z_len : mg "len" = none) (z_range : mg "range" = none) (z_isinstance : mg "isinstance" = none)  : FnOk P w K mg base CX0 75 f fd ["script"] (sp_law K) :=
  F.ok sc_law (by intro vs H Q E h; row_has h) (fun cdv A0 outer s H vs Q E hr h => ⟨t_law K A,
    (pss_consJ (ps_set (i := 1) sc_law.nd rfl (by first | exact Or.inl rfl | exact Or.inr rfl) (pe_lst (pa_cons pe_int (pa_cons pe_int (pa_cons pe_int (pa_cons pe_int pa_nil))))))
    (pss_consJ (ps_set (i := 2) sc_law.nd rfl (by first | exact Or.inl rfl | exact Or.inr rfl) (pe_callH h_l_records (hr.mono (by omega)) rfl pass0 (pa_cons (pv 1) (pa_cons (pv 0) pa_nil))))
    (pss_consJ (ps_set (i := 3) sc_law.nd rfl (by first | exact Or.inl rfl | exact Or.inr rfl) (pe_callH h_l_table (hr.mono (by omega)) rfl pass0 (pa_cons (pv 1) (pa_cons (pv 0) (pa_cons (pv 2) pa_nil)))))
    (pss_consJ (ps_set (i := 4) sc_law.nd rfl (by first | exact Or.inl rfl | exact Or.inr rfl) (LiI.pe_listItems (by rfl) (pv 3) (by rfl) z_list (by decide +kernel)))
    (pss_consJ (ps_set (i := 5) sc_law.nd rfl (by first | exact Or.inl rfl | exact Or.inr rfl) (pe_callTy (call_listD (by rfl)) (by rfl) z_list (by decide +kernel) (pa_cons (pv 3) pa_nil)))
    (pss_consJ (ps_set (i := 6) sc_law.nd rfl (by first | exact Or.inl rfl | exact Or.inr rfl) (pe_ix ix_seq (pv 5) (pe_callH h_l_pick (hr.mono (by omega)) rfl pass0 (pa_cons (pv 1) (pa_cons (pv 0) (pa_cons (pe_callB call_len (by rfl) z_len PySem.boot_len (pa_cons (pv 5) pa_nil)) pa_nil)))) (fun _ _ => rfl)))
    (pss_consJ (ps_asg (pe_callH h_l_walk (hr.mono (by omega)) rfl pass0 (pa_cons (pv 1) (pa_cons (pv 0) (pa_cons (pv 2) (pa_cons (pv 6) (pa_cons (pe_dget (hu_of hr) (pv 3) (pv 6) (fun _ _ => rfl)) pa_nil)))))) (pg_tup rfl (pgs_cons (pg_name (i := 7) sc_law.nd rfl (by first | exact Or.inl rfl | exact Or.inr rfl)) (pgs_cons (pg_name (i := 8) sc_law.nd rfl (by first | exact Or.inl rfl | exact Or.inr rfl)) pgs_nil))))
    (pss_consJ (ps_set (i := 9) sc_law.nd rfl (by first | exact Or.inl rfl | exact Or.inr rfl) (pv 8))
    (pss_consJ (ps_set (i := 10) sc_law.nd rfl (by first | exact Or.inl rfl | exact Or.inr rfl) (pe_callH h_l_pick (hr.mono (by omega)) rfl pass0 (pa_cons (pv 1) (pa_cons (pv 0) (pa_cons pe_int pa_nil)))))
    (pss_consJ (ps_set (i := 11) sc_law.nd rfl (by first | exact Or.inl rfl | exact Or.inr rfl) (pe_callH h_l_step (hr.mono (by omega)) rfl pass0 (pa_cons (pv 1) (pa_cons (pv 0) (pa_cons (pv 2) pa_nil)))))
    (pss_consJ (ps_if (PW.pt (pw_and (pt_cmpR (o_eq hr.units) (pv 10) pe_int (nomark _)) (pw_and1 (pt_cmpR op_lt (pe_callB call_len (by rfl) z_len PySem.boot_len (pa_cons (pe_ix ix_seq (pv 7) pe_int (fun _ _ => rfl)) pa_nil)) pe_int (nomark _))))) (pss_consJ (ps_set (i := 12) sc_law.nd rfl (by first | exact Or.inl rfl | exact Or.inr rfl) (pe_callH h_l_pick (hr.mono (by omega)) rfl pass0 (pa_cons (pv 1) (pa_cons (pv 0) (pa_cons (pe_op o_add (pe_callB call_len (by rfl) z_len PySem.boot_len (pa_cons (pe_ix ix_seq (pv 7) pe_int (fun _ _ => rfl)) pa_nil)) pe_int) pa_nil)))))
    (pss_consJ (ps_set (i := 13) sc_law.nd rfl (by first | exact Or.inl rfl | exact Or.inr rfl) (pe_slice o_sl (pe_ix ix_seq (pv 7) pe_int (fun _ _ => rfl)) (po_some (pe_op o_add (pv 12) (pe_callH h_l_pick (hr.mono (by omega)) rfl pass0 (pa_cons (pv 1) (pa_cons (pv 0) (pa_cons pe_int pa_nil)))))) po_none))
    (pss_consJ (ps_set (i := 7) sc_law.nd rfl (by first | exact Or.inl rfl | exact Or.inr rfl) (pe_tup (pa_cons (pv 6) (pa_cons (pe_op o_add (pe_op o_add (pe_slice o_sl (pe_ix ix_seq (pv 7) pe_int (fun _ _ => rfl)) po_none (po_some (pv 12))) (pe_tup (pa_cons (pv 11) pa_nil))) (pv 13)) pa_nil))))
    (pss_one (ps_set (i := 9) sc_law.nd rfl (by first | exact Or.inl rfl | exact Or.inr rfl) (pe_callH h_l_followed (hr.mono (by omega)) rfl pass0 (pa_cons (pv 2) (pa_cons (pe_dget (hu_of hr) (pv 3) (pv 6) (fun _ _ => rfl)) (pa_cons (pe_ix ix_seq (pv 7) pe_int (fun _ _ => rfl)) pa_nil))))))))) pss_nil)
    (pss_consJ (ps_if (pt_cmpR (o_eq hr.units) (pv 10) pe_int (nomark _)) (pss_consJ (ps_if (pt_cmpR (o_eq hr.units) (pe_callH h_l_pick (hr.mono (by omega)) rfl pass0 (pa_cons (pv 1) (pa_cons (pv 0) (pa_cons pe_int pa_nil)))) pe_int (nomark _)) (pss_one (ps_set (i := 7) sc_law.nd rfl (by first | exact Or.inl rfl | exact Or.inr rfl) (pe_tup (pa_cons (pv 6) (pa_cons (pe_tup (pa_cons (pv 11) pa_nil)) pa_nil))))) pss_nil)
    (pss_consJ (ps_set (i := 7) sc_law.nd rfl (by first | exact Or.inl rfl | exact Or.inr rfl) (pe_tup (pa_cons (pe_callH h_l_new (hr.mono (by omega)) rfl pass0 (pa_cons (pv 5) (pa_cons (pv 6) pa_nil))) (pa_cons (pe_ix ix_seq (pv 7) pe_int (fun _ _ => rfl)) pa_nil))))
    (pss_one (ps_set (i := 9) sc_law.nd rfl (by first | exact Or.inl rfl | exact Or.inr rfl) (pe_lst (pa_cons pe_str (pa_cons pe_bl pa_nil))))))) pss_nil)
    (pss_consJ (ps_for PassesOwn.never rfl (pi_range1 (by rfl) z_range (pa_cons pe_int pa_nil)) (pg_name (i := 14) sc_law.nd rfl (by first | exact Or.inl rfl | exact Or.inr rfl)) (pss_consJ (ps_set (i := 15) sc_law.nd rfl (by first | exact Or.inl rfl | exact Or.inr rfl) (pe_callH h_l_told (hr.mono (by omega)) rfl pass0 (pa_cons (pv 7) (pa_cons (pv 2) (pa_cons (pv 3) pa_nil)))))
    (pss_one (ps_if (pt_val (pe_callB call_isi (by rfl) z_isinstance (by decide +kernel) (pa_cons (pv 9) (pa_cons (pe_bltn (v := .ty "list") (by rfl) z_list (by decide +kernel) rfl) pa_nil)))) (pss_one (ps_if (pt_cmpR (o_ne hr.units) (pv 15) (pv 9) (nomark _)) (pss_one (ps_ret pe_bl)) pss_nil)) (pss_one (ps_if (pt_not (pt_val (pe_callH h_l_same (hr.mono (by omega)) rfl pass0 (pa_cons (pv 15) (pa_cons (pv 9) pa_nil))))) (pss_one (ps_ret pe_bl)) pss_nil))))))
    (pss_one (ps_ret (pe_cmpR (o_eq hr.units) (LiI.pe_listItems (by rfl) (pv 3) (by rfl) z_list (by decide +kernel)) (pv 4) (nomark _))))))))))))))))),
    pure_law A vs H Q E h⟩)
end

theorem all_mk {l : PySem.W.OpenLaw} {w : World} {K : PySem.W.Frag} {h : Heap} {mg : Str → Option Value} {fa : Addr} {adr_ForkError adr_KindProblem adr_NoSuchStep adr_NoSuchVariable adr_NoSuchFunction adr_NotAllocated adr_Refused : Addr} (X : K.In h) (G : h.Ns mainGlobals mg) (hfa : mg "law" = some (.ref fa))
    (ac_ForkError : PySem.W.nsIn K mainGlobals "ForkError" = some (some (.ref adr_ForkError)))
    (ac_KindProblem : PySem.W.nsIn K mainGlobals "KindProblem" = some (some (.ref adr_KindProblem)))
    (ac_NoSuchStep : PySem.W.nsIn K mainGlobals "NoSuchStep" = some (some (.ref adr_NoSuchStep)))
    (ac_NoSuchVariable : PySem.W.nsIn K mainGlobals "NoSuchVariable" = some (some (.ref adr_NoSuchVariable)))
    (ac_NoSuchFunction : PySem.W.nsIn K mainGlobals "NoSuchFunction" = some (some (.ref adr_NoSuchFunction)))
    (ac_NotAllocated : PySem.W.nsIn K mainGlobals "NotAllocated" = some (some (.ref adr_NotAllocated)))
    (ac_Refused : PySem.W.nsIn K mainGlobals "Refused" = some (some (.ref adr_Refused)))
    (xq_NoSuchStep : PySem.W.excIn K adr_NoSuchStep [.type "ValueError", .type "Exception", .type "BaseException", .type "object"] "ValueError.__new__" = true) (xk_NoSuchStep : PySem.W.keepIn K (.ref adr_NoSuchStep) = true) (xs_NoSuchStep : PySem.W.subIn K (.ref adr_NoSuchStep) (.type "BaseException") = some true) (xt_NoSuchStep : PySem.W.typeIn K (.ref adr_NoSuchStep) = some (.type "type"))
    (xq_NoSuchVariable : PySem.W.excIn K adr_NoSuchVariable [.type "ValueError", .type "Exception", .type "BaseException", .type "object"] "ValueError.__new__" = true) (xk_NoSuchVariable : PySem.W.keepIn K (.ref adr_NoSuchVariable) = true) (xs_NoSuchVariable : PySem.W.subIn K (.ref adr_NoSuchVariable) (.type "BaseException") = some true) (xt_NoSuchVariable : PySem.W.typeIn K (.ref adr_NoSuchVariable) = some (.type "type"))
    (xc_NoSuchStep_hg : PySem.W.findIn K (.ref adr_NoSuchStep) "__getattribute__" = some (some (.builtin "BaseException.__getattribute__")))
    (xc_NoSuchStep_hk : PySem.W.findIn K (.ref adr_NoSuchStep) "__getattr__" = some none)
    (xc_NoSuchStep_hs : PySem.W.subIn K (.ref adr_NoSuchStep) (.type "BaseException") = some true)
    (xc_NoSuchStep_hd : PySem.W.hasDictIn K adr_NoSuchStep = true)
    (xc_NoSuchStep_ha : PySem.W.findIn K (.ref adr_NoSuchStep) "__class__" = some (some (.builtin "object.__class__")))
    (xc_NoSuchStep_hn : PySem.W.specialIn K (.builtin "object.__class__") "__get__" = some (some (.builtin "getset_descriptor.__get__")))
    (xc_NoSuchStep_ht : PySem.W.takesIn K (.builtin "object.__class__") = some true)
    (xc_NoSuchStep_hm : PySem.W.mroIn K adr_NoSuchStep (.type "object") = some true)
    (xc_NoSuchVariable_hg : PySem.W.findIn K (.ref adr_NoSuchVariable) "__getattribute__" = some (some (.builtin "BaseException.__getattribute__")))
    (xc_NoSuchVariable_hk : PySem.W.findIn K (.ref adr_NoSuchVariable) "__getattr__" = some none)
    (xc_NoSuchVariable_hs : PySem.W.subIn K (.ref adr_NoSuchVariable) (.type "BaseException") = some true)
    (xc_NoSuchVariable_hd : PySem.W.hasDictIn K adr_NoSuchVariable = true)
    (xc_NoSuchVariable_ha : PySem.W.findIn K (.ref adr_NoSuchVariable) "__class__" = some (some (.builtin "object.__class__")))
    (xc_NoSuchVariable_hn : PySem.W.specialIn K (.builtin "object.__class__") "__get__" = some (some (.builtin "getset_descriptor.__get__")))
    (xc_NoSuchVariable_ht : PySem.W.takesIn K (.builtin "object.__class__") = some true)
    (xc_NoSuchVariable_hm : PySem.W.mroIn K adr_NoSuchVariable (.type "object") = some true)
    (k_NoSuchStep_KindProblem : PySem.W.kitOne K (.ref adr_NoSuchStep) (.ref adr_KindProblem) = some false)
    (k_NoSuchStep_NoSuchFunction : PySem.W.kitOne K (.ref adr_NoSuchStep) (.ref adr_NoSuchFunction) = some false)
    (k_NoSuchStep_NoSuchVariable : PySem.W.kitOne K (.ref adr_NoSuchStep) (.ref adr_NoSuchVariable) = some false)
    (k_NoSuchStep_NotAllocated : PySem.W.kitOne K (.ref adr_NoSuchStep) (.ref adr_NotAllocated) = some false)
    (k_NoSuchStep_Refused : PySem.W.kitOne K (.ref adr_NoSuchStep) (.ref adr_Refused) = some false)
    (k_NoSuchStep_ForkError : PySem.W.kitOne K (.ref adr_NoSuchStep) (.ref adr_ForkError) = some true)
    (k_NoSuchStep_ValueError : PySem.W.kitOne K (.ref adr_NoSuchStep) (.type "ValueError") = some true)
    (k_NoSuchVariable_KindProblem : PySem.W.kitOne K (.ref adr_NoSuchVariable) (.ref adr_KindProblem) = some false)
    (k_NoSuchVariable_NoSuchFunction : PySem.W.kitOne K (.ref adr_NoSuchVariable) (.ref adr_NoSuchFunction) = some false)
    (k_NoSuchVariable_NoSuchStep : PySem.W.kitOne K (.ref adr_NoSuchVariable) (.ref adr_NoSuchStep) = some false)
    (k_NoSuchVariable_NotAllocated : PySem.W.kitOne K (.ref adr_NoSuchVariable) (.ref adr_NotAllocated) = some false)
    (k_NoSuchVariable_Refused : PySem.W.kitOne K (.ref adr_NoSuchVariable) (.ref adr_Refused) = some false)
    (k_NoSuchVariable_ForkError : PySem.W.kitOne K (.ref adr_NoSuchVariable) (.ref adr_ForkError) = some true)
    (k_NoSuchVariable_ValueError : PySem.W.kitOne K (.ref adr_NoSuchVariable) (.type "ValueError") = some true)
    (e_NoSuchStep_NoSuchStep : PySem.W.exmOne K (.ref adr_NoSuchStep) (.ref adr_NoSuchStep) = some true)
    (e_NoSuchVariable_NoSuchVariable : PySem.W.exmOne K (.ref adr_NoSuchVariable) (.ref adr_NoSuchVariable) = some true)
    (e_NoSuchStep_NoSuchVariable : PySem.W.exmOne K (.ref adr_NoSuchStep) (.ref adr_NoSuchVariable) = some false)
    {f0 : Addr} {od0 an0 : Option Addr} {sl0 : Array (Option Value)} {oc0 kV0 dc0 pm0 cd0 ct0 : Value}
    {f1 : Addr} {od1 an1 : Option Addr} {sl1 : Array (Option Value)} {oc1 kV1 dc1 pm1 cd1 ct1 : Value}
    {f2 : Addr} {od2 an2 : Option Addr} {sl2 : Array (Option Value)} {oc2 kV2 dc2 pm2 cd2 ct2 : Value}
    {f3 : Addr} {od3 an3 : Option Addr} {sl3 : Array (Option Value)} {oc3 kV3 dc3 pm3 cd3 ct3 : Value}
    {f4 : Addr} {od4 an4 : Option Addr} {sl4 : Array (Option Value)} {oc4 kV4 dc4 pm4 cd4 ct4 : Value}
    {f5 : Addr} {od5 an5 : Option Addr} {sl5 : Array (Option Value)} {oc5 kV5 dc5 pm5 cd5 ct5 : Value}
    {f6 : Addr} {od6 an6 : Option Addr} {sl6 : Array (Option Value)} {oc6 kV6 dc6 pm6 cd6 ct6 : Value}
    {f7 : Addr} {od7 an7 : Option Addr} {sl7 : Array (Option Value)} {oc7 kV7 dc7 pm7 cd7 ct7 : Value}
    {f8 : Addr} {od8 an8 : Option Addr} {sl8 : Array (Option Value)} {oc8 kV8 dc8 pm8 cd8 ct8 : Value}
    {f9 : Addr} {od9 an9 : Option Addr} {sl9 : Array (Option Value)} {oc9 kV9 dc9 pm9 cd9 ct9 : Value}
    {f10 : Addr} {od10 an10 : Option Addr} {sl10 : Array (Option Value)} {oc10 kV10 dc10 pm10 cd10 ct10 : Value}
    {f11 : Addr} {od11 an11 : Option Addr} {sl11 : Array (Option Value)} {oc11 kV11 dc11 pm11 cd11 ct11 : Value}
    {f12 : Addr} {od12 an12 : Option Addr} {sl12 : Array (Option Value)} {oc12 kV12 dc12 pm12 cd12 ct12 : Value}
    {f13 : Addr} {od13 an13 : Option Addr} {sl13 : Array (Option Value)} {oc13 kV13 dc13 pm13 cd13 ct13 : Value}
    {f14 : Addr} {od14 an14 : Option Addr} {sl14 : Array (Option Value)} {oc14 kV14 dc14 pm14 cd14 ct14 : Value}
    {f15 : Addr} {od15 an15 : Option Addr} {sl15 : Array (Option Value)} {oc15 kV15 dc15 pm15 cd15 ct15 : Value}
    {f16 : Addr} {od16 an16 : Option Addr} {sl16 : Array (Option Value)} {oc16 kV16 dc16 pm16 cd16 ct16 : Value}
    {f17 : Addr} {od17 an17 : Option Addr} {sl17 : Array (Option Value)} {oc17 kV17 dc17 pm17 cd17 ct17 : Value}
    {f18 : Addr} {od18 an18 : Option Addr} {sl18 : Array (Option Value)} {oc18 kV18 dc18 pm18 cd18 ct18 : Value}
    {f19 : Addr} {od19 an19 : Option Addr} {sl19 : Array (Option Value)} {oc19 kV19 dc19 pm19 cd19 ct19 : Value}
    {f20 : Addr} {od20 an20 : Option Addr} {sl20 : Array (Option Value)} {oc20 kV20 dc20 pm20 cd20 ct20 : Value}
    {f21 : Addr} {od21 an21 : Option Addr} {sl21 : Array (Option Value)} {oc21 kV21 dc21 pm21 cd21 ct21 : Value}
    {f22 : Addr} {od22 an22 : Option Addr} {sl22 : Array (Option Value)} {oc22 kV22 dc22 pm22 cd22 ct22 : Value}
    {f23 : Addr} {od23 an23 : Option Addr} {sl23 : Array (Option Value)} {oc23 kV23 dc23 pm23 cd23 ct23 : Value}
    {f24 : Addr} {od24 an24 : Option Addr} {sl24 : Array (Option Value)} {oc24 kV24 dc24 pm24 cd24 ct24 : Value}
    (a0 : PySem.W.nsIn K mainGlobals "fields_of" = some (some (.ref f0)))
    (l0 : K.lookup f0 = some ⟨oc0, od0, .func (PySem.W.fnOf "fields_of" "fields_of" (defArgs s_fields_of) (defBody s_fields_of) (defScope s_fields_of) .none kV0 dc0 pm0 an0 cd0 ct0), sl0⟩) (c0 : PySem.W.codeIn K cd0 "fields_of" = true) (k0 : PySem.W.keepIn K (.ref f0) = true)
    (a1 : PySem.W.nsIn K mainGlobals "kind_after" = some (some (.ref f1)))
    (l1 : K.lookup f1 = some ⟨oc1, od1, .func (PySem.W.fnOf "kind_after" "kind_after" (defArgs s_kind_after) (defBody s_kind_after) (defScope s_kind_after) .none kV1 dc1 pm1 an1 cd1 ct1), sl1⟩) (c1 : PySem.W.codeIn K cd1 "kind_after" = true) (k1 : PySem.W.keepIn K (.ref f1) = true)
    (a2 : PySem.W.nsIn K mainGlobals "kinds_along" = some (some (.ref f2)))
    (l2 : K.lookup f2 = some ⟨oc2, od2, .func (PySem.W.fnOf "kinds_along" "kinds_along" (defArgs s_kinds_along) (defBody s_kinds_along) (defScope s_kinds_along) .none kV2 dc2 pm2 an2 cd2 ct2), sl2⟩) (c2 : PySem.W.codeIn K cd2 "kinds_along" = true) (k2 : PySem.W.keepIn K (.ref f2) = true)
    (a3 : PySem.W.nsIn K mainGlobals "kind_at" = some (some (.ref f3)))
    (l3 : K.lookup f3 = some ⟨oc3, od3, .func (PySem.W.fnOf "kind_at" "kind_at" (defArgs s_kind_at) (defBody s_kind_at) (defScope s_kind_at) .none kV3 dc3 pm3 an3 cd3 ct3), sl3⟩) (c3 : PySem.W.codeIn K cd3 "kind_at" = true) (k3 : PySem.W.keepIn K (.ref f3) = true)
    (a4 : PySem.W.nsIn K mainGlobals "_law_pick" = some (some (.ref f4)))
    (l4 : K.lookup f4 = some ⟨oc4, od4, .func (PySem.W.fnOf "_law_pick" "_law_pick" (defArgs s_l_pick) (defBody s_l_pick) (defScope s_l_pick) .none kV4 dc4 pm4 an4 cd4 ct4), sl4⟩) (c4 : PySem.W.codeIn K cd4 "_law_pick" = true) (k4 : PySem.W.keepIn K (.ref f4) = true)
    (a5 : PySem.W.nsIn K mainGlobals "_law_words" = some (some (.ref f5)))
    (l5 : K.lookup f5 = some ⟨oc5, od5, .func (PySem.W.fnOf "_law_words" "_law_words" (defArgs s_l_words) (defBody s_l_words) (defScope s_l_words) .none kV5 dc5 pm5 an5 cd5 ct5), sl5⟩) (c5 : PySem.W.codeIn K cd5 "_law_words" = true) (k5 : PySem.W.keepIn K (.ref f5) = true)
    (a6 : PySem.W.nsIn K mainGlobals "_law_name" = some (some (.ref f6)))
    (l6 : K.lookup f6 = some ⟨oc6, od6, .func (PySem.W.fnOf "_law_name" "_law_name" (defArgs s_l_name) (defBody s_l_name) (defScope s_l_name) .none kV6 dc6 pm6 an6 cd6 ct6), sl6⟩) (c6 : PySem.W.codeIn K cd6 "_law_name" = true) (k6 : PySem.W.keepIn K (.ref f6) = true)
    (a7 : PySem.W.nsIn K mainGlobals "_law_big" = some (some (.ref f7)))
    (l7 : K.lookup f7 = some ⟨oc7, od7, .func (PySem.W.fnOf "_law_big" "_law_big" (defArgs s_l_big) (defBody s_l_big) (defScope s_l_big) .none kV7 dc7 pm7 an7 cd7 ct7), sl7⟩) (c7 : PySem.W.codeIn K cd7 "_law_big" = true) (k7 : PySem.W.keepIn K (.ref f7) = true)
    (a8 : PySem.W.nsIn K mainGlobals "_law_new" = some (some (.ref f8)))
    (l8 : K.lookup f8 = some ⟨oc8, od8, .func (PySem.W.fnOf "_law_new" "_law_new" (defArgs s_l_new) (defBody s_l_new) (defScope s_l_new) .none kV8 dc8 pm8 an8 cd8 ct8), sl8⟩) (c8 : PySem.W.codeIn K cd8 "_law_new" = true) (k8 : PySem.W.keepIn K (.ref f8) = true)
    (a9 : PySem.W.nsIn K mainGlobals "_law_kind" = some (some (.ref f9)))
    (l9 : K.lookup f9 = some ⟨oc9, od9, .func (PySem.W.fnOf "_law_kind" "_law_kind" (defArgs s_l_kind) (defBody s_l_kind) (defScope s_l_kind) .none kV9 dc9 pm9 an9 cd9 ct9), sl9⟩) (c9 : PySem.W.codeIn K cd9 "_law_kind" = true) (k9 : PySem.W.keepIn K (.ref f9) = true)
    (a10 : PySem.W.nsIn K mainGlobals "_law_is_plain" = some (some (.ref f10)))
    (l10 : K.lookup f10 = some ⟨oc10, od10, .func (PySem.W.fnOf "_law_is_plain" "_law_is_plain" (defArgs s_l_is_plain) (defBody s_l_is_plain) (defScope s_l_is_plain) .none kV10 dc10 pm10 an10 cd10 ct10), sl10⟩) (c10 : PySem.W.codeIn K cd10 "_law_is_plain" = true) (k10 : PySem.W.keepIn K (.ref f10) = true)
    (a11 : PySem.W.nsIn K mainGlobals "_law_wide" = some (some (.ref f11)))
    (l11 : K.lookup f11 = some ⟨oc11, od11, .func (PySem.W.fnOf "_law_wide" "_law_wide" (defArgs s_l_wide) (defBody s_l_wide) (defScope s_l_wide) .none kV11 dc11 pm11 an11 cd11 ct11), sl11⟩) (c11 : PySem.W.codeIn K cd11 "_law_wide" = true) (k11 : PySem.W.keepIn K (.ref f11) = true)
    (a12 : PySem.W.nsIn K mainGlobals "_law_any_kind" = some (some (.ref f12)))
    (l12 : K.lookup f12 = some ⟨oc12, od12, .func (PySem.W.fnOf "_law_any_kind" "_law_any_kind" (defArgs s_l_any_kind) (defBody s_l_any_kind) (defScope s_l_any_kind) .none kV12 dc12 pm12 an12 cd12 ct12), sl12⟩) (c12 : PySem.W.codeIn K cd12 "_law_any_kind" = true) (k12 : PySem.W.keepIn K (.ref f12) = true)
    (a13 : PySem.W.nsIn K mainGlobals "_law_same" = some (some (.ref f13)))
    (l13 : K.lookup f13 = some ⟨oc13, od13, .func (PySem.W.fnOf "_law_same" "_law_same" (defArgs s_l_same) (defBody s_l_same) (defScope s_l_same) .none kV13 dc13 pm13 an13 cd13 ct13), sl13⟩) (c13 : PySem.W.codeIn K cd13 "_law_same" = true) (k13 : PySem.W.keepIn K (.ref f13) = true)
    (a14 : PySem.W.nsIn K mainGlobals "_law_size" = some (some (.ref f14)))
    (l14 : K.lookup f14 = some ⟨oc14, od14, .func (PySem.W.fnOf "_law_size" "_law_size" (defArgs s_l_size) (defBody s_l_size) (defScope s_l_size) .none kV14 dc14 pm14 an14 cd14 ct14), sl14⟩) (c14 : PySem.W.codeIn K cd14 "_law_size" = true) (k14 : PySem.W.keepIn K (.ref f14) = true)
    (a15 : PySem.W.nsIn K mainGlobals "_law_is_small" = some (some (.ref f15)))
    (l15 : K.lookup f15 = some ⟨oc15, od15, .func (PySem.W.fnOf "_law_is_small" "_law_is_small" (defArgs s_l_is_small) (defBody s_l_is_small) (defScope s_l_is_small) .none kV15 dc15 pm15 an15 cd15 ct15), sl15⟩) (c15 : PySem.W.codeIn K cd15 "_law_is_small" = true) (k15 : PySem.W.keepIn K (.ref f15) = true)
    (a16 : PySem.W.nsIn K mainGlobals "_law_records" = some (some (.ref f16)))
    (l16 : K.lookup f16 = some ⟨oc16, od16, .func (PySem.W.fnOf "_law_records" "_law_records" (defArgs s_l_records) (defBody s_l_records) (defScope s_l_records) .none kV16 dc16 pm16 an16 cd16 ct16), sl16⟩) (c16 : PySem.W.codeIn K cd16 "_law_records" = true) (k16 : PySem.W.keepIn K (.ref f16) = true)
    (a17 : PySem.W.nsIn K mainGlobals "_law_options" = some (some (.ref f17)))
    (l17 : K.lookup f17 = some ⟨oc17, od17, .func (PySem.W.fnOf "_law_options" "_law_options" (defArgs s_l_options) (defBody s_l_options) (defScope s_l_options) .none kV17 dc17 pm17 an17 cd17 ct17), sl17⟩) (c17 : PySem.W.codeIn K cd17 "_law_options" = true) (k17 : PySem.W.keepIn K (.ref f17) = true)
    (a18 : PySem.W.nsIn K mainGlobals "_law_small_kind" = some (some (.ref f18)))
    (l18 : K.lookup f18 = some ⟨oc18, od18, .func (PySem.W.fnOf "_law_small_kind" "_law_small_kind" (defArgs s_l_small_kind) (defBody s_l_small_kind) (defScope s_l_small_kind) .none kV18 dc18 pm18 an18 cd18 ct18), sl18⟩) (c18 : PySem.W.codeIn K cd18 "_law_small_kind" = true) (k18 : PySem.W.keepIn K (.ref f18) = true)
    (a19 : PySem.W.nsIn K mainGlobals "_law_table" = some (some (.ref f19)))
    (l19 : K.lookup f19 = some ⟨oc19, od19, .func (PySem.W.fnOf "_law_table" "_law_table" (defArgs s_l_table) (defBody s_l_table) (defScope s_l_table) .none kV19 dc19 pm19 an19 cd19 ct19), sl19⟩) (c19 : PySem.W.codeIn K cd19 "_law_table" = true) (k19 : PySem.W.keepIn K (.ref f19) = true)
    (a20 : PySem.W.nsIn K mainGlobals "_law_walk" = some (some (.ref f20)))
    (l20 : K.lookup f20 = some ⟨oc20, od20, .func (PySem.W.fnOf "_law_walk" "_law_walk" (defArgs s_l_walk) (defBody s_l_walk) (defScope s_l_walk) .none kV20 dc20 pm20 an20 cd20 ct20), sl20⟩) (c20 : PySem.W.codeIn K cd20 "_law_walk" = true) (k20 : PySem.W.keepIn K (.ref f20) = true)
    (a21 : PySem.W.nsIn K mainGlobals "_law_step" = some (some (.ref f21)))
    (l21 : K.lookup f21 = some ⟨oc21, od21, .func (PySem.W.fnOf "_law_step" "_law_step" (defArgs s_l_step) (defBody s_l_step) (defScope s_l_step) .none kV21 dc21 pm21 an21 cd21 ct21), sl21⟩) (c21 : PySem.W.codeIn K cd21 "_law_step" = true) (k21 : PySem.W.keepIn K (.ref f21) = true)
    (a22 : PySem.W.nsIn K mainGlobals "_law_told" = some (some (.ref f22)))
    (l22 : K.lookup f22 = some ⟨oc22, od22, .func (PySem.W.fnOf "_law_told" "_law_told" (defArgs s_l_told) (defBody s_l_told) (defScope s_l_told) .none kV22 dc22 pm22 an22 cd22 ct22), sl22⟩) (c22 : PySem.W.codeIn K cd22 "_law_told" = true) (k22 : PySem.W.keepIn K (.ref f22) = true)
    (a23 : PySem.W.nsIn K mainGlobals "_law_followed" = some (some (.ref f23)))
    (l23 : K.lookup f23 = some ⟨oc23, od23, .func (PySem.W.fnOf "_law_followed" "_law_followed" (defArgs s_l_followed) (defBody s_l_followed) (defScope s_l_followed) .none kV23 dc23 pm23 an23 cd23 ct23), sl23⟩) (c23 : PySem.W.codeIn K cd23 "_law_followed" = true) (k23 : PySem.W.keepIn K (.ref f23) = true)
    (a24 : PySem.W.nsIn K mainGlobals "law" = some (some (.ref f24)))
    (l24 : K.lookup f24 = some ⟨oc24, od24, .func (PySem.W.fnOf "law" "law" (defArgs s_law) (defBody s_law) (defScope s_law) .none kV24 dc24 pm24 an24 cd24 ct24), sl24⟩) (c24 : PySem.W.codeIn K cd24 "law" = true) (k24 : PySem.W.keepIn K (.ref f24) = true)
    (z_isinstance : PySem.W.nsIn K mainGlobals "isinstance" = some none)
    (z_int : PySem.W.nsIn K mainGlobals "int" = some none)
    (z_len : PySem.W.nsIn K mainGlobals "len" = some none)
    (z_abs : PySem.W.nsIn K mainGlobals "abs" = some none)
    (z_range : PySem.W.nsIn K mainGlobals "range" = some none)
    (z_str : PySem.W.nsIn K mainGlobals "str" = some none)
    (z_tuple : PySem.W.nsIn K mainGlobals "tuple" = some none)
    (z_bool : PySem.W.nsIn K mainGlobals "bool" = some none)
    (z_sum : PySem.W.nsIn K mainGlobals "sum" = some none)
    (z_list : PySem.W.nsIn K mainGlobals "list" = some none)
    (z_ValueError : PySem.W.nsIn K mainGlobals "ValueError" = some none)
    : ∃ fd : FuncData, (∀ (s : Shared) (v : Value), BindsTo s fd ⟨[v], []⟩ [("script", v)]) ∧ ∀ base : Heap, K.In base → base.Ns mainGlobals mg → FnOk l.prog w K mg base CX0 75 fa fd ["script"] (sp_law K) := by
  have e := hfa.symm.trans (PySem.W.mg_of X G a24)
  cases e
  have F0 := fun_mk (st := s_fields_of) l0 c0 k0
  have D0 : Dfn K mg "fields_of" s_fields_of ["records", "name"] := ⟨_, _, F0, PySem.W.mg_of X G a0, F0.binds (ps := ["records", "name"]) fun _ _ _ _ _ _ us hl => match us, hl with | [_, _], _ => rfl⟩
  have F1 := fun_mk (st := s_kind_after) l1 c1 k1
  have D1 : Dfn K mg "kind_after" s_kind_after ["records", "kind", "step"] := ⟨_, _, F1, PySem.W.mg_of X G a1, F1.binds (ps := ["records", "kind", "step"]) fun _ _ _ _ _ _ us hl => match us, hl with | [_, _, _], _ => rfl⟩
  have F2 := fun_mk (st := s_kinds_along) l2 c2 k2
  have D2 : DfnK K mg "kinds_along" s_kinds_along 1 ["place", "records", "kinds"] ["records", "kinds"] := ⟨_, _, F2, PySem.W.mg_of X G a2, kbinds F2 (fun _ _ _ _ _ _ us ws h1 h2 => match us, ws, h1, h2 with | [_], [_, _], _, _ => rfl) rfl (by decide)⟩
  have F3 := fun_mk (st := s_kind_at) l3 c3 k3
  have D3 : DfnK K mg "kind_at" s_kind_at 1 ["place", "records", "kinds"] ["records", "kinds"] := ⟨_, _, F3, PySem.W.mg_of X G a3, kbinds F3 (fun _ _ _ _ _ _ us ws h1 h2 => match us, ws, h1, h2 with | [_], [_, _], _, _ => rfl) rfl (by decide)⟩
  have F4 := fun_mk (st := s_l_pick) l4 c4 k4
  have D4 : Dfn K mg "_law_pick" s_l_pick ["state", "script", "many"] := ⟨_, _, F4, PySem.W.mg_of X G a4, F4.binds (ps := ["state", "script", "many"]) fun _ _ _ _ _ _ us hl => match us, hl with | [_, _, _], _ => rfl⟩
  have F5 := fun_mk (st := s_l_words) l5 c5 k5
  have D5 : Dfn K mg "_law_words" s_l_words [] := ⟨_, _, F5, PySem.W.mg_of X G a5, F5.binds (ps := []) fun _ _ _ _ _ _ us hl => match us, hl with | [], _ => rfl⟩
  have F6 := fun_mk (st := s_l_name) l6 c6 k6
  have D6 : Dfn K mg "_law_name" s_l_name ["state", "script"] := ⟨_, _, F6, PySem.W.mg_of X G a6, F6.binds (ps := ["state", "script"]) fun _ _ _ _ _ _ us hl => match us, hl with | [_, _], _ => rfl⟩
  have F7 := fun_mk (st := s_l_big) l7 c7 k7
  have D7 : Dfn K mg "_law_big" s_l_big ["state", "script"] := ⟨_, _, F7, PySem.W.mg_of X G a7, F7.binds (ps := ["state", "script"]) fun _ _ _ _ _ _ us hl => match us, hl with | [_, _], _ => rfl⟩
  have F8 := fun_mk (st := s_l_new) l8 c8 k8
  have D8 : Dfn K mg "_law_new" s_l_new ["taken", "word"] := ⟨_, _, F8, PySem.W.mg_of X G a8, F8.binds (ps := ["taken", "word"]) fun _ _ _ _ _ _ us hl => match us, hl with | [_, _], _ => rfl⟩
  have F9 := fun_mk (st := s_l_kind) l9 c9 k9
  have D9 : Dfn K mg "_law_kind" s_l_kind ["state", "script", "room", "plain", "names"] := ⟨_, _, F9, PySem.W.mg_of X G a9, F9.binds (ps := ["state", "script", "room", "plain", "names"]) fun _ _ _ _ _ _ us hl => match us, hl with | [_, _, _, _, _], _ => rfl⟩
  have F10 := fun_mk (st := s_l_is_plain) l10 c10 k10
  have D10 : Dfn K mg "_law_is_plain" s_l_is_plain ["kind"] := ⟨_, _, F10, PySem.W.mg_of X G a10, F10.binds (ps := ["kind"]) fun _ _ _ _ _ _ us hl => match us, hl with | [_], _ => rfl⟩
  have F11 := fun_mk (st := s_l_wide) l11 c11 k11
  have D11 : Dfn K mg "_law_wide" s_l_wide ["state", "script"] := ⟨_, _, F11, PySem.W.mg_of X G a11, F11.binds (ps := ["state", "script"]) fun _ _ _ _ _ _ us hl => match us, hl with | [_, _], _ => rfl⟩
  have F12 := fun_mk (st := s_l_any_kind) l12 c12 k12
  have D12 : Dfn K mg "_law_any_kind" s_l_any_kind ["state", "script", "names"] := ⟨_, _, F12, PySem.W.mg_of X G a12, F12.binds (ps := ["state", "script", "names"]) fun _ _ _ _ _ _ us hl => match us, hl with | [_, _, _], _ => rfl⟩
  have F13 := fun_mk (st := s_l_same) l13 c13 k13
  have D13 : Dfn K mg "_law_same" s_l_same ["actual", "due"] := ⟨_, _, F13, PySem.W.mg_of X G a13, F13.binds (ps := ["actual", "due"]) fun _ _ _ _ _ _ us hl => match us, hl with | [_, _], _ => rfl⟩
  have F14 := fun_mk (st := s_l_size) l14 c14 k14
  have D14 : Dfn K mg "_law_size" s_l_size ["rows", "kind"] := ⟨_, _, F14, PySem.W.mg_of X G a14, F14.binds (ps := ["rows", "kind"]) fun _ _ _ _ _ _ us hl => match us, hl with | [_, _], _ => rfl⟩
  have F15 := fun_mk (st := s_l_is_small) l15 c15 k15
  have D15 : Dfn K mg "_law_is_small" s_l_is_small ["rows", "kind"] := ⟨_, _, F15, PySem.W.mg_of X G a15, F15.binds (ps := ["rows", "kind"]) fun _ _ _ _ _ _ us hl => match us, hl with | [_, _], _ => rfl⟩
  have F16 := fun_mk (st := s_l_records) l16 c16 k16
  have D16 : Dfn K mg "_law_records" s_l_records ["state", "script"] := ⟨_, _, F16, PySem.W.mg_of X G a16, F16.binds (ps := ["state", "script"]) fun _ _ _ _ _ _ us hl => match us, hl with | [_, _], _ => rfl⟩
  have F17 := fun_mk (st := s_l_options) l17 c17 k17
  have D17 : Dfn K mg "_law_options" s_l_options ["rows", "kind"] := ⟨_, _, F17, PySem.W.mg_of X G a17, F17.binds (ps := ["rows", "kind"]) fun _ _ _ _ _ _ us hl => match us, hl with | [_, _], _ => rfl⟩
  have F18 := fun_mk (st := s_l_small_kind) l18 c18 k18
  have D18 : Dfn K mg "_law_small_kind" s_l_small_kind ["state", "script", "rows"] := ⟨_, _, F18, PySem.W.mg_of X G a18, F18.binds (ps := ["state", "script", "rows"]) fun _ _ _ _ _ _ us hl => match us, hl with | [_, _, _], _ => rfl⟩
  have F19 := fun_mk (st := s_l_table) l19 c19 k19
  have D19 : Dfn K mg "_law_table" s_l_table ["state", "script", "rows"] := ⟨_, _, F19, PySem.W.mg_of X G a19, F19.binds (ps := ["state", "script", "rows"]) fun _ _ _ _ _ _ us hl => match us, hl with | [_, _, _], _ => rfl⟩
  have F20 := fun_mk (st := s_l_walk) l20 c20 k20
  have D20 : Dfn K mg "_law_walk" s_l_walk ["state", "script", "rows", "name", "kind"] := ⟨_, _, F20, PySem.W.mg_of X G a20, F20.binds (ps := ["state", "script", "rows", "name", "kind"]) fun _ _ _ _ _ _ us hl => match us, hl with | [_, _, _, _, _], _ => rfl⟩
  have F21 := fun_mk (st := s_l_step) l21 c21 k21
  have D21 : Dfn K mg "_law_step" s_l_step ["state", "script", "rows"] := ⟨_, _, F21, PySem.W.mg_of X G a21, F21.binds (ps := ["state", "script", "rows"]) fun _ _ _ _ _ _ us hl => match us, hl with | [_, _, _], _ => rfl⟩
  have F22 := fun_mk (st := s_l_told) l22 c22 k22
  have D22 : Dfn K mg "_law_told" s_l_told ["place", "rows", "table"] := ⟨_, _, F22, PySem.W.mg_of X G a22, F22.binds (ps := ["place", "rows", "table"]) fun _ _ _ _ _ _ us hl => match us, hl with | [_, _, _], _ => rfl⟩
  have F23 := fun_mk (st := s_l_followed) l23 c23 k23
  have D23 : Dfn K mg "_law_followed" s_l_followed ["rows", "kind", "steps"] := ⟨_, _, F23, PySem.W.mg_of X G a23, F23.binds (ps := ["rows", "kind", "steps"]) fun _ _ _ _ _ _ us hl => match us, hl with | [_, _, _], _ => rfl⟩
  have F24 := fun_mk (st := s_law) l24 c24 k24
  have D24 : Dfn K mg "law" s_law ["script"] := ⟨_, _, F24, PySem.W.mg_of X G a24, F24.binds (ps := ["script"]) fun _ _ _ _ _ _ us hl => match us, hl with | [_], _ => rfl⟩
  have y_isinstance := PySem.W.mg_none_of X G z_isinstance
  have y_int := PySem.W.mg_none_of X G z_int
  have y_len := PySem.W.mg_none_of X G z_len
  have y_abs := PySem.W.mg_none_of X G z_abs
  have y_range := PySem.W.mg_none_of X G z_range
  have y_str := PySem.W.mg_none_of X G z_str
  have y_tuple := PySem.W.mg_none_of X G z_tuple
  have y_bool := PySem.W.mg_none_of X G z_bool
  have y_sum := PySem.W.mg_none_of X G z_sum
  have y_list := PySem.W.mg_none_of X G z_list
  have y_ValueError := PySem.W.mg_none_of X G z_ValueError
  refine ⟨PySem.W.fnOf "law" "law" (defArgs s_law) (defBody s_law) (defScope s_law) .none kV24 dc24 pm24 an24 cd24 ct24, fun s v => .of_eq rfl, fun base _ _ => ?_⟩
  have g_ForkError := PySem.W.mg_of X G ac_ForkError
  have g_KindProblem := PySem.W.mg_of X G ac_KindProblem
  have g_NoSuchStep := PySem.W.mg_of X G ac_NoSuchStep
  have g_NoSuchVariable := PySem.W.mg_of X G ac_NoSuchVariable
  have g_NoSuchFunction := PySem.W.mg_of X G ac_NoSuchFunction
  have g_NotAllocated := PySem.W.mg_of X G ac_NotAllocated
  have g_Refused := PySem.W.mg_of X G ac_Refused
  have x_NoSuchStep : ExO K mg "NoSuchStep" (Ad.mk adr_ForkError adr_KindProblem adr_NoSuchStep adr_NoSuchVariable adr_NoSuchFunction adr_NotAllocated adr_Refused).c_NoSuchStep := ⟨xq_NoSuchStep, g_NoSuchStep, xk_NoSuchStep, xs_NoSuchStep, xt_NoSuchStep⟩
  have x_NoSuchVariable : ExO K mg "NoSuchVariable" (Ad.mk adr_ForkError adr_KindProblem adr_NoSuchStep adr_NoSuchVariable adr_NoSuchFunction adr_NotAllocated adr_Refused).c_NoSuchVariable := ⟨xq_NoSuchVariable, g_NoSuchVariable, xk_NoSuchVariable, xs_NoSuchVariable, xt_NoSuchVariable⟩
  have fx : Fx K (Ad.mk adr_ForkError adr_KindProblem adr_NoSuchStep adr_NoSuchVariable adr_NoSuchFunction adr_NotAllocated adr_Refused) := ⟨⟨xc_NoSuchStep_hg, xc_NoSuchStep_hk, xc_NoSuchStep_hs, xc_NoSuchStep_hd, xc_NoSuchStep_ha, xc_NoSuchStep_hn, xc_NoSuchStep_ht, xc_NoSuchStep_hm⟩, ⟨xc_NoSuchVariable_hg, xc_NoSuchVariable_hk, xc_NoSuchVariable_hs, xc_NoSuchVariable_hd, xc_NoSuchVariable_ha, xc_NoSuchVariable_hn, xc_NoSuchVariable_ht, xc_NoSuchVariable_hm⟩, k_NoSuchStep_KindProblem, k_NoSuchStep_NoSuchFunction, k_NoSuchStep_NoSuchVariable, k_NoSuchStep_NotAllocated, k_NoSuchStep_Refused, k_NoSuchStep_ForkError, k_NoSuchStep_ValueError, k_NoSuchVariable_KindProblem, k_NoSuchVariable_NoSuchFunction, k_NoSuchVariable_NoSuchStep, k_NoSuchVariable_NotAllocated, k_NoSuchVariable_Refused, k_NoSuchVariable_ForkError, k_NoSuchVariable_ValueError, e_NoSuchStep_NoSuchStep, e_NoSuchVariable_NoSuchVariable, e_NoSuchStep_NoSuchVariable⟩
  have h_fields_of := has_fields_of (P := l.prog) (w := w) (K := K) (mg := mg) (base := base) D0 (Ad.mk adr_ForkError adr_KindProblem adr_NoSuchStep adr_NoSuchVariable adr_NoSuchFunction adr_NotAllocated adr_Refused)      
  have h_kind_after := has_kind_after (P := l.prog) (w := w) (K := K) (mg := mg) (base := base) D1 (Ad.mk adr_ForkError adr_KindProblem adr_NoSuchStep adr_NoSuchVariable adr_NoSuchFunction adr_NotAllocated adr_Refused)  h_fields_of  x_NoSuchStep y_isinstance y_int y_len 
  have h_kinds_along := has_kinds_along (P := l.prog) (w := w) (K := K) (mg := mg) (base := base) D2 (Ad.mk adr_ForkError adr_KindProblem adr_NoSuchStep adr_NoSuchVariable adr_NoSuchFunction adr_NotAllocated adr_Refused)  h_kind_after  x_NoSuchVariable  
  have h_kind_at := has_kind_at (P := l.prog) (w := w) (K := K) (mg := mg) (base := base) D3 (Ad.mk adr_ForkError adr_KindProblem adr_NoSuchStep adr_NoSuchVariable adr_NoSuchFunction adr_NotAllocated adr_Refused)  h_kinds_along    
  have h_l_pick := has_l_pick (P := l.prog) (w := w) (K := K) (mg := mg) (base := base) D4 (Ad.mk adr_ForkError adr_KindProblem adr_NoSuchStep adr_NoSuchVariable adr_NoSuchFunction adr_NotAllocated adr_Refused)     y_int y_len y_abs 
  have h_l_words := has_l_words (P := l.prog) (w := w) (K := K) (mg := mg) (base := base) D5 (Ad.mk adr_ForkError adr_KindProblem adr_NoSuchStep adr_NoSuchVariable adr_NoSuchFunction adr_NotAllocated adr_Refused)      
  have h_l_name := has_l_name (P := l.prog) (w := w) (K := K) (mg := mg) (base := base) D6 (Ad.mk adr_ForkError adr_KindProblem adr_NoSuchStep adr_NoSuchVariable adr_NoSuchFunction adr_NotAllocated adr_Refused)  h_l_pick h_l_words   y_range 
  have h_l_big := has_l_big (P := l.prog) (w := w) (K := K) (mg := mg) (base := base) D7 (Ad.mk adr_ForkError adr_KindProblem adr_NoSuchStep adr_NoSuchVariable adr_NoSuchFunction adr_NotAllocated adr_Refused)  h_l_pick   y_range 
  have h_l_new := has_l_new (P := l.prog) (w := w) (K := K) (mg := mg) (base := base) D8 (Ad.mk adr_ForkError adr_KindProblem adr_NoSuchStep adr_NoSuchVariable adr_NoSuchFunction adr_NotAllocated adr_Refused)     y_range y_str 
  have h_l_kind := has_l_kind (P := l.prog) (w := w) (K := K) (mg := mg) (base := base) D9 (Ad.mk adr_ForkError adr_KindProblem adr_NoSuchStep adr_NoSuchVariable adr_NoSuchFunction adr_NotAllocated adr_Refused)  h_l_pick   y_range y_tuple y_len y_int  6
  have h_l_is_plain := has_l_is_plain (P := l.prog) (w := w) (K := K) (mg := mg) (base := base) D10 (Ad.mk adr_ForkError adr_KindProblem adr_NoSuchStep adr_NoSuchVariable adr_NoSuchFunction adr_NotAllocated adr_Refused)       12
  have h_l_wide := has_l_wide (P := l.prog) (w := w) (K := K) (mg := mg) (base := base) D11 (Ad.mk adr_ForkError adr_KindProblem adr_NoSuchStep adr_NoSuchVariable adr_NoSuchFunction adr_NotAllocated adr_Refused)  h_l_pick   y_range y_tuple 
  have h_l_any_kind := has_l_any_kind (P := l.prog) (w := w) (K := K) (mg := mg) (base := base) D12 (Ad.mk adr_ForkError adr_KindProblem adr_NoSuchStep adr_NoSuchVariable adr_NoSuchFunction adr_NotAllocated adr_Refused)  h_l_pick h_l_wide h_l_kind h_l_is_plain   y_range 
  have h_l_same := has_l_same (P := l.prog) (w := w) (K := K) (mg := mg) (base := base) D13 (Ad.mk adr_ForkError adr_KindProblem adr_NoSuchStep adr_NoSuchVariable adr_NoSuchFunction adr_NotAllocated adr_Refused)     y_isinstance y_tuple y_len y_range y_bool y_int y_str  16
  have h_l_size := has_l_size (P := l.prog) (w := w) (K := K) (mg := mg) (base := base) D14 (Ad.mk adr_ForkError adr_KindProblem adr_NoSuchStep adr_NoSuchVariable adr_NoSuchFunction adr_NotAllocated adr_Refused)     y_sum  60
  have h_l_is_small := has_l_is_small (P := l.prog) (w := w) (K := K) (mg := mg) (base := base) D15 (Ad.mk adr_ForkError adr_KindProblem adr_NoSuchStep adr_NoSuchVariable adr_NoSuchFunction adr_NotAllocated adr_Refused)  h_l_size     12
  have h_l_records := has_l_records (P := l.prog) (w := w) (K := K) (mg := mg) (base := base) D16 (Ad.mk adr_ForkError adr_KindProblem adr_NoSuchStep adr_NoSuchVariable adr_NoSuchFunction adr_NotAllocated adr_Refused)  h_l_pick h_l_new h_l_big h_l_name h_l_kind h_l_size h_l_is_small   y_range y_len y_tuple 
  have h_l_options := has_l_options (P := l.prog) (w := w) (K := K) (mg := mg) (base := base) D17 (Ad.mk adr_ForkError adr_KindProblem adr_NoSuchStep adr_NoSuchVariable adr_NoSuchFunction adr_NotAllocated adr_Refused)     y_len y_range y_list 
  have h_l_small_kind := has_l_small_kind (P := l.prog) (w := w) (K := K) (mg := mg) (base := base) D18 (Ad.mk adr_ForkError adr_KindProblem adr_NoSuchStep adr_NoSuchVariable adr_NoSuchFunction adr_NotAllocated adr_Refused)  h_l_any_kind h_l_is_small    
  have h_l_table := has_l_table (P := l.prog) (w := w) (K := K) (mg := mg) (base := base) D19 (Ad.mk adr_ForkError adr_KindProblem adr_NoSuchStep adr_NoSuchVariable adr_NoSuchFunction adr_NotAllocated adr_Refused)  h_l_pick h_l_new h_l_name h_l_small_kind   y_range y_list 
  have h_l_walk := has_l_walk (P := l.prog) (w := w) (K := K) (mg := mg) (base := base) D20 (Ad.mk adr_ForkError adr_KindProblem adr_NoSuchStep adr_NoSuchVariable adr_NoSuchFunction adr_NotAllocated adr_Refused)  h_l_pick h_l_options   y_range y_len y_tuple 
  have h_l_step := has_l_step (P := l.prog) (w := w) (K := K) (mg := mg) (base := base) D21 (Ad.mk adr_ForkError adr_KindProblem adr_NoSuchStep adr_NoSuchVariable adr_NoSuchFunction adr_NotAllocated adr_Refused)  h_l_pick h_l_name   y_len 
  have h_l_told := has_l_told (P := l.prog) (w := w) (K := K) (mg := mg) (base := base) D22 (Ad.mk adr_ForkError adr_KindProblem adr_NoSuchStep adr_NoSuchVariable adr_NoSuchFunction adr_NotAllocated adr_Refused) fx  h_kind_at g_NoSuchVariable g_Refused g_NotAllocated g_NoSuchStep g_NoSuchFunction g_KindProblem g_ForkError  y_isinstance y_ValueError 
  have h_l_followed := has_l_followed (P := l.prog) (w := w) (K := K) (mg := mg) (base := base) D23 (Ad.mk adr_ForkError adr_KindProblem adr_NoSuchStep adr_NoSuchVariable adr_NoSuchFunction adr_NotAllocated adr_Refused)  h_l_options   y_len 
  exact ok_law F24 (Ad.mk adr_ForkError adr_KindProblem adr_NoSuchStep adr_NoSuchVariable adr_NoSuchFunction adr_NotAllocated adr_Refused)  h_l_records h_l_table h_l_pick h_l_walk h_l_step h_l_followed h_l_new h_l_told h_l_same y_list y_len y_range y_isinstance 
theorem walk {l : PySem.W.OpenLaw} {q : Program} {loose : List Str} {XP : (Str → Option Value) → Heap → Prop} {YP : World → Heap → Prop} {d : DefRec} {K : Params → PySem.W.Frag} (hn : l.most = some 63) (hdf : d.params.defaults = [])
    (hY : ∀ (w : World) (h : Heap), YP w h → (K w.params).In h)
    (F : ∀ (w : World) (mg : Str → Option Value) (fa : Addr) (h : Heap), (K w.params).In h → h.Ns mainGlobals mg → mg d.name = some (.ref fa) →
      ∃ fd : FuncData, (∀ (s : Shared) (u : Value), BindsTo s fd ⟨[u], []⟩ [("script", u)]) ∧ ∀ base : Heap, (K w.params).In base → base.Ns mainGlobals mg → FnOk l.prog w (K w.params) mg base CX0 75 fa fd ["script"] (sp_law (K w.params))) :
    PySem.W.WalkO q loose XP YP l.row.toRowW d [] (fun f vs => PySem.call f vs) :=
  L2.walk_of (n := 63) (k := 75) (x := "script") (CX := fun _ => CX0) (sp := fun w => sp_law (K w.params)) hn (by decide) hdf ⟨rfl, by decide, by decide⟩ hY F (fun _ _ a ns hl _ hS => ⟨a, ns, rfl, hS, hl, fun _ => rfl⟩) fun _ _ _ _ _ z => z

end Law

open PySem PySem.W PyProof.Rows
set_option maxRecDepth 100000 in
set_option maxHeartbeats 0 in
theorem PySem.Challenge.cw_forklent_k51_kinds_of_places_holds : PySem.Challenge.rw_forklent_k51_kinds_of_places.Holds := by
  w_on; o_law; k_head; (case hw => w_witness2)
  k_fill
  refine Law.walk (l := PySem.Challenge.rw_forklent_k51_kinds_of_places) rfl rfl (fun w h Y => PySem.W.kIn_of Y) ?F
  case F =>
    intro w mg fa h KX G hmg
    refine' Law.all_mk KX G hmg ?ac_ForkError ?ac_KindProblem ?ac_NoSuchStep ?ac_NoSuchVariable ?ac_NoSuchFunction ?ac_NotAllocated ?ac_Refused ?xq_NoSuchStep ?xk_NoSuchStep ?xs_NoSuchStep ?xt_NoSuchStep ?xq_NoSuchVariable ?xk_NoSuchVariable ?xs_NoSuchVariable ?xt_NoSuchVariable ?xc_NoSuchStep_hg ?xc_NoSuchStep_hk ?xc_NoSuchStep_hs ?xc_NoSuchStep_hd ?xc_NoSuchStep_ha ?xc_NoSuchStep_hn ?xc_NoSuchStep_ht ?xc_NoSuchStep_hm ?xc_NoSuchVariable_hg ?xc_NoSuchVariable_hk ?xc_NoSuchVariable_hs ?xc_NoSuchVariable_hd ?xc_NoSuchVariable_ha ?xc_NoSuchVariable_hn ?xc_NoSuchVariable_ht ?xc_NoSuchVariable_hm ?k_NoSuchStep_KindProblem ?k_NoSuchStep_NoSuchFunction ?k_NoSuchStep_NoSuchVariable ?k_NoSuchStep_NotAllocated ?k_NoSuchStep_Refused ?k_NoSuchStep_ForkError ?k_NoSuchStep_ValueError ?k_NoSuchVariable_KindProblem ?k_NoSuchVariable_NoSuchFunction ?k_NoSuchVariable_NoSuchStep ?k_NoSuchVariable_NotAllocated ?k_NoSuchVariable_Refused ?k_NoSuchVariable_ForkError ?k_NoSuchVariable_ValueError ?e_NoSuchStep_NoSuchStep ?e_NoSuchVariable_NoSuchVariable ?e_NoSuchStep_NoSuchVariable ?a0 ?l0 ?c0 ?k0 ?a1 ?l1 ?c1 ?k1 ?a2 ?l2 ?c2 ?k2 ?a3 ?l3 ?c3 ?k3 ?a4 ?l4 ?c4 ?k4 ?a5 ?l5 ?c5 ?k5 ?a6 ?l6 ?c6 ?k6 ?a7 ?l7 ?c7 ?k7 ?a8 ?l8 ?c8 ?k8 ?a9 ?l9 ?c9 ?k9 ?a10 ?l10 ?c10 ?k10 ?a11 ?l11 ?c11 ?k11 ?a12 ?l12 ?c12 ?k12 ?a13 ?l13 ?c13 ?k13 ?a14 ?l14 ?c14 ?k14 ?a15 ?l15 ?c15 ?k15 ?a16 ?l16 ?c16 ?k16 ?a17 ?l17 ?c17 ?k17 ?a18 ?l18 ?c18 ?k18 ?a19 ?l19 ?c19 ?k19 ?a20 ?l20 ?c20 ?k20 ?a21 ?l21 ?c21 ?k21 ?a22 ?l22 ?c22 ?k22 ?a23 ?l23 ?c23 ?k23 ?a24 ?l24 ?c24 ?k24 ?z_isinstance ?z_int ?z_len ?z_abs ?z_range ?z_str ?z_tuple ?z_bool ?z_sum ?z_list ?z_ValueError
    (case ac_ForkError => k_is)
    (case ac_KindProblem => k_is)
    (case ac_NoSuchStep => k_is)
    (case ac_NoSuchVariable => k_is)
    (case ac_NoSuchFunction => k_is)
    (case ac_NotAllocated => k_is)
    (case ac_Refused => k_is)
    (case xq_NoSuchStep => k_exc)
    (case xk_NoSuchStep => k_is)
    (case xs_NoSuchStep => k_is)
    (case xt_NoSuchStep => k_is)
    (case xq_NoSuchVariable => k_exc)
    (case xk_NoSuchVariable => k_is)
    (case xs_NoSuchVariable => k_is)
    (case xt_NoSuchVariable => k_is)
    (case xc_NoSuchStep_hg => k_is)
    (case xc_NoSuchStep_hk => k_is)
    (case xc_NoSuchStep_hs => k_is)
    (case xc_NoSuchStep_hd => k_is)
    (case xc_NoSuchStep_ha => k_is)
    (case xc_NoSuchStep_hn => k_is)
    (case xc_NoSuchStep_ht => k_is)
    (case xc_NoSuchStep_hm => k_is)
    (case xc_NoSuchVariable_hg => k_is)
    (case xc_NoSuchVariable_hk => k_is)
    (case xc_NoSuchVariable_hs => k_is)
    (case xc_NoSuchVariable_hd => k_is)
    (case xc_NoSuchVariable_ha => k_is)
    (case xc_NoSuchVariable_hn => k_is)
    (case xc_NoSuchVariable_ht => k_is)
    (case xc_NoSuchVariable_hm => k_is)
    (case k_NoSuchStep_KindProblem => refine' Go.kit_ref ?_ ?_ ?_ ?_ <;> first | k_is | rfl | decide)
    (case k_NoSuchStep_NoSuchFunction => refine' Go.kit_ref ?_ ?_ ?_ ?_ <;> first | k_is | rfl | decide)
    (case k_NoSuchStep_NoSuchVariable => refine' Go.kit_ref ?_ ?_ ?_ ?_ <;> first | k_is | rfl | decide)
    (case k_NoSuchStep_NotAllocated => refine' Go.kit_ref ?_ ?_ ?_ ?_ <;> first | k_is | rfl | decide)
    (case k_NoSuchStep_Refused => refine' Go.kit_ref ?_ ?_ ?_ ?_ <;> first | k_is | rfl | decide)
    (case k_NoSuchStep_ForkError => refine' Go.kit_ref ?_ ?_ ?_ ?_ <;> first | k_is | rfl | decide)
    (case k_NoSuchStep_ValueError => refine' Go.kit_type ?_ ?_ <;> first | k_is | rfl | decide +kernel)
    (case k_NoSuchVariable_KindProblem => refine' Go.kit_ref ?_ ?_ ?_ ?_ <;> first | k_is | rfl | decide)
    (case k_NoSuchVariable_NoSuchFunction => refine' Go.kit_ref ?_ ?_ ?_ ?_ <;> first | k_is | rfl | decide)
    (case k_NoSuchVariable_NoSuchStep => refine' Go.kit_ref ?_ ?_ ?_ ?_ <;> first | k_is | rfl | decide)
    (case k_NoSuchVariable_NotAllocated => refine' Go.kit_ref ?_ ?_ ?_ ?_ <;> first | k_is | rfl | decide)
    (case k_NoSuchVariable_Refused => refine' Go.kit_ref ?_ ?_ ?_ ?_ <;> first | k_is | rfl | decide)
    (case k_NoSuchVariable_ForkError => refine' Go.kit_ref ?_ ?_ ?_ ?_ <;> first | k_is | rfl | decide)
    (case k_NoSuchVariable_ValueError => refine' Go.kit_type ?_ ?_ <;> first | k_is | rfl | decide +kernel)
    (case e_NoSuchStep_NoSuchStep => refine' Go.exm_at ?_ ?_ ?_ ?_ <;> first | k_is | rfl)
    (case e_NoSuchVariable_NoSuchVariable => refine' Go.exm_at ?_ ?_ ?_ ?_ <;> first | k_is | rfl)
    (case e_NoSuchStep_NoSuchVariable => refine' Go.exm_at ?_ ?_ ?_ ?_ <;> first | k_is | rfl)
    (case a0 => k_is)
    (case l0 => k_is)
    (case c0 => k_is)
    (case k0 => k_is)
    (case a1 => k_is)
    (case l1 => k_is)
    (case c1 => k_is)
    (case k1 => k_is)
    (case a2 => k_is)
    (case l2 => k_is)
    (case c2 => k_is)
    (case k2 => k_is)
    (case a3 => k_is)
    (case l3 => k_is)
    (case c3 => k_is)
    (case k3 => k_is)
    (case a4 => k_is)
    (case l4 => k_is)
    (case c4 => k_is)
    (case k4 => k_is)
    (case a5 => k_is)
    (case l5 => k_is)
    (case c5 => k_is)
    (case k5 => k_is)
    (case a6 => k_is)
    (case l6 => k_is)
    (case c6 => k_is)
    (case k6 => k_is)
    (case a7 => k_is)
    (case l7 => k_is)
    (case c7 => k_is)
    (case k7 => k_is)
    (case a8 => k_is)
    (case l8 => k_is)
    (case c8 => k_is)
    (case k8 => k_is)
    (case a9 => k_is)
    (case l9 => k_is)
    (case c9 => k_is)
    (case k9 => k_is)
    (case a10 => k_is)
    (case l10 => k_is)
    (case c10 => k_is)
    (case k10 => k_is)
    (case a11 => k_is)
    (case l11 => k_is)
    (case c11 => k_is)
    (case k11 => k_is)
    (case a12 => k_is)
    (case l12 => k_is)
    (case c12 => k_is)
    (case k12 => k_is)
    (case a13 => k_is)
    (case l13 => k_is)
    (case c13 => k_is)
    (case k13 => k_is)
    (case a14 => k_is)
    (case l14 => k_is)
    (case c14 => k_is)
    (case k14 => k_is)
    (case a15 => k_is)
    (case l15 => k_is)
    (case c15 => k_is)
    (case k15 => k_is)
    (case a16 => k_is)
    (case l16 => k_is)
    (case c16 => k_is)
    (case k16 => k_is)
    (case a17 => k_is)
    (case l17 => k_is)
    (case c17 => k_is)
    (case k17 => k_is)
    (case a18 => k_is)
    (case l18 => k_is)
    (case c18 => k_is)
    (case k18 => k_is)
    (case a19 => k_is)
    (case l19 => k_is)
    (case c19 => k_is)
    (case k19 => k_is)
    (case a20 => k_is)
    (case l20 => k_is)
    (case c20 => k_is)
    (case k20 => k_is)
    (case a21 => k_is)
    (case l21 => k_is)
    (case c21 => k_is)
    (case k21 => k_is)
    (case a22 => k_is)
    (case l22 => k_is)
    (case c22 => k_is)
    (case k22 => k_is)
    (case a23 => k_is)
    (case l23 => k_is)
    (case c23 => k_is)
    (case k23 => k_is)
    (case a24 => k_is)
    (case l24 => k_is)
    (case c24 => k_is)
    (case k24 => k_is)
    (case z_isinstance => k_is)
    (case z_int => k_is)
    (case z_len => k_is)
    (case z_abs => k_is)
    (case z_range => k_is)
    (case z_str => k_is)
    (case z_tuple => k_is)
    (case z_bool => k_is)
    (case z_sum => k_is)
    (case z_list => k_is)
    (case z_ValueError => k_is)
#print axioms PySem.Challenge.cw_forklent_k51_kinds_of_places_holds
