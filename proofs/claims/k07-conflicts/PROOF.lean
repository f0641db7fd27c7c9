import PyProof.Rows.All
import Wide.All
import OpenK.AllK
import Wide.FinOn
import HandS.ForMost
import HandS.TupAny
import HandS.Style
import PySem.Challenge.RW_forklent_k07_conflicts
set_option Elab.async false
set_option linter.all false
set_option maxRecDepth 100000
set_option maxHeartbeats 4000000
/-! Kit: own words over the hand layer: immutable data (D, Rp), heaps that grow (Ext), defs with their contract (Has), one step of a reading (walk_at "s"). -/
namespace Go
open PySem L2

/-! ### immutable data -/
inductive D where
  | non | bl (b : Bool) | int (i : Int) | str (s : Str) | tup (ds : List D)
mutual
inductive Rp (K : PySem.W.Frag) (H : Hp) : V → D → Prop
  | non : Rp K H .non .non
  | bl (b : Bool) : Rp K H (.bl b) (.bl b)
  | int (i : Int) : Rp K H (.int i) (.int i)
  | str (s : Str) : Rp K H (.str s) (.str s)
  | tup {a : Addr} {xs : List V} {ds : List D} : SqT K H a xs → RpAll K H xs ds → Rp K H (.ref a) (.tup ds)
inductive RpAll (K : PySem.W.Frag) (H : Hp) : List V → List D → Prop
  | nil : RpAll K H [] []
  | cons {v : V} {vs : List V} {d : D} {ds : List D} : Rp K H v d → RpAll K H vs ds → RpAll K H (v :: vs) (d :: ds)
end
mutual
def D.py : D → PyData
  | .non => .none
  | .bl b => .bool b
  | .int i => .int i
  | .str s => .str s
  | .tup ds => .tuple (D.pys ds)
def D.pys : List D → List PyData
  | [] => []
  | d :: ds => d.py :: D.pys ds
end
section
variable {K : PySem.W.Frag} {H H' : Hp}
mutual
theorem Rp.dp : ∀ {d : D} {v : V}, Rp K H v d → Dp K H v d.py
  | _, _, .non => .non
  | _, _, .bl b => .bl b
  | _, _, .int i => .int i
  | _, _, .str s => .str s
  | _, _, .tup h a => .tup h (RpAll.dp a)
theorem RpAll.dp : ∀ {ds : List D} {vs : List V}, RpAll K H vs ds → DpAll K H vs (D.pys ds)
  | _, _, .nil => .nil
  | _, _, .cons h t => .cons (Rp.dp h) (RpAll.dp t)
end

/-! ### heaps that grow: all but the lists named in S stands -/
structure Ext (S : List Addr) (H H' : Hp) : Prop where
  keep : ∀ b o, H b = some o → b ∉ S → H' b = some o
  tup : ∀ b xs, H b = some (.tup xs) → H' b = some (.tup xs)
  frz : ∀ b o u, H b = some (.frz o u) → H' b = some (.frz o u)
theorem Ext.refl {S} : Ext S H H := ⟨fun _ _ h _ => h, fun _ _ h => h, fun _ _ _ h => h⟩
theorem Ext.trans {S} {H1 H2 H3 : Hp} (a : Ext S H1 H2) (b : Ext S H2 H3) : Ext S H1 H3 :=
  ⟨fun c o h n => b.keep c o (a.keep c o h n) n, fun c x h => b.tup c x (a.tup c x h), fun c o u h => b.frz c o u (a.frz c o u h)⟩
theorem Ext.wide {S T : List Addr} (a : Ext S H H') (h : ∀ x, x ∈ S → x ∈ T) : Ext T H H' :=
  ⟨fun c o e n => a.keep c o e (fun z => n (h c z)), a.tup, a.frz⟩
theorem Ext.of_same {S} (a : Same H H') : Ext S H H' := ⟨fun c o h _ => a c o h, fun c x h => a c _ h, fun c o u h => a c _ h⟩
theorem Ext.same (a : Ext [] H H') : Same H H' := fun c o h => a.keep c o h (by simp)
theorem Ext.any {S} (a : Ext [] H H') : Ext S H H' := Ext.of_same a.same
theorem Ext.new {S} {p : Addr} {o : HO} (h : H p = none) : Ext S H (upd H p o) :=
  Ext.of_same fun b u e => by rw [upd_ne (ne_of_none e h)]; exact e
theorem Ext.new2 {S} {H0 : Hp} {p : Addr} {o : HO} (a : Ext S H0 H) (h : H p = none) : Ext S H0 (upd H p o) := a.trans (Ext.new h)
/-- a list is changed -/
theorem Ext.put {S} {p : Addr} {xs ys : List V} (h : H p = some (.lst xs)) (hs : p ∈ S) : Ext S H (upd H p (.lst ys)) :=
  ⟨fun b u e n => by rw [upd_ne (fun z => n (by rw [z]; exact hs))]; exact e,
   fun b xs e => by rw [upd_ne (fun z => by rw [z, h] at e; cases e)]; exact e,
   fun b o u e => by rw [upd_ne (fun z => by rw [z, h] at e; cases e)]; exact e⟩
/-- a list that was not there before is changed -/
theorem Ext.putNew {S} {H0 : Hp} {p : Addr} {xs ys : List V} (a : Ext S H0 H) (h0 : H0 p = none) (h : H p = some (.lst xs)) : Ext S H0 (upd H p (.lst ys)) :=
  ⟨fun b u e n => by rw [upd_ne (ne_of_none e h0)]; exact a.keep b u e n,
   fun b xs e => by rw [upd_ne (ne_of_none e h0)]; exact a.tup b xs e,
   fun b o u e => by rw [upd_ne (ne_of_none e h0)]; exact a.frz b o u e⟩
theorem Ext.put2 {S} {H0 : Hp} {p : Addr} {xs ys : List V} (a : Ext S H0 H) (h : H p = some (.lst xs)) (hs : p ∈ S) : Ext S H0 (upd H p (.lst ys)) := a.trans (Ext.put h hs)
theorem Ext.sqt {S} {a : Addr} {xs : List V} (e : Ext S H H') (h : SqT K H a xs) : SqT K H' a xs := by
  rcases h with (h | ⟨o, h⟩) | h
  · exact .inl (.inl (e.tup _ _ h))
  · exact .inl (.inr ⟨o, e.frz _ _ _ h⟩)
  · exact .inr h
theorem Ext.free {S} {p : Addr} (e : Ext S H H') (h : H' p = none) (hs : p ∉ S) : H p = none := by
  cases q : H p with
  | none => rfl
  | some o => rw [e.keep p o q hs] at h; cases h
mutual
theorem Rp.mono {S} (e : Ext S H H') : ∀ {d : D} {v : V}, Rp K H v d → Rp K H' v d
  | _, _, .non => .non
  | _, _, .bl b => .bl b
  | _, _, .int i => .int i
  | _, _, .str s => .str s
  | _, _, .tup h a => .tup (e.sqt h) (RpAll.mono e a)
theorem RpAll.mono {S} (e : Ext S H H') : ∀ {ds : List D} {vs : List V}, RpAll K H vs ds → RpAll K H' vs ds
  | _, _, .nil => .nil
  | _, _, .cons h t => .cons (Rp.mono e h) (RpAll.mono e t)
end
theorem Rp.new {p : Addr} {xs : List V} {ds : List D} (h : RpAll K H xs ds) (hp : H p = none) : Rp K (upd H p (.tup xs)) (.ref p) (.tup ds) :=
  .tup (SqT.of upd_same) (RpAll.mono (Ext.new (S := []) hp) h)
theorem RpAll.length : ∀ {ds : List D} {vs : List V}, RpAll K H vs ds → vs.length = ds.length
  | _, _, .nil => rfl
  | _, _, .cons _ t => congrArg (· + 1) (RpAll.length t)
theorem RpAll.get : ∀ {ds : List D} {vs : List V} {i : Nat} {v : V}, RpAll K H vs ds → vs[i]? = some v → ∃ d, ds[i]? = some d ∧ Rp K H v d
  | _, _, _, _, .nil, e => by simp at e
  | _, _, 0, _, .cons h _, e => by simp at e; subst e; exact ⟨_, rfl, h⟩
  | _, _, i + 1, v, .cons _ t, e => by
    obtain ⟨d, h1, h2⟩ := RpAll.get (i := i) (v := v) t (by simpa using e)
    exact ⟨d, by simpa using h1, h2⟩
theorem RpAll.getD : ∀ {ds : List D} {vs : List V} {i : Nat} {d : D}, RpAll K H vs ds → ds[i]? = some d → ∃ v, vs[i]? = some v ∧ Rp K H v d
  | _, _, _, _, .nil, e => by simp at e
  | _, _, 0, _, .cons h _, e => by simp at e; subst e; exact ⟨_, rfl, h⟩
  | _, _, i + 1, d, .cons _ t, e => by
    obtain ⟨v, h1, h2⟩ := RpAll.getD (i := i) (d := d) t (by simpa using e)
    exact ⟨v, by simpa using h1, h2⟩
theorem RpAll.append : ∀ {ds es : List D} {vs us : List V}, RpAll K H vs ds → RpAll K H us es → RpAll K H (vs ++ us) (ds ++ es)
  | _, _, _, _, .nil, s => s
  | _, _, _, _, .cons h t, s => .cons h (RpAll.append t s)
theorem RpAll.take : ∀ {ds : List D} {vs : List V} (n : Nat), RpAll K H vs ds → RpAll K H (vs.take n) (ds.take n)
  | _, _, 0, _ => .nil
  | _, _, _ + 1, .nil => .nil
  | _, _, n + 1, .cons h t => .cons h (RpAll.take n t)
theorem RpAll.drop : ∀ {ds : List D} {vs : List V} (n : Nat), RpAll K H vs ds → RpAll K H (vs.drop n) (ds.drop n)
  | _, _, 0, h => h
  | _, _, _ + 1, .nil => .nil
  | _, _, n + 1, .cons _ t => RpAll.drop n t
theorem Rp.tupI {v : V} {ds : List D} (h : Rp K H v (.tup ds)) : ∃ a xs, v = .ref a ∧ SqT K H a xs ∧ RpAll K H xs ds := by
  cases h with
  | tup h a => exact ⟨_, _, rfl, h, a⟩
theorem Rp.intI {v : V} {i : Int} (h : Rp K H v (.int i)) : v = .int i := by cases h; rfl
theorem Rp.strI {v : V} {i : Str} (h : Rp K H v (.str i)) : v = .str i := by cases h; rfl
theorem Rp.blI {v : V} {i : Bool} (h : Rp K H v (.bl i)) : v = .bl i := by cases h; rfl
theorem Rp.nonI {v : V} (h : Rp K H v .non) : v = .non := by cases h; rfl
end

/-! ### equality of data: ints, texts, tuples of them -/
mutual
def D.eqv : D → D → Bool
  | .non, .non => true
  | .bl a, .bl b => a == b
  | .bl a, .int j => (if a then 1 else 0) == j
  | .int i, .bl b => i == (if b then 1 else 0)
  | .int i, .int j => i == j
  | .str x, .str y => x == y
  | .tup xs, .tup ys => D.eqvs xs ys
  | .non, .bl _ | .non, .int _ | .non, .str _ | .non, .tup _ => false
  | .bl _, .non | .bl _, .str _ | .bl _, .tup _ => false
  | .int _, .non | .int _, .str _ | .int _, .tup _ => false
  | .str _, .non | .str _, .bl _ | .str _, .int _ | .str _, .tup _ => false
  | .tup _, .non | .tup _, .bl _ | .tup _, .int _ | .tup _, .str _ => false
def D.eqvs : List D → List D → Bool
  | [], [] => true
  | x :: xs, y :: ys => D.eqv x y && D.eqvs xs ys
  | [], _ :: _ => false
  | _ :: _, [] => false
end
mutual
theorem D.eqv_py : ∀ d e : D, PyData.eqv d.py e.py = D.eqv d e
  | .non, e => by cases e <;> rfl
  | .bl _, e => by cases e <;> rfl
  | .int _, e => by cases e <;> rfl
  | .str _, e => by cases e <;> rfl
  | .tup xs, .tup ys => by
    have h := D.eqvs_py xs ys
    simpa [D.py, PyData.eqv, D.eqv] using h
  | .tup _, .non => rfl
  | .tup _, .bl _ => rfl
  | .tup _, .int _ => rfl
  | .tup _, .str _ => rfl
theorem D.eqvs_py : ∀ ds es : List D, PyData.eqvAll (D.pys ds) (D.pys es) = D.eqvs ds es
  | [], [] => rfl
  | [], _ :: _ => rfl
  | _ :: _, [] => rfl
  | d :: ds, e :: es => by
    have h1 := D.eqv_py d e
    have h2 := D.eqvs_py ds es
    simp only [D.pys, PyData.eqvAll, D.eqvs, h1, h2]
end
mutual
/-- no bool within -/
def D.nb : D → Bool
  | .bl _ => false
  | .tup ds => D.nbs ds
  | _ => true
def D.nbs : List D → Bool
  | [] => true
  | d :: ds => d.nb && D.nbs ds
end
mutual
theorem D.eqv_iff : ∀ d e : D, d.nb = true → e.nb = true → (D.eqv d e = true ↔ d = e)
  | .non, e, _, h => by cases e <;> simp [D.eqv]
  | .bl _, e, h, _ => by simp [D.nb] at h
  | .int _, e, _, h => by cases e <;> simp [D.eqv, D.nb] at h ⊢
  | .str _, e, _, h => by cases e <;> simp [D.eqv]
  | .tup xs, .tup ys, h1, h2 => by
    simp only [D.nb] at h1 h2
    have h := D.eqvs_iff xs ys h1 h2
    simp [D.eqv, h]
  | .tup _, .non, _, _ => by simp [D.eqv]
  | .tup _, .bl _, _, h => by simp [D.nb] at h
  | .tup _, .int _, _, _ => by simp [D.eqv]
  | .tup _, .str _, _, _ => by simp [D.eqv]
theorem D.eqvs_iff : ∀ ds es : List D, D.nbs ds = true → D.nbs es = true → (D.eqvs ds es = true ↔ ds = es)
  | [], [], _, _ => by simp [D.eqvs]
  | [], _ :: _, _, _ => by simp [D.eqvs]
  | _ :: _, [], _, _ => by simp [D.eqvs]
  | d :: ds, e :: es, h1, h2 => by
    simp only [D.nbs, Bool.and_eq_true] at h1 h2
    have a := D.eqv_iff d e h1.1 h2.1
    have b := D.eqvs_iff ds es h1.2 h2.2
    simp [D.eqvs, a, b]
end
mutual
theorem D.eqv_symm : ∀ d e : D, D.eqv d e = D.eqv e d
  | .non, e => by cases e <;> rfl
  | .bl a, e => by cases e <;> first | rfl | exact BEq.comm
  | .int a, e => by cases e <;> first | rfl | exact BEq.comm
  | .str a, e => by cases e <;> first | rfl | exact BEq.comm
  | .tup xs, .tup ys => by
    have h := D.eqvs_symm xs ys
    simp [D.eqv, h]
  | .tup _, .non => rfl
  | .tup _, .bl _ => rfl
  | .tup _, .int _ => rfl
  | .tup _, .str _ => rfl
theorem D.eqvs_symm : ∀ ds es : List D, D.eqvs ds es = D.eqvs es ds
  | [], [] => rfl
  | [], _ :: _ => rfl
  | _ :: _, [] => rfl
  | d :: ds, e :: es => by
    have h1 := D.eqv_symm d e
    have h2 := D.eqvs_symm ds es
    simp only [D.eqvs, h1, h2]
end
mutual
def D.dep : D → Nat
  | .tup ds => D.deps ds + 1
  | _ => 0
def D.deps : List D → Nat
  | [] => 0
  | d :: ds => max d.dep (D.deps ds)
end
mutual
theorem D.depth_py : ∀ d : D, d.py.depth = d.dep
  | .non => by simp [D.py, D.dep, PyData.depth]
  | .bl _ => by simp [D.py, D.dep, PyData.depth]
  | .int _ => by simp [D.py, D.dep, PyData.depth]
  | .str _ => by simp [D.py, D.dep, PyData.depth]
  | .tup ds => by
    have h := D.depths_py ds
    simp [D.py, D.dep, PyData.depth, h]
theorem D.depths_py : ∀ ds : List D, PyData.depthAll (D.pys ds) = D.deps ds
  | [] => by simp [D.pys, D.deps, PyData.depthAll]
  | d :: ds => by
    have h1 := D.depth_py d
    have h2 := D.depths_py ds
    simp [D.pys, D.deps, PyData.depthAll, h1, h2]
end
mutual
/-- its texts can be laid -/
def D.sok : D → Bool
  | .str s => PyData.strOk s
  | .tup ds => D.soks ds
  | _ => true
def D.soks : List D → Bool
  | [] => true
  | d :: ds => d.sok && D.soks ds
end
mutual
theorem D.lay_py : ∀ d : D, PyData.canLay0 d.py = d.sok
  | .non => by simp [D.py, PyData.canLay0, D.sok]
  | .bl _ => by simp [D.py, PyData.canLay0, D.sok]
  | .int _ => by simp [D.py, PyData.canLay0, D.sok]
  | .str _ => by simp [D.py, PyData.canLay0, D.sok]
  | .tup ds => by
    have h := D.lays_py ds
    simp [D.py, PyData.canLay0, D.sok, h]
theorem D.lays_py : ∀ ds : List D, PyData.canLayAll0 (D.pys ds) = D.soks ds
  | [] => by simp [D.pys, PyData.canLayAll0, D.soks]
  | d :: ds => by
    have h1 := D.lay_py d
    have h2 := D.lays_py ds
    simp [D.pys, PyData.canLayAll0, D.soks, h1, h2]
end
/-- data that == is asked of: no bool, texts that can be laid, not too deep -/
structure D.Eq (d : D) : Prop where
  nb : d.nb = true
  sok : d.sok = true
  dep : d.dep ≤ 64
theorem D.shaped {d : D} (h1 : d.sok = true) (h : d.dep ≤ 64) : SeqAt.shaped d.py = true := by
  unfold SeqAt.shaped
  rw [D.lay_py, D.depth_py, h1]
  simpa using h

theorem D.soks_take : ∀ {ds : List D} (n : Nat), D.soks ds = true → D.soks (ds.take n) = true
  | _, 0, _ => rfl
  | [], _ + 1, _ => rfl
  | d :: ds, n + 1, h => by
    simp only [D.soks, Bool.and_eq_true, List.take_succ_cons] at h ⊢
    exact ⟨h.1, D.soks_take n h.2⟩
theorem D.deps_take : ∀ (ds : List D) (n : Nat), D.deps (ds.take n) ≤ D.deps ds
  | _, 0 => by simp [D.deps]
  | [], _ + 1 => by simp [D.deps]
  | d :: ds, n + 1 => by
    have h := D.deps_take ds n
    simp only [D.deps, List.take_succ_cons]
    omega
theorem D.soks_append : ∀ {ds es : List D}, D.soks ds = true → D.soks es = true → D.soks (ds ++ es) = true
  | [], _, _, h => h
  | d :: ds, es, h, h' => by
    simp only [D.soks, Bool.and_eq_true, List.cons_append] at h ⊢
    exact ⟨h.1, D.soks_append h.2 h'⟩
theorem D.deps_append : ∀ (ds es : List D), D.deps (ds ++ es) = max (D.deps ds) (D.deps es)
  | [], es => by simp [D.deps]
  | d :: ds, es => by
    have h := D.deps_append ds es
    simp only [D.deps, List.cons_append, h]
    omega

/-! ### tuples and frozen things alone stand -/
structure Tst (H H' : Hp) : Prop where
  tup : ∀ b xs, H b = some (.tup xs) → H' b = some (.tup xs)
  frz : ∀ b o u, H b = some (.frz o u) → H' b = some (.frz o u)
section
variable {K : PySem.W.Frag} {H H' H1 H2 H3 : Hp} {S : List Addr}
theorem Tst.refl : Tst H H := ⟨fun _ _ h => h, fun _ _ _ h => h⟩
theorem Tst.trans (a : Tst H1 H2) (b : Tst H2 H3) : Tst H1 H3 := ⟨fun c x h => b.tup c x (a.tup c x h), fun c o u h => b.frz c o u (a.frz c o u h)⟩
theorem Ext.ts (e : Ext S H H') : Tst H H' := ⟨e.tup, e.frz⟩
theorem Tst.ext (e : Tst H H') : Ext [] H' H' := Ext.refl
theorem Tst.sqt {a : Addr} {xs : List V} (e : Tst H H') (h : SqT K H a xs) : SqT K H' a xs := by
  rcases h with (h | ⟨o, h⟩) | h
  · exact .inl (.inl (e.tup _ _ h))
  · exact .inl (.inr ⟨o, e.frz _ _ _ h⟩)
  · exact .inr h
mutual
theorem Rp.ts (e : Tst H H') : ∀ {d : D} {v : V}, Rp K H v d → Rp K H' v d
  | _, _, .non => .non
  | _, _, .bl b => .bl b
  | _, _, .int i => .int i
  | _, _, .str s => .str s
  | _, _, .tup h a => .tup (e.sqt h) (RpAll.ts e a)
theorem RpAll.ts (e : Tst H H') : ∀ {ds : List D} {vs : List V}, RpAll K H vs ds → RpAll K H' vs ds
  | _, _, .nil => .nil
  | _, _, .cons h t => .cons (Rp.ts e h) (RpAll.ts e t)
end
theorem Ext.out {H0 : Hp} {l : Addr} (a : Ext S H0 H) (h0 : H0 l = none) (e : Ext [l] H H') : Ext S H0 H' :=
  ⟨fun b u q n => e.keep b u (a.keep b u q n) (by simp; exact ne_of_none q h0), fun b xs q => e.tup b xs (a.tup b xs q), fun b o u q => e.frz b o u (a.frz b o u q)⟩
theorem Ext.in1 {H0 : Hp} {l : Addr} (a : Ext S H0 H) (h0 : l ∈ S) (e : Ext [l] H H') : Ext S H0 H' := a.trans (e.wide (by simpa using h0))
theorem Ext.more {H0 : Hp} (a : Ext S H0 H) (e : Ext [] H H') : Ext S H0 H' := a.trans e.any
end

/-! ### one step of a reading, by the head of what stands there -/
section
variable {σ : St} {H : Hp} {Q : VK} {D0 : Ends} {ta tb te : TE} {t1 t2 ts : TS} {i : Nat} {v x y : V} {K : PySem.W.Frag}
theorem w_seq (h : t1 { D0 with nx := t2 D0 } σ H) : tSeq t1 t2 D0 σ H := h
/-- one statement behind another, with a word M between the two where one wants one -/
def tSeqJ (t u : TS) : TS := fun D σ H => ∃ M : St → Hp → Prop, t { D with nx := M } σ H ∧ ∀ σ' H', M σ' H' → u D σ' H'
theorem w_seqJ (h : t1 { D0 with nx := t2 D0 } σ H) : tSeqJ t1 t2 D0 σ H := ⟨_, h, fun _ _ q => q⟩
theorem w_seqA {g : TG} (h : tAsg te g { D0 with nx := t2 D0 } σ H) : tSeqJ (tAsg te g) t2 D0 σ H := w_seqJ h
theorem w_seqD (h : tDrop te { D0 with nx := t2 D0 } σ H) : tSeqJ (tDrop te) t2 D0 σ H := w_seqJ h
theorem w_next (h : D0.nx σ H) : tNext D0 σ H := h
theorem w_break (h : D0.bk σ H) : tBreak D0 σ H := h
theorem w_cont (h : D0.ct σ H) : tCont D0 σ H := h
theorem w_asg {g : TG} (h : te σ H fun x H1 => g x σ H1 D0.nx) : tAsg te g D0 σ H := h
theorem w_name {Q : St → Hp → Prop} (h : Q (σ.set i (some v)) H) : gName i v σ H Q := h
theorem w_drop (h : te σ H fun _ H1 => D0.nx σ H1) : tDrop te D0 σ H := h
theorem w_ret (h : te σ H D0.rt) : tRet te D0 σ H := h
theorem w_retN (h : D0.rt .non H) : tRetN D0 σ H := h
theorem w_ifS {c : TT} (h : c σ H fun b H1 => if b = true then t1 D0 σ H1 else t2 D0 σ H1) : tIfS c t1 t2 D0 σ H := h
theorem w_test {Q : Bool → Hp → Prop} (h : te σ H fun x H' => ∃ k, x = .bl k ∧ Q k H') : tTest te σ H Q := h
theorem w_tB {Q : Bool → Hp → Prop} (h : te σ H fun x H' => ∃ k, x = .bl k ∧ Q k H') : tB te σ H Q := h
theorem w_exbl {A : Bool → Prop} {b : Bool} (h : A b) : ∃ k, V.bl b = .bl k ∧ A k := ⟨b, rfl, h⟩
theorem w_and {c d : TT} {Q : Bool → Hp → Prop} (h : c σ H fun k H1 => if k = true then d σ H1 Q else Q false H1) : tAnd c d σ H Q := h
theorem w_or {c d : TT} {Q : Bool → Hp → Prop} (h : c σ H fun k H1 => if k = true then Q true H1 else d σ H1 Q) : tOr c d σ H Q := h
theorem w_not {c : TT} {Q : Bool → Hp → Prop} (h : c σ H fun k H1 => Q (!k) H1) : tNot c σ H Q := h
theorem w_andV (h : ta σ H fun x H1 => ∃ c, x = .bl c ∧ if c = true then tb σ H1 Q else Q (.bl false) H1) : tAndV ta tb σ H Q := h
theorem w_orV (h : ta σ H fun x H1 => ∃ c, x = .bl c ∧ if c = true then Q (.bl true) H1 else tb σ H1 Q) : tOrV ta tb σ H Q := h
theorem w_notV (h : ta σ H fun x H1 => ∃ c, x = .bl c ∧ Q (.bl (!c)) H1) : tNotV ta σ H Q := h
theorem w_if {c : TT} (h : c σ H fun k H1 => if k = true then ta σ H1 Q else tb σ H1 Q) : tIf c ta tb σ H Q := h
theorem w_var (e : σ[i]? = some (some v)) (h : Q v H) : tVar i σ H Q := ⟨v, e, h⟩
theorem w_c (h : Q v H) : tC v σ H Q := h
theorem w_op {r : R2} (h : ta σ H fun x H1 => tb σ H1 fun y H2 => r x y H2 Q) : tOp r ta tb σ H Q := h
theorem w_un {r : V → Hp → VK → Prop} (h : ta σ H fun x H1 => r x H1 Q) : tUn r ta σ H Q := h
theorem w_cb {r : List V → Hp → VK → Prop} {t : TA} (h : t σ H fun vs H1 => r vs H1 Q) : tCB r t σ H Q := h
theorem w_cons {t : TA} {Q : List V → Hp → Prop} (h : ta σ H fun x H1 => t σ H1 fun xs H2 => Q (x :: xs) H2) : tCons ta t σ H Q := h
theorem w_nil {Q : List V → Hp → Prop} (h : Q [] H) : tNil σ H Q := h
theorem w_call {sp : Sp} {E : XK} {t : TA} (h : t σ H fun vs H1 => sp vs H1 Q E) : tCall sp [] E t σ H Q := by
  show t σ H fun vs H1 => sp (vs ++ []) H1 Q E
  have e : (fun (vs : List V) (H1 : Hp) => sp (vs ++ []) H1 Q E) = fun vs H1 => sp vs H1 Q E := by
    funext vs H1
    rw [List.append_nil]
  rw [e]
  exact h
def NewT (_ : PySem.W.Frag) (xs : List V) (H : Hp) (Q : VK) : Prop := xs.length ≤ sizeLine ∧ ∀ p, H p = none → Q (.ref p) (upd H p (.tup xs))
def NewL (xs : List V) (H : Hp) (Q : VK) : Prop := xs.length ≤ sizeLine ∧ ∀ p, H p = none → Q (.ref p) (upd H p (.lst xs))
def tTupK (_ : PySem.W.Frag) (t : TA) : TE := tTup t
theorem w_tup {t : TA} (h : t σ H fun xs H1 => NewT K xs H1 Q) : tTupK K t σ H Q := h
theorem w_lst {t : TA} (h : t σ H fun xs H1 => NewL xs H1 Q) : tLst t σ H Q := h
theorem w_newT {xs : List V} {ds : List D} (h : RpAll K H xs ds) (hl : ds.length ≤ sizeLine) (q : ∀ v H', Ext [] H H' → Rp K H' v (.tup ds) → Q v H') : NewT K xs H Q :=
  ⟨by rw [h.length]; exact hl, fun p hp => q _ _ (Ext.new hp) (Rp.new h hp)⟩
theorem w_newL {xs : List V} (hl : xs.length ≤ sizeLine) (q : ∀ p H', H p = none → Ext [] H H' → H' p = some (.lst xs) → Q (.ref p) H') : NewL xs H Q :=
  ⟨hl, fun p hp => q p _ hp (Ext.new hp) upd_same⟩
theorem w_sub {to ti : TE} {t : TSet} {Q : St → Hp → Prop} (h : to σ H fun o H1 => ti σ H1 fun i H2 => t o i v H2 fun H3 => Q σ H3) : gSub to ti t v σ H Q := h
theorem w_bm {T : String} {r : V → List V → Hp → VK → Prop} {t : TA} (h : ta σ H fun x H1 => tyV K T x H1 ∧ t σ H1 fun xs H2 => r x xs H2 Q) : tBM K T r ta t σ H Q := h
theorem w_sl {r : V → Option Int → Option Int → Hp → VK → Prop} {tl th : TO} (h : te σ H fun x H1 => tl σ H1 fun l H2 => th σ H2 fun u H3 => r x l u H3 Q) : tSl r te tl th σ H Q := h
theorem w_noPart {Q : Option Int → Hp → Prop} (h : Q none H) : tNoPart σ H Q := h
theorem w_part {Q : Option Int → Hp → Prop} (h : te σ H fun x H1 => ∃ i, x = .int i ∧ Q (some i) H1) : tPart te σ H Q := h
theorem w_exint {A : Int → Prop} {j : Int} (h : A j) : ∃ i, V.int j = .int i ∧ A i := ⟨j, rfl, h⟩

/-! ### branches -/
theorem w_iteT {c : Bool} {A B : Prop} (e : c = true) (h : A) : if c = true then A else B := by rw [if_pos e]; exact h
theorem w_iteF {c : Bool} {A B : Prop} (e : c = false) (h : B) : if c = true then A else B := by rw [if_neg (by rw [e]; exact Bool.false_ne_true)]; exact h
theorem w_ite {c : Bool} {A B : Prop} (h1 : c = true → A) (h2 : c = false → B) : if c = true then A else B := by
  cases c with
  | true => exact h1 rfl
  | false => exact h2 rfl
theorem w_iteD {P : Prop} [Decidable P] {A B : Prop} (h1 : P → A) (h2 : ¬ P → B) : if decide P = true then A else B := by
  by_cases h : P
  · rw [if_pos (decide_eq_true h)]; exact h1 h
  · rw [if_neg (by simpa using h)]; exact h2 h
theorem w_iteND {P : Prop} [Decidable P] {A B : Prop} (h1 : ¬ P → A) (h2 : P → B) : if (!decide P) = true then A else B := by
  by_cases h : P
  · rw [if_neg (by simpa using h)]; exact h2 h
  · rw [if_pos (by simpa using h)]; exact h1 h

/-! ### values: ints -/
theorem r_i0 {g : Int → Int → V} {i j : Int} (h : Q (g i j) H) : rI0 g (.int i) (.int j) H Q := ⟨i, j, rfl, rfl, h⟩
theorem r_iC {C : Int → Int → Prop} {g : Int → Int → V} {i j : Int} (c : C i j) (h : Q (g i j) H) : rI C g (.int i) (.int j) H Q := ⟨i, j, rfl, rfl, c, h⟩
theorem r_u {g : Int → V} {i : Int} (h : Q (g i) H) : rU g (.int i) H Q := ⟨i, rfl, h⟩
def rAddI : R2 := rI0 fun i j => .int (i + j)
def rSubI : R2 := rI0 fun i j => .int (i - j)
def rMulI : R2 := rI CMul fun i j => .int (i * j)
def rDivI : R2 := rI CDiv fun i j => .int (i / j)
def rModI : R2 := rI (fun _ j => 0 < j) fun i j => .int (i % j)
def rLtI : R2 := rI0 fun i j => .bl (decide (i < j))
def rLeI : R2 := rI0 fun i j => .bl (decide (i ≤ j))
def rGtI : R2 := rI0 fun i j => .bl (decide (j < i))
def rGeI : R2 := rI0 fun i j => .bl (decide (j ≤ i))
theorem r_sub {i j : Int} (h : Q (.int (i - j)) H) : rSubI (.int i) (.int j) H Q := r_i0 h
theorem r_mul {i j : Int} (c : CMul i j) (h : Q (.int (i * j)) H) : rMulI (.int i) (.int j) H Q := r_iC c h
theorem r_div {i j : Int} (c : CDiv i j) (h : Q (.int (i / j)) H) : rDivI (.int i) (.int j) H Q := r_iC c h
theorem r_mod {i j : Int} (c : 0 < j) (h : Q (.int (i % j)) H) : rModI (.int i) (.int j) H Q := r_iC c h
theorem r_lt {i j : Int} (h : Q (.bl (decide (i < j))) H) : rLtI (.int i) (.int j) H Q := r_i0 h
theorem r_le {i j : Int} (h : Q (.bl (decide (i ≤ j))) H) : rLeI (.int i) (.int j) H Q := r_i0 h
theorem r_gt {i j : Int} (h : Q (.bl (decide (j < i))) H) : rGtI (.int i) (.int j) H Q := r_i0 h
theorem r_ge {i j : Int} (h : Q (.bl (decide (j ≤ i))) H) : rGeI (.int i) (.int j) H Q := r_i0 h
theorem cmul_r {i j : Int} (h1 : -18446744073709551616 < j) (h2 : j < 18446744073709551616) : CMul i j := .inr ⟨by omega, by omega⟩
theorem cmul_l {i j : Int} (h1 : -18446744073709551616 < i) (h2 : i < 18446744073709551616) : CMul i j := .inl ⟨by omega, by omega⟩

/-! ### + of ints, texts, tuples, lists -/
def rAddS : R2 := fun x y H Q => ∃ i j, x = .str i ∧ y = .str j ∧ i.length + j.length ≤ sizeLine ∧ Q (.str (i ++ j)) H
def rAddG (K : PySem.W.Frag) : R2 := fun x y H Q => rAddI x y H Q ∨ rAddS x y H Q ∨ rCatA K x y H Q ∨ rCat x y H Q
theorem a_int {i j : Int} (h : Q (.int (i + j)) H) : rAddG K (.int i) (.int j) H Q := .inl (r_i0 h)
theorem a_str {i j : Str} (hl : i.length + j.length ≤ sizeLine) (h : Q (.str (i ++ j)) H) : rAddG K (.str i) (.str j) H Q := .inr (.inl ⟨i, j, rfl, rfl, hl, h⟩)
theorem a_tup {ds es : List D} (hx : Rp K H x (.tup ds)) (hy : Rp K H y (.tup es)) (hl : ds.length + es.length ≤ sizeLine) (h : ∀ v H', Ext [] H H' → Rp K H' v (.tup (ds ++ es)) → Q v H') : rAddG K x y H Q := by
  obtain ⟨a, xs, rfl, h1, h2⟩ := hx.tupI
  obtain ⟨b, ys, rfl, h3, h4⟩ := hy.tupI
  refine .inr (.inr (.inl ⟨a, b, xs, ys, rfl, rfl, h1, h3, by rw [h2.length, h4.length]; exact hl, fun e => ?_, fun _ e => ?_, fun _ _ p hp => ?_⟩))
  · subst e
    cases h2
    exact h _ _ Ext.refl (.tup h3 h4)
  · subst e
    cases h4
    refine h _ _ Ext.refl ?_
    rw [List.append_nil]
    exact .tup h1 h2
  · exact h _ _ (Ext.new hp) (Rp.new (h2.append h4) hp)
theorem a_lst {l b : Addr} {xs zs : List V} (h1 : H l = some (.lst xs)) (h2 : H b = some (.lst zs)) (hl : xs.length + zs.length ≤ sizeLine) (h : ∀ p H', H p = none → Ext [] H H' → H' p = some (.lst (xs ++ zs)) → Q (.ref p) H') : rAddG K (.ref l) (.ref b) H Q :=
  .inr (.inr (.inr ⟨l, b, xs, zs, rfl, rfl, h1, h2, hl, fun p hp => h p _ hp (Ext.new hp) upd_same⟩))

/-! ### == -/
def rEqG (K : PySem.W.Frag) : R2 := fun x y H Q => rEq x y H Q ∨ rEqD K x y H Q
def rNeG (K : PySem.W.Frag) : R2 := fun x y H Q => rNe x y H Q ∨ rNeD K x y H Q
theorem e_scal (s : scal x y = true) (h : Q (.bl (decide (x = y))) H) : rEqG K x y H Q := .inl ⟨s, h⟩
theorem n_scal (s : scal x y = true) (h : Q (.bl (!decide (x = y))) H) : rNeG K x y H Q := .inl ⟨s, h⟩
theorem dec_vs {i j : Str} : decide (V.str i = V.str j) = decide (i = j) := by
  rw [Bool.eq_iff_iff]
  simp
theorem dec_vi {i j : Int} : decide (V.int i = V.int j) = decide (i = j) := by
  rw [Bool.eq_iff_iff]
  simp
theorem e_str {i j : Str} (h : Q (.bl (decide (i = j))) H) : rEqG K (.str i) (.str j) H Q := .inl ⟨rfl, by rw [dec_vs]; exact h⟩
theorem e_int {i j : Int} (h : Q (.bl (decide (i = j))) H) : rEqG K (.int i) (.int j) H Q := .inl ⟨rfl, by rw [dec_vi]; exact h⟩
theorem e_is {i : Int} {j : Str} (h : Q (.bl false) H) : rEqG K (.int i) (.str j) H Q := .inl ⟨rfl, by simpa using h⟩
theorem e_si {i : Int} {j : Str} (h : Q (.bl false) H) : rEqG K (.str j) (.int i) H Q := .inl ⟨rfl, by simpa using h⟩
theorem n_str {i j : Str} (h : Q (.bl (!decide (i = j))) H) : rNeG K (.str i) (.str j) H Q := .inl ⟨rfl, by rw [dec_vs]; exact h⟩
theorem n_int {i j : Int} (h : Q (.bl (!decide (i = j))) H) : rNeG K (.int i) (.int j) H Q := .inl ⟨rfl, by rw [dec_vi]; exact h⟩
theorem e_D {d e : D} (hx : Rp K H x d) (hy : Rp K H y e) (h1 : d.sok = true) (h2 : d.dep ≤ 64) (h3 : e.sok = true) (h4 : e.dep ≤ 64) (h : Q (.bl (D.eqv d e)) H) : rEqG K x y H Q :=
  .inr ⟨_, _, hx.dp, hy.dp, D.shaped h1 h2, D.shaped h3 h4, by rw [D.eqv_py]; exact h⟩
theorem n_D {d e : D} (hx : Rp K H x d) (hy : Rp K H y e) (h1 : d.sok = true) (h2 : d.dep ≤ 64) (h3 : e.sok = true) (h4 : e.dep ≤ 64) (h : Q (.bl (!D.eqv d e)) H) : rNeG K x y H Q :=
  .inr ⟨_, _, hx.dp, hy.dp, D.shaped h1 h2, D.shaped h3 h4, by rw [D.eqv_py]; exact h⟩

/-! ### subscripts, slices, len -/
theorem x_D {ds : List D} {i : Int} {d : D} (hx : Rp K H x (.tup ds)) (e : atI ds i = some d) (h : ∀ v, Rp K H v d → Q v H) : rIx K x (.int i) H Q := by
  obtain ⟨a, xs, rfl, h1, h2⟩ := hx.tupI
  unfold atI at e
  obtain ⟨j, hj, hd⟩ := Option.bind_eq_some_iff.mp e
  obtain ⟨v, hv, hr⟩ := h2.getD hd
  refine .inr (.inl ⟨a, xs, i, v, rfl, rfl, h1, ?_, h v hr⟩)
  unfold atI
  rw [h2.length, hj]
  exact hv
theorem x_Ds {ds : List D} {i : Int} {d : Str} (hx : Rp K H x (.tup ds)) (e : atI ds i = some (.str d)) (h : Q (.str d) H) : rIx K x (.int i) H Q := x_D hx e fun v r => by cases r; exact h
theorem x_Di {ds : List D} {i : Int} {d : Int} (hx : Rp K H x (.tup ds)) (e : atI ds i = some (.int d)) (h : Q (.int d) H) : rIx K x (.int i) H Q := x_D hx e fun v r => by cases r; exact h
theorem x_L {p : Addr} {xs : List V} {i : Int} (hx : SqL K H p xs) (e : atI xs i = some v) (h : Q v H) : rIx K (.ref p) (.int i) H Q := .inl ⟨p, xs, i, v, rfl, rfl, hx, e, h⟩
theorem x_l {p : Addr} {xs : List V} {i : Int} (hx : H p = some (.lst xs)) (e : atI xs i = some v) (h : Q v H) : rIx K (.ref p) (.int i) H Q := x_L (SqL.of hx) e h
def rSlG (K : PySem.W.Frag) : V → Option Int → Option Int → Hp → VK → Prop := fun x lo hi H Q => rSlL K x lo hi H Q ∨ rSlA K x lo hi H Q ∨ rSlS x lo hi H Q
def cutD {α : Type} (xs : List α) (lo hi : Option Int) : List α := (xs.drop (HT.sIx xs.length 0 lo)).take (HT.sIx xs.length xs.length hi - HT.sIx xs.length 0 lo)
theorem cutD_all {α : Type} {xs : List α} {lo hi : Option Int} (h : HT.sIx xs.length 0 lo = 0 ∧ HT.sIx xs.length xs.length hi = xs.length) : cutD xs lo hi = xs := by
  unfold cutD
  rw [h.1, h.2]
  simp
theorem cut_to {α : Type} (xs : List α) {n : Int} (h : 0 ≤ n) : cutD xs none (some n) = xs.take n.toNat := by
  obtain ⟨k, rfl⟩ : ∃ k : Nat, n = (k : Int) := ⟨n.toNat, by omega⟩
  unfold cutD
  rw [HT.sIx_none, HT.sIx_nat]
  simp [← List.take_eq_take_min]
theorem cut_from {α : Type} (xs : List α) {n : Int} (h : 0 ≤ n) : cutD xs (some n) none = xs.drop n.toNat := by
  obtain ⟨k, rfl⟩ : ∃ k : Nat, n = (k : Int) := ⟨n.toNat, by omega⟩
  unfold cutD
  rw [HT.sIx_none, HT.sIx_nat]
  by_cases hk : k ≤ xs.length
  · rw [Nat.min_eq_left hk]
    simp
    rw [List.take_of_length_le (by simp)]
  · rw [Nat.min_eq_right (by omega)]
    simp
    omega
theorem s_D {ds : List D} {lo hi : Option Int} (hx : Rp K H x (.tup ds)) (h : ∀ v H', Ext [] H H' → Rp K H' v (.tup (cutD ds lo hi)) → Q v H') : rSlG K x lo hi H Q := by
  obtain ⟨a, xs, rfl, h1, h2⟩ := hx.tupI
  refine .inr (.inl ⟨a, xs, rfl, h1, fun e => ?_, fun _ p hp => ?_⟩)
  · refine h _ _ Ext.refl ?_
    rw [h2.length] at e
    rw [cutD_all e]
    exact hx
  · refine h _ _ (Ext.new hp) (Rp.new ?_ hp)
    unfold cutV cutD
    rw [h2.length]
    exact (h2.drop _).take _
theorem s_L {p : Addr} {xs : List V} {lo hi : Option Int} (hx : SqL K H p xs) (h : ∀ q H', H q = none → Ext [] H H' → H' q = some (.lst (cutD xs lo hi)) → Q (.ref q) H') : rSlG K (.ref p) lo hi H Q :=
  .inl ⟨p, xs, rfl, hx, fun q hq => h q _ hq (Ext.new hq) upd_same⟩
def rLen (K : PySem.W.Frag) : List V → Hp → VK → Prop := fun xs H Q => ∃ x n, xs = [x] ∧ LenV K x H n ∧ Q (.int n) H
theorem l_D {ds : List D} (hx : Rp K H x (.tup ds)) (h : Q (.int ds.length) H) : rLen K [x] H Q := by
  obtain ⟨a, xs, rfl, h1, h2⟩ := hx.tupI
  exact ⟨_, _, rfl, .inr ⟨xs, h1, rfl⟩, by rw [h2.length]; exact h⟩
theorem l_L {p : Addr} {xs : List V} (hx : SqL K H p xs) (h : Q (.int xs.length) H) : rLen K [.ref p] H Q := ⟨_, _, rfl, .inl ⟨xs, hx, rfl⟩, h⟩
theorem l_l {p : Addr} {xs : List V} (hx : H p = some (.lst xs)) (h : Q (.int xs.length) H) : rLen K [.ref p] H Q := l_L (SqL.of hx) h
theorem l_s {s : Str} (hx : s.length ≤ sizeLine) (h : Q (.int s.length) H) : rLen K [.str s] H Q := ⟨_, _, rfl, ⟨hx, rfl⟩, h⟩

/-! ### is -/
def rIsNo : R2 := fun x y H Q => y = .non ∧ Q (.bl (decide (x = .non))) H
def rIsNN : R2 := fun x y H Q => y = .non ∧ Q (.bl (!decide (x = .non))) H
theorem i_n (h : Q (.bl (decide (x = .non))) H) : rIsNo x .non H Q := ⟨rfl, h⟩
theorem i_nn (h : Q (.bl (!decide (x = .non))) H) : rIsNN x .non H Q := ⟨rfl, h⟩
theorem i_b {a b : Bool} (h : Q (.bl (decide (a = b))) H) : rIsB (.bl a) (.bl b) H Q := ⟨a, b, rfl, rfl, h⟩
theorem i_nb {a b : Bool} (h : Q (.bl (!decide (a = b))) H) : rNotB (.bl a) (.bl b) H Q := ⟨a, b, rfl, rfl, h⟩

/-! ### built-ins of ints; tuple(list); list.append; xs[i] = v -/
def rAbs : List V → Hp → VK → Prop := fun xs H Q => ∃ i, xs = [.int i] ∧ Q (.int (if i < 0 then -i else i)) H
def rInt1 : List V → Hp → VK → Prop := fun xs H Q => (∃ i, xs = [.int i] ∧ Q (.int i) H) ∨ ∃ k, xs = [.bl k] ∧ Q (.int (if k then 1 else 0)) H
def rTupOf (K : PySem.W.Frag) : List V → Hp → VK → Prop := fun xs H Q => ∃ p ys, xs = [.ref p] ∧ ((SqL K H p ys ∧ ∀ l, H l = none → Q (.ref l) (upd H l (.tup ys))) ∨ (SqT K H p ys ∧ Q (.ref p) H))
def rLstOf (K : PySem.W.Frag) : List V → Hp → VK → Prop := fun xs H Q => ∃ p ys, xs = [.ref p] ∧ (SqL K H p ys ∨ SqT K H p ys) ∧ ∀ l, H l = none → Q (.ref l) (upd H l (.lst ys))
theorem b_abs {i : Int} (h : Q (.int (if i < 0 then -i else i)) H) : rAbs [.int i] H Q := ⟨i, rfl, h⟩
theorem b_int {i : Int} (h : Q (.int i) H) : rInt1 [.int i] H Q := .inl ⟨i, rfl, h⟩
theorem b_tupl {p : Addr} {xs : List V} {ds : List D} (hx : H p = some (.lst xs)) (ha : RpAll K H xs ds) (h : ∀ v H', Ext [] H H' → Rp K H' v (.tup ds) → Q v H') : rTupOf K [.ref p] H Q :=
  ⟨p, xs, rfl, .inl ⟨SqL.of hx, fun l hl => h _ _ (Ext.new hl) (Rp.new ha hl)⟩⟩
theorem m_app {l : Addr} {xs : List V} (hx : H l = some (.lst xs)) (hl : xs.length < sizeLine) (h : ∀ H', Ext [l] H H' → H' l = some (.lst (xs ++ [y])) → Q .non H') : rAppend (.ref l) [y] H Q :=
  ⟨l, xs, y, rfl, rfl, hx, hl, h _ (Ext.put hx (by simp)) upd_same⟩
theorem ty_l {l : Addr} {xs : List V} (hx : H l = some (.lst xs)) : tyV K "list" (.ref l) H := .inl ⟨rfl, xs, SqL.of hx⟩
theorem t_set {l : Addr} {xs : List V} {k : Int} {j : Nat} {Q : Hp → Prop} (hx : H l = some (.lst xs)) (e : ixN xs.length k = some j) (h : ∀ H', Ext [l] H H' → H' l = some (.lst (xs.set j v)) → Q H') : rSetL (.ref l) (.int k) v H Q :=
  ⟨l, xs, k, j, rfl, rfl, hx, e, h _ (Ext.put hx (by simp)) upd_same⟩

theorem t_set0 {l : Addr} {x0 : V} {r : List V} {Q : Hp → Prop} (hx : H l = some (.lst (x0 :: r))) (h : ∀ H', Ext [l] H H' → H' l = some (.lst (v :: r)) → Q H') : rSetL (.ref l) (.int 0) v H Q :=
  t_set (j := 0) hx (by first | (simp [ixN]; omega) | simp [ixN]) h
theorem t_set1 {l : Addr} {x0 x1 : V} {r : List V} {Q : Hp → Prop} (hx : H l = some (.lst (x0 :: x1 :: r))) (h : ∀ H', Ext [l] H H' → H' l = some (.lst (x0 :: v :: r)) → Q H') : rSetL (.ref l) (.int 1) v H Q :=
  t_set (j := 1) hx (by first | (simp [ixN]; omega) | simp [ixN]) h
theorem t_set2 {l : Addr} {x0 x1 x2 : V} {r : List V} {Q : Hp → Prop} (hx : H l = some (.lst (x0 :: x1 :: x2 :: r))) (h : ∀ H', Ext [l] H H' → H' l = some (.lst (x0 :: x1 :: v :: r)) → Q H') : rSetL (.ref l) (.int 2) v H Q :=
  t_set (j := 2) hx (by first | (simp [ixN]; omega) | simp [ixN]) h
theorem t_set3 {l : Addr} {x0 x1 x2 x3 : V} {r : List V} {Q : Hp → Prop} (hx : H l = some (.lst (x0 :: x1 :: x2 :: x3 :: r))) (h : ∀ H', Ext [l] H H' → H' l = some (.lst (x0 :: x1 :: x2 :: v :: r)) → Q H') : rSetL (.ref l) (.int 3) v H Q :=
  t_set (j := 3) hx (by first | (simp [ixN]; omega) | simp [ixN]) h
theorem atI_int {ns : List Int} {i : Int} (h0 : 0 ≤ i) (h : i < (ns.length : Int)) : ∃ z, ns[i.toNat]? = some z ∧ atI (ns.map V.int) i = some (V.int z) := by
  have hk : i.toNat < ns.length := by omega
  refine ⟨ns[i.toNat], by simp [hk], at_of (j := i.toNat) (by omega) (by rw [List.getElem?_map, List.getElem?_eq_getElem hk]; rfl)⟩

/-! ### loops -/
/-- a for's reading once its iterator has come -/
def ForOk (J : It) (g : TG) (tb : TS) (D : Ends) (σ : St) (H : Hp) : Prop := ∃ W : Nat → Nat → St → Hp → Prop, (∃ m, W 0 m σ H) ∧ ∀ i m σ H, W i m σ H →
  (J.stop i H ∧ D.nx σ H) ∨ (J.go i H ∧ ∃ N : St → Hp → Prop, (∀ σ' H', N σ' H' → ∃ m', m' < m ∧ W (i + 1) m' σ' H') ∧ ∀ x H', J.yld i H x H' → g x σ H' fun σ2 H2 => tb { D with nx := N, ct := N, bk := D.nx } σ2 H2)
theorem w_for {wi : TI} {g : TG} {tb : TS} (h : wi σ H fun J H1 => ForOk J g tb D0 σ H1) : tFor wi g tb D0 σ H := h
theorem w_rng1 {ta : TA} {R : It → Hp → Prop} (h : ta σ H fun vs H1 => ∃ j : Int, vs = [.int j] ∧ -(2 ^ 62) ≤ j ∧ j < 2 ^ 62 ∧ R (Itr 0 j.toNat) H1) : iRng1 ta σ H R := h
theorem w_rng2 {ta : TA} {R : It → Hp → Prop} (h : ta σ H fun vs H1 => ∃ i j : Int, vs = [.int i, .int j] ∧ (-(2 ^ 62) ≤ i ∧ i < 2 ^ 62 ∧ -(2 ^ 62) ≤ j ∧ j < 2 ^ 62) ∧ R (Itr i (j - i).toNat) H1) : iRng2 ta σ H R := h
theorem w_exr1 {j : Int} {A : Int → Prop} (h1 : -4611686018427387904 ≤ j ∧ j < 4611686018427387904) (h : A j) : ∃ i : Int, [V.int j] = [.int i] ∧ -(2 ^ 62) ≤ i ∧ i < 2 ^ 62 ∧ A i := ⟨j, rfl, by omega, by omega, h⟩
theorem w_exr2 {j k : Int} {A : Int → Int → Prop} (h1 : -4611686018427387904 ≤ j ∧ j < 4611686018427387904 ∧ -4611686018427387904 ≤ k ∧ k < 4611686018427387904) (h : A j k) :
    ∃ i l : Int, [V.int j, V.int k] = [.int i, .int l] ∧ (-(2 ^ 62) ≤ i ∧ i < 2 ^ 62 ∧ -(2 ^ 62) ≤ l ∧ l < 2 ^ 62) ∧ A i l := ⟨j, k, rfl, by omega, h⟩
theorem w_list {R : It → Hp → Prop} (h : te σ H fun x H1 => ∃ a, x = .ref a ∧ (∃ xs, SqL K H1 a xs) ∧ R (Itl K a) H1) : iList K te σ H R := h
theorem w_tupI {R : It → Hp → Prop} (h : te σ H fun x H1 => ∃ a, x = .ref a ∧ (∃ xs, SqT K H1 a xs) ∧ R (Itt K a) H1) : iTup K te σ H R := h
theorem w_exl {a : Addr} {xs : List V} {A : Addr → Prop} (h1 : SqL K H a xs) (h : A a) : ∃ b, V.ref a = .ref b ∧ (∃ xs, SqL K H b xs) ∧ A b := ⟨a, rfl, ⟨xs, h1⟩, h⟩
theorem w_ext {ds : List D} {A : Addr → Prop} (h1 : Rp K H x (.tup ds)) (h : ∀ a, x = .ref a → A a) : ∃ b, x = .ref b ∧ (∃ xs, SqT K H b xs) ∧ A b := by
  obtain ⟨a, xs, rfl, h2, _⟩ := h1.tupI
  exact ⟨a, rfl, ⟨xs, h2⟩, h a rfl⟩
/-- over a range -/
theorem f_rng {lo : Int} {n g : Nat} {tb : TS} (W : Nat → St → Hp → Prop) (h0 : W 0 σ H)
    (hs : ∀ i σ H, i < n → W i σ H → tb { D0 with nx := W (i + 1), ct := W (i + 1), bk := D0.nx } (σ.set g (some (.int (lo + i)))) H) (hd : ∀ σ H, W n σ H → D0.nx σ H) : ForOk (Itr lo n) (gName g) tb D0 σ H :=
  for_range W h0 hs hd
/-- over a list that stands -/
theorem f_lst {a : Addr} {xs : List V} {g : Nat} {tb : TS} (W : Nat → St → Hp → Prop) (h0 : W 0 σ H) (hl : ∀ i σ H, i ≤ xs.length → W i σ H → SqL K H a xs)
    (hs : ∀ i v σ H, xs[i]? = some v → W i σ H → tb { D0 with nx := W (i + 1), ct := W (i + 1), bk := D0.nx } (σ.set g (some v)) H) (hd : ∀ σ H, W xs.length σ H → D0.nx σ H) : ForOk (Itl K a) (gName g) tb D0 σ H :=
  for_list W h0 hl hs hd
/-- over the items of a tuple; W by the turn -/
theorem f_tup {a : Addr} {g : Nat} {ds : List D} {tb : TS} (W : Nat → St → Hp → Prop) (h0 : W 0 σ H) (hk : ∀ i σ H, i ≤ ds.length → W i σ H → Rp K H (.ref a) (.tup ds))
    (hs : ∀ i d v σ H, ds[i]? = some d → Rp K H v d → W i σ H → tb { D0 with nx := W (i + 1), ct := W (i + 1), bk := D0.nx } (σ.set g (some v)) H) (hd : ∀ σ H, W ds.length σ H → D0.nx σ H) :
    ForOk (Itt K a) (gName g) tb D0 σ H := by
  refine ⟨fun i m σ H => m = ds.length - i ∧ i ≤ ds.length ∧ W i σ H, ⟨ds.length, by simp, Nat.zero_le _, h0⟩, ?_⟩
  rintro i m σ H ⟨rfl, hi, p⟩
  obtain ⟨a', xs', e, k1, k2⟩ := (hk i σ H hi p).tupI
  cases e
  have hl := k2.length
  by_cases hlt : i < ds.length
  · refine .inr ⟨⟨xs', xs'[i]'(by omega), k1, by simp [show i < xs'.length by omega]⟩, W (i + 1), fun σ' H' p' => ⟨ds.length - (i + 1), by omega, rfl, hlt, p'⟩, fun x H' y => ?_⟩
    obtain ⟨e, y⟩ := y
    subst e
    obtain ⟨d, hd1, hr⟩ := k2.get (y xs' k1)
    exact hs i d x σ _ hd1 hr p
  · have e : i = ds.length := by omega
    subst e
    exact .inl ⟨⟨xs', k1, by omega⟩, hd σ H p⟩
/-! ### comprehensions -/
def LcOk (J : It) (g : TG) (tt : TT) (te : TE) (vs : List Nat) (σ : St) (D : Addr) (H1 : Hp) (Q : VK) : Prop := ∃ W : Nat → Nat → Hp → Prop, (∃ m, W 0 m (upd H1 D (.lst []))) ∧ ∀ i m H, W i m H →
  (J.stop i H ∧ Q (.ref D) H) ∨ (J.go i H ∧ ∃ Nx : Hp → Prop, (∀ H', Nx H' → ∃ m', m' < m ∧ W (i + 1) m' H') ∧ ∀ x H', J.yld i H x H' → g x (wipe σ vs) H' fun σ2 H2 => wipe σ2 vs = wipe σ vs ∧ tt σ2 H2 fun b H3 =>
    if b = true then te σ2 H3 fun y H4 => ∃ acc, H4 D = some (.lst acc) ∧ acc.length < sizeLine ∧ Nx (upd H4 D (.lst (acc ++ [y]))) else Nx H3)
theorem w_lc {wi : TI} {g : TG} {tt : TT} {vs : List Nat} (h : wi σ H fun J H1 => ∀ D, H1 D = none → LcOk J g tt te vs σ D H1 Q) : tLc wi g tt te vs σ H Q := h
/-- what a turn of a comprehension is to reach: the list so far is acc at D -/
def LcN (D : Addr) (W : Nat → Hp → List V → Prop) (i : Nat) (H : Hp) : Prop := ∃ acc, H D = some (.lst acc) ∧ acc.length ≤ i ∧ W i H acc
def LcT (D : Addr) (W : Nat → Hp → List V → Prop) (i : Nat) (y : V) (H : Hp) : Prop := ∃ acc, H D = some (.lst acc) ∧ acc.length < sizeLine ∧ LcN D W (i + 1) (upd H D (.lst (acc ++ [y])))
theorem turn1 {D : Addr} {W : Nat → Hp → List V → Prop} {i : Nat} {acc : List V} (h1 : H D = some (.lst acc)) (h2 : acc.length ≤ i) (h3 : i < sizeLine) (h : ∀ H', Ext [D] H H' → H' D = some (.lst (acc ++ [y])) → W (i + 1) H' (acc ++ [y])) : LcT D W i y H :=
  ⟨acc, h1, by omega, acc ++ [y], upd_same, by rw [List.length_append]; simp; omega, h _ (Ext.put h1 (by simp)) upd_same⟩
theorem turn0 {D : Addr} {W : Nat → Hp → List V → Prop} {i : Nat} {acc : List V} (h1 : H D = some (.lst acc)) (h2 : acc.length ≤ i) (h : W (i + 1) H acc) : LcN D W (i + 1) H := ⟨acc, h1, by omega, h⟩
theorem c_gen {J : It} {n g : Nat} {tt : TT} {D : Addr} (R : Nat → V → Hp → Prop) (W : Nat → Hp → List V → Prop) (hD : H D = none)
    (hgo : ∀ i H acc, i < n → W i H acc → J.go i H) (hst : ∀ H acc, W n H acc → J.stop n H) (hy : ∀ i x H H' acc, i < n → W i H acc → J.yld i H x H' → H' = H ∧ R i x H)
    (h0 : ∀ H', Ext [] H H' → H' D = some (.lst []) → W 0 H' [])
    (hs : ∀ i x H acc, i < n → H D = some (.lst acc) → acc.length ≤ i → R i x H → W i H acc → tt (σ.set g (some x)) H fun b H3 => if b = true then te (σ.set g (some x)) H3 (LcT D W i) else LcN D W (i + 1) H3)
    (hd : ∀ H acc, H D = some (.lst acc) → W n H acc → Q (.ref D) H) : LcOk J (gName g) tt te [g] σ D H Q := by
  refine ⟨fun i m H => m = n - i ∧ i ≤ n ∧ LcN D W i H, ⟨n, by simp, Nat.zero_le _, [], upd_same, Nat.le_refl _, h0 _ (Ext.new hD) upd_same⟩, ?_⟩
  rintro i m H ⟨rfl, hi, acc, e1, e2, p⟩
  by_cases hlt : i < n
  · refine .inr ⟨hgo i H acc hlt p, LcN D W (i + 1), fun H' p' => ⟨n - (i + 1), by omega, rfl, hlt, p'⟩, fun x H' y => ?_⟩
    obtain ⟨e, r⟩ := hy i x H H' acc hlt p y
    subst e
    have s1 : (wipe σ [g]).set g (some x) = σ.set g (some x) := by
      show (σ.set g none).set g (some x) = _
      rw [List.set_set]
    show wipe ((wipe σ [g]).set g (some x)) [g] = wipe σ [g] ∧ _
    rw [s1]
    refine ⟨?_, ?_⟩
    · show (σ.set g (some x)).set g none = σ.set g none
      rw [List.set_set]
    exact hs i x H' acc hlt e1 e2 r p
  · have e : i = n := by omega
    subst e
    exact .inl ⟨hst H acc p, hd H acc e1 p⟩
/-- over a range -/
theorem c_rng {lo : Int} {n g : Nat} {tt : TT} {D : Addr} (W : Nat → Hp → List V → Prop) (hD : H D = none) (h0 : ∀ H', Ext [] H H' → H' D = some (.lst []) → W 0 H' [])
    (hs : ∀ i H acc, i < n → H D = some (.lst acc) → acc.length ≤ i → W i H acc → tt (σ.set g (some (.int (lo + i)))) H fun b H3 => if b = true then te (σ.set g (some (.int (lo + i)))) H3 (LcT D W i) else LcN D W (i + 1) H3)
    (hd : ∀ H acc, H D = some (.lst acc) → W n H acc → Q (.ref D) H) : LcOk (Itr lo n) (gName g) tt te [g] σ D H Q :=
  c_gen (fun i x _ => x = .int (lo + i)) W hD (fun _ _ _ h _ => h) (fun _ _ _ => Nat.le_refl n) (fun _ _ _ _ _ _ _ y => y) h0 (fun i x H acc hi e1 e2 r p => by subst r; exact hs i H acc hi e1 e2 p) hd
/-- over a list that stands -/
theorem c_lst {a : Addr} {xs : List V} {g : Nat} {tt : TT} {D : Addr} (W : Nat → Hp → List V → Prop) (hD : H D = none) (hl : ∀ i H acc, i ≤ xs.length → W i H acc → SqL K H a xs) (h0 : ∀ H', Ext [] H H' → H' D = some (.lst []) → W 0 H' [])
    (hs : ∀ i x H acc, xs[i]? = some x → H D = some (.lst acc) → acc.length ≤ i → W i H acc → tt (σ.set g (some x)) H fun b H3 => if b = true then te (σ.set g (some x)) H3 (LcT D W i) else LcN D W (i + 1) H3)
    (hd : ∀ H acc, H D = some (.lst acc) → W xs.length H acc → Q (.ref D) H) : LcOk (Itl K a) (gName g) tt te [g] σ D H Q :=
  c_gen (n := xs.length) (fun i x _ => xs[i]? = some x) W hD (fun i H acc h p => ⟨xs, xs[i], hl i H acc (Nat.le_of_lt h) p, by simp [h]⟩) (fun H acc p => ⟨xs, hl _ H acc (Nat.le_refl _) p, Nat.le_refl _⟩)
    (fun i x H H' acc h p y => ⟨y.1, y.2 xs (hl i H acc (Nat.le_of_lt h) p)⟩) h0 (fun i x H acc _ e1 e2 r p => hs i x H acc r e1 e2 p) hd
/-- over the items of a tuple -/
theorem c_tup {a : Addr} {ds : List D} {g : Nat} {tt : TT} {D : Addr} (W : Nat → Hp → List V → Prop) (hD : H D = none) (hl : ∀ i H acc, i ≤ ds.length → W i H acc → Rp K H (.ref a) (.tup ds)) (h0 : ∀ H', Ext [] H H' → H' D = some (.lst []) → W 0 H' [])
    (hs : ∀ i d x H acc, ds[i]? = some d → Rp K H x d → H D = some (.lst acc) → acc.length ≤ i → W i H acc → tt (σ.set g (some x)) H fun b H3 => if b = true then te (σ.set g (some x)) H3 (LcT D W i) else LcN D W (i + 1) H3)
    (hd : ∀ H acc, H D = some (.lst acc) → W ds.length H acc → Q (.ref D) H) : LcOk (Itt K a) (gName g) tt te [g] σ D H Q := by
  have get : ∀ i H acc, i ≤ ds.length → W i H acc → ∃ xs, SqT K H a xs ∧ RpAll K H xs ds := fun i H acc hi p => by
    obtain ⟨a', xs, e, h1, h2⟩ := (hl i H acc hi p).tupI
    cases e
    exact ⟨xs, h1, h2⟩
  refine c_gen (n := ds.length) (fun i x H => ∃ d, ds[i]? = some d ∧ Rp K H x d) W hD (fun i H acc h p => ?_) (fun H acc p => ?_) (fun i x H H' acc h p y => ?_) h0 (fun i x H acc _ e1 e2 r p => ?_) hd
  · obtain ⟨xs, h1, h2⟩ := get i H acc (Nat.le_of_lt h) p
    have hl := h2.length
    exact ⟨xs, xs[i]'(by omega), h1, by simp [show i < xs.length by omega]⟩
  · obtain ⟨xs, h1, h2⟩ := get _ H acc (Nat.le_refl _) p
    exact ⟨xs, h1, by rw [h2.length]; exact Nat.le_refl _⟩
  · obtain ⟨xs, h1, h2⟩ := get i H acc (Nat.le_of_lt h) p
    obtain ⟨d, hd1, hr⟩ := h2.get (y.2 xs h1)
    exact ⟨y.1, d, hd1, hr⟩
  · obtain ⟨d, hd1, hr⟩ := r
    exact hs i d x H acc hd1 hr e1 e2 p
theorem w_yes {Q : Bool → Hp → Prop} (h : Q true H) : tYes σ H Q := h
end
theorem le_line {n : Nat} (h : n ≤ 1000) : n ≤ sizeLine := Nat.le_trans h (by decide)
/-! ### defs with their contract -/
/-- the module's name x holds a def that keeps sp -/
structure Has (P : Program) (w : World) (K : PySem.W.Frag) (mg : Str → Option Value) (base : Heap) (CX : CXT) (k : Nat) (x : Str) (ps : List Str) (sp : Sp) : Prop where
  ex : ∃ (f : Addr) (fd : FuncData), FnOk P w K mg base CX k f fd ps sp ∧ mg x = some (.ref f) ∧ PySem.W.keepIn K (.ref f) = true ∧ Binds K fd ps []
/-- the module's name x holds the def that the text writes as st -/
structure Dfn (K : PySem.W.Frag) (mg : Str → Option Value) (x : Str) (st : Stmt) (ps : List Str) : Prop where
  ex : ∃ (f : Addr) (fd : FuncData), Fun K x x st f fd ∧ mg x = some (.ref f) ∧ Binds K fd ps []
section
variable {P : Program} {w : World} {K : PySem.W.Frag} {mg : Str → Option Value} {base : Heap} {CX : CXT} {k : Nat} {x : Str} {ps : List Str} {sp : Sp} {st : Stmt}
theorem Dfn.has (D : Dfn K mg x st ps) (h : ∀ f fd, Fun K x x st f fd → FnOk P w K mg base CX k f fd ps sp) : Has P w K mg base CX k x ps sp := by
  obtain ⟨f, fd, F, m, b⟩ := D.ex
  exact ⟨f, fd, h f fd F, m, F.kp, b⟩
theorem Has.mono {j : Nat} (h : Has P w K mg base CX j x ps sp) (l : j ≤ k) : Has P w K mg base CX k x ps sp := by
  obtain ⟨f, fd, F, r⟩ := h.ex
  exact ⟨f, fd, F.mono l, r⟩
theorem Has.imp {sp' : Sp} (h : Has P w K mg base CX k x ps sp) (i : ∀ vs H Q E, sp' vs H Q E → sp vs H Q E) : Has P w K mg base CX k x ps sp' := by
  obtain ⟨f, fd, F, r⟩ := h.ex
  exact ⟨f, fd, F.imp i, r⟩
/-- a promise that nobody can ask for -/
theorem Dfn.never (D : Dfn K mg x st ps) (no : ∀ vs H Q E, ¬ sp vs H Q E) : Has P w K mg base CX k x ps sp := by
  obtain ⟨f, fd, F, m, b⟩ := D.ex
  exact ⟨f, fd, ⟨fun vs H Q E h => absurd h (no vs H Q E), fun A outer s H args us vs Q E _ _ _ _ h => absurd h (no vs H Q E)⟩, m, F.kp, b⟩
end
section
variable {X : Cx} {CX : CXT} {k : Nat} {ps : List Str} {sp : Sp} {E : XK} {x : Str} {p pos : Pos} {e : Expr} {es : List Expr} {t : TA}
theorem pe_callH (h : Has X.prog X.w X.K X.mg X.base CX k x ps sp) (hr : Room k X.A) (hg : Gl X x) (hx : Passes CX X E)
    (ha : PA X (e :: es) t) (hdb : (x == ("__debug__" : Str)) = false := by decide) (he : starEach (e :: es) X.env = (false, eval e X.env) :: starEach es X.env := by rfl) (hpl : (backTo pos (starEach es X.env)).any (·.1) = false := by rfl) :
    PE X (.Call (.Name x p) (e :: es) [] pos) (tCall sp [] E t) := by
  obtain ⟨f, fd, F, m, kp, b⟩ := h.ex
  exact pe_call F hr hg m kp b .nil hx ha hdb he hpl
theorem pe_callH0 (h : Has X.prog X.w X.K X.mg X.base CX k x ps sp) (hr : Room k X.A) (hg : Gl X x) (hx : Passes CX X E)
    (hdb : (x == ("__debug__" : Str)) = false := by decide) : PE X (.Call (.Name x p) [] [] pos) (tCall sp [] E tNil) := by
  obtain ⟨f, fd, F, m, kp, b⟩ := h.ex
  exact pe_call0 F hr hg m kp b .nil hx hdb
theorem pss_consJ {st : Stmt} {rest : List Stmt} {t u : TS} (h1 : PS X st t) (h2 : PSs X rest u) : PSs X (st :: rest) (tSeqJ t u) := by
  refine ⟨fun pins s σ H D I h => ?_⟩
  obtain ⟨M, h, hm⟩ := h
  refine wpAny_execs_cons (thn (h1.run pins s σ H { D with nx := M } I h) fun f s1 q => ?_)
  cases f with
  | next =>
    obtain ⟨σ', H', I', q⟩ := q
    exact h2.run pins s1 σ' H' D I' (hm _ _ q)
  | ret v => exact q
  | brk => exact q
  | cont => exact q
/-! ### the rules by which ambiguous constructs go -/
theorem o_add : OpR X (binaryOp .Add) (rAddG X.K) := op_add.or (op_add_str.or (op_catA.or op_cat))
theorem o_eq (hu : X.A.units + 64 < cLine) : OpR X (compareOp .Eq) (rEqG X.K) := op_eq.or (op_eqD hu)
theorem o_ne (hu : X.A.units + 64 < cLine) : OpR X (compareOp .NotEq) (rNeG X.K) := op_ne.or (op_neD hu)
theorem o_sl : SlR X (rSlG X.K) := sl_list.or (sl_tupA.or sl_str)
end
end Go

namespace Law
open PySem L2 Go
local macro_rules | `(tactic| row_has $x) => `(tactic| repeat (first | (obtain ⟨e, _⟩ := $x:ident; subst e; rfl) | (obtain ⟨_, $x:ident⟩ := $x:ident)))
local macro_rules | `(tactic| walk_at "ts") => `(tactic| first
  | exact Tst.refl
  | (refine' Ext.ts (S := ?k0) ?k1; case k1 => assumption)
  | (refine' Tst.trans ?k2 (Ext.ts (S := ?k0) ?k1); (case k1 => assumption); (case k2 => walk_at "ts")))
local macro_rules | `(tactic| walk_at "ext") => `(tactic| first
  | exact Ext.refl
  | assumption
  | (refine' Ext.trans ?k2 ?k1; (case k1 => assumption); (case k2 => walk_at "ext"))
  | (refine' Ext.more ?k2 ?k1; (case k1 => assumption); (case k2 => walk_at "ext")))
local macro_rules | `(tactic| walk_at "rp") => `(tactic| first
  | assumption
  | exact Rp.str _
  | exact Rp.int _
  | exact Rp.non
  | exact Rp.bl _
  | (refine' Rp.ts ?k2 ?k1; (case k1 => assumption); (case k2 => walk_at "ts")))
local macro_rules | `(tactic| walk_at "ls") => `(tactic| first
  | assumption
  | (refine' Ext.keep (S := ?k0) ?k1 _ _ ?k2 ?k3; (case k1 => assumption); (case k2 => walk_at "ls"); (case k3 => first | exact List.not_mem_nil | (simp; assumption) | (simp; exact Ne.symm (by assumption)))))
local macro_rules | `(tactic| walk_at "all") => `(tactic| first
  | exact RpAll.nil
  | (refine' RpAll.cons ?k1 ?k2; (case k1 => walk_at "rp"); (case k2 => walk_at "all")))
local macro_rules | `(tactic| walk_at "len") => `(tactic| first
  | (refine le_line ?_; simp; done)
  | (refine le_line ?_; simp only [List.length_append, List.length_cons, List.length_nil, List.length_map, List.length_take]; omega)
  | omega)
local macro_rules | `(tactic| walk_at "s0") => `(tactic| first
  | with_reducible refine w_asg ?_
  | with_reducible refine w_name ?_
  | with_reducible refine w_next ?_
  | with_reducible refine w_break ?_
  | with_reducible refine w_cont ?_
  | with_reducible refine w_drop ?_
  | with_reducible refine w_ret ?_
  | with_reducible refine w_retN ?_
  | with_reducible refine w_ifS ?_
  | with_reducible refine w_test ?_
  | with_reducible refine w_tB ?_
  | with_reducible refine w_exbl ?_
  | with_reducible refine w_and ?_
  | with_reducible refine w_or ?_
  | with_reducible refine w_not ?_
  | with_reducible refine w_andV ?_
  | with_reducible refine w_orV ?_
  | with_reducible refine w_notV ?_
  | with_reducible refine w_if ?_
  | ((with_reducible refine' w_var ?k1 ?_); (case k1 => rfl))
  | with_reducible refine w_c ?_
  | with_reducible refine w_op ?_
  | with_reducible refine w_un ?_
  | with_reducible refine w_cb ?_
  | with_reducible refine w_cons ?_
  | with_reducible refine w_nil ?_
  | with_reducible refine w_call ?_
  | with_reducible refine w_for ?_
  | with_reducible refine w_rng1 ?_
  | with_reducible refine w_rng2 ?_
  | with_reducible refine w_list ?_
  | with_reducible refine w_tupI ?_
  | ((with_reducible refine' w_exr1 ?k1 ?_); (case k1 => omega))
  | ((with_reducible refine' w_exr2 ?k1 ?_); (case k1 => omega))
  | ((with_reducible refine' w_ext ?k1 ?_); (case k1 => walk_at "rp"); intro _ _; subst_vars)
  | (with_reducible refine w_lc ?_)
  | with_reducible refine w_yes ?_
  | with_reducible refine w_tup ?_
  | with_reducible refine w_lst ?_
  | with_reducible refine w_sub ?_
  | with_reducible refine w_bm ?_
  | with_reducible refine w_sl ?_
  | with_reducible refine w_noPart ?_
  | with_reducible refine w_part ?_
  | with_reducible refine w_exint ?_
  | with_reducible refine r_u ?_
  | with_reducible refine r_sub ?_
  | ((with_reducible refine' r_mul ?k1 ?_); (case k1 => first | exact cmul_r (by omega) (by omega) | exact cmul_l (by omega) (by omega)))
  | ((with_reducible refine' r_div ?k1 ?_); (case k1 => exact ⟨by omega, by omega⟩))
  | ((with_reducible refine' r_mod ?k1 ?_); (case k1 => omega))
  | with_reducible refine r_lt ?_
  | with_reducible refine r_le ?_
  | with_reducible refine r_gt ?_
  | with_reducible refine r_ge ?_
  | with_reducible refine a_int ?_
  | with_reducible refine e_str ?_
  | with_reducible refine e_int ?_
  | with_reducible refine e_is ?_
  | with_reducible refine e_si ?_
  | with_reducible refine n_str ?_
  | with_reducible refine n_int ?_
  | with_reducible refine b_abs ?_
  | with_reducible refine b_int ?_
  | with_reducible refine i_n ?_
  | with_reducible refine i_nn ?_
  | with_reducible refine i_b ?_
  | with_reducible refine i_nb ?_
  | ((with_reducible refine' w_newT ?k1 ?k2 ?_); (case k1 => walk_at "all"); (case k2 => walk_at "len"); intro _ _ _ _)
  | ((with_reducible refine' x_Ds ?k1 ?k2 ?_); (case k1 => walk_at "rp"); (case k2 => rfl))
  | ((with_reducible refine' x_Di ?k1 ?k2 ?_); (case k1 => walk_at "rp"); (case k2 => rfl))
  | ((with_reducible refine' x_D ?k1 ?k2 ?_); (case k1 => walk_at "rp"); (case k2 => rfl); intro _ _)
  | ((with_reducible refine' l_D ?k1 ?_); (case k1 => walk_at "rp"))
  | ((with_reducible refine' s_D ?k1 ?_); (case k1 => walk_at "rp"); intro _ _ _ _)
  | ((with_reducible refine' x_l ?k1 ?k2 ?_); (case k1 => walk_at "ls"); (case k2 => rfl))
  | ((with_reducible refine' t_set0 ?k1 ?_); (case k1 => walk_at "ls"); intro _ _ _)
  | ((with_reducible refine' t_set1 ?k1 ?_); (case k1 => walk_at "ls"); intro _ _ _)
  | ((with_reducible refine' t_set2 ?k1 ?_); (case k1 => walk_at "ls"); intro _ _ _)
  | ((with_reducible refine' t_set3 ?k1 ?_); (case k1 => walk_at "ls"); intro _ _ _)
  | ((with_reducible refine' l_l ?k1 ?_); (case k1 => walk_at "ls"))
  | ((with_reducible refine' a_tup ?k1 ?k2 ?k3 ?_); (case k1 => walk_at "rp"); (case k2 => walk_at "rp"); (case k3 => walk_at "len"); intro _ _ _ _)
  | with_reducible refine w_iteT (c := true) rfl ?_
  | with_reducible refine w_iteF (c := false) rfl ?_
  | ((with_reducible refine' w_iteT ?k1 ?_); (case k1 => first | assumption | rfl | decide +kernel))
  | ((with_reducible refine' w_iteF ?k1 ?_); (case k1 => first | assumption | rfl | decide +kernel))
  | dsimp only [List.set])
local macro_rules | `(tactic| walk_at "s") => `(tactic| first | with_reducible refine w_seqJ ?_ | walk_at "s0")
local macro_rules | `(tactic| walk_at "s1") => `(tactic| first | with_reducible refine w_seqA ?_ | with_reducible refine w_seqD ?_ | walk_at "s0")
local macro_rules | `(tactic| walk_at "go") => `(tactic| repeat walk_at "s")
local macro_rules | `(tactic| walk_at "gs") => `(tactic| repeat walk_at "s1")
local macro_rules | `(tactic| walk_at "eqD") => `(tactic| (refine' e_D ?k1 ?k2 ?k3 ?k4 ?k5 ?k6 ?_; (case k1 => walk_at "rp"); (case k2 => walk_at "rp"); (case k3 => assumption); (case k4 => assumption); (case k5 => assumption); (case k6 => assumption)))

def top (i : Nat) : Stmt := PySem.Challenge.pw_forklent_k07_conflicts.main.body.getD i (.Pass ⟨0, 0, 0, 0⟩)
abbrev s_is_prefix : Stmt := top 1
abbrev N_is_prefix : List Str := ["first", "second", "many"]
theorem sc_is_prefix : FnScope N_is_prefix ["first", "second"] (defScope s_is_prefix) := ⟨rfl, rfl, rfl, by decide +kernel, rfl, by decide +kernel, by decide +kernel⟩
abbrev s_overlap : Stmt := top 2
abbrev N_overlap : List Str := ["first", "second"]
theorem sc_overlap : FnScope N_overlap ["first", "second"] (defScope s_overlap) := ⟨rfl, rfl, rfl, by decide +kernel, rfl, by decide +kernel, by decide +kernel⟩
abbrev s_conflicts : Stmt := top 4
abbrev N_conflicts : List Str := ["wanted", "loan", "crossing", "place"]
theorem sc_conflicts : FnScope N_conflicts ["wanted", "loan", "crossing"] (defScope s_conflicts) := ⟨rfl, rfl, rfl, by decide +kernel, rfl, by decide +kernel, by decide +kernel⟩
abbrev s_l_tape : Stmt := top 6
abbrev N_l_tape : List Str := ["script", "numbers", "total", "cell", "rest", "k"]
theorem sc_l_tape : FnScope N_l_tape ["script"] (defScope s_l_tape) := ⟨rfl, rfl, rfl, by decide +kernel, rfl, by decide +kernel, by decide +kernel⟩
abbrev s_l_next : Stmt := top 7
abbrev N_l_next : List Str := ["tape", "many", "at"]
theorem sc_l_next : FnScope N_l_next ["tape", "many"] (defScope s_l_next) := ⟨rfl, rfl, rfl, by decide +kernel, rfl, by decide +kernel, by decide +kernel⟩
abbrev s_l_steps : Stmt := top 8
abbrev N_l_steps : List Str := ["tape", "many", "fields", "k"]
theorem sc_l_steps : FnScope N_l_steps ["tape", "many", "fields"] (defScope s_l_steps) := ⟨rfl, rfl, rfl, by decide +kernel, rfl, by decide +kernel, by decide +kernel⟩
abbrev s_l_due : Stmt := top 9
abbrev N_l_due : List Str := ["mode", "place", "loan", "crossing", "first", "second"]
theorem sc_l_due : FnScope N_l_due ["mode", "place", "loan", "crossing"] (defScope s_l_due) := ⟨rfl, rfl, rfl, by decide +kernel, rfl, by decide +kernel, by decide +kernel⟩
abbrev s_l_is : Stmt := top 10
abbrev N_l_is : List Str := ["answer", "due"]
theorem sc_l_is : FnScope N_l_is ["answer", "due"] (defScope s_l_is) := ⟨rfl, rfl, rfl, by decide +kernel, rfl, by decide +kernel, by decide +kernel⟩
abbrev s_law : Stmt := top 11
abbrev N_law : List Str := ["script", "tape", "k", "cross", "steps", "crossing", "lent", "place", "mode", "kind", "due"]
theorem sc_law : FnScope N_law ["script"] (defScope s_law) := ⟨rfl, rfl, rfl, by decide +kernel, rfl, by decide +kernel, by decide +kernel⟩

/-! ### the tape: a list [place, numbers, total] -/
def Tape (H : Hp) (t n : Addr) : Prop := ∃ (at_ tot : Int) (ns : List Int), H t = some (.lst [.int at_, .ref n, .int tot]) ∧ H n = some (.lst (ns.map V.int)) ∧ 0 ≤ at_
theorem Tape.keep {H H' : Hp} {t n : Addr} {S : List Addr} (T : Tape H t n) (e : Ext S H H') (h1 : t ∉ S) (h2 : n ∉ S) : Tape H' t n := by
  obtain ⟨x, y, ns, e2, e3, e4⟩ := T
  exact ⟨x, y, ns, e.keep _ _ e2 h1, e.keep _ _ e3 h2, e4⟩
theorem Tape.same {H H' : Hp} {t n : Addr} (T : Tape H t n) (e : Ext [] H H') : Tape H' t n := T.keep e (by simp) (by simp)
theorem Tape.ne {H : Hp} {t n p : Addr} (T : Tape H t n) (h : H p = none) : p ≠ t ∧ p ≠ n := by
  obtain ⟨_, _, _, e1, e2, _⟩ := T
  exact ⟨(ne_of_none e1 h).symm, (ne_of_none e2 h).symm⟩
theorem Tape.apart {H : Hp} {t n : Addr} (T : Tape H t n) : n ≠ t := fun z => by
  obtain ⟨_, _, ns, e1, e2, _⟩ := T
  rw [z, e1] at e2
  have z2 := HO.lst.inj (Option.some.inj e2)
  match ns, z2 with
  | _ :: _ :: _, z3 => simp at z3
/-- a list that was not there before is changed -/
theorem Tape.new {H H' : Hp} {t n p : Addr} (T : Tape H t n) (h1 : p ≠ t ∧ p ≠ n) (e : Ext [p] H H') : Tape H' t n :=
  T.keep e (by simpa using h1.1.symm) (by simpa using h1.2.symm)
def sp_l_tape (K : PySem.W.Frag) : Sp := fun vs H Q _ => ∃ (a : Addr) (ns : List Int), vs = [.ref a] ∧ SqL K H a (ns.map V.int) ∧ ∀ t n H', Ext [] H H' → H t = none → Tape H' t n → Q (.ref t) H'
def sp_l_next (_ : PySem.W.Frag) : Sp := fun vs H Q _ => ∃ (t n : Addr) (m : Int), vs = [.ref t, .int m] ∧ Tape H t n ∧ 0 < m ∧ ∀ r H', 0 ≤ r → r < m → Ext [t] H H' → Tape H' t n → Q (.int r) H'
/-- an item of a written list, at a drawn place -/
theorem p_next {K : PySem.W.Frag} {H : Hp} {Q : VK} {σ : St} {xs : List V} {t n : Addr} {m : Int} {i : Nat} (hv : σ[i]? = some (some (.ref t))) (T : Tape H t n) (hm : 0 < m) (hl : m = xs.length) (hz : xs.length ≤ 1000)
    (q : ∀ v H', v ∈ xs → Ext [t] H H' → Tape H' t n → Q v H') :
    NewL xs H fun x H1 => tCall (sp_l_next K) [] E0 (tCons (tVar i) (tCons (tC (.int m)) tNil)) σ H1 fun y H2 => rIx K x y H2 Q := by
  refine w_newL (le_line hz) fun p H1 hp x1 e1 => ?_
  refine w_call ?_
  refine w_cons (w_var hv (w_cons (w_c (w_nil ?_))))
  refine ⟨t, n, m, rfl, T.same x1, hm, fun r H2 r0 r1 x2 T2 => ?_⟩
  have hr : r.toNat < xs.length := by omega
  refine x_l (x2.keep p _ e1 (by simpa using (T.ne hp).1)) (at_of (j := r.toNat) (by omega) (List.getElem?_eq_getElem hr)) ?_
  exact q _ _ (List.getElem_mem hr) (x1.any.trans x2) T2
/-! ### places -/
abbrev Pl := Str × List D
def Pl.d (p : Pl) : D := .tup [.str p.1, .tup p.2]
structure Pl.Ok (p : Pl) : Prop where
  sok : D.soks p.2 = true
  dep : D.deps p.2 ≤ 60
  len : p.2.length ≤ 1000
def isPre (p q : Pl) : Bool := decide (p.1 = q.1) && D.eqvs p.2 (q.2.take p.2.length)
def cv : Option Int → V
  | none => .non
  | some i => .int i
def conf (mode : Str) (p : Pl) (kind : Str) (q : Pl) (c : Option Int) : Bool :=
  if (isPre p q || isPre q p) = false then false
  else if mode = ("read" : Str) then decide (kind = ("exclusive" : Str))
  else if mode = ("store" : Str) ∧ c.isSome = true ∧ isPre p q = true then decide (c.getD 0 < (p.2.length : Int))
  else true
def sp_is_prefix (K : PySem.W.Frag) : Sp := fun vs H Q _ => ∃ (v u : V) (p q : Pl), vs = [v, u] ∧ Rp K H v p.d ∧ Rp K H u q.d ∧ p.Ok ∧ q.Ok ∧ ∀ H', Ext [] H H' → Q (.bl (isPre p q)) H'
def sp_overlap (K : PySem.W.Frag) : Sp := fun vs H Q _ => ∃ (v u : V) (p q : Pl), vs = [v, u] ∧ Rp K H v p.d ∧ Rp K H u q.d ∧ p.Ok ∧ q.Ok ∧ ∀ H', Ext [] H H' → Q (.bl (isPre p q || isPre q p)) H'
def sp_conflicts (K : PySem.W.Frag) : Sp := fun vs H Q _ => ∃ (v u : V) (mode kind : Str) (p q : Pl) (c : Option Int), vs = [v, u, cv c] ∧ Rp K H v (.tup [.str mode, p.d]) ∧ Rp K H u (.tup [.str kind, q.d]) ∧ p.Ok ∧ q.Ok ∧
  ∀ H', Ext [] H H' → Q (.bl (conf mode p kind q c)) H'
def sp_l_due (K : PySem.W.Frag) : Sp := fun vs H Q _ => ∃ (v u : V) (mode kind : Str) (p q : Pl) (c : Option Int), vs = [.str mode, v, u, cv c] ∧ Rp K H v p.d ∧ Rp K H u (.tup [.str kind, q.d]) ∧ p.Ok ∧ q.Ok ∧
  ∀ H', Ext [] H H' → Q (.bl (conf mode p kind q c)) H'
def sp_l_is (_ : PySem.W.Frag) : Sp := fun vs H Q _ => ∃ a b : Bool, vs = [.bl a, .bl b] ∧ Q (.bl (decide (a = b))) H
def sp_l_steps (K : PySem.W.Frag) : Sp := fun vs H Q _ => ∃ (t n : Addr) (m f : Int), vs = [.ref t, .int m, .int f] ∧ Tape H t n ∧ 0 ≤ m ∧ m ≤ 10 ∧ 0 ≤ f ∧ f ≤ 1 ∧
  ∀ v H' ds, Ext [t] H H' → Tape H' t n → Rp K H' v (.tup ds) → D.soks ds = true → D.deps ds = 0 → ds.length ≤ 10 → Q v H'
def sp_law (K : PySem.W.Frag) : Sp := fun vs H Q _ => ∃ (a : Addr) (ns : List Int), vs = [.ref a] ∧ SqL K H a (ns.map V.int) ∧ ns.length ≤ 63 ∧ ∀ H', Q (.bl true) H'

def t_is_prefix (K : PySem.W.Frag) : TS :=
  (tSeqJ (tAsg (tCB (rLen K) (tCons (tOp (rIx K) (tVar 0) (tC (.int 1))) tNil)) (gName 2))
    (tRet (tAndV (tOp (rEqG K) (tOp (rIx K) (tVar 0) (tC (.int 0))) (tOp (rIx K) (tVar 1) (tC (.int 0)))) (tOp (rEqG K) (tOp (rIx K) (tVar 0) (tC (.int 1))) (tSl (rSlG K) (tOp (rIx K) (tVar 1) (tC (.int 1))) tNoPart (tPart (tVar 2)))))))
def t_overlap (K : PySem.W.Frag) : TS :=
  (tRet (tOrV (tCall (sp_is_prefix K) [] E0 (tCons (tVar 0) (tCons (tVar 1) tNil))) (tCall (sp_is_prefix K) [] E0 (tCons (tVar 1) (tCons (tVar 0) tNil)))))
def t_conflicts (K : PySem.W.Frag) : TS :=
  (tSeqJ (tAsg (tOp (rIx K) (tVar 0) (tC (.int 1))) (gName 3))
    (tSeqJ (tIfS (tNot (tB (tCall (sp_overlap K) [] E0 (tCons (tVar 3) (tCons (tOp (rIx K) (tVar 1) (tC (.int 1))) tNil))))) (tRet (tC (.bl false))) tNext)
    (tSeqJ (tIfS (tTest (tOp (rEqG K) (tOp (rIx K) (tVar 0) (tC (.int 0))) (tC (.str "read")))) (tRet (tOp (rEqG K) (tOp (rIx K) (tVar 1) (tC (.int 0))) (tC (.str "exclusive")))) tNext)
    (tSeqJ (tIfS (tAnd (tTest (tOp (rEqG K) (tOp (rIx K) (tVar 0) (tC (.int 0))) (tC (.str "store")))) (tAnd (tTest (tOp rIsNN (tVar 2) (tC .non))) (tB (tCall (sp_is_prefix K) [] E0 (tCons (tVar 3) (tCons (tOp (rIx K) (tVar 1) (tC (.int 1))) tNil)))))) (tRet (tOp rLtI (tVar 2) (tCB (rLen K) (tCons (tOp (rIx K) (tVar 3) (tC (.int 1))) tNil)))) tNext)
    (tRet (tC (.bl true)))))))
def t_l_tape (K : PySem.W.Frag) : TS :=
  (tSeqJ (tAsg (tLst tNil) (gName 1))
    (tSeqJ (tAsg (tC (.int 1)) (gName 2))
    (tSeqJ (tFor (iList K (tSl (rSlG K) (tVar 0) tNoPart (tPart (tC (.int 63))))) (gName 3) (tSeqJ (tAsg (tCB rAbs (tCons (tCB rInt1 (tCons (tVar 3) tNil)) tNil)) (gName 4))
    (tSeqJ (tAsg (tOp (rAddG K) (tVar 2) (tVar 4)) (gName 2))
    (tFor (iRng1 (tCons (tC (.int 24)) tNil)) (gName 5) (tSeqJ (tDrop (tBM K "list" rAppend (tVar 1) (tCons (tOp rModI (tCB rInt1 (tCons (tVar 4) tNil)) (tC (.int 60))) tNil)))
    (tSeqJ (tAsg (tOp rDivI (tVar 4) (tC (.int 60))) (gName 4))
    (tIfS (tTest (tOp (rEqG K) (tVar 4) (tC (.int 0)))) tBreak tNext)))))))
    (tRet (tLst (tCons (tC (.int 0)) (tCons (tVar 1) (tCons (tOp rModI (tCB rInt1 (tCons (tVar 2) tNil)) (tC (.int 1000003))) tNil))))))))
def t_l_next (K : PySem.W.Frag) : TS :=
  (tSeqJ (tAsg (tOp (rIx K) (tVar 0) (tC (.int 0))) (gName 2))
    (tSeqJ (tAsg (tOp (rAddG K) (tVar 2) (tC (.int 1))) (gSub (tVar 0) (tC (.int 0)) rSetL))
    (tSeqJ (tIfS (tTest (tOp rLtI (tVar 2) (tCB (rLen K) (tCons (tOp (rIx K) (tVar 0) (tC (.int 1))) tNil)))) (tRet (tOp rModI (tCB rInt1 (tCons (tOp (rIx K) (tOp (rIx K) (tVar 0) (tC (.int 1))) (tVar 2)) tNil)) (tVar 1))) tNext)
    (tRet (tOp rModI (tOp rDivI (tOp rModI (tCB rInt1 (tCons (tOp (rAddG K) (tOp rMulI (tOp (rAddG K) (tVar 2) (tC (.int 1))) (tC (.int 48271))) (tOp rMulI (tOp (rIx K) (tVar 0) (tC (.int 2))) (tC (.int 69621)))) tNil)) (tC (.int 2147483647))) (tC (.int 11))) (tVar 1))))))
def t_l_steps (K : PySem.W.Frag) : TS :=
  (tRet (tCB (rTupOf K) (tCons (tLc (iRng1 (tCons (tVar 1) tNil)) (gName 3) tYes (tOp (rIx K) (tLst (tCons (tC (.int 0)) (tCons (tC (.int 1)) (tCons (tC (.str "?")) (tCons (tC (.str "n")) tNil))))) (tCall (sp_l_next K) [] E0 (tCons (tVar 0) (tCons (tOp (rAddG K) (tC (.int 3)) (tVar 2)) tNil)))) [3]) tNil)))
def t_l_due (K : PySem.W.Frag) : TS :=
  (tSeqJ (tAsg (tAndV (tOp (rEqG K) (tOp (rIx K) (tVar 1) (tC (.int 0))) (tOp (rIx K) (tOp (rIx K) (tVar 2) (tC (.int 1))) (tC (.int 0)))) (tOp (rEqG K) (tSl (rSlG K) (tOp (rIx K) (tOp (rIx K) (tVar 2) (tC (.int 1))) (tC (.int 1))) tNoPart (tPart (tCB (rLen K) (tCons (tOp (rIx K) (tVar 1) (tC (.int 1))) tNil)))) (tOp (rIx K) (tVar 1) (tC (.int 1))))) (gName 4))
    (tSeqJ (tAsg (tAndV (tOp (rEqG K) (tOp (rIx K) (tVar 1) (tC (.int 0))) (tOp (rIx K) (tOp (rIx K) (tVar 2) (tC (.int 1))) (tC (.int 0)))) (tOp (rEqG K) (tSl (rSlG K) (tOp (rIx K) (tVar 1) (tC (.int 1))) tNoPart (tPart (tCB (rLen K) (tCons (tOp (rIx K) (tOp (rIx K) (tVar 2) (tC (.int 1))) (tC (.int 1))) tNil)))) (tOp (rIx K) (tOp (rIx K) (tVar 2) (tC (.int 1))) (tC (.int 1))))) (gName 5))
    (tSeqJ (tIfS (tAnd (tNot (tB (tVar 4))) (tNot (tB (tVar 5)))) (tRet (tC (.bl false))) tNext)
    (tSeqJ (tIfS (tTest (tOp (rEqG K) (tVar 0) (tC (.str "read")))) (tRet (tOp (rEqG K) (tOp (rIx K) (tVar 2) (tC (.int 0))) (tC (.str "exclusive")))) tNext)
    (tSeqJ (tIfS (tAnd (tTest (tOp (rEqG K) (tVar 0) (tC (.str "store")))) (tAnd (tB (tVar 4)) (tTest (tOp rIsNN (tVar 3) (tC .non))))) (tRet (tOp rLtI (tVar 3) (tCB (rLen K) (tCons (tOp (rIx K) (tVar 1) (tC (.int 1))) tNil)))) tNext)
    (tRet (tC (.bl true))))))))
def t_l_is (K : PySem.W.Frag) : TS :=
  (tRet (tIf (tB (tVar 1)) (tOp rIsB (tVar 0) (tC (.bl true))) (tOp rIsB (tVar 0) (tC (.bl false)))))
def t_law (K : PySem.W.Frag) : TS :=
  (tSeqJ (tAsg (tCall (sp_l_tape K) [] E0 (tCons (tVar 0) tNil)) (gName 1))
    (tSeqJ (tFor (iRng1 (tCons (tC (.int 6)) tNil)) (gName 2) (tSeqJ (tAsg (tCall (sp_l_next K) [] E0 (tCons (tVar 1) (tCons (tC (.int 2)) tNil))) (gName 3))
    (tSeqJ (tAsg (tCall (sp_l_steps K) [] E0 (tCons (tVar 1) (tCons (tCall (sp_l_next K) [] E0 (tCons (tVar 1) (tCons (tC (.int 5)) tNil))) (tCons (tOp rSubI (tC (.int 1)) (tVar 3)) tNil)))) (gName 4))
    (tSeqJ (tAsg (tC .non) (gName 5))
    (tSeqJ (tIfS (tTest (tOp (rEqG K) (tVar 3) (tC (.int 1)))) (tSeqJ (tAsg (tCB (rLen K) (tCons (tVar 4) tNil)) (gName 5))
    (tAsg (tOp (rAddG K) (tOp (rAddG K) (tVar 4) (tTupK K (tCons (tC (.str "^")) tNil))) (tCall (sp_l_steps K) [] E0 (tCons (tVar 1) (tCons (tCall (sp_l_next K) [] E0 (tCons (tVar 1) (tCons (tC (.int 3)) tNil))) (tCons (tC (.int 1)) tNil))))) (gName 4))) tNext)
    (tSeqJ (tAsg (tTupK K (tCons (tOp (rIx K) (tLst (tCons (tC (.str "v")) (tCons (tC (.str "w")) tNil))) (tCall (sp_l_next K) [] E0 (tCons (tVar 1) (tCons (tC (.int 2)) tNil)))) (tCons (tVar 4) tNil))) (gName 6))
    (tSeqJ (tAsg (tTupK K (tCons (tOp (rIx K) (tLst (tCons (tC (.str "v")) (tCons (tC (.str "w")) tNil))) (tCall (sp_l_next K) [] E0 (tCons (tVar 1) (tCons (tC (.int 2)) tNil)))) (tCons (tSl (rSlG K) (tOp (rIx K) (tVar 6) (tC (.int 1))) tNoPart (tPart (tCall (sp_l_next K) [] E0 (tCons (tVar 1) (tCons (tOp (rAddG K) (tCB (rLen K) (tCons (tVar 4) tNil)) (tC (.int 1))) tNil))))) tNil))) (gName 7))
    (tSeqJ (tIfS (tTest (tOp (rEqG K) (tCall (sp_l_next K) [] E0 (tCons (tVar 1) (tCons (tC (.int 2)) tNil))) (tC (.int 0)))) (tAsg (tTupK K (tCons (tOp (rIx K) (tVar 7) (tC (.int 0))) (tCons (tOp (rAddG K) (tOp (rIx K) (tVar 7) (tC (.int 1))) (tCall (sp_l_steps K) [] E0 (tCons (tVar 1) (tCons (tCall (sp_l_next K) [] E0 (tCons (tVar 1) (tCons (tC (.int 3)) tNil))) (tCons (tOp rSubI (tC (.int 1)) (tVar 3)) tNil))))) tNil))) (gName 7)) tNext)
    (tFor (iList K (tLst (tCons (tC (.str "read")) (tCons (tC (.str "write")) (tCons (tC (.str "move")) (tCons (tC (.str "store")) tNil)))))) (gName 8) (tFor (iList K (tLst (tCons (tC (.str "shared")) (tCons (tC (.str "exclusive")) tNil)))) (gName 9) (tSeqJ (tAsg (tCall (sp_l_due K) [] E0 (tCons (tVar 8) (tCons (tVar 7) (tCons (tTupK K (tCons (tVar 9) (tCons (tVar 6) tNil))) (tCons (tVar 5) tNil))))) (gName 10))
    (tIfS (tNot (tB (tCall (sp_l_is K) [] E0 (tCons (tCall (sp_conflicts K) [] E0 (tCons (tTupK K (tCons (tVar 8) (tCons (tVar 7) tNil))) (tCons (tTupK K (tCons (tVar 9) (tCons (tVar 6) tNil))) (tCons (tVar 5) tNil)))) (tCons (tVar 10) tNil))))) (tRet (tC (.bl false))) tNext))))))))))))
    (tRet (tC (.bl true)))))

section
variable {K : PySem.W.Frag}
abbrev bd (Q : VK) : Ends := { nx := fun _ H' => Q .non H', rt := Q }
theorem Pl.Ok.cut {p : Pl} (h : p.Ok) {n : Int} (hn : 0 ≤ n) : (D.tup (cutD p.2 none (some n))).sok = true ∧ (D.tup (cutD p.2 none (some n))).dep ≤ 64 := by
  rw [cut_to _ hn]
  exact ⟨D.soks_take _ h.sok, Nat.le_trans (Nat.succ_le_succ (D.deps_take _ _)) (by have := h.dep; omega)⟩
theorem Pl.Ok.tup {p : Pl} (h : p.Ok) : (D.tup p.2).sok = true ∧ (D.tup p.2).dep ≤ 64 :=
  ⟨h.sok, by have := h.dep; show D.deps p.2 + 1 ≤ 64; omega⟩
theorem pure_is_prefix (vs : List V) (H : Hp) (Q : VK) (E : XK) (h : sp_is_prefix K vs H Q E) : t_is_prefix K (bd Q) (start N_is_prefix vs) H := by
  obtain ⟨v, u, p, q, rfl, hv, hu, okp, okq, k⟩ := h
  show t_is_prefix K (bd Q) [some v, some u, none] H
  unfold t_is_prefix
  unfold Pl.d at hv hu
  walk_at "go"
  refine w_iteD (fun e => ?_) (fun e => ?_)
  · walk_at "go"
    have c := okq.cut (n := (p.2.length : Int)) (by omega)
    obtain ⟨s1, s2⟩ := okp.tup
    obtain ⟨s3, s4⟩ := c
    refine' e_D ?k1 ?k2 ?k3 ?k4 ?k5 ?k6 ?_
    (case k1 => walk_at "rp")
    (case k2 => walk_at "rp")
    (case k3 => exact s1)
    (case k4 => exact s2)
    (case k5 => exact s3)
    (case k6 => exact s4)
    have z : D.eqv (.tup p.2) (.tup (cutD q.2 none (some (p.2.length : Int)))) = isPre p q := by
      rw [cut_to _ (by omega)]
      simp [isPre, e, D.eqv]
    rw [z]
    exact k _ (by assumption)
  · have z : false = isPre p q := by simp [isPre, e]
    rw [z]
    exact k _ Ext.refl
theorem pure_overlap (vs : List V) (H : Hp) (Q : VK) (E : XK) (h : sp_overlap K vs H Q E) : t_overlap K (bd Q) (start N_overlap vs) H := by
  obtain ⟨v, u, p, q, rfl, hv, hu, okp, okq, k⟩ := h
  show t_overlap K (bd Q) [some v, some u] H
  unfold t_overlap
  walk_at "go"
  refine ⟨v, u, p, q, rfl, hv, hu, okp, okq, fun H' e => ?_⟩
  walk_at "go"
  refine w_ite (fun c => ?_) (fun c => ?_)
  · have z := k H' e
    rw [c] at z
    exact z
  · walk_at "go"
    refine ⟨u, v, q, p, rfl, by walk_at "rp", by walk_at "rp", okq, okp, fun H'' e' => ?_⟩
    have z := k H'' (e.trans e')
    rw [c] at z
    exact z
theorem cv_non {c : Option Int} : decide (cv c = .non) = !c.isSome := by cases c <;> simp [cv]
theorem pure_conflicts (vs : List V) (H : Hp) (Q : VK) (E : XK) (h : sp_conflicts K vs H Q E) : t_conflicts K (bd Q) (start N_conflicts vs) H := by
  obtain ⟨v, u, mode, kind, p, q, c, rfl, hv, hu, okp, okq, k⟩ := h
  show t_conflicts K (bd Q) [some v, some u, some (cv c), none] H
  unfold t_conflicts
  walk_at "go"
  refine ⟨_, _, p, q, rfl, by walk_at "rp", by walk_at "rp", okp, okq, fun H1 e1 => ?_⟩
  walk_at "go"
  refine w_ite (fun b => ?_) (fun b => ?_)
  · walk_at "go"
    have z : false = conf mode p kind q c := by
      simp only [Bool.not_eq_true'] at b
      simp [conf, b]
    rw [z]
    exact k _ e1
  walk_at "go"
  have b' : (isPre p q || isPre q p) = true := by
    revert b
    cases (isPre p q || isPre q p) <;> simp
  refine w_iteD (fun m => ?_) (fun m => ?_)
  · walk_at "go"
    have z : decide (kind = ("exclusive" : Str)) = conf mode p kind q c := by simp [conf, b', m]
    rw [z]
    exact k _ e1
  walk_at "go"
  refine w_iteD (fun m2 => ?_) (fun m2 => ?_)
  · walk_at "go"
    rw [cv_non, Bool.not_not]
    refine w_ite (fun m3 => ?_) (fun m3 => ?_)
    · walk_at "go"
      refine ⟨_, _, p, q, rfl, by walk_at "rp", by walk_at "rp", okp, okq, fun H2 e2 => ?_⟩
      walk_at "go"
      refine w_ite (fun m4 => ?_) (fun m4 => ?_)
      · obtain ⟨i, rfl⟩ := Option.isSome_iff_exists.mp m3
        unfold Pl.d at *
        dsimp only [cv]
        walk_at "go"
        have z : decide (i < (p.2.length : Int)) = conf mode p kind q (some i) := by
          unfold conf
          rw [if_neg (by rw [b']; decide), if_neg m, if_pos ⟨m2, m3, m4⟩]
          rfl
        rw [z]
        exact k _ (e1.trans e2)
      · walk_at "go"
        have z : true = conf mode p kind q c := by
          unfold conf
          rw [if_neg (by rw [b']; decide), if_neg m, if_neg (by rw [m4]; simp)]
        rw [z]
        exact k _ (e1.trans e2)
    · rw [if_neg (by decide)]
      walk_at "go"
      have z : true = conf mode p kind q c := by
        unfold conf
        rw [if_neg (by rw [b']; decide), if_neg m, if_neg (by rw [m3]; simp)]
      rw [z]
      exact k _ e1
  · rw [if_neg (by decide)]
    walk_at "go"
    have z : true = conf mode p kind q c := by
      unfold conf
      rw [if_neg (by rw [b']; decide), if_neg m, if_neg (by simp [m2])]
    rw [z]
    exact k _ e1
theorem pure_l_next (vs : List V) (H : Hp) (Q : VK) (E : XK) (h : sp_l_next K vs H Q E) : t_l_next K (bd Q) (start N_l_next vs) H := by
  obtain ⟨t, n, m, rfl, T, hm, k⟩ := h
  have hn := T.apart
  obtain ⟨at_, tot, ns, e1, e2, e3⟩ := T
  show t_l_next K (bd Q) [some (.ref t), some (.int m), none] H
  unfold t_l_next
  walk_at "go"
  rename_i H1 x1 l1
  have l2 := x1.keep n _ e2 (by simpa using hn)
  have T1 : Tape H1 t n := ⟨at_ + 1, tot, ns, l1, l2, by omega⟩
  rw [List.length_map]
  refine w_iteD (fun c => ?_) (fun c => ?_)
  · obtain ⟨z, hz, ez⟩ := atI_int e3 c
    walk_at "go"
    refine x_l l2 ez ?_
    walk_at "go"
    exact k _ _ (Int.emod_nonneg _ (by omega)) (Int.emod_lt_of_pos _ hm) x1 T1
  · walk_at "go"
    exact k _ _ (Int.emod_nonneg _ (by omega)) (Int.emod_lt_of_pos _ hm) x1 T1
theorem pure_l_is (vs : List V) (H : Hp) (Q : VK) (E : XK) (h : sp_l_is K vs H Q E) : t_l_is K (bd Q) (start N_l_is vs) H := by
  obtain ⟨a, b, rfl, k⟩ := h
  show t_l_is K (bd Q) [some (.bl a), some (.bl b)] H
  unfold t_l_is
  walk_at "go"
  cases b
  · refine w_iteF rfl ?_
    walk_at "go"
    exact k
  · refine w_iteT rfl ?_
    walk_at "go"
    exact k
theorem pure_l_due (vs : List V) (H : Hp) (Q : VK) (E : XK) (h : sp_l_due K vs H Q E) : t_l_due K (bd Q) (start N_l_due vs) H := by
  obtain ⟨v, u, mode, kind, p, q, c, rfl, hv, hu, okp, okq, k⟩ := h
  show t_l_due K (bd Q) [some (.str mode), some v, some u, some (cv c), none, none] H
  unfold t_l_due
  obtain ⟨s1, s2⟩ := okp.tup
  obtain ⟨s3, s4⟩ := okq.tup
  obtain ⟨s5, s6⟩ := okp.cut (n := (q.2.length : Int)) (by omega)
  obtain ⟨s7, s8⟩ := okq.cut (n := (p.2.length : Int)) (by omega)
  unfold Pl.d at *
  refine ⟨fun σ H' => σ = [some (.str mode), some v, some u, some (cv c), some (.bl (isPre p q)), none] ∧ Ext [] H H', ?_, ?_⟩
  · walk_at "go"
    refine w_iteD (fun e => ?_) (fun e => ?_)
    · walk_at "go"
      refine' e_D ?k1 ?k2 ?k3 ?k4 ?k5 ?k6 ?_
      (case k1 => walk_at "rp")
      (case k2 => walk_at "rp")
      (case k3 => exact s7)
      (case k4 => exact s8)
      (case k5 => exact s1)
      (case k6 => exact s2)
      walk_at "go"
      refine ⟨?_, by assumption⟩
      have z : D.eqv (.tup (cutD q.2 none (some (p.2.length : Int)))) (.tup p.2) = isPre p q := by
        rw [cut_to _ (by omega), D.eqv_symm]
        simp [isPre, e, D.eqv]
      rw [z]
    · walk_at "go"
      refine ⟨?_, Ext.refl⟩
      have z : false = isPre p q := by simp [isPre, e]
      rw [z]
  rintro _ H1 ⟨rfl, e1⟩
  refine ⟨fun σ H' => σ = [some (.str mode), some v, some u, some (cv c), some (.bl (isPre p q)), some (.bl (isPre q p))] ∧ Ext [] H H', ?_, ?_⟩
  · walk_at "go"
    refine w_iteD (fun e => ?_) (fun e => ?_)
    · walk_at "go"
      refine' e_D ?k1 ?k2 ?k3 ?k4 ?k5 ?k6 ?_
      (case k1 => walk_at "rp")
      (case k2 => walk_at "rp")
      (case k3 => exact s5)
      (case k4 => exact s6)
      (case k5 => exact s3)
      (case k6 => exact s4)
      walk_at "go"
      refine ⟨?_, e1.trans (by assumption)⟩
      have z : D.eqv (.tup (cutD p.2 none (some (q.2.length : Int)))) (.tup q.2) = isPre q p := by
        rw [cut_to _ (by omega), D.eqv_symm]
        simp [isPre, e, D.eqv]
      rw [z]
    · walk_at "go"
      refine ⟨?_, e1⟩
      have z : false = isPre q p := by simp [isPre, show ¬ q.1 = p.1 from fun z => e z.symm]
      rw [z]
  rintro _ H2 ⟨rfl, e2⟩
  have k := k H2 e2
  unfold conf at k
  generalize isPre p q = b1 at k ⊢
  generalize isPre q p = b2 at k ⊢
  cases b1 <;> cases b2
  · walk_at "go"
    simpa using k
  all_goals
    walk_at "go"
    refine w_iteD (fun m => ?_) (fun m => ?_)
    · walk_at "go"
      simpa [m] using k
    walk_at "go"
    refine w_iteD (fun m2 => ?_) (fun m2 => ?_)
    · have s : ¬ ("store" : Str) = "read" := by decide +kernel
      cases c <;> dsimp only [cv] <;> walk_at "go" <;> simpa [s, m2] using k
    · rw [if_neg (by decide)]
      walk_at "go"
      simpa [m, m2] using k
theorem line_of {n : Nat} (h : n ≤ 100000) : n < sizeLine := Nat.lt_of_le_of_lt h (by decide)
theorem D.deps_one {ds : List D} {d : D} (h : D.deps ds = 0) (h2 : d.dep = 0) : D.deps (ds ++ [d]) = 0 := by
  rw [D.deps_append, h]
  simp [D.deps, h2]
theorem D.soks_one {ds : List D} {d : D} (h : D.soks ds = true) (h2 : d.sok = true) : D.soks (ds ++ [d]) = true := D.soks_append h (by simp [D.soks, h2])
theorem pure_l_steps (vs : List V) (H : Hp) (Q : VK) (E : XK) (h : sp_l_steps K vs H Q E) : t_l_steps K (bd Q) (start N_l_steps vs) H := by
  obtain ⟨t, n, m, f, rfl, T, hm0, hm, hf0, hf1, k⟩ := h
  show t_l_steps K (bd Q) [some (.ref t), some (.int m), some (.int f), none] H
  unfold t_l_steps
  walk_at "go"
  intro L hL
  have hLt := T.ne hL
  refine c_rng (fun i H' acc => ∃ ds, RpAll K H' acc ds ∧ D.soks ds = true ∧ D.deps ds = 0 ∧ ds.length = i ∧ Ext [t] H H' ∧ Tape H' t n) hL ?_ ?_ ?_
  · intro H1 e1 l1
    exact ⟨[], .nil, rfl, rfl, rfl, e1.any, T.same e1⟩
  · rintro i H1 acc hi e1 e2 ⟨ds, hr, d1, d2, d3, x1, T1⟩
    walk_at "go"
    refine w_newL (by walk_at "len") (fun p H2 hp x2 e3 => ?_)
    have hpt := T1.ne hp
    have hpL : p ≠ L := (ne_of_none e1 hp).symm
    walk_at "go"
    refine ⟨t, n, _, rfl, T1.same x2, by omega, fun r H3 r0 r1 x3 T3 => ?_⟩
    have e4 := x3.keep p _ e3 (by simpa using hpt.1)
    obtain ⟨v, d, ev, hv, s1, s2⟩ : ∃ v d, atI [V.int 0, V.int 1, V.str "?", V.str "n"] r = some v ∧ (∀ H, Rp K H v d) ∧ d.sok = true ∧ d.dep = 0 := by
      have c : r = 0 ∨ r = 1 ∨ r = 2 ∨ r = 3 := by omega
      rcases c with rfl | rfl | rfl | rfl
      · exact ⟨_, .int 0, rfl, fun _ => .int _, rfl, rfl⟩
      · exact ⟨_, .int 1, rfl, fun _ => .int _, rfl, rfl⟩
      · exact ⟨_, .str "?", rfl, fun _ => .str _, by decide +kernel, rfl⟩
      · exact ⟨_, .str "n", rfl, fun _ => .str _, by decide +kernel, rfl⟩
    refine x_l e4 ev ?_
    refine turn1 (acc := acc) (x3.keep L _ (x2.same _ _ e1) (by simpa using hLt.1)) e2 (line_of (by omega)) (fun H4 x4 e5 => ?_)
    have xx : Ext [t] H H3 := (x1.more x2).trans x3
    exact ⟨ds ++ [d], (((hr.ts x2.ts).ts x3.ts).ts x4.ts).append (.cons (hv _) .nil), D.soks_one d1 s1, D.deps_one d2 s2, by simp [d3], xx.out hL x4, T3.new hLt x4⟩
  · rintro H1 acc e1 ⟨ds, hr, d1, d2, d3, x1, T1⟩
    walk_at "go"
    refine b_tupl e1 hr (fun v H2 x2 r2 => ?_)
    exact k v H2 ds (x1.more x2) (T1.same x2) r2 d1 d2 (by omega)
theorem pure_l_tape (vs : List V) (H : Hp) (Q : VK) (E : XK) (h : sp_l_tape K vs H Q E) : t_l_tape K (bd Q) (start N_l_tape vs) H := by
  obtain ⟨a, ns, rfl, hS, k⟩ := h
  show t_l_tape K (bd Q) [some (.ref a), none, none, none, none, none] H
  unfold t_l_tape
  walk_at "go"
  refine w_newL (by walk_at "len") (fun p H1 hp x1 e1 => ?_)
  walk_at "go"
  refine s_L (x1.same.seq hS) (fun q H2 hq x2 e2 => ?_)
  have hqp : q ≠ p := (ne_of_none e1 hq).symm
  obtain ⟨ks, ek, lk⟩ : ∃ ks : List Int, cutD (ns.map V.int) none (some 63) = ks.map V.int ∧ ks.length ≤ 63 := by
    refine ⟨ns.take 63, ?_, by simp; omega⟩
    rw [cut_to _ (by omega)]
    simp
  rw [ek] at e2
  refine w_exl (SqL.of e2) ?_
  have hq0 := x1.free hq (by simp)
  refine f_lst (xs := ks.map V.int) (fun i σ H' => ∃ (ms : List Int) (tot : Int) (v3 v4 v5 : Option V), σ = [some (.ref a), some (.ref p), some (.int tot), v3, v4, v5] ∧ Ext [] H H' ∧ H' p = some (.lst (ms.map V.int)) ∧ H' q = some (.lst (ks.map V.int)) ∧ ms.length ≤ 24 * i) ?_ ?_ ?_ ?_
  · exact ⟨[], 1, none, none, none, rfl, x1.trans x2, x2.same _ _ e1, e2, by simp⟩
  · rintro i σ H' _ ⟨ms, tot, v3, v4, v5, rfl, x, ep, eq, l⟩
    exact SqL.of eq
  · rintro i v σ H' hi ⟨ms, tot, v3, v4, v5, rfl, x, ep, eq, l⟩
    obtain ⟨z, rfl⟩ : ∃ z, v = V.int z := by
      rw [List.getElem?_map] at hi
      obtain ⟨z, _, e⟩ := Option.map_eq_some_iff.mp hi
      exact ⟨z, e.symm⟩
    have hi2 : i < ks.length := by
      have := (List.getElem?_eq_some_iff.mp hi).1
      simpa using this
    walk_at "go"
    refine f_rng (fun j σ H'' => ∃ (ms : List Int) (tot rest : Int) (v3 v5 : Option V), σ = [some (.ref a), some (.ref p), some (.int tot), v3, some (.int rest), v5] ∧ Ext [] H H'' ∧ H'' p = some (.lst (ms.map V.int)) ∧ H'' q = some (.lst (ks.map V.int)) ∧ ms.length ≤ 24 * i + j) ?_ ?_ ?_
    · exact ⟨ms, _, _, _, _, rfl, x, ep, eq, by omega⟩
    · rintro j σ H3 hj ⟨ms, tot, rest, v3, v5, rfl, x, ep, eq, l⟩
      walk_at "go"
      refine ⟨ty_l ep, ?_⟩
      walk_at "go"
      refine m_app ep (line_of (by rw [List.length_map]; omega)) (fun H4 x4 e4 => ?_)
      have e4' : H4 p = some (.lst ((ms ++ [rest % 60]).map V.int)) := by rw [List.map_append]; exact e4
      have eq4 := x4.keep q _ eq (by simpa using hqp)
      have xx : Ext [] H H4 := x.out hp x4
      walk_at "go"
      refine w_iteD (fun c => ?_) (fun c => ?_)
      · walk_at "go"
        exact ⟨_, _, _, _, _, rfl, xx, e4', eq4, by rw [List.length_append]; simp; omega⟩
      · walk_at "go"
        exact ⟨_, _, _, _, _, rfl, xx, e4', eq4, by rw [List.length_append]; simp; omega⟩
    · rintro σ H3 ⟨ms, tot, rest, v3, v5, rfl, x, ep, eq, l⟩
      exact ⟨_, _, _, _, _, rfl, x, ep, eq, by omega⟩
  · rintro σ H3 ⟨ms, tot, v3, v4, v5, rfl, x, ep, eq, l⟩
    walk_at "go"
    refine w_newL (by walk_at "len") (fun t H4 ht x4 e4 => ?_)
    exact k t p H4 (x.trans x4) (x.free ht (by simp)) ⟨0, _, ms, e4, x4.same _ _ ep, by omega⟩
theorem pick2 {r : Int} (h0 : 0 ≤ r) (h1 : r < 2) (a b : Str) : ∃ s : Str, atI [V.str a, V.str b] r = some (.str s) := by
  have c : r = 0 ∨ r = 1 := by omega
  rcases c with rfl | rfl
  · exact ⟨_, rfl⟩
  · exact ⟨_, rfl⟩
theorem pure_law (vs : List V) (H : Hp) (Q : VK) (E : XK) (h : sp_law K vs H Q E) : t_law K (bd Q) (start N_law vs) H := by
  obtain ⟨a, ns, rfl, hS, hl, k⟩ := h
  show t_law K (bd Q) [some (.ref a), none, none, none, none, none, none, none, none, none, none] H
  unfold t_law
  walk_at "go"
  refine ⟨a, ns, rfl, hS, fun t n H1 x1 ht T1 => ?_⟩
  walk_at "go"
  refine f_rng (fun i σ H' => ∃ (w : List (Option V)), σ = some (.ref a) :: some (.ref t) :: w ∧ w.length = 9 ∧ Tape H' t n) ⟨_, rfl, rfl, T1⟩ ?_ ?_
  · rintro i σ H2 hi ⟨w, rfl, hw, T2⟩
    match w, hw with
    | [w2, w3, w4, w5, w6, w7, w8, w9, w10], _ =>
    walk_at "gs"
    refine ⟨t, n, _, rfl, T2, by omega, fun r1 H3 a0 a1 x3 T3 => ?_⟩
    walk_at "gs"
    refine ⟨t, n, _, rfl, T3, by omega, fun r2 H4 b0 b1 x4 T4 => ?_⟩
    walk_at "gs"
    refine ⟨t, n, _, _, rfl, T4, by omega, by omega, by omega, by omega, fun v5 H5 ds x5 T5 R5 s5 d5 l5 => ?_⟩
    walk_at "gs"
    refine ⟨fun σ H' => ∃ (c : Option Int) (v : V) (ds : List D), σ = [some (.ref a), some (.ref t), some (.int (0 + i)), some (.int r1), some v, some (cv c), w6, w7, w8, w9, w10] ∧ Tape H' t n ∧ Rp K H' v (.tup ds) ∧ D.soks ds = true ∧ D.deps ds = 0 ∧ ds.length ≤ 21, ?_, ?_⟩
    · walk_at "go"
      refine w_iteD (fun c => ?_) (fun c => ?_)
      · walk_at "go"
        rename_i v7 H7 x7 R7 v8 H8 x8 R8
        refine ⟨t, n, _, rfl, (T5.same x7).same x8, by omega, fun r3 H9 c0 c1 x9 T9 => ?_⟩
        walk_at "go"
        refine ⟨t, n, _, _, rfl, T9, by omega, by omega, by omega, by omega, fun v10 H10 es x10 T10 R10 s10 d10 l10 => ?_⟩
        walk_at "go"
        rename_i v11 H11 x11 R11
        refine ⟨some (ds.length : Int), _, _, rfl, T10.same x11, R11, D.soks_append (D.soks_one s5 (by decide +kernel)) s10, ?_, by simp; omega⟩
        rw [D.deps_append, D.deps_one d5 rfl, d10]
        rfl
      · walk_at "go"
        exact ⟨none, _, ds, rfl, T5, R5, s5, d5, by omega⟩
    rintro _ H6 ⟨c, v6, es, rfl, T6, R6, s6, d6, l6⟩
    walk_at "gs"
    refine p_next rfl T6 (by omega) rfl (by simp) (fun v H7 hv x7 T7 => ?_)
    obtain ⟨nm, rfl⟩ : ∃ s, v = .str s := by simp at hv; rcases hv with rfl | rfl <;> exact ⟨_, rfl⟩
    walk_at "gs"
    rename_i v8 H8 x8 R8
    refine p_next rfl (T7.same x8) (by omega) rfl (by simp) (fun v H9 hv x9 T9 => ?_)
    obtain ⟨nm2, rfl⟩ : ∃ s, v = .str s := by simp at hv; rcases hv with rfl | rfl <;> exact ⟨_, rfl⟩
    walk_at "gs"
    refine ⟨t, n, _, rfl, T9, by omega, fun r4 H10 f0 f1 x10 T10 => ?_⟩
    walk_at "gs"
    rename_i v11 H11 x11 R11 v12 H12 x12 R12
    rw [cut_to _ f0] at R12
    -- the place: drawn once more, or not
    refine ⟨fun σ H' => ∃ (v : V) (q : Pl), σ = [some (.ref a), some (.ref t), some (.int (0 + i)), some (.int r1), some v6, some (cv c), some v8, some v, w8, w9, w10] ∧ Tape H' t n ∧ Rp K H' v q.d ∧ q.Ok ∧ Rp K H' v8 (Pl.d (nm, es)), ?_, ?_⟩
    · have okq : Pl.Ok (nm2, es.take r4.toNat) := ⟨D.soks_take _ s6, by have := D.deps_take es r4.toNat; show D.deps (es.take r4.toNat) ≤ 60; omega, by show (es.take r4.toNat).length ≤ 1000; rw [List.length_take]; omega⟩
      have R8' : Rp K H12 v8 (Pl.d (nm, es)) := R8.ts (((x9.ts.trans x10.ts).trans x11.ts).trans x12.ts)
      walk_at "go"
      refine ⟨t, n, _, rfl, (T10.same x11).same x12, by omega, fun r5 H13 g0 g1 x13 T13 => ?_⟩
      walk_at "go"
      refine w_iteD (fun e => ?_) (fun e => ?_)
      · walk_at "go"
        refine ⟨t, n, _, rfl, T13, by omega, fun r6 H14 j0 j1 x14 T14 => ?_⟩
        walk_at "go"
        refine ⟨t, n, _, _, rfl, T14, by omega, by omega, by omega, by omega, fun v15 H15 fs x15 T15 R15 s15 d15 l15 => ?_⟩
        walk_at "go"
        rename_i v17 H17 x17 R17
        refine ⟨_, (nm2, es.take r4.toNat ++ fs), rfl, (T15.same (by assumption)).same x17, R17, ⟨D.soks_append okq.sok s15, ?_, ?_⟩, R8'.ts (((x13.ts.trans x14.ts).trans x15.ts).trans (Tst.trans (Ext.ts (by assumption)) x17.ts))⟩
        · have := okq.dep
          show D.deps (_ ++ _) ≤ 60
          rw [D.deps_append, d15]
          have h2 : D.deps (es.take r4.toNat) ≤ 60 := this
          omega
        · show (_ ++ _ : List D).length ≤ 1000
          rw [List.length_append, List.length_take]
          omega
      · walk_at "go"
        exact ⟨_, (nm2, es.take r4.toNat), rfl, T13, R12.ts x13.ts, okq, R8'.ts x13.ts⟩
    rintro _ H13 ⟨v13, q, rfl, T13, Rq, okq, Rp1⟩
    have okp : Pl.Ok (nm, es) := ⟨s6, by show D.deps es ≤ 60; omega, by show es.length ≤ 1000; omega⟩
    -- the four modes, the two kinds
    walk_at "go"
    refine w_newL (by walk_at "len") (fun L1 H14 hL1 x14 e14 => ?_)
    refine w_exl (SqL.of e14) ?_
    refine f_lst (xs := [V.str "read", V.str "write", V.str "move", V.str "store"]) (fun _ σ H' => ∃ w8 w9 w10, σ = [some (.ref a), some (.ref t), some (.int (0 + i)), some (.int r1), some v6, some (cv c), some v8, some v13, w8, w9, w10] ∧ Ext [] H13 H' ∧ H' L1 = some (.lst [V.str "read", V.str "write", V.str "move", V.str "store"])) ⟨w8, w9, w10, rfl, x14, e14⟩ ?_ ?_ ?_
    · rintro j σ H' _ ⟨_, _, _, _, _, e⟩
      exact SqL.of e
    · rintro j v σ H15 hv ⟨w8, w9, w10, rfl, x15, e15⟩
      obtain ⟨mode, rfl⟩ : ∃ s, v = .str s := by
        have hm := List.mem_of_getElem? hv
        simp at hm
        rcases hm with rfl | rfl | rfl | rfl <;> exact ⟨_, rfl⟩
      walk_at "go"
      refine w_newL (by walk_at "len") (fun L2 H16 hL2 x16 e16 => ?_)
      refine w_exl (SqL.of e16) ?_
      refine f_lst (xs := [V.str "shared", V.str "exclusive"]) (fun _ σ H' => ∃ w9 w10, σ = [some (.ref a), some (.ref t), some (.int (0 + i)), some (.int r1), some v6, some (cv c), some v8, some v13, some (.str mode), w9, w10] ∧ Ext [] H13 H' ∧ H' L1 = some (.lst [V.str "read", V.str "write", V.str "move", V.str "store"]) ∧ H' L2 = some (.lst [V.str "shared", V.str "exclusive"])) ⟨w9, w10, rfl, x15.trans x16, x16.same _ _ e15, e16⟩ ?_ ?_ ?_
      · rintro j σ H' _ ⟨_, _, _, _, _, e⟩
        exact SqL.of e
      · rintro j v σ H17 hv ⟨w9, w10, rfl, x17, e17, f17⟩
        obtain ⟨kind, rfl⟩ : ∃ s, v = .str s := by
          have hm := List.mem_of_getElem? hv
          simp at hm
          rcases hm with rfl | rfl <;> exact ⟨_, rfl⟩
        walk_at "go"
        refine ⟨_, _, mode, kind, q, (nm, es), c, rfl, by walk_at "rp", by walk_at "rp", okq, okp, fun H19 x19 => ?_⟩
        walk_at "go"
        refine ⟨_, _, mode, kind, q, (nm, es), c, rfl, by walk_at "rp", by walk_at "rp", okq, okp, fun H20 x20 => ?_⟩
        walk_at "go"
        refine ⟨_, _, rfl, ?_⟩
        walk_at "go"
        rw [decide_eq_true rfl]
        walk_at "go"
        have xx : Ext [] H17 H20 := by walk_at "ext"
        exact ⟨_, _, rfl, x17.trans xx, xx.same _ _ e17, xx.same _ _ f17⟩
      · rintro σ H17 ⟨w9, w10, rfl, x17, e17, f17⟩
        exact ⟨_, _, _, rfl, x17, e17⟩
    · rintro σ H15 ⟨w8, w9, w10, rfl, x15, e15⟩
      exact ⟨_, rfl, rfl, T13.same x15⟩
  · rintro σ H2 ⟨w, rfl, hw, T2⟩
    walk_at "go"
    exact k _
end

section
variable {P : Program} {w : World} {K : PySem.W.Frag} {mg : Str → Option Value} {base : Heap}
theorem has_is_prefix (F0 : Dfn K mg "is_prefix" s_is_prefix ["first", "second"])  (z_len : mg "len" = none) : Has P w K mg base CX0 1 "is_prefix" ["first", "second"] (sp_is_prefix K) :=
  F0.has fun f fd F => F.ok sc_is_prefix (by intro vs H Q E h; row_has h) (fun cdv A outer s H vs Q E hr h => ⟨t_is_prefix K,
    (pss_consJ (ps_set (i := 2) sc_is_prefix.nd rfl (by first | exact Or.inl rfl | exact Or.inr rfl) (pe_callB call_len (by rfl) z_len PySem.boot_len (pa_cons (pe_ix ix_seq (pv 0) pe_int (fun _ _ => rfl)) pa_nil)))
    (pss_one (ps_ret (pe_and (pe_cmpR (o_eq hr.units) (pe_ix ix_seq (pv 0) pe_int (fun _ _ => rfl)) (pe_ix ix_seq (pv 1) pe_int (fun _ _ => rfl)) (nomark _)) (pe_one (pe_cmpR (o_eq hr.units) (pe_ix ix_seq (pv 0) pe_int (fun _ _ => rfl)) (pe_slice o_sl (pe_ix ix_seq (pv 1) pe_int (fun _ _ => rfl)) po_none (po_some (pv 2))) (nomark _))))))),
    pure_is_prefix vs H Q E h⟩)
theorem has_overlap (F0 : Dfn K mg "overlap" s_overlap ["first", "second"]) (h_is_prefix : Has P w K mg base CX0 1 "is_prefix" ["first", "second"] (sp_is_prefix K))  : Has P w K mg base CX0 2 "overlap" ["first", "second"] (sp_overlap K) :=
  F0.has fun f fd F => F.ok sc_overlap (by intro vs H Q E h; row_has h) (fun cdv A outer s H vs Q E hr h => ⟨t_overlap K,
    (pss_one (ps_ret (pe_or (pe_callH h_is_prefix (hr.mono (by omega)) rfl pass0 (pa_cons (pv 0) (pa_cons (pv 1) pa_nil))) (pe_one (pe_callH h_is_prefix (hr.mono (by omega)) rfl pass0 (pa_cons (pv 1) (pa_cons (pv 0) pa_nil))))))),
    pure_overlap vs H Q E h⟩)
theorem has_conflicts (F0 : Dfn K mg "conflicts" s_conflicts ["wanted", "loan", "crossing"]) (h_overlap : Has P w K mg base CX0 2 "overlap" ["first", "second"] (sp_overlap K)) (h_is_prefix : Has P w K mg base CX0 1 "is_prefix" ["first", "second"] (sp_is_prefix K)) (z_len : mg "len" = none) : Has P w K mg base CX0 3 "conflicts" ["wanted", "loan", "crossing"] (sp_conflicts K) :=
  F0.has fun f fd F => F.ok sc_conflicts (by intro vs H Q E h; row_has h) (fun cdv A outer s H vs Q E hr h => ⟨t_conflicts K,
    (pss_consJ (ps_set (i := 3) sc_conflicts.nd rfl (by first | exact Or.inl rfl | exact Or.inr rfl) (pe_ix ix_seq (pv 0) pe_int (fun _ _ => rfl)))
    (pss_consJ (ps_if (pt_not (pt_val (pe_callH h_overlap (hr.mono (by omega)) rfl pass0 (pa_cons (pv 3) (pa_cons (pe_ix ix_seq (pv 1) pe_int (fun _ _ => rfl)) pa_nil))))) (pss_one (ps_ret pe_bl)) pss_nil)
    (pss_consJ (ps_if (pt_cmpR (o_eq hr.units) (pe_ix ix_seq (pv 0) pe_int (fun _ _ => rfl)) pe_str (nomark _)) (pss_one (ps_ret (pe_cmpR (o_eq hr.units) (pe_ix ix_seq (pv 1) pe_int (fun _ _ => rfl)) pe_str (nomark _)))) pss_nil)
    (pss_consJ (ps_if (PW.pt (pw_and (pt_cmpR (o_eq hr.units) (pe_ix ix_seq (pv 0) pe_int (fun _ _ => rfl)) pe_str (nomark _)) (pw_and (pt_cmpR op_notN (pv 2) pe_non (nomark _)) (pw_and1 (pt_val (pe_callH h_is_prefix (hr.mono (by omega)) rfl pass0 (pa_cons (pv 3) (pa_cons (pe_ix ix_seq (pv 1) pe_int (fun _ _ => rfl)) pa_nil)))))))) (pss_one (ps_ret (pe_cmpR op_lt (pv 2) (pe_callB call_len (by rfl) z_len PySem.boot_len (pa_cons (pe_ix ix_seq (pv 3) pe_int (fun _ _ => rfl)) pa_nil)) (nomark _)))) pss_nil)
    (pss_one (ps_ret pe_bl)))))),
    pure_conflicts vs H Q E h⟩)
theorem has_l_tape (F0 : Dfn K mg "_law_tape" s_l_tape ["script"])  (z_int : mg "int" = none) (z_abs : mg "abs" = none) (z_range : mg "range" = none) : Has P w K mg base CX0 1 "_law_tape" ["script"] (sp_l_tape K) :=
  F0.has fun f fd F => F.ok sc_l_tape (by intro vs H Q E h; row_has h) (fun cdv A outer s H vs Q E hr h => ⟨t_l_tape K,
    (pss_consJ (ps_set (i := 1) sc_l_tape.nd rfl (by first | exact Or.inl rfl | exact Or.inr rfl) (pe_lst pa_nil))
    (pss_consJ (ps_set (i := 2) sc_l_tape.nd rfl (by first | exact Or.inl rfl | exact Or.inr rfl) pe_int)
    (pss_consJ (ps_for PassesOwn.never rfl (pi_list (pe_slice o_sl (pv 0) po_none (po_some pe_int))) (pg_name (i := 3) sc_l_tape.nd rfl (by first | exact Or.inl rfl | exact Or.inr rfl)) (pss_consJ (ps_set (i := 4) sc_l_tape.nd rfl (by first | exact Or.inl rfl | exact Or.inr rfl) (pe_callB call_abs (by rfl) z_abs (by decide +kernel) (pa_cons (pe_callTy call_int1 (by rfl) z_int (by decide +kernel) (pa_cons (pv 3) pa_nil)) pa_nil)))
    (pss_consJ (ps_set (i := 2) sc_l_tape.nd rfl (by first | exact Or.inl rfl | exact Or.inr rfl) (pe_op o_add (pv 2) (pv 4)))
    (pss_one (ps_for PassesOwn.never rfl (pi_range1 (by rfl) z_range (pa_cons pe_int pa_nil)) (pg_name (i := 5) sc_l_tape.nd rfl (by first | exact Or.inl rfl | exact Or.inr rfl)) (pss_consJ (ps_expr (pe_bm PySem.F.plainAttrs_list PySem.F.slot_list_append PySem.F.type_list_append mt_append (pv 1) (pa_cons (pe_op op_mod (pe_callTy call_int1 (by rfl) z_int (by decide +kernel) (pa_cons (pv 4) pa_nil)) pe_int) pa_nil)))
    (pss_consJ (ps_set (i := 4) sc_l_tape.nd rfl (by first | exact Or.inl rfl | exact Or.inr rfl) (pe_op op_fdiv (pv 4) pe_int))
    (pss_one (ps_if (pt_cmpR (o_eq hr.units) (pv 4) pe_int (nomark _)) (pss_one ps_break) pss_nil)))))))))
    (pss_one (ps_ret (pe_lst (pa_cons pe_int (pa_cons (pv 1) (pa_cons (pe_op op_mod (pe_callTy call_int1 (by rfl) z_int (by decide +kernel) (pa_cons (pv 2) pa_nil)) pe_int) pa_nil))))))))),
    pure_l_tape vs H Q E h⟩)
theorem has_l_next (F0 : Dfn K mg "_law_next" s_l_next ["tape", "many"])  (z_len : mg "len" = none) (z_int : mg "int" = none) : Has P w K mg base CX0 1 "_law_next" ["tape", "many"] (sp_l_next K) :=
  F0.has fun f fd F => F.ok sc_l_next (by intro vs H Q E h; row_has h) (fun cdv A outer s H vs Q E hr h => ⟨t_l_next K,
    (pss_consJ (ps_set (i := 2) sc_l_next.nd rfl (by first | exact Or.inl rfl | exact Or.inr rfl) (pe_ix ix_seq (pv 0) pe_int (fun _ _ => rfl)))
    (pss_consJ (ps_asg (pe_op o_add (pv 2) pe_int) (pg_sub (pv 0) pe_int set_list))
    (pss_consJ (ps_if (pt_cmpR op_lt (pv 2) (pe_callB call_len (by rfl) z_len PySem.boot_len (pa_cons (pe_ix ix_seq (pv 0) pe_int (fun _ _ => rfl)) pa_nil)) (nomark _)) (pss_one (ps_ret (pe_op op_mod (pe_callTy call_int1 (by rfl) z_int (by decide +kernel) (pa_cons (pe_ix ix_seq (pe_ix ix_seq (pv 0) pe_int (fun _ _ => rfl)) (pv 2) (fun _ _ => rfl)) pa_nil)) (pv 1)))) pss_nil)
    (pss_one (ps_ret (pe_op op_mod (pe_op op_fdiv (pe_op op_mod (pe_callTy call_int1 (by rfl) z_int (by decide +kernel) (pa_cons (pe_op o_add (pe_op op_mul (pe_op o_add (pv 2) pe_int) pe_int) (pe_op op_mul (pe_ix ix_seq (pv 0) pe_int (fun _ _ => rfl)) pe_int)) pa_nil)) pe_int) pe_int) (pv 1))))))),
    pure_l_next vs H Q E h⟩)
theorem has_l_steps (F0 : Dfn K mg "_law_steps" s_l_steps ["tape", "many", "fields"]) (h_l_next : Has P w K mg base CX0 1 "_law_next" ["tape", "many"] (sp_l_next K)) (z_range : mg "range" = none) (z_tuple : mg "tuple" = none) : Has P w K mg base CX0 2 "_law_steps" ["tape", "many", "fields"] (sp_l_steps K) :=
  F0.has fun f fd F => F.ok sc_l_steps (by intro vs H Q E h; row_has h) (fun cdv A outer s H vs Q E hr h => ⟨t_l_steps K,
    (pss_one (ps_ret (pe_callTy call_tuple_of (by rfl) z_tuple (by decide +kernel) (pa_cons (pe_lc (own := [("k", 3)]) (g := (gName 3)) (tt := tYes) (te := (tOp (rIx K) (tLst (tCons (tC (.int 0)) (tCons (tC (.int 1)) (tCons (tC (.str "?")) (tCons (tC (.str "n")) tNil))))) (tCall (sp_l_next K) [] E0 (tCons (tVar 0) (tCons (tOp (rAddG K) (tC (.int 3)) (tVar 2)) tNil)))))  rfl sc_l_steps.nd (pi_range1 (by rfl) z_range (pa_cons (pv 1) pa_nil)) (blkOk_by (own := [("k", 3)]) (N := N_l_steps) (sc := defScope s_l_steps) (by decide +kernel)) (fun _ _ _ _ _ => (pg_name (i := 3) sc_l_steps.nd rfl (by first | exact Or.inl rfl | exact Or.inr rfl))) (fun _ _ _ _ _ => pts_nil) (fun _ _ _ _ _ => (pe_ix ix_seq (pe_lst (pa_cons pe_int (pa_cons pe_int (pa_cons pe_str (pa_cons pe_str pa_nil))))) (pe_callH h_l_next (hr.mono (by omega)) rfl pass0 (pa_cons (pv 0) (pa_cons (pe_op o_add pe_int (pv 2)) pa_nil))) (fun _ _ => rfl)))) pa_nil)))),
    pure_l_steps vs H Q E h⟩)
theorem has_l_due (F0 : Dfn K mg "_law_due" s_l_due ["mode", "place", "loan", "crossing"])  (z_len : mg "len" = none) : Has P w K mg base CX0 1 "_law_due" ["mode", "place", "loan", "crossing"] (sp_l_due K) :=
  F0.has fun f fd F => F.ok sc_l_due (by intro vs H Q E h; row_has h) (fun cdv A outer s H vs Q E hr h => ⟨t_l_due K,
    (pss_consJ (ps_set (i := 4) sc_l_due.nd rfl (by first | exact Or.inl rfl | exact Or.inr rfl) (pe_and (pe_cmpR (o_eq hr.units) (pe_ix ix_seq (pv 1) pe_int (fun _ _ => rfl)) (pe_ix ix_seq (pe_ix ix_seq (pv 2) pe_int (fun _ _ => rfl)) pe_int (fun _ _ => rfl)) (nomark _)) (pe_one (pe_cmpR (o_eq hr.units) (pe_slice o_sl (pe_ix ix_seq (pe_ix ix_seq (pv 2) pe_int (fun _ _ => rfl)) pe_int (fun _ _ => rfl)) po_none (po_some (pe_callB call_len (by rfl) z_len PySem.boot_len (pa_cons (pe_ix ix_seq (pv 1) pe_int (fun _ _ => rfl)) pa_nil)))) (pe_ix ix_seq (pv 1) pe_int (fun _ _ => rfl)) (nomark _)))))
    (pss_consJ (ps_set (i := 5) sc_l_due.nd rfl (by first | exact Or.inl rfl | exact Or.inr rfl) (pe_and (pe_cmpR (o_eq hr.units) (pe_ix ix_seq (pv 1) pe_int (fun _ _ => rfl)) (pe_ix ix_seq (pe_ix ix_seq (pv 2) pe_int (fun _ _ => rfl)) pe_int (fun _ _ => rfl)) (nomark _)) (pe_one (pe_cmpR (o_eq hr.units) (pe_slice o_sl (pe_ix ix_seq (pv 1) pe_int (fun _ _ => rfl)) po_none (po_some (pe_callB call_len (by rfl) z_len PySem.boot_len (pa_cons (pe_ix ix_seq (pe_ix ix_seq (pv 2) pe_int (fun _ _ => rfl)) pe_int (fun _ _ => rfl)) pa_nil)))) (pe_ix ix_seq (pe_ix ix_seq (pv 2) pe_int (fun _ _ => rfl)) pe_int (fun _ _ => rfl)) (nomark _)))))
    (pss_consJ (ps_if (PW.pt (pw_and (pt_not (pt_val (pv 4))) (pw_and1 (pt_not (pt_val (pv 5)))))) (pss_one (ps_ret pe_bl)) pss_nil)
    (pss_consJ (ps_if (pt_cmpR (o_eq hr.units) (pv 0) pe_str (nomark _)) (pss_one (ps_ret (pe_cmpR (o_eq hr.units) (pe_ix ix_seq (pv 2) pe_int (fun _ _ => rfl)) pe_str (nomark _)))) pss_nil)
    (pss_consJ (ps_if (PW.pt (pw_and (pt_cmpR (o_eq hr.units) (pv 0) pe_str (nomark _)) (pw_and (pt_val (pv 4)) (pw_and1 (pt_cmpR op_notN (pv 3) pe_non (nomark _)))))) (pss_one (ps_ret (pe_cmpR op_lt (pv 3) (pe_callB call_len (by rfl) z_len PySem.boot_len (pa_cons (pe_ix ix_seq (pv 1) pe_int (fun _ _ => rfl)) pa_nil)) (nomark _)))) pss_nil)
    (pss_one (ps_ret pe_bl))))))),
    pure_l_due vs H Q E h⟩)
theorem has_l_is (F0 : Dfn K mg "_law_is" s_l_is ["answer", "due"])   : Has P w K mg base CX0 1 "_law_is" ["answer", "due"] (sp_l_is K) :=
  F0.has fun f fd F => F.ok sc_l_is (by intro vs H Q E h; row_has h) (fun cdv A outer s H vs Q E hr h => ⟨t_l_is K,
    (pss_one (ps_ret (pe_ifExp (pt_val (pv 1)) (pe_cmpR op_isBl (pv 0) pe_bl (nomark _)) (pe_cmpR op_isBl (pv 0) pe_bl (nomark _))))),
    pure_l_is vs H Q E h⟩)
theorem ok_law {f : Addr} {fd : FuncData} (F : Fun K "law" "law" s_law f fd) (h_l_tape : Has P w K mg base CX0 1 "_law_tape" ["script"] (sp_l_tape K)) (h_l_next : Has P w K mg base CX0 1 "_law_next" ["tape", "many"] (sp_l_next K)) (h_l_steps : Has P w K mg base CX0 2 "_law_steps" ["tape", "many", "fields"] (sp_l_steps K)) (h_l_due : Has P w K mg base CX0 1 "_law_due" ["mode", "place", "loan", "crossing"] (sp_l_due K)) (h_l_is : Has P w K mg base CX0 1 "_law_is" ["answer", "due"] (sp_l_is K)) (h_conflicts : Has P w K mg base CX0 3 "conflicts" ["wanted", "loan", "crossing"] (sp_conflicts K)) (z_range : mg "range" = none) (z_len : mg "len" = none) : FnOk P w K mg base CX0 4 f fd ["script"] (sp_law K) :=
  F.ok sc_law (by intro vs H Q E h; row_has h) (fun cdv A outer s H vs Q E hr h => ⟨t_law K,
    (pss_consJ (ps_set (i := 1) sc_law.nd rfl (by first | exact Or.inl rfl | exact Or.inr rfl) (pe_callH h_l_tape (hr.mono (by omega)) rfl pass0 (pa_cons (pv 0) pa_nil)))
    (pss_consJ (ps_for PassesOwn.never rfl (pi_range1 (by rfl) z_range (pa_cons pe_int pa_nil)) (pg_name (i := 2) sc_law.nd rfl (by first | exact Or.inl rfl | exact Or.inr rfl)) (pss_consJ (ps_set (i := 3) sc_law.nd rfl (by first | exact Or.inl rfl | exact Or.inr rfl) (pe_callH h_l_next (hr.mono (by omega)) rfl pass0 (pa_cons (pv 1) (pa_cons pe_int pa_nil))))
    (pss_consJ (ps_set (i := 4) sc_law.nd rfl (by first | exact Or.inl rfl | exact Or.inr rfl) (pe_callH h_l_steps (hr.mono (by omega)) rfl pass0 (pa_cons (pv 1) (pa_cons (pe_callH h_l_next (hr.mono (by omega)) rfl pass0 (pa_cons (pv 1) (pa_cons pe_int pa_nil))) (pa_cons (pe_op op_sub pe_int (pv 3)) pa_nil)))))
    (pss_consJ (ps_set (i := 5) sc_law.nd rfl (by first | exact Or.inl rfl | exact Or.inr rfl) pe_non)
    (pss_consJ (ps_if (pt_cmpR (o_eq hr.units) (pv 3) pe_int (nomark _)) (pss_consJ (ps_set (i := 5) sc_law.nd rfl (by first | exact Or.inl rfl | exact Or.inr rfl) (pe_callB call_len (by rfl) z_len PySem.boot_len (pa_cons (pv 4) pa_nil)))
    (pss_one (ps_set (i := 4) sc_law.nd rfl (by first | exact Or.inl rfl | exact Or.inr rfl) (pe_op o_add (pe_op o_add (pv 4) (pe_tup (pa_cons pe_str pa_nil))) (pe_callH h_l_steps (hr.mono (by omega)) rfl pass0 (pa_cons (pv 1) (pa_cons (pe_callH h_l_next (hr.mono (by omega)) rfl pass0 (pa_cons (pv 1) (pa_cons pe_int pa_nil))) (pa_cons pe_int pa_nil)))))))) pss_nil)
    (pss_consJ (ps_set (i := 6) sc_law.nd rfl (by first | exact Or.inl rfl | exact Or.inr rfl) (pe_tup (pa_cons (pe_ix ix_seq (pe_lst (pa_cons pe_str (pa_cons pe_str pa_nil))) (pe_callH h_l_next (hr.mono (by omega)) rfl pass0 (pa_cons (pv 1) (pa_cons pe_int pa_nil))) (fun _ _ => rfl)) (pa_cons (pv 4) pa_nil))))
    (pss_consJ (ps_set (i := 7) sc_law.nd rfl (by first | exact Or.inl rfl | exact Or.inr rfl) (pe_tup (pa_cons (pe_ix ix_seq (pe_lst (pa_cons pe_str (pa_cons pe_str pa_nil))) (pe_callH h_l_next (hr.mono (by omega)) rfl pass0 (pa_cons (pv 1) (pa_cons pe_int pa_nil))) (fun _ _ => rfl)) (pa_cons (pe_slice o_sl (pe_ix ix_seq (pv 6) pe_int (fun _ _ => rfl)) po_none (po_some (pe_callH h_l_next (hr.mono (by omega)) rfl pass0 (pa_cons (pv 1) (pa_cons (pe_op o_add (pe_callB call_len (by rfl) z_len PySem.boot_len (pa_cons (pv 4) pa_nil)) pe_int) pa_nil))))) pa_nil))))
    (pss_consJ (ps_if (pt_cmpR (o_eq hr.units) (pe_callH h_l_next (hr.mono (by omega)) rfl pass0 (pa_cons (pv 1) (pa_cons pe_int pa_nil))) pe_int (nomark _)) (pss_one (ps_set (i := 7) sc_law.nd rfl (by first | exact Or.inl rfl | exact Or.inr rfl) (pe_tup (pa_cons (pe_ix ix_seq (pv 7) pe_int (fun _ _ => rfl)) (pa_cons (pe_op o_add (pe_ix ix_seq (pv 7) pe_int (fun _ _ => rfl)) (pe_callH h_l_steps (hr.mono (by omega)) rfl pass0 (pa_cons (pv 1) (pa_cons (pe_callH h_l_next (hr.mono (by omega)) rfl pass0 (pa_cons (pv 1) (pa_cons pe_int pa_nil))) (pa_cons (pe_op op_sub pe_int (pv 3)) pa_nil))))) pa_nil))))) pss_nil)
    (pss_one (ps_for PassesOwn.never rfl (pi_list (pe_lst (pa_cons pe_str (pa_cons pe_str (pa_cons pe_str (pa_cons pe_str pa_nil)))))) (pg_name (i := 8) sc_law.nd rfl (by first | exact Or.inl rfl | exact Or.inr rfl)) (pss_one (ps_for PassesOwn.never rfl (pi_list (pe_lst (pa_cons pe_str (pa_cons pe_str pa_nil)))) (pg_name (i := 9) sc_law.nd rfl (by first | exact Or.inl rfl | exact Or.inr rfl)) (pss_consJ (ps_set (i := 10) sc_law.nd rfl (by first | exact Or.inl rfl | exact Or.inr rfl) (pe_callH h_l_due (hr.mono (by omega)) rfl pass0 (pa_cons (pv 8) (pa_cons (pv 7) (pa_cons (pe_tup (pa_cons (pv 9) (pa_cons (pv 6) pa_nil))) (pa_cons (pv 5) pa_nil))))))
    (pss_one (ps_if (pt_not (pt_val (pe_callH h_l_is (hr.mono (by omega)) rfl pass0 (pa_cons (pe_callH h_conflicts (hr.mono (by omega)) rfl pass0 (pa_cons (pe_tup (pa_cons (pv 8) (pa_cons (pv 7) pa_nil))) (pa_cons (pe_tup (pa_cons (pv 9) (pa_cons (pv 6) pa_nil))) (pa_cons (pv 5) pa_nil)))) (pa_cons (pv 10) pa_nil))))) (pss_one (ps_ret pe_bl)) pss_nil)))))))))))))))
    (pss_one (ps_ret pe_bl)))),
    pure_law vs H Q E h⟩)
end

theorem all_mk {l : PySem.W.OpenLaw} {w : World} {K : PySem.W.Frag} {h : Heap} {mg : Str → Option Value} {fa : Addr} (X : K.In h) (G : h.Ns mainGlobals mg) (hfa : mg "law" = some (.ref fa))
    {f0 : Addr} {od0 an0 : Option Addr} {sl0 : Array (Option Value)} {oc0 kV0 dc0 pm0 cd0 ct0 : Value}
    {f1 : Addr} {od1 an1 : Option Addr} {sl1 : Array (Option Value)} {oc1 kV1 dc1 pm1 cd1 ct1 : Value}
    {f2 : Addr} {od2 an2 : Option Addr} {sl2 : Array (Option Value)} {oc2 kV2 dc2 pm2 cd2 ct2 : Value}
    {f3 : Addr} {od3 an3 : Option Addr} {sl3 : Array (Option Value)} {oc3 kV3 dc3 pm3 cd3 ct3 : Value}
    {f4 : Addr} {od4 an4 : Option Addr} {sl4 : Array (Option Value)} {oc4 kV4 dc4 pm4 cd4 ct4 : Value}
    {f5 : Addr} {od5 an5 : Option Addr} {sl5 : Array (Option Value)} {oc5 kV5 dc5 pm5 cd5 ct5 : Value}
    {f6 : Addr} {od6 an6 : Option Addr} {sl6 : Array (Option Value)} {oc6 kV6 dc6 pm6 cd6 ct6 : Value}
    {f7 : Addr} {od7 an7 : Option Addr} {sl7 : Array (Option Value)} {oc7 kV7 dc7 pm7 cd7 ct7 : Value}
    {f8 : Addr} {od8 an8 : Option Addr} {sl8 : Array (Option Value)} {oc8 kV8 dc8 pm8 cd8 ct8 : Value}
    (a0 : PySem.W.nsIn K mainGlobals "is_prefix" = some (some (.ref f0))) (l0 : K.lookup f0 = some ⟨oc0, od0, .func (PySem.W.fnOf "is_prefix" "is_prefix" (defArgs s_is_prefix) (defBody s_is_prefix) (defScope s_is_prefix) .none kV0 dc0 pm0 an0 cd0 ct0), sl0⟩) (c0 : PySem.W.codeIn K cd0 "is_prefix" = true) (k0 : PySem.W.keepIn K (.ref f0) = true)
    (a1 : PySem.W.nsIn K mainGlobals "overlap" = some (some (.ref f1))) (l1 : K.lookup f1 = some ⟨oc1, od1, .func (PySem.W.fnOf "overlap" "overlap" (defArgs s_overlap) (defBody s_overlap) (defScope s_overlap) .none kV1 dc1 pm1 an1 cd1 ct1), sl1⟩) (c1 : PySem.W.codeIn K cd1 "overlap" = true) (k1 : PySem.W.keepIn K (.ref f1) = true)
    (a2 : PySem.W.nsIn K mainGlobals "conflicts" = some (some (.ref f2))) (l2 : K.lookup f2 = some ⟨oc2, od2, .func (PySem.W.fnOf "conflicts" "conflicts" (defArgs s_conflicts) (defBody s_conflicts) (defScope s_conflicts) .none kV2 dc2 pm2 an2 cd2 ct2), sl2⟩) (c2 : PySem.W.codeIn K cd2 "conflicts" = true) (k2 : PySem.W.keepIn K (.ref f2) = true)
    (a3 : PySem.W.nsIn K mainGlobals "_law_tape" = some (some (.ref f3))) (l3 : K.lookup f3 = some ⟨oc3, od3, .func (PySem.W.fnOf "_law_tape" "_law_tape" (defArgs s_l_tape) (defBody s_l_tape) (defScope s_l_tape) .none kV3 dc3 pm3 an3 cd3 ct3), sl3⟩) (c3 : PySem.W.codeIn K cd3 "_law_tape" = true) (k3 : PySem.W.keepIn K (.ref f3) = true)
    (a4 : PySem.W.nsIn K mainGlobals "_law_next" = some (some (.ref f4))) (l4 : K.lookup f4 = some ⟨oc4, od4, .func (PySem.W.fnOf "_law_next" "_law_next" (defArgs s_l_next) (defBody s_l_next) (defScope s_l_next) .none kV4 dc4 pm4 an4 cd4 ct4), sl4⟩) (c4 : PySem.W.codeIn K cd4 "_law_next" = true) (k4 : PySem.W.keepIn K (.ref f4) = true)
    (a5 : PySem.W.nsIn K mainGlobals "_law_steps" = some (some (.ref f5))) (l5 : K.lookup f5 = some ⟨oc5, od5, .func (PySem.W.fnOf "_law_steps" "_law_steps" (defArgs s_l_steps) (defBody s_l_steps) (defScope s_l_steps) .none kV5 dc5 pm5 an5 cd5 ct5), sl5⟩) (c5 : PySem.W.codeIn K cd5 "_law_steps" = true) (k5 : PySem.W.keepIn K (.ref f5) = true)
    (a6 : PySem.W.nsIn K mainGlobals "_law_due" = some (some (.ref f6))) (l6 : K.lookup f6 = some ⟨oc6, od6, .func (PySem.W.fnOf "_law_due" "_law_due" (defArgs s_l_due) (defBody s_l_due) (defScope s_l_due) .none kV6 dc6 pm6 an6 cd6 ct6), sl6⟩) (c6 : PySem.W.codeIn K cd6 "_law_due" = true) (k6 : PySem.W.keepIn K (.ref f6) = true)
    (a7 : PySem.W.nsIn K mainGlobals "_law_is" = some (some (.ref f7))) (l7 : K.lookup f7 = some ⟨oc7, od7, .func (PySem.W.fnOf "_law_is" "_law_is" (defArgs s_l_is) (defBody s_l_is) (defScope s_l_is) .none kV7 dc7 pm7 an7 cd7 ct7), sl7⟩) (c7 : PySem.W.codeIn K cd7 "_law_is" = true) (k7 : PySem.W.keepIn K (.ref f7) = true)
    (a8 : PySem.W.nsIn K mainGlobals "law" = some (some (.ref f8))) (l8 : K.lookup f8 = some ⟨oc8, od8, .func (PySem.W.fnOf "law" "law" (defArgs s_law) (defBody s_law) (defScope s_law) .none kV8 dc8 pm8 an8 cd8 ct8), sl8⟩) (c8 : PySem.W.codeIn K cd8 "law" = true) (k8 : PySem.W.keepIn K (.ref f8) = true)
    (z_len : PySem.W.nsIn K mainGlobals "len" = some none)
    (z_int : PySem.W.nsIn K mainGlobals "int" = some none)
    (z_abs : PySem.W.nsIn K mainGlobals "abs" = some none)
    (z_range : PySem.W.nsIn K mainGlobals "range" = some none)
    (z_tuple : PySem.W.nsIn K mainGlobals "tuple" = some none)
    : ∃ fd : FuncData, (∀ (s : Shared) (v : Value), BindsTo s fd ⟨[v], []⟩ [("script", v)]) ∧ ∀ base : Heap, K.In base → base.Ns mainGlobals mg → FnOk l.prog w K mg base CX0 4 fa fd ["script"] (sp_law K) := by
  have e := hfa.symm.trans (PySem.W.mg_of X G a8)
  cases e
  have F0 := fun_mk (st := s_is_prefix) l0 c0 k0
  have D0 : Dfn K mg "is_prefix" s_is_prefix ["first", "second"] := ⟨_, _, F0, PySem.W.mg_of X G a0, F0.binds (ps := ["first", "second"]) fun _ _ _ _ _ _ us hl => match us, hl with | [_, _], _ => rfl⟩
  have F1 := fun_mk (st := s_overlap) l1 c1 k1
  have D1 : Dfn K mg "overlap" s_overlap ["first", "second"] := ⟨_, _, F1, PySem.W.mg_of X G a1, F1.binds (ps := ["first", "second"]) fun _ _ _ _ _ _ us hl => match us, hl with | [_, _], _ => rfl⟩
  have F2 := fun_mk (st := s_conflicts) l2 c2 k2
  have D2 : Dfn K mg "conflicts" s_conflicts ["wanted", "loan", "crossing"] := ⟨_, _, F2, PySem.W.mg_of X G a2, F2.binds (ps := ["wanted", "loan", "crossing"]) fun _ _ _ _ _ _ us hl => match us, hl with | [_, _, _], _ => rfl⟩
  have F3 := fun_mk (st := s_l_tape) l3 c3 k3
  have D3 : Dfn K mg "_law_tape" s_l_tape ["script"] := ⟨_, _, F3, PySem.W.mg_of X G a3, F3.binds (ps := ["script"]) fun _ _ _ _ _ _ us hl => match us, hl with | [_], _ => rfl⟩
  have F4 := fun_mk (st := s_l_next) l4 c4 k4
  have D4 : Dfn K mg "_law_next" s_l_next ["tape", "many"] := ⟨_, _, F4, PySem.W.mg_of X G a4, F4.binds (ps := ["tape", "many"]) fun _ _ _ _ _ _ us hl => match us, hl with | [_, _], _ => rfl⟩
  have F5 := fun_mk (st := s_l_steps) l5 c5 k5
  have D5 : Dfn K mg "_law_steps" s_l_steps ["tape", "many", "fields"] := ⟨_, _, F5, PySem.W.mg_of X G a5, F5.binds (ps := ["tape", "many", "fields"]) fun _ _ _ _ _ _ us hl => match us, hl with | [_, _, _], _ => rfl⟩
  have F6 := fun_mk (st := s_l_due) l6 c6 k6
  have D6 : Dfn K mg "_law_due" s_l_due ["mode", "place", "loan", "crossing"] := ⟨_, _, F6, PySem.W.mg_of X G a6, F6.binds (ps := ["mode", "place", "loan", "crossing"]) fun _ _ _ _ _ _ us hl => match us, hl with | [_, _, _, _], _ => rfl⟩
  have F7 := fun_mk (st := s_l_is) l7 c7 k7
  have D7 : Dfn K mg "_law_is" s_l_is ["answer", "due"] := ⟨_, _, F7, PySem.W.mg_of X G a7, F7.binds (ps := ["answer", "due"]) fun _ _ _ _ _ _ us hl => match us, hl with | [_, _], _ => rfl⟩
  have F8 := fun_mk (st := s_law) l8 c8 k8
  have D8 : Dfn K mg "law" s_law ["script"] := ⟨_, _, F8, PySem.W.mg_of X G a8, F8.binds (ps := ["script"]) fun _ _ _ _ _ _ us hl => match us, hl with | [_], _ => rfl⟩
  have y_len := PySem.W.mg_none_of X G z_len
  have y_int := PySem.W.mg_none_of X G z_int
  have y_abs := PySem.W.mg_none_of X G z_abs
  have y_range := PySem.W.mg_none_of X G z_range
  have y_tuple := PySem.W.mg_none_of X G z_tuple
  refine ⟨PySem.W.fnOf "law" "law" (defArgs s_law) (defBody s_law) (defScope s_law) .none kV8 dc8 pm8 an8 cd8 ct8, fun s v => .of_eq rfl, fun base _ _ => ?_⟩
  have h_is_prefix := has_is_prefix (P := l.prog) (w := w) (base := base) D0  y_len
  have h_overlap := has_overlap (P := l.prog) (w := w) (base := base) D1 h_is_prefix 
  have h_conflicts := has_conflicts (P := l.prog) (w := w) (base := base) D2 h_overlap h_is_prefix y_len
  have h_l_tape := has_l_tape (P := l.prog) (w := w) (base := base) D3  y_int y_abs y_range
  have h_l_next := has_l_next (P := l.prog) (w := w) (base := base) D4  y_len y_int
  have h_l_steps := has_l_steps (P := l.prog) (w := w) (base := base) D5 h_l_next y_range y_tuple
  have h_l_due := has_l_due (P := l.prog) (w := w) (base := base) D6  y_len
  have h_l_is := has_l_is (P := l.prog) (w := w) (base := base) D7  
  exact ok_law F8 h_l_tape h_l_next h_l_steps h_l_due h_l_is h_conflicts y_range y_len
theorem walk {l : PySem.W.OpenLaw} {q : Program} {loose : List Str} {XP : (Str → Option Value) → Heap → Prop} {YP : World → Heap → Prop} {d : DefRec} {K : Params → PySem.W.Frag} (hn : l.most = some 63) (hdf : d.params.defaults = [])
    (hY : ∀ (w : World) (h : Heap), YP w h → (K w.params).In h)
    (F : ∀ (w : World) (mg : Str → Option Value) (fa : Addr) (h : Heap), (K w.params).In h → h.Ns mainGlobals mg → mg d.name = some (.ref fa) →
      ∃ fd : FuncData, (∀ (s : Shared) (u : Value), BindsTo s fd ⟨[u], []⟩ [("script", u)]) ∧ ∀ base : Heap, (K w.params).In base → base.Ns mainGlobals mg → FnOk l.prog w (K w.params) mg base CX0 4 fa fd ["script"] (sp_law (K w.params))) :
    PySem.W.WalkO q loose XP YP l.row.toRowW d [] (fun f vs => PySem.call f vs) :=
  L2.walk_of (n := 63) (k := 4) (x := "script") (CX := fun _ => CX0) (sp := fun w => sp_law (K w.params)) hn (by decide) hdf ⟨rfl, by decide, by decide⟩ hY F (fun _ _ a ns hl _ hS => ⟨a, ns, rfl, hS, hl, fun _ => rfl⟩) fun _ _ _ _ _ z => z

end Law

open PySem PySem.W PyProof.Rows
set_option maxRecDepth 100000 in
set_option maxHeartbeats 0 in
theorem PySem.Challenge.cw_forklent_k07_conflicts_holds : PySem.Challenge.rw_forklent_k07_conflicts.Holds := by
  w_on; o_law; k_head; (case hw => w_witness2)
  k_fill
  refine Law.walk (l := PySem.Challenge.rw_forklent_k07_conflicts) rfl rfl (fun w h Y => PySem.W.kIn_of Y) ?F
  case F =>
    intro w mg fa h KX G hmg
    refine' Law.all_mk KX G hmg ?a0 ?l0 ?c0 ?k0 ?a1 ?l1 ?c1 ?k1 ?a2 ?l2 ?c2 ?k2 ?a3 ?l3 ?c3 ?k3 ?a4 ?l4 ?c4 ?k4 ?a5 ?l5 ?c5 ?k5 ?a6 ?l6 ?c6 ?k6 ?a7 ?l7 ?c7 ?k7 ?a8 ?l8 ?c8 ?k8 ?z_len ?z_int ?z_abs ?z_range ?z_tuple
    (case a0 => k_is)
    (case l0 => k_is)
    (case c0 => k_is)
    (case k0 => k_is)
    (case a1 => k_is)
    (case l1 => k_is)
    (case c1 => k_is)
    (case k1 => k_is)
    (case a2 => k_is)
    (case l2 => k_is)
    (case c2 => k_is)
    (case k2 => k_is)
    (case a3 => k_is)
    (case l3 => k_is)
    (case c3 => k_is)
    (case k3 => k_is)
    (case a4 => k_is)
    (case l4 => k_is)
    (case c4 => k_is)
    (case k4 => k_is)
    (case a5 => k_is)
    (case l5 => k_is)
    (case c5 => k_is)
    (case k5 => k_is)
    (case a6 => k_is)
    (case l6 => k_is)
    (case c6 => k_is)
    (case k6 => k_is)
    (case a7 => k_is)
    (case l7 => k_is)
    (case c7 => k_is)
    (case k7 => k_is)
    (case a8 => k_is)
    (case l8 => k_is)
    (case c8 => k_is)
    (case k8 => k_is)
    (case z_len => k_is)
    (case z_int => k_is)
    (case z_abs => k_is)
    (case z_range => k_is)
    (case z_tuple => k_is)
#print axioms PySem.Challenge.cw_forklent_k07_conflicts_holds
