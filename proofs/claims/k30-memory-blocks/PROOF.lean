import PyProof.Rows.All
import Wide.All
import OpenK.AllK
import Wide.FinOn
import HandS.ForMost
import HandS.TupAny
import HandS.Style
import HandS.SetFor
import HandS.IsInst
import PySem.Challenge.RW_forklent_k30_memory_blocks
set_option Elab.async false
set_option linter.all false
set_option maxRecDepth 100000
set_option maxHeartbeats 4000000
/-! Kit: own words over the hand layer: immutable data (D, Rp), heaps that grow (Ext), defs with their contract (Has), one step of a reading (walk_at "s"). -/
namespace Go
open PySem L2

/-! ### immutable data -/
inductive D where
  | non | bl (b : Bool) | int (i : Int) | str (s : Str) | tup (ds : List D)
mutual
inductive Rp (K : PySem.W.Frag) (H : Hp) : V → D → Prop
  | non : Rp K H .non .non
  | bl (b : Bool) : Rp K H (.bl b) (.bl b)
  | int (i : Int) : Rp K H (.int i) (.int i)
  | str (s : Str) : Rp K H (.str s) (.str s)
  | tup {a : Addr} {xs : List V} {ds : List D} : SqT K H a xs → RpAll K H xs ds → Rp K H (.ref a) (.tup ds)
inductive RpAll (K : PySem.W.Frag) (H : Hp) : List V → List D → Prop
  | nil : RpAll K H [] []
  | cons {v : V} {vs : List V} {d : D} {ds : List D} : Rp K H v d → RpAll K H vs ds → RpAll K H (v :: vs) (d :: ds)
end
mutual
def D.py : D → PyData
  | .non => .none
  | .bl b => .bool b
  | .int i => .int i
  | .str s => .str s
  | .tup ds => .tuple (D.pys ds)
def D.pys : List D → List PyData
  | [] => []
  | d :: ds => d.py :: D.pys ds
end
section
variable {K : PySem.W.Frag} {H H' : Hp}
mutual
theorem Rp.dp : ∀ {d : D} {v : V}, Rp K H v d → Dp K H v d.py
  | _, _, .non => .non
  | _, _, .bl b => .bl b
  | _, _, .int i => .int i
  | _, _, .str s => .str s
  | _, _, .tup h a => .tup h (RpAll.dp a)
theorem RpAll.dp : ∀ {ds : List D} {vs : List V}, RpAll K H vs ds → DpAll K H vs (D.pys ds)
  | _, _, .nil => .nil
  | _, _, .cons h t => .cons (Rp.dp h) (RpAll.dp t)
end

/-! ### heaps that grow: all but the lists named in S stands -/
structure Ext (S : List Addr) (H H' : Hp) : Prop where
  keep : ∀ b o, H b = some o → b ∉ S → H' b = some o
  tup : ∀ b xs, H b = some (.tup xs) → H' b = some (.tup xs)
  frz : ∀ b o u, H b = some (.frz o u) → H' b = some (.frz o u)
theorem Ext.refl {S} : Ext S H H := ⟨fun _ _ h _ => h, fun _ _ h => h, fun _ _ _ h => h⟩
theorem Ext.trans {S} {H1 H2 H3 : Hp} (a : Ext S H1 H2) (b : Ext S H2 H3) : Ext S H1 H3 :=
  ⟨fun c o h n => b.keep c o (a.keep c o h n) n, fun c x h => b.tup c x (a.tup c x h), fun c o u h => b.frz c o u (a.frz c o u h)⟩
theorem Ext.wide {S T : List Addr} (a : Ext S H H') (h : ∀ x, x ∈ S → x ∈ T) : Ext T H H' :=
  ⟨fun c o e n => a.keep c o e (fun z => n (h c z)), a.tup, a.frz⟩
theorem Ext.of_same {S} (a : Same H H') : Ext S H H' := ⟨fun c o h _ => a c o h, fun c x h => a c _ h, fun c o u h => a c _ h⟩
theorem Ext.same (a : Ext [] H H') : Same H H' := fun c o h => a.keep c o h (by simp)
theorem Ext.any {S} (a : Ext [] H H') : Ext S H H' := Ext.of_same a.same
theorem Ext.new {S} {p : Addr} {o : HO} (h : H p = none) : Ext S H (upd H p o) :=
  Ext.of_same fun b u e => by rw [upd_ne (ne_of_none e h)]; exact e
theorem Ext.new2 {S} {H0 : Hp} {p : Addr} {o : HO} (a : Ext S H0 H) (h : H p = none) : Ext S H0 (upd H p o) := a.trans (Ext.new h)
/-- a list is changed -/
theorem Ext.put {S} {p : Addr} {xs ys : List V} (h : H p = some (.lst xs)) (hs : p ∈ S) : Ext S H (upd H p (.lst ys)) :=
  ⟨fun b u e n => by rw [upd_ne (fun z => n (by rw [z]; exact hs))]; exact e,
   fun b xs e => by rw [upd_ne (fun z => by rw [z, h] at e; cases e)]; exact e,
   fun b o u e => by rw [upd_ne (fun z => by rw [z, h] at e; cases e)]; exact e⟩
/-- a list that was not there before is changed -/
theorem Ext.putNew {S} {H0 : Hp} {p : Addr} {xs ys : List V} (a : Ext S H0 H) (h0 : H0 p = none) (h : H p = some (.lst xs)) : Ext S H0 (upd H p (.lst ys)) :=
  ⟨fun b u e n => by rw [upd_ne (ne_of_none e h0)]; exact a.keep b u e n,
   fun b xs e => by rw [upd_ne (ne_of_none e h0)]; exact a.tup b xs e,
   fun b o u e => by rw [upd_ne (ne_of_none e h0)]; exact a.frz b o u e⟩
theorem Ext.put2 {S} {H0 : Hp} {p : Addr} {xs ys : List V} (a : Ext S H0 H) (h : H p = some (.lst xs)) (hs : p ∈ S) : Ext S H0 (upd H p (.lst ys)) := a.trans (Ext.put h hs)
theorem Ext.sqt {S} {a : Addr} {xs : List V} (e : Ext S H H') (h : SqT K H a xs) : SqT K H' a xs := by
  rcases h with (h | ⟨o, h⟩) | h
  · exact .inl (.inl (e.tup _ _ h))
  · exact .inl (.inr ⟨o, e.frz _ _ _ h⟩)
  · exact .inr h
theorem Ext.free {S} {p : Addr} (e : Ext S H H') (h : H' p = none) (hs : p ∉ S) : H p = none := by
  cases q : H p with
  | none => rfl
  | some o => rw [e.keep p o q hs] at h; cases h
mutual
theorem Rp.mono {S} (e : Ext S H H') : ∀ {d : D} {v : V}, Rp K H v d → Rp K H' v d
  | _, _, .non => .non
  | _, _, .bl b => .bl b
  | _, _, .int i => .int i
  | _, _, .str s => .str s
  | _, _, .tup h a => .tup (e.sqt h) (RpAll.mono e a)
theorem RpAll.mono {S} (e : Ext S H H') : ∀ {ds : List D} {vs : List V}, RpAll K H vs ds → RpAll K H' vs ds
  | _, _, .nil => .nil
  | _, _, .cons h t => .cons (Rp.mono e h) (RpAll.mono e t)
end
theorem Rp.new {p : Addr} {xs : List V} {ds : List D} (h : RpAll K H xs ds) (hp : H p = none) : Rp K (upd H p (.tup xs)) (.ref p) (.tup ds) :=
  .tup (SqT.of upd_same) (RpAll.mono (Ext.new (S := []) hp) h)
theorem RpAll.length : ∀ {ds : List D} {vs : List V}, RpAll K H vs ds → vs.length = ds.length
  | _, _, .nil => rfl
  | _, _, .cons _ t => congrArg (· + 1) (RpAll.length t)
theorem RpAll.get : ∀ {ds : List D} {vs : List V} {i : Nat} {v : V}, RpAll K H vs ds → vs[i]? = some v → ∃ d, ds[i]? = some d ∧ Rp K H v d
  | _, _, _, _, .nil, e => by simp at e
  | _, _, 0, _, .cons h _, e => by simp at e; subst e; exact ⟨_, rfl, h⟩
  | _, _, i + 1, v, .cons _ t, e => by
    obtain ⟨d, h1, h2⟩ := RpAll.get (i := i) (v := v) t (by simpa using e)
    exact ⟨d, by simpa using h1, h2⟩
theorem RpAll.getD : ∀ {ds : List D} {vs : List V} {i : Nat} {d : D}, RpAll K H vs ds → ds[i]? = some d → ∃ v, vs[i]? = some v ∧ Rp K H v d
  | _, _, _, _, .nil, e => by simp at e
  | _, _, 0, _, .cons h _, e => by simp at e; subst e; exact ⟨_, rfl, h⟩
  | _, _, i + 1, d, .cons _ t, e => by
    obtain ⟨v, h1, h2⟩ := RpAll.getD (i := i) (d := d) t (by simpa using e)
    exact ⟨v, by simpa using h1, h2⟩
theorem RpAll.append : ∀ {ds es : List D} {vs us : List V}, RpAll K H vs ds → RpAll K H us es → RpAll K H (vs ++ us) (ds ++ es)
  | _, _, _, _, .nil, s => s
  | _, _, _, _, .cons h t, s => .cons h (RpAll.append t s)
theorem RpAll.take : ∀ {ds : List D} {vs : List V} (n : Nat), RpAll K H vs ds → RpAll K H (vs.take n) (ds.take n)
  | _, _, 0, _ => .nil
  | _, _, _ + 1, .nil => .nil
  | _, _, n + 1, .cons h t => .cons h (RpAll.take n t)
theorem RpAll.drop : ∀ {ds : List D} {vs : List V} (n : Nat), RpAll K H vs ds → RpAll K H (vs.drop n) (ds.drop n)
  | _, _, 0, h => h
  | _, _, _ + 1, .nil => .nil
  | _, _, n + 1, .cons _ t => RpAll.drop n t
theorem Rp.tupI {v : V} {ds : List D} (h : Rp K H v (.tup ds)) : ∃ a xs, v = .ref a ∧ SqT K H a xs ∧ RpAll K H xs ds := by
  cases h with
  | tup h a => exact ⟨_, _, rfl, h, a⟩
theorem Rp.intI {v : V} {i : Int} (h : Rp K H v (.int i)) : v = .int i := by cases h; rfl
theorem Rp.strI {v : V} {i : Str} (h : Rp K H v (.str i)) : v = .str i := by cases h; rfl
theorem Rp.blI {v : V} {i : Bool} (h : Rp K H v (.bl i)) : v = .bl i := by cases h; rfl
theorem Rp.nonI {v : V} (h : Rp K H v .non) : v = .non := by cases h; rfl
end

/-! ### equality of data: ints, texts, tuples of them -/
mutual
def D.eqv : D → D → Bool
  | .non, .non => true
  | .bl a, .bl b => a == b
  | .bl a, .int j => (if a then 1 else 0) == j
  | .int i, .bl b => i == (if b then 1 else 0)
  | .int i, .int j => i == j
  | .str x, .str y => x == y
  | .tup xs, .tup ys => D.eqvs xs ys
  | .non, .bl _ | .non, .int _ | .non, .str _ | .non, .tup _ => false
  | .bl _, .non | .bl _, .str _ | .bl _, .tup _ => false
  | .int _, .non | .int _, .str _ | .int _, .tup _ => false
  | .str _, .non | .str _, .bl _ | .str _, .int _ | .str _, .tup _ => false
  | .tup _, .non | .tup _, .bl _ | .tup _, .int _ | .tup _, .str _ => false
def D.eqvs : List D → List D → Bool
  | [], [] => true
  | x :: xs, y :: ys => D.eqv x y && D.eqvs xs ys
  | [], _ :: _ => false
  | _ :: _, [] => false
end
mutual
theorem D.eqv_py : ∀ d e : D, PyData.eqv d.py e.py = D.eqv d e
  | .non, e => by cases e <;> rfl
  | .bl _, e => by cases e <;> rfl
  | .int _, e => by cases e <;> rfl
  | .str _, e => by cases e <;> rfl
  | .tup xs, .tup ys => by
    have h := D.eqvs_py xs ys
    simpa [D.py, PyData.eqv, D.eqv] using h
  | .tup _, .non => rfl
  | .tup _, .bl _ => rfl
  | .tup _, .int _ => rfl
  | .tup _, .str _ => rfl
theorem D.eqvs_py : ∀ ds es : List D, PyData.eqvAll (D.pys ds) (D.pys es) = D.eqvs ds es
  | [], [] => rfl
  | [], _ :: _ => rfl
  | _ :: _, [] => rfl
  | d :: ds, e :: es => by
    have h1 := D.eqv_py d e
    have h2 := D.eqvs_py ds es
    simp only [D.pys, PyData.eqvAll, D.eqvs, h1, h2]
end
mutual
/-- no bool within -/
def D.nb : D → Bool
  | .bl _ => false
  | .tup ds => D.nbs ds
  | _ => true
def D.nbs : List D → Bool
  | [] => true
  | d :: ds => d.nb && D.nbs ds
end
mutual
theorem D.eqv_iff : ∀ d e : D, d.nb = true → e.nb = true → (D.eqv d e = true ↔ d = e)
  | .non, e, _, h => by cases e <;> simp [D.eqv]
  | .bl _, e, h, _ => by simp [D.nb] at h
  | .int _, e, _, h => by cases e <;> simp [D.eqv, D.nb] at h ⊢
  | .str _, e, _, h => by cases e <;> simp [D.eqv]
  | .tup xs, .tup ys, h1, h2 => by
    simp only [D.nb] at h1 h2
    have h := D.eqvs_iff xs ys h1 h2
    simp [D.eqv, h]
  | .tup _, .non, _, _ => by simp [D.eqv]
  | .tup _, .bl _, _, h => by simp [D.nb] at h
  | .tup _, .int _, _, _ => by simp [D.eqv]
  | .tup _, .str _, _, _ => by simp [D.eqv]
theorem D.eqvs_iff : ∀ ds es : List D, D.nbs ds = true → D.nbs es = true → (D.eqvs ds es = true ↔ ds = es)
  | [], [], _, _ => by simp [D.eqvs]
  | [], _ :: _, _, _ => by simp [D.eqvs]
  | _ :: _, [], _, _ => by simp [D.eqvs]
  | d :: ds, e :: es, h1, h2 => by
    simp only [D.nbs, Bool.and_eq_true] at h1 h2
    have a := D.eqv_iff d e h1.1 h2.1
    have b := D.eqvs_iff ds es h1.2 h2.2
    simp [D.eqvs, a, b]
end
mutual
theorem D.eqv_symm : ∀ d e : D, D.eqv d e = D.eqv e d
  | .non, e => by cases e <;> rfl
  | .bl a, e => by cases e <;> first | rfl | exact BEq.comm
  | .int a, e => by cases e <;> first | rfl | exact BEq.comm
  | .str a, e => by cases e <;> first | rfl | exact BEq.comm
  | .tup xs, .tup ys => by
    have h := D.eqvs_symm xs ys
    simp [D.eqv, h]
  | .tup _, .non => rfl
  | .tup _, .bl _ => rfl
  | .tup _, .int _ => rfl
  | .tup _, .str _ => rfl
theorem D.eqvs_symm : ∀ ds es : List D, D.eqvs ds es = D.eqvs es ds
  | [], [] => rfl
  | [], _ :: _ => rfl
  | _ :: _, [] => rfl
  | d :: ds, e :: es => by
    have h1 := D.eqv_symm d e
    have h2 := D.eqvs_symm ds es
    simp only [D.eqvs, h1, h2]
end
mutual
def D.dep : D → Nat
  | .tup ds => D.deps ds + 1
  | _ => 0
def D.deps : List D → Nat
  | [] => 0
  | d :: ds => max d.dep (D.deps ds)
end
mutual
theorem D.depth_py : ∀ d : D, d.py.depth = d.dep
  | .non => by simp [D.py, D.dep, PyData.depth]
  | .bl _ => by simp [D.py, D.dep, PyData.depth]
  | .int _ => by simp [D.py, D.dep, PyData.depth]
  | .str _ => by simp [D.py, D.dep, PyData.depth]
  | .tup ds => by
    have h := D.depths_py ds
    simp [D.py, D.dep, PyData.depth, h]
theorem D.depths_py : ∀ ds : List D, PyData.depthAll (D.pys ds) = D.deps ds
  | [] => by simp [D.pys, D.deps, PyData.depthAll]
  | d :: ds => by
    have h1 := D.depth_py d
    have h2 := D.depths_py ds
    simp [D.pys, D.deps, PyData.depthAll, h1, h2]
end
mutual
/-- its texts can be laid -/
def D.sok : D → Bool
  | .str s => PyData.strOk s
  | .tup ds => D.soks ds
  | _ => true
def D.soks : List D → Bool
  | [] => true
  | d :: ds => d.sok && D.soks ds
end
mutual
theorem D.lay_py : ∀ d : D, PyData.canLay0 d.py = d.sok
  | .non => by simp [D.py, PyData.canLay0, D.sok]
  | .bl _ => by simp [D.py, PyData.canLay0, D.sok]
  | .int _ => by simp [D.py, PyData.canLay0, D.sok]
  | .str _ => by simp [D.py, PyData.canLay0, D.sok]
  | .tup ds => by
    have h := D.lays_py ds
    simp [D.py, PyData.canLay0, D.sok, h]
theorem D.lays_py : ∀ ds : List D, PyData.canLayAll0 (D.pys ds) = D.soks ds
  | [] => by simp [D.pys, PyData.canLayAll0, D.soks]
  | d :: ds => by
    have h1 := D.lay_py d
    have h2 := D.lays_py ds
    simp [D.pys, PyData.canLayAll0, D.soks, h1, h2]
end
/-- data that == is asked of: no bool, texts that can be laid, not too deep -/
structure D.Eq (d : D) : Prop where
  nb : d.nb = true
  sok : d.sok = true
  dep : d.dep ≤ 64
theorem D.shaped {d : D} (h1 : d.sok = true) (h : d.dep ≤ 64) : SeqAt.shaped d.py = true := by
  unfold SeqAt.shaped
  rw [D.lay_py, D.depth_py, h1]
  simpa using h

theorem D.soks_take : ∀ {ds : List D} (n : Nat), D.soks ds = true → D.soks (ds.take n) = true
  | _, 0, _ => rfl
  | [], _ + 1, _ => rfl
  | d :: ds, n + 1, h => by
    simp only [D.soks, Bool.and_eq_true, List.take_succ_cons] at h ⊢
    exact ⟨h.1, D.soks_take n h.2⟩
theorem D.deps_take : ∀ (ds : List D) (n : Nat), D.deps (ds.take n) ≤ D.deps ds
  | _, 0 => by simp [D.deps]
  | [], _ + 1 => by simp [D.deps]
  | d :: ds, n + 1 => by
    have h := D.deps_take ds n
    simp only [D.deps, List.take_succ_cons]
    omega
theorem D.soks_append : ∀ {ds es : List D}, D.soks ds = true → D.soks es = true → D.soks (ds ++ es) = true
  | [], _, _, h => h
  | d :: ds, es, h, h' => by
    simp only [D.soks, Bool.and_eq_true, List.cons_append] at h ⊢
    exact ⟨h.1, D.soks_append h.2 h'⟩
theorem D.deps_append : ∀ (ds es : List D), D.deps (ds ++ es) = max (D.deps ds) (D.deps es)
  | [], es => by simp [D.deps]
  | d :: ds, es => by
    have h := D.deps_append ds es
    simp only [D.deps, List.cons_append, h]
    omega

/-! ### tuples and frozen things alone stand -/
structure Tst (H H' : Hp) : Prop where
  tup : ∀ b xs, H b = some (.tup xs) → H' b = some (.tup xs)
  frz : ∀ b o u, H b = some (.frz o u) → H' b = some (.frz o u)
section
variable {K : PySem.W.Frag} {H H' H1 H2 H3 : Hp} {S : List Addr}
theorem Tst.refl : Tst H H := ⟨fun _ _ h => h, fun _ _ _ h => h⟩
theorem Tst.trans (a : Tst H1 H2) (b : Tst H2 H3) : Tst H1 H3 := ⟨fun c x h => b.tup c x (a.tup c x h), fun c o u h => b.frz c o u (a.frz c o u h)⟩
theorem Ext.ts (e : Ext S H H') : Tst H H' := ⟨e.tup, e.frz⟩
theorem Tst.ext (e : Tst H H') : Ext [] H' H' := Ext.refl
theorem Tst.sqt {a : Addr} {xs : List V} (e : Tst H H') (h : SqT K H a xs) : SqT K H' a xs := by
  rcases h with (h | ⟨o, h⟩) | h
  · exact .inl (.inl (e.tup _ _ h))
  · exact .inl (.inr ⟨o, e.frz _ _ _ h⟩)
  · exact .inr h
mutual
theorem Rp.ts (e : Tst H H') : ∀ {d : D} {v : V}, Rp K H v d → Rp K H' v d
  | _, _, .non => .non
  | _, _, .bl b => .bl b
  | _, _, .int i => .int i
  | _, _, .str s => .str s
  | _, _, .tup h a => .tup (e.sqt h) (RpAll.ts e a)
theorem RpAll.ts (e : Tst H H') : ∀ {ds : List D} {vs : List V}, RpAll K H vs ds → RpAll K H' vs ds
  | _, _, .nil => .nil
  | _, _, .cons h t => .cons (Rp.ts e h) (RpAll.ts e t)
end
theorem Ext.out {H0 : Hp} {l : Addr} (a : Ext S H0 H) (h0 : H0 l = none) (e : Ext [l] H H') : Ext S H0 H' :=
  ⟨fun b u q n => e.keep b u (a.keep b u q n) (by simp; exact ne_of_none q h0), fun b xs q => e.tup b xs (a.tup b xs q), fun b o u q => e.frz b o u (a.frz b o u q)⟩
theorem Ext.in1 {H0 : Hp} {l : Addr} (a : Ext S H0 H) (h0 : l ∈ S) (e : Ext [l] H H') : Ext S H0 H' := a.trans (e.wide (by simpa using h0))
theorem Ext.more {H0 : Hp} (a : Ext S H0 H) (e : Ext [] H H') : Ext S H0 H' := a.trans e.any
end

/-! ### one step of a reading, by the head of what stands there -/
section
variable {σ : St} {H : Hp} {Q : VK} {D0 : Ends} {ta tb te : TE} {t1 t2 ts : TS} {i : Nat} {v x y : V} {K : PySem.W.Frag}
theorem w_seq (h : t1 { D0 with nx := t2 D0 } σ H) : tSeq t1 t2 D0 σ H := h
/-- one statement behind another, with a word M between the two where one wants one -/
def tSeqJ (t u : TS) : TS := fun D σ H => ∃ M : St → Hp → Prop, t { D with nx := M } σ H ∧ ∀ σ' H', M σ' H' → u D σ' H'
theorem w_seqJ (h : t1 { D0 with nx := t2 D0 } σ H) : tSeqJ t1 t2 D0 σ H := ⟨_, h, fun _ _ q => q⟩
theorem w_seqA {g : TG} (h : tAsg te g { D0 with nx := t2 D0 } σ H) : tSeqJ (tAsg te g) t2 D0 σ H := w_seqJ h
theorem w_seqD (h : tDrop te { D0 with nx := t2 D0 } σ H) : tSeqJ (tDrop te) t2 D0 σ H := w_seqJ h
theorem w_next (h : D0.nx σ H) : tNext D0 σ H := h
theorem w_break (h : D0.bk σ H) : tBreak D0 σ H := h
theorem w_cont (h : D0.ct σ H) : tCont D0 σ H := h
theorem w_asg {g : TG} (h : te σ H fun x H1 => g x σ H1 D0.nx) : tAsg te g D0 σ H := h
theorem w_name {Q : St → Hp → Prop} (h : Q (σ.set i (some v)) H) : gName i v σ H Q := h
theorem w_drop (h : te σ H fun _ H1 => D0.nx σ H1) : tDrop te D0 σ H := h
theorem w_ret (h : te σ H D0.rt) : tRet te D0 σ H := h
theorem w_retN (h : D0.rt .non H) : tRetN D0 σ H := h
theorem w_ifS {c : TT} (h : c σ H fun b H1 => if b = true then t1 D0 σ H1 else t2 D0 σ H1) : tIfS c t1 t2 D0 σ H := h
theorem w_test {Q : Bool → Hp → Prop} (h : te σ H fun x H' => ∃ k, x = .bl k ∧ Q k H') : tTest te σ H Q := h
theorem w_tB {Q : Bool → Hp → Prop} (h : te σ H fun x H' => ∃ k, x = .bl k ∧ Q k H') : tB te σ H Q := h
theorem w_exbl {A : Bool → Prop} {b : Bool} (h : A b) : ∃ k, V.bl b = .bl k ∧ A k := ⟨b, rfl, h⟩
theorem w_and {c d : TT} {Q : Bool → Hp → Prop} (h : c σ H fun k H1 => if k = true then d σ H1 Q else Q false H1) : tAnd c d σ H Q := h
theorem w_or {c d : TT} {Q : Bool → Hp → Prop} (h : c σ H fun k H1 => if k = true then Q true H1 else d σ H1 Q) : tOr c d σ H Q := h
theorem w_not {c : TT} {Q : Bool → Hp → Prop} (h : c σ H fun k H1 => Q (!k) H1) : tNot c σ H Q := h
theorem w_andV (h : ta σ H fun x H1 => ∃ c, x = .bl c ∧ if c = true then tb σ H1 Q else Q (.bl false) H1) : tAndV ta tb σ H Q := h
theorem w_orV (h : ta σ H fun x H1 => ∃ c, x = .bl c ∧ if c = true then Q (.bl true) H1 else tb σ H1 Q) : tOrV ta tb σ H Q := h
theorem w_notV (h : ta σ H fun x H1 => ∃ c, x = .bl c ∧ Q (.bl (!c)) H1) : tNotV ta σ H Q := h
theorem w_if {c : TT} (h : c σ H fun k H1 => if k = true then ta σ H1 Q else tb σ H1 Q) : tIf c ta tb σ H Q := h
theorem w_var (e : σ[i]? = some (some v)) (h : Q v H) : tVar i σ H Q := ⟨v, e, h⟩
theorem w_c (h : Q v H) : tC v σ H Q := h
theorem w_op {r : R2} (h : ta σ H fun x H1 => tb σ H1 fun y H2 => r x y H2 Q) : tOp r ta tb σ H Q := h
theorem w_un {r : V → Hp → VK → Prop} (h : ta σ H fun x H1 => r x H1 Q) : tUn r ta σ H Q := h
theorem w_cb {r : List V → Hp → VK → Prop} {t : TA} (h : t σ H fun vs H1 => r vs H1 Q) : tCB r t σ H Q := h
theorem w_cons {t : TA} {Q : List V → Hp → Prop} (h : ta σ H fun x H1 => t σ H1 fun xs H2 => Q (x :: xs) H2) : tCons ta t σ H Q := h
theorem w_nil {Q : List V → Hp → Prop} (h : Q [] H) : tNil σ H Q := h
theorem w_call {sp : Sp} {E : XK} {t : TA} (h : t σ H fun vs H1 => sp vs H1 Q E) : tCall sp [] E t σ H Q := by
  show t σ H fun vs H1 => sp (vs ++ []) H1 Q E
  have e : (fun (vs : List V) (H1 : Hp) => sp (vs ++ []) H1 Q E) = fun vs H1 => sp vs H1 Q E := by
    funext vs H1
    rw [List.append_nil]
  rw [e]
  exact h
def NewT (_ : PySem.W.Frag) (xs : List V) (H : Hp) (Q : VK) : Prop := xs.length ≤ sizeLine ∧ ∀ p, H p = none → Q (.ref p) (upd H p (.tup xs))
def NewL (xs : List V) (H : Hp) (Q : VK) : Prop := xs.length ≤ sizeLine ∧ ∀ p, H p = none → Q (.ref p) (upd H p (.lst xs))
def tTupK (_ : PySem.W.Frag) (t : TA) : TE := tTup t
theorem w_tup {t : TA} (h : t σ H fun xs H1 => NewT K xs H1 Q) : tTupK K t σ H Q := h
theorem w_lst {t : TA} (h : t σ H fun xs H1 => NewL xs H1 Q) : tLst t σ H Q := h
theorem w_newT {xs : List V} {ds : List D} (h : RpAll K H xs ds) (hl : ds.length ≤ sizeLine) (q : ∀ v H', Ext [] H H' → Rp K H' v (.tup ds) → Q v H') : NewT K xs H Q :=
  ⟨by rw [h.length]; exact hl, fun p hp => q _ _ (Ext.new hp) (Rp.new h hp)⟩
theorem w_newL {xs : List V} (hl : xs.length ≤ sizeLine) (q : ∀ p H', H p = none → Ext [] H H' → H' p = some (.lst xs) → Q (.ref p) H') : NewL xs H Q :=
  ⟨hl, fun p hp => q p _ hp (Ext.new hp) upd_same⟩
theorem w_sub {to ti : TE} {t : TSet} {Q : St → Hp → Prop} (h : to σ H fun o H1 => ti σ H1 fun i H2 => t o i v H2 fun H3 => Q σ H3) : gSub to ti t v σ H Q := h
theorem w_bm {T : String} {r : V → List V → Hp → VK → Prop} {t : TA} (h : ta σ H fun x H1 => tyV K T x H1 ∧ t σ H1 fun xs H2 => r x xs H2 Q) : tBM K T r ta t σ H Q := h
theorem w_sl {r : V → Option Int → Option Int → Hp → VK → Prop} {tl th : TO} (h : te σ H fun x H1 => tl σ H1 fun l H2 => th σ H2 fun u H3 => r x l u H3 Q) : tSl r te tl th σ H Q := h
theorem w_noPart {Q : Option Int → Hp → Prop} (h : Q none H) : tNoPart σ H Q := h
theorem w_part {Q : Option Int → Hp → Prop} (h : te σ H fun x H1 => ∃ i, x = .int i ∧ Q (some i) H1) : tPart te σ H Q := h
theorem w_exint {A : Int → Prop} {j : Int} (h : A j) : ∃ i, V.int j = .int i ∧ A i := ⟨j, rfl, h⟩

/-! ### branches -/
theorem w_iteT {c : Bool} {A B : Prop} (e : c = true) (h : A) : if c = true then A else B := by rw [if_pos e]; exact h
theorem w_iteF {c : Bool} {A B : Prop} (e : c = false) (h : B) : if c = true then A else B := by rw [if_neg (by rw [e]; exact Bool.false_ne_true)]; exact h
theorem w_ite {c : Bool} {A B : Prop} (h1 : c = true → A) (h2 : c = false → B) : if c = true then A else B := by
  cases c with
  | true => exact h1 rfl
  | false => exact h2 rfl
theorem w_iteD {P : Prop} [Decidable P] {A B : Prop} (h1 : P → A) (h2 : ¬ P → B) : if decide P = true then A else B := by
  by_cases h : P
  · rw [if_pos (decide_eq_true h)]; exact h1 h
  · rw [if_neg (by simpa using h)]; exact h2 h
theorem w_iteND {P : Prop} [Decidable P] {A B : Prop} (h1 : ¬ P → A) (h2 : P → B) : if (!decide P) = true then A else B := by
  by_cases h : P
  · rw [if_neg (by simpa using h)]; exact h2 h
  · rw [if_pos (by simpa using h)]; exact h1 h

/-! ### values: ints -/
theorem r_i0 {g : Int → Int → V} {i j : Int} (h : Q (g i j) H) : rI0 g (.int i) (.int j) H Q := ⟨i, j, rfl, rfl, h⟩
theorem r_iC {C : Int → Int → Prop} {g : Int → Int → V} {i j : Int} (c : C i j) (h : Q (g i j) H) : rI C g (.int i) (.int j) H Q := ⟨i, j, rfl, rfl, c, h⟩
theorem r_u {g : Int → V} {i : Int} (h : Q (g i) H) : rU g (.int i) H Q := ⟨i, rfl, h⟩
def rAddI : R2 := rI0 fun i j => .int (i + j)
def rSubI : R2 := rI0 fun i j => .int (i - j)
def rMulI : R2 := rI CMul fun i j => .int (i * j)
def rDivI : R2 := rI CDiv fun i j => .int (i / j)
def rModI : R2 := rI (fun _ j => 0 < j) fun i j => .int (i % j)
def rLtI : R2 := rI0 fun i j => .bl (decide (i < j))
def rLeI : R2 := rI0 fun i j => .bl (decide (i ≤ j))
def rGtI : R2 := rI0 fun i j => .bl (decide (j < i))
def rGeI : R2 := rI0 fun i j => .bl (decide (j ≤ i))
theorem r_sub {i j : Int} (h : Q (.int (i - j)) H) : rSubI (.int i) (.int j) H Q := r_i0 h
theorem r_mul {i j : Int} (c : CMul i j) (h : Q (.int (i * j)) H) : rMulI (.int i) (.int j) H Q := r_iC c h
theorem r_div {i j : Int} (c : CDiv i j) (h : Q (.int (i / j)) H) : rDivI (.int i) (.int j) H Q := r_iC c h
theorem r_mod {i j : Int} (c : 0 < j) (h : Q (.int (i % j)) H) : rModI (.int i) (.int j) H Q := r_iC c h
theorem r_lt {i j : Int} (h : Q (.bl (decide (i < j))) H) : rLtI (.int i) (.int j) H Q := r_i0 h
theorem r_le {i j : Int} (h : Q (.bl (decide (i ≤ j))) H) : rLeI (.int i) (.int j) H Q := r_i0 h
theorem r_gt {i j : Int} (h : Q (.bl (decide (j < i))) H) : rGtI (.int i) (.int j) H Q := r_i0 h
theorem r_ge {i j : Int} (h : Q (.bl (decide (j ≤ i))) H) : rGeI (.int i) (.int j) H Q := r_i0 h
theorem cmul_r {i j : Int} (h1 : -18446744073709551616 < j) (h2 : j < 18446744073709551616) : CMul i j := .inr ⟨by omega, by omega⟩
theorem cmul_l {i j : Int} (h1 : -18446744073709551616 < i) (h2 : i < 18446744073709551616) : CMul i j := .inl ⟨by omega, by omega⟩

/-! ### + of ints, texts, tuples, lists -/
def rAddS : R2 := fun x y H Q => ∃ i j, x = .str i ∧ y = .str j ∧ i.length + j.length ≤ sizeLine ∧ Q (.str (i ++ j)) H
def rAddG (K : PySem.W.Frag) : R2 := fun x y H Q => rAddI x y H Q ∨ rAddS x y H Q ∨ rCatA K x y H Q ∨ rCat x y H Q
theorem a_int {i j : Int} (h : Q (.int (i + j)) H) : rAddG K (.int i) (.int j) H Q := .inl (r_i0 h)
theorem a_str {i j : Str} (hl : i.length + j.length ≤ sizeLine) (h : Q (.str (i ++ j)) H) : rAddG K (.str i) (.str j) H Q := .inr (.inl ⟨i, j, rfl, rfl, hl, h⟩)
theorem a_tup {ds es : List D} (hx : Rp K H x (.tup ds)) (hy : Rp K H y (.tup es)) (hl : ds.length + es.length ≤ sizeLine) (h : ∀ v H', Ext [] H H' → Rp K H' v (.tup (ds ++ es)) → Q v H') : rAddG K x y H Q := by
  obtain ⟨a, xs, rfl, h1, h2⟩ := hx.tupI
  obtain ⟨b, ys, rfl, h3, h4⟩ := hy.tupI
  refine .inr (.inr (.inl ⟨a, b, xs, ys, rfl, rfl, h1, h3, by rw [h2.length, h4.length]; exact hl, fun e => ?_, fun _ e => ?_, fun _ _ p hp => ?_⟩))
  · subst e
    cases h2
    exact h _ _ Ext.refl (.tup h3 h4)
  · subst e
    cases h4
    refine h _ _ Ext.refl ?_
    rw [List.append_nil]
    exact .tup h1 h2
  · exact h _ _ (Ext.new hp) (Rp.new (h2.append h4) hp)
theorem a_lst {l b : Addr} {xs zs : List V} (h1 : H l = some (.lst xs)) (h2 : H b = some (.lst zs)) (hl : xs.length + zs.length ≤ sizeLine) (h : ∀ p H', H p = none → Ext [] H H' → H' p = some (.lst (xs ++ zs)) → Q (.ref p) H') : rAddG K (.ref l) (.ref b) H Q :=
  .inr (.inr (.inr ⟨l, b, xs, zs, rfl, rfl, h1, h2, hl, fun p hp => h p _ hp (Ext.new hp) upd_same⟩))

/-! ### == -/
def rEqG (K : PySem.W.Frag) : R2 := fun x y H Q => rEq x y H Q ∨ rEqD K x y H Q
def rNeG (K : PySem.W.Frag) : R2 := fun x y H Q => rNe x y H Q ∨ rNeD K x y H Q
theorem e_scal (s : scal x y = true) (h : Q (.bl (decide (x = y))) H) : rEqG K x y H Q := .inl ⟨s, h⟩
theorem n_scal (s : scal x y = true) (h : Q (.bl (!decide (x = y))) H) : rNeG K x y H Q := .inl ⟨s, h⟩
theorem dec_vs {i j : Str} : decide (V.str i = V.str j) = decide (i = j) := by
  rw [Bool.eq_iff_iff]
  simp
theorem dec_vi {i j : Int} : decide (V.int i = V.int j) = decide (i = j) := by
  rw [Bool.eq_iff_iff]
  simp
theorem e_str {i j : Str} (h : Q (.bl (decide (i = j))) H) : rEqG K (.str i) (.str j) H Q := .inl ⟨rfl, by rw [dec_vs]; exact h⟩
theorem e_int {i j : Int} (h : Q (.bl (decide (i = j))) H) : rEqG K (.int i) (.int j) H Q := .inl ⟨rfl, by rw [dec_vi]; exact h⟩
theorem e_is {i : Int} {j : Str} (h : Q (.bl false) H) : rEqG K (.int i) (.str j) H Q := .inl ⟨rfl, by simpa using h⟩
theorem e_si {i : Int} {j : Str} (h : Q (.bl false) H) : rEqG K (.str j) (.int i) H Q := .inl ⟨rfl, by simpa using h⟩
theorem n_str {i j : Str} (h : Q (.bl (!decide (i = j))) H) : rNeG K (.str i) (.str j) H Q := .inl ⟨rfl, by rw [dec_vs]; exact h⟩
theorem n_int {i j : Int} (h : Q (.bl (!decide (i = j))) H) : rNeG K (.int i) (.int j) H Q := .inl ⟨rfl, by rw [dec_vi]; exact h⟩
theorem e_D {d e : D} (hx : Rp K H x d) (hy : Rp K H y e) (h1 : d.sok = true) (h2 : d.dep ≤ 64) (h3 : e.sok = true) (h4 : e.dep ≤ 64) (h : Q (.bl (D.eqv d e)) H) : rEqG K x y H Q :=
  .inr ⟨_, _, hx.dp, hy.dp, D.shaped h1 h2, D.shaped h3 h4, by rw [D.eqv_py]; exact h⟩
theorem n_D {d e : D} (hx : Rp K H x d) (hy : Rp K H y e) (h1 : d.sok = true) (h2 : d.dep ≤ 64) (h3 : e.sok = true) (h4 : e.dep ≤ 64) (h : Q (.bl (!D.eqv d e)) H) : rNeG K x y H Q :=
  .inr ⟨_, _, hx.dp, hy.dp, D.shaped h1 h2, D.shaped h3 h4, by rw [D.eqv_py]; exact h⟩

/-! ### subscripts, slices, len -/
theorem x_D {ds : List D} {i : Int} {d : D} (hx : Rp K H x (.tup ds)) (e : atI ds i = some d) (h : ∀ v, Rp K H v d → Q v H) : rIx K x (.int i) H Q := by
  obtain ⟨a, xs, rfl, h1, h2⟩ := hx.tupI
  unfold atI at e
  obtain ⟨j, hj, hd⟩ := Option.bind_eq_some_iff.mp e
  obtain ⟨v, hv, hr⟩ := h2.getD hd
  refine .inr (.inl ⟨a, xs, i, v, rfl, rfl, h1, ?_, h v hr⟩)
  unfold atI
  rw [h2.length, hj]
  exact hv
theorem x_Ds {ds : List D} {i : Int} {d : Str} (hx : Rp K H x (.tup ds)) (e : atI ds i = some (.str d)) (h : Q (.str d) H) : rIx K x (.int i) H Q := x_D hx e fun v r => by cases r; exact h
theorem x_Di {ds : List D} {i : Int} {d : Int} (hx : Rp K H x (.tup ds)) (e : atI ds i = some (.int d)) (h : Q (.int d) H) : rIx K x (.int i) H Q := x_D hx e fun v r => by cases r; exact h
theorem x_L {p : Addr} {xs : List V} {i : Int} (hx : SqL K H p xs) (e : atI xs i = some v) (h : Q v H) : rIx K (.ref p) (.int i) H Q := .inl ⟨p, xs, i, v, rfl, rfl, hx, e, h⟩
theorem x_l {p : Addr} {xs : List V} {i : Int} (hx : H p = some (.lst xs)) (e : atI xs i = some v) (h : Q v H) : rIx K (.ref p) (.int i) H Q := x_L (SqL.of hx) e h
def rSlG (K : PySem.W.Frag) : V → Option Int → Option Int → Hp → VK → Prop := fun x lo hi H Q => rSlL K x lo hi H Q ∨ rSlA K x lo hi H Q ∨ rSlS x lo hi H Q
def cutD {α : Type} (xs : List α) (lo hi : Option Int) : List α := (xs.drop (HT.sIx xs.length 0 lo)).take (HT.sIx xs.length xs.length hi - HT.sIx xs.length 0 lo)
theorem cutD_all {α : Type} {xs : List α} {lo hi : Option Int} (h : HT.sIx xs.length 0 lo = 0 ∧ HT.sIx xs.length xs.length hi = xs.length) : cutD xs lo hi = xs := by
  unfold cutD
  rw [h.1, h.2]
  simp
theorem cut_to {α : Type} (xs : List α) {n : Int} (h : 0 ≤ n) : cutD xs none (some n) = xs.take n.toNat := by
  obtain ⟨k, rfl⟩ : ∃ k : Nat, n = (k : Int) := ⟨n.toNat, by omega⟩
  unfold cutD
  rw [HT.sIx_none, HT.sIx_nat]
  simp [← List.take_eq_take_min]
theorem cut_from {α : Type} (xs : List α) {n : Int} (h : 0 ≤ n) : cutD xs (some n) none = xs.drop n.toNat := by
  obtain ⟨k, rfl⟩ : ∃ k : Nat, n = (k : Int) := ⟨n.toNat, by omega⟩
  unfold cutD
  rw [HT.sIx_none, HT.sIx_nat]
  by_cases hk : k ≤ xs.length
  · rw [Nat.min_eq_left hk]
    simp
    rw [List.take_of_length_le (by simp)]
  · rw [Nat.min_eq_right (by omega)]
    simp
    omega
theorem s_D {ds : List D} {lo hi : Option Int} (hx : Rp K H x (.tup ds)) (h : ∀ v H', Ext [] H H' → Rp K H' v (.tup (cutD ds lo hi)) → Q v H') : rSlG K x lo hi H Q := by
  obtain ⟨a, xs, rfl, h1, h2⟩ := hx.tupI
  refine .inr (.inl ⟨a, xs, rfl, h1, fun e => ?_, fun _ p hp => ?_⟩)
  · refine h _ _ Ext.refl ?_
    rw [h2.length] at e
    rw [cutD_all e]
    exact hx
  · refine h _ _ (Ext.new hp) (Rp.new ?_ hp)
    unfold cutV cutD
    rw [h2.length]
    exact (h2.drop _).take _
theorem s_L {p : Addr} {xs : List V} {lo hi : Option Int} (hx : SqL K H p xs) (h : ∀ q H', H q = none → Ext [] H H' → H' q = some (.lst (cutD xs lo hi)) → Q (.ref q) H') : rSlG K (.ref p) lo hi H Q :=
  .inl ⟨p, xs, rfl, hx, fun q hq => h q _ hq (Ext.new hq) upd_same⟩
def rLen (K : PySem.W.Frag) : List V → Hp → VK → Prop := fun xs H Q => ∃ x n, xs = [x] ∧ LenV K x H n ∧ Q (.int n) H
theorem l_D {ds : List D} (hx : Rp K H x (.tup ds)) (h : Q (.int ds.length) H) : rLen K [x] H Q := by
  obtain ⟨a, xs, rfl, h1, h2⟩ := hx.tupI
  exact ⟨_, _, rfl, .inr ⟨xs, h1, rfl⟩, by rw [h2.length]; exact h⟩
theorem l_L {p : Addr} {xs : List V} (hx : SqL K H p xs) (h : Q (.int xs.length) H) : rLen K [.ref p] H Q := ⟨_, _, rfl, .inl ⟨xs, hx, rfl⟩, h⟩
theorem l_l {p : Addr} {xs : List V} (hx : H p = some (.lst xs)) (h : Q (.int xs.length) H) : rLen K [.ref p] H Q := l_L (SqL.of hx) h
theorem l_s {s : Str} (hx : s.length ≤ sizeLine) (h : Q (.int s.length) H) : rLen K [.str s] H Q := ⟨_, _, rfl, ⟨hx, rfl⟩, h⟩

/-! ### is -/
def rIsNo : R2 := fun x y H Q => y = .non ∧ Q (.bl (decide (x = .non))) H
def rIsNN : R2 := fun x y H Q => y = .non ∧ Q (.bl (!decide (x = .non))) H
theorem i_n (h : Q (.bl (decide (x = .non))) H) : rIsNo x .non H Q := ⟨rfl, h⟩
theorem i_nn (h : Q (.bl (!decide (x = .non))) H) : rIsNN x .non H Q := ⟨rfl, h⟩
theorem i_b {a b : Bool} (h : Q (.bl (decide (a = b))) H) : rIsB (.bl a) (.bl b) H Q := ⟨a, b, rfl, rfl, h⟩
theorem i_nb {a b : Bool} (h : Q (.bl (!decide (a = b))) H) : rNotB (.bl a) (.bl b) H Q := ⟨a, b, rfl, rfl, h⟩

/-! ### built-ins of ints; tuple(list); list.append; xs[i] = v -/
def rAbs : List V → Hp → VK → Prop := fun xs H Q => ∃ i, xs = [.int i] ∧ Q (.int (if i < 0 then -i else i)) H
def rInt1 : List V → Hp → VK → Prop := fun xs H Q => (∃ i, xs = [.int i] ∧ Q (.int i) H) ∨ ∃ k, xs = [.bl k] ∧ Q (.int (if k then 1 else 0)) H
def rTupOf (K : PySem.W.Frag) : List V → Hp → VK → Prop := fun xs H Q => ∃ p ys, xs = [.ref p] ∧ ((SqL K H p ys ∧ ∀ l, H l = none → Q (.ref l) (upd H l (.tup ys))) ∨ (SqT K H p ys ∧ Q (.ref p) H))
def rLstOf (K : PySem.W.Frag) : List V → Hp → VK → Prop := fun xs H Q => ∃ p ys, xs = [.ref p] ∧ (SqL K H p ys ∨ SqT K H p ys) ∧ ∀ l, H l = none → Q (.ref l) (upd H l (.lst ys))
theorem b_abs {i : Int} (h : Q (.int (if i < 0 then -i else i)) H) : rAbs [.int i] H Q := ⟨i, rfl, h⟩
theorem b_int {i : Int} (h : Q (.int i) H) : rInt1 [.int i] H Q := .inl ⟨i, rfl, h⟩
theorem b_tupl {p : Addr} {xs : List V} {ds : List D} (hx : H p = some (.lst xs)) (ha : RpAll K H xs ds) (h : ∀ v H', Ext [] H H' → Rp K H' v (.tup ds) → Q v H') : rTupOf K [.ref p] H Q :=
  ⟨p, xs, rfl, .inl ⟨SqL.of hx, fun l hl => h _ _ (Ext.new hl) (Rp.new ha hl)⟩⟩
theorem m_app {l : Addr} {xs : List V} (hx : H l = some (.lst xs)) (hl : xs.length < sizeLine) (h : ∀ H', Ext [l] H H' → H' l = some (.lst (xs ++ [y])) → Q .non H') : rAppend (.ref l) [y] H Q :=
  ⟨l, xs, y, rfl, rfl, hx, hl, h _ (Ext.put hx (by simp)) upd_same⟩
theorem ty_l {l : Addr} {xs : List V} (hx : H l = some (.lst xs)) : tyV K "list" (.ref l) H := .inl ⟨rfl, xs, SqL.of hx⟩
theorem t_set {l : Addr} {xs : List V} {k : Int} {j : Nat} {Q : Hp → Prop} (hx : H l = some (.lst xs)) (e : ixN xs.length k = some j) (h : ∀ H', Ext [l] H H' → H' l = some (.lst (xs.set j v)) → Q H') : rSetL (.ref l) (.int k) v H Q :=
  ⟨l, xs, k, j, rfl, rfl, hx, e, h _ (Ext.put hx (by simp)) upd_same⟩

theorem t_set0 {l : Addr} {x0 : V} {r : List V} {Q : Hp → Prop} (hx : H l = some (.lst (x0 :: r))) (h : ∀ H', Ext [l] H H' → H' l = some (.lst (v :: r)) → Q H') : rSetL (.ref l) (.int 0) v H Q :=
  t_set (j := 0) hx (by first | (simp [ixN]; omega) | simp [ixN]) h
theorem t_set1 {l : Addr} {x0 x1 : V} {r : List V} {Q : Hp → Prop} (hx : H l = some (.lst (x0 :: x1 :: r))) (h : ∀ H', Ext [l] H H' → H' l = some (.lst (x0 :: v :: r)) → Q H') : rSetL (.ref l) (.int 1) v H Q :=
  t_set (j := 1) hx (by first | (simp [ixN]; omega) | simp [ixN]) h
theorem t_set2 {l : Addr} {x0 x1 x2 : V} {r : List V} {Q : Hp → Prop} (hx : H l = some (.lst (x0 :: x1 :: x2 :: r))) (h : ∀ H', Ext [l] H H' → H' l = some (.lst (x0 :: x1 :: v :: r)) → Q H') : rSetL (.ref l) (.int 2) v H Q :=
  t_set (j := 2) hx (by first | (simp [ixN]; omega) | simp [ixN]) h
theorem t_set3 {l : Addr} {x0 x1 x2 x3 : V} {r : List V} {Q : Hp → Prop} (hx : H l = some (.lst (x0 :: x1 :: x2 :: x3 :: r))) (h : ∀ H', Ext [l] H H' → H' l = some (.lst (x0 :: x1 :: x2 :: v :: r)) → Q H') : rSetL (.ref l) (.int 3) v H Q :=
  t_set (j := 3) hx (by first | (simp [ixN]; omega) | simp [ixN]) h
theorem atI_int {ns : List Int} {i : Int} (h0 : 0 ≤ i) (h : i < (ns.length : Int)) : ∃ z, ns[i.toNat]? = some z ∧ atI (ns.map V.int) i = some (V.int z) := by
  have hk : i.toNat < ns.length := by omega
  refine ⟨ns[i.toNat], by simp [hk], at_of (j := i.toNat) (by omega) (by rw [List.getElem?_map, List.getElem?_eq_getElem hk]; rfl)⟩

theorem at_nat {α : Type} {xs : List α} {i : Int} {j : Nat} {v : α} (e : i = (j : Int)) (h : xs[j]? = some v) : atI xs i = some v := by
  rw [e]
  exact atI_nat h

/-! ### loops -/
/-- a for's reading once its iterator has come -/
def ForOk (J : It) (g : TG) (tb : TS) (D : Ends) (σ : St) (H : Hp) : Prop := ∃ W : Nat → Nat → St → Hp → Prop, (∃ m, W 0 m σ H) ∧ ∀ i m σ H, W i m σ H →
  (J.stop i H ∧ D.nx σ H) ∨ (J.go i H ∧ ∃ N : St → Hp → Prop, (∀ σ' H', N σ' H' → ∃ m', m' < m ∧ W (i + 1) m' σ' H') ∧ ∀ x H', J.yld i H x H' → g x σ H' fun σ2 H2 => tb { D with nx := N, ct := N, bk := D.nx } σ2 H2)
theorem w_for {wi : TI} {g : TG} {tb : TS} (h : wi σ H fun J H1 => ForOk J g tb D0 σ H1) : tFor wi g tb D0 σ H := h
theorem w_rng1 {ta : TA} {R : It → Hp → Prop} (h : ta σ H fun vs H1 => ∃ j : Int, vs = [.int j] ∧ -(2 ^ 62) ≤ j ∧ j < 2 ^ 62 ∧ R (Itr 0 j.toNat) H1) : iRng1 ta σ H R := h
theorem w_rng2 {ta : TA} {R : It → Hp → Prop} (h : ta σ H fun vs H1 => ∃ i j : Int, vs = [.int i, .int j] ∧ (-(2 ^ 62) ≤ i ∧ i < 2 ^ 62 ∧ -(2 ^ 62) ≤ j ∧ j < 2 ^ 62) ∧ R (Itr i (j - i).toNat) H1) : iRng2 ta σ H R := h
theorem w_exr1 {j : Int} {A : Int → Prop} (h1 : -4611686018427387904 ≤ j ∧ j < 4611686018427387904) (h : A j) : ∃ i : Int, [V.int j] = [.int i] ∧ -(2 ^ 62) ≤ i ∧ i < 2 ^ 62 ∧ A i := ⟨j, rfl, by omega, by omega, h⟩
theorem w_exr2 {j k : Int} {A : Int → Int → Prop} (h1 : -4611686018427387904 ≤ j ∧ j < 4611686018427387904 ∧ -4611686018427387904 ≤ k ∧ k < 4611686018427387904) (h : A j k) :
    ∃ i l : Int, [V.int j, V.int k] = [.int i, .int l] ∧ (-(2 ^ 62) ≤ i ∧ i < 2 ^ 62 ∧ -(2 ^ 62) ≤ l ∧ l < 2 ^ 62) ∧ A i l := ⟨j, k, rfl, by omega, h⟩
theorem w_list {R : It → Hp → Prop} (h : te σ H fun x H1 => ∃ a, x = .ref a ∧ (∃ xs, SqL K H1 a xs) ∧ R (Itl K a) H1) : iList K te σ H R := h
theorem w_tupI {R : It → Hp → Prop} (h : te σ H fun x H1 => ∃ a, x = .ref a ∧ (∃ xs, SqT K H1 a xs) ∧ R (Itt K a) H1) : iTup K te σ H R := h
theorem w_exl {a : Addr} {xs : List V} {A : Addr → Prop} (h1 : SqL K H a xs) (h : A a) : ∃ b, V.ref a = .ref b ∧ (∃ xs, SqL K H b xs) ∧ A b := ⟨a, rfl, ⟨xs, h1⟩, h⟩
theorem w_ext {ds : List D} {A : Addr → Prop} (h1 : Rp K H x (.tup ds)) (h : ∀ a, x = .ref a → A a) : ∃ b, x = .ref b ∧ (∃ xs, SqT K H b xs) ∧ A b := by
  obtain ⟨a, xs, rfl, h2, _⟩ := h1.tupI
  exact ⟨a, rfl, ⟨xs, h2⟩, h a rfl⟩
/-- over a range -/
theorem f_rng {lo : Int} {n g : Nat} {tb : TS} (W : Nat → St → Hp → Prop) (h0 : W 0 σ H)
    (hs : ∀ i σ H, i < n → W i σ H → tb { D0 with nx := W (i + 1), ct := W (i + 1), bk := D0.nx } (σ.set g (some (.int (lo + i)))) H) (hd : ∀ σ H, W n σ H → D0.nx σ H) : ForOk (Itr lo n) (gName g) tb D0 σ H :=
  for_range W h0 hs hd
/-- over a list that stands -/
theorem f_lst {a : Addr} {xs : List V} {g : Nat} {tb : TS} (W : Nat → St → Hp → Prop) (h0 : W 0 σ H) (hl : ∀ i σ H, i ≤ xs.length → W i σ H → SqL K H a xs)
    (hs : ∀ i v σ H, xs[i]? = some v → W i σ H → tb { D0 with nx := W (i + 1), ct := W (i + 1), bk := D0.nx } (σ.set g (some v)) H) (hd : ∀ σ H, W xs.length σ H → D0.nx σ H) : ForOk (Itl K a) (gName g) tb D0 σ H :=
  for_list W h0 hl hs hd
/-- over the items of a tuple; W by the turn -/
theorem f_tup {a : Addr} {g : Nat} {ds : List D} {tb : TS} (W : Nat → St → Hp → Prop) (h0 : W 0 σ H) (hk : ∀ i σ H, i ≤ ds.length → W i σ H → Rp K H (.ref a) (.tup ds))
    (hs : ∀ i d v σ H, ds[i]? = some d → Rp K H v d → W i σ H → tb { D0 with nx := W (i + 1), ct := W (i + 1), bk := D0.nx } (σ.set g (some v)) H) (hd : ∀ σ H, W ds.length σ H → D0.nx σ H) :
    ForOk (Itt K a) (gName g) tb D0 σ H := by
  refine ⟨fun i m σ H => m = ds.length - i ∧ i ≤ ds.length ∧ W i σ H, ⟨ds.length, by simp, Nat.zero_le _, h0⟩, ?_⟩
  rintro i m σ H ⟨rfl, hi, p⟩
  obtain ⟨a', xs', e, k1, k2⟩ := (hk i σ H hi p).tupI
  cases e
  have hl := k2.length
  by_cases hlt : i < ds.length
  · refine .inr ⟨⟨xs', xs'[i]'(by omega), k1, by simp [show i < xs'.length by omega]⟩, W (i + 1), fun σ' H' p' => ⟨ds.length - (i + 1), by omega, rfl, hlt, p'⟩, fun x H' y => ?_⟩
    obtain ⟨e, y⟩ := y
    subst e
    obtain ⟨d, hd1, hr⟩ := k2.get (y xs' k1)
    exact hs i d x σ _ hd1 hr p
  · have e : i = ds.length := by omega
    subst e
    exact .inl ⟨⟨xs', k1, by omega⟩, hd σ H p⟩
/-! ### comprehensions -/
def LcOk (J : It) (g : TG) (tt : TT) (te : TE) (vs : List Nat) (σ : St) (D : Addr) (H1 : Hp) (Q : VK) : Prop := ∃ W : Nat → Nat → Hp → Prop, (∃ m, W 0 m (upd H1 D (.lst []))) ∧ ∀ i m H, W i m H →
  (J.stop i H ∧ Q (.ref D) H) ∨ (J.go i H ∧ ∃ Nx : Hp → Prop, (∀ H', Nx H' → ∃ m', m' < m ∧ W (i + 1) m' H') ∧ ∀ x H', J.yld i H x H' → g x (wipe σ vs) H' fun σ2 H2 => wipe σ2 vs = wipe σ vs ∧ tt σ2 H2 fun b H3 =>
    if b = true then te σ2 H3 fun y H4 => ∃ acc, H4 D = some (.lst acc) ∧ acc.length < sizeLine ∧ Nx (upd H4 D (.lst (acc ++ [y]))) else Nx H3)
theorem w_lc {wi : TI} {g : TG} {tt : TT} {vs : List Nat} (h : wi σ H fun J H1 => ∀ D, H1 D = none → LcOk J g tt te vs σ D H1 Q) : tLc wi g tt te vs σ H Q := h
/-- what a turn of a comprehension is to reach: the list so far is acc at D -/
def LcN (D : Addr) (W : Nat → Hp → List V → Prop) (i : Nat) (H : Hp) : Prop := ∃ acc, H D = some (.lst acc) ∧ acc.length ≤ i ∧ W i H acc
def LcT (D : Addr) (W : Nat → Hp → List V → Prop) (i : Nat) (y : V) (H : Hp) : Prop := ∃ acc, H D = some (.lst acc) ∧ acc.length < sizeLine ∧ LcN D W (i + 1) (upd H D (.lst (acc ++ [y])))
theorem turn1 {D : Addr} {W : Nat → Hp → List V → Prop} {i : Nat} {acc : List V} (h1 : H D = some (.lst acc)) (h2 : acc.length ≤ i) (h3 : i < sizeLine) (h : ∀ H', Ext [D] H H' → H' D = some (.lst (acc ++ [y])) → W (i + 1) H' (acc ++ [y])) : LcT D W i y H :=
  ⟨acc, h1, by omega, acc ++ [y], upd_same, by rw [List.length_append]; simp; omega, h _ (Ext.put h1 (by simp)) upd_same⟩
theorem turn0 {D : Addr} {W : Nat → Hp → List V → Prop} {i : Nat} {acc : List V} (h1 : H D = some (.lst acc)) (h2 : acc.length ≤ i) (h : W (i + 1) H acc) : LcN D W (i + 1) H := ⟨acc, h1, by omega, h⟩
theorem c_gen {J : It} {n g : Nat} {tt : TT} {D : Addr} (R : Nat → V → Hp → Prop) (W : Nat → Hp → List V → Prop) (hD : H D = none)
    (hgo : ∀ i H acc, i < n → W i H acc → J.go i H) (hst : ∀ H acc, W n H acc → J.stop n H) (hy : ∀ i x H H' acc, i < n → W i H acc → J.yld i H x H' → H' = H ∧ R i x H)
    (h0 : ∀ H', Ext [] H H' → H' D = some (.lst []) → W 0 H' [])
    (hs : ∀ i x H acc, i < n → H D = some (.lst acc) → acc.length ≤ i → R i x H → W i H acc → tt (σ.set g (some x)) H fun b H3 => if b = true then te (σ.set g (some x)) H3 (LcT D W i) else LcN D W (i + 1) H3)
    (hd : ∀ H acc, H D = some (.lst acc) → W n H acc → Q (.ref D) H) : LcOk J (gName g) tt te [g] σ D H Q := by
  refine ⟨fun i m H => m = n - i ∧ i ≤ n ∧ LcN D W i H, ⟨n, by simp, Nat.zero_le _, [], upd_same, Nat.le_refl _, h0 _ (Ext.new hD) upd_same⟩, ?_⟩
  rintro i m H ⟨rfl, hi, acc, e1, e2, p⟩
  by_cases hlt : i < n
  · refine .inr ⟨hgo i H acc hlt p, LcN D W (i + 1), fun H' p' => ⟨n - (i + 1), by omega, rfl, hlt, p'⟩, fun x H' y => ?_⟩
    obtain ⟨e, r⟩ := hy i x H H' acc hlt p y
    subst e
    have s1 : (wipe σ [g]).set g (some x) = σ.set g (some x) := by
      show (σ.set g none).set g (some x) = _
      rw [List.set_set]
    show wipe ((wipe σ [g]).set g (some x)) [g] = wipe σ [g] ∧ _
    rw [s1]
    refine ⟨?_, ?_⟩
    · show (σ.set g (some x)).set g none = σ.set g none
      rw [List.set_set]
    exact hs i x H' acc hlt e1 e2 r p
  · have e : i = n := by omega
    subst e
    exact .inl ⟨hst H acc p, hd H acc e1 p⟩
/-- over a range -/
theorem c_rng {lo : Int} {n g : Nat} {tt : TT} {D : Addr} (W : Nat → Hp → List V → Prop) (hD : H D = none) (h0 : ∀ H', Ext [] H H' → H' D = some (.lst []) → W 0 H' [])
    (hs : ∀ i H acc, i < n → H D = some (.lst acc) → acc.length ≤ i → W i H acc → tt (σ.set g (some (.int (lo + i)))) H fun b H3 => if b = true then te (σ.set g (some (.int (lo + i)))) H3 (LcT D W i) else LcN D W (i + 1) H3)
    (hd : ∀ H acc, H D = some (.lst acc) → W n H acc → Q (.ref D) H) : LcOk (Itr lo n) (gName g) tt te [g] σ D H Q :=
  c_gen (fun i x _ => x = .int (lo + i)) W hD (fun _ _ _ h _ => h) (fun _ _ _ => Nat.le_refl n) (fun _ _ _ _ _ _ _ y => y) h0 (fun i x H acc hi e1 e2 r p => by subst r; exact hs i H acc hi e1 e2 p) hd
/-- over a list that stands -/
theorem c_lst {a : Addr} {xs : List V} {g : Nat} {tt : TT} {D : Addr} (W : Nat → Hp → List V → Prop) (hD : H D = none) (hl : ∀ i H acc, i ≤ xs.length → W i H acc → SqL K H a xs) (h0 : ∀ H', Ext [] H H' → H' D = some (.lst []) → W 0 H' [])
    (hs : ∀ i x H acc, xs[i]? = some x → H D = some (.lst acc) → acc.length ≤ i → W i H acc → tt (σ.set g (some x)) H fun b H3 => if b = true then te (σ.set g (some x)) H3 (LcT D W i) else LcN D W (i + 1) H3)
    (hd : ∀ H acc, H D = some (.lst acc) → W xs.length H acc → Q (.ref D) H) : LcOk (Itl K a) (gName g) tt te [g] σ D H Q :=
  c_gen (n := xs.length) (fun i x _ => xs[i]? = some x) W hD (fun i H acc h p => ⟨xs, xs[i], hl i H acc (Nat.le_of_lt h) p, by simp [h]⟩) (fun H acc p => ⟨xs, hl _ H acc (Nat.le_refl _) p, Nat.le_refl _⟩)
    (fun i x H H' acc h p y => ⟨y.1, y.2 xs (hl i H acc (Nat.le_of_lt h) p)⟩) h0 (fun i x H acc _ e1 e2 r p => hs i x H acc r e1 e2 p) hd
/-- over the items of a tuple -/
theorem c_tup {a : Addr} {ds : List D} {g : Nat} {tt : TT} {D : Addr} (W : Nat → Hp → List V → Prop) (hD : H D = none) (hl : ∀ i H acc, i ≤ ds.length → W i H acc → Rp K H (.ref a) (.tup ds)) (h0 : ∀ H', Ext [] H H' → H' D = some (.lst []) → W 0 H' [])
    (hs : ∀ i d x H acc, ds[i]? = some d → Rp K H x d → H D = some (.lst acc) → acc.length ≤ i → W i H acc → tt (σ.set g (some x)) H fun b H3 => if b = true then te (σ.set g (some x)) H3 (LcT D W i) else LcN D W (i + 1) H3)
    (hd : ∀ H acc, H D = some (.lst acc) → W ds.length H acc → Q (.ref D) H) : LcOk (Itt K a) (gName g) tt te [g] σ D H Q := by
  have get : ∀ i H acc, i ≤ ds.length → W i H acc → ∃ xs, SqT K H a xs ∧ RpAll K H xs ds := fun i H acc hi p => by
    obtain ⟨a', xs, e, h1, h2⟩ := (hl i H acc hi p).tupI
    cases e
    exact ⟨xs, h1, h2⟩
  refine c_gen (n := ds.length) (fun i x H => ∃ d, ds[i]? = some d ∧ Rp K H x d) W hD (fun i H acc h p => ?_) (fun H acc p => ?_) (fun i x H H' acc h p y => ?_) h0 (fun i x H acc _ e1 e2 r p => ?_) hd
  · obtain ⟨xs, h1, h2⟩ := get i H acc (Nat.le_of_lt h) p
    have hl := h2.length
    exact ⟨xs, xs[i]'(by omega), h1, by simp [show i < xs.length by omega]⟩
  · obtain ⟨xs, h1, h2⟩ := get _ H acc (Nat.le_refl _) p
    exact ⟨xs, h1, by rw [h2.length]; exact Nat.le_refl _⟩
  · obtain ⟨xs, h1, h2⟩ := get i H acc (Nat.le_of_lt h) p
    obtain ⟨d, hd1, hr⟩ := h2.get (y.2 xs h1)
    exact ⟨y.1, d, hd1, hr⟩
  · obtain ⟨d, hd1, hr⟩ := r
    exact hs i d x H acc hd1 hr e1 e2 p
theorem w_yes {Q : Bool → Hp → Prop} (h : Q true H) : tYes σ H Q := h
end
theorem le_line {n : Nat} (h : n ≤ 1000) : n ≤ sizeLine := Nat.le_trans h (by decide)
/-! ### in, not in -/
section
variable {H : Hp} {Q : VK} {x y : V} {K : PySem.W.Frag}
theorem w_inL {xs : List V} {neg : Bool} (fx : flatV x = true) (fs : xs.all flatV = true) (hl : xs.length ≤ sizeLine) (h : ∀ H', Ext [] H H' → Q (.bl (if neg = true then !inV x xs else inV x xs)) H') : NewL xs H fun y H1 => rIn K neg x y H1 Q :=
  ⟨hl, fun p hp => ⟨p, xs, rfl, .inl (SqL.of upd_same), fx, fs, h _ (Ext.new hp)⟩⟩
theorem w_inT {xs : List V} {neg : Bool} (fx : flatV x = true) (fs : xs.all flatV = true) (hl : xs.length ≤ sizeLine) (h : ∀ H', Ext [] H H' → Q (.bl (if neg = true then !inV x xs else inV x xs)) H') : NewT K xs H fun y H1 => rIn K neg x y H1 Q :=
  ⟨hl, fun p hp => ⟨p, xs, rfl, .inr (SqT.of upd_same), fx, fs, h _ (Ext.new hp)⟩⟩
theorem w_inl {p : Addr} {xs : List V} {neg : Bool} (fx : flatV x = true) (hp : H p = some (.lst xs)) (fs : xs.all flatV = true) (h : Q (.bl (if neg = true then !inV x xs else inV x xs)) H) : rIn K neg x (.ref p) H Q :=
  ⟨p, xs, rfl, .inl (SqL.of hp), fx, fs, h⟩
def D.flat : D → Bool
  | .tup _ => false
  | _ => true
theorem flat_V {d : D} (h : Rp K H x d) (f : d.flat = true) : flatV x = true := by
  cases h <;> first | rfl | cases f
theorem eqV_eqv {d e : D} (h : Rp K H x d) (f : d.flat = true) (h' : Rp K H y e) (f' : e.flat = true) : eqV x y = D.eqv d e := by
  cases h <;> cases h' <;> first | rfl | cases f | cases f'
theorem flat_all : ∀ {ds : List D} {vs : List V}, RpAll K H vs ds → ds.all D.flat = true → vs.all flatV = true
  | _, _, .nil, _ => rfl
  | _, _, .cons h t, f => by
    rw [List.all_cons, Bool.and_eq_true] at f ⊢
    exact ⟨flat_V h f.1, flat_all t f.2⟩
theorem inV_any {d : D} (hx : Rp K H x d) (fx : d.flat = true) : ∀ {ds : List D} {vs : List V}, RpAll K H vs ds → ds.all D.flat = true → inV x vs = ds.any fun e => D.eqv e d
  | _, _, .nil, _ => rfl
  | _, _, .cons h t, f => by
    rw [List.all_cons, Bool.and_eq_true] at f
    have ih := inV_any hx fx t f.2
    unfold inV at ih ⊢
    rw [List.any_cons, List.any_cons, ih, eqV_eqv h f.1 hx fx]
theorem in_D {ds : List D} {d : D} {neg : Bool} (hx : Rp K H x d) (hy : Rp K H y (.tup ds)) (fx : d.flat = true) (fs : ds.all D.flat = true) (h : Q (.bl (if neg = true then !ds.any (fun e => D.eqv e d) else ds.any fun e => D.eqv e d)) H) : rIn K neg x y H Q := by
  obtain ⟨a, xs, rfl, h1, h2⟩ := hy.tupI
  refine ⟨a, xs, rfl, .inr h1, flat_V hx fx, flat_all h2 fs, ?_⟩
  rw [inV_any hx fx h2 fs]
  exact h
/-- a constant of the module: data that stand in every heap -/
def tConst (K : PySem.W.Frag) (d : D) : TE := fun _ H Q => ∀ v, (∀ H', Rp K H' v d) → Q v H
theorem w_const {σ : St} {d : D} (h : ∀ v, Rp K H v d → Q v H) : tConst K d σ H Q := fun v r => h v (r H)
end
/-- the module's name x holds data d -/
def Cst (K : PySem.W.Frag) (mg : Str → Option Value) (x : Str) (d : D) : Prop := ∃ a, mg x = some (.ref a) ∧ ∀ H, Rp K H (.ref a) d
theorem pe_const {X : Cx} {x : Str} {d : D} {pos : Pos} (c : Cst X.K X.mg x d) (hg : Gl X x) (hd : (x == ("__debug__" : Str)) = false := by decide) : PE X (.Name x pos) (tConst X.K d) := by
  obtain ⟨a, m, r⟩ := c
  refine ⟨fun pins s σ H Q I h => ?_⟩
  exact (pe_glob (v := .ref a) hg m rfl hd).run pins s σ H Q I (h (.ref a) r)
/-- a written tuple of texts, numbers: as the top has laid it -/
theorem cst_of {K : PySem.W.Frag} {mg : Str → Option Value} {x : Str} {a : Addr} {od : Option Addr} {its : List Value} {n : Nat} {sl : Array (Option Value)} {xs : List V} {ds : List D} (m : mg x = some (.ref a)) (l : K.lookup a = some ⟨.type "tuple", od, .seq its.toArray n, sl⟩)
    (hz : its.length ≤ sizeLine) (hv : Vals xs its) (hr : ∀ H, RpAll K H xs ds) : Cst K mg x (.tup ds) :=
  ⟨a, m, fun H => .tup (.inr ⟨_, its.toArray, n, l, rfl, rfl, by simpa using hz, by simpa using hv⟩) (hr H)⟩

/-! ### defs with their contract -/
/-- the module's name x holds a def that keeps sp -/
structure Has (P : Program) (w : World) (K : PySem.W.Frag) (mg : Str → Option Value) (base : Heap) (CX : CXT) (k : Nat) (x : Str) (ps : List Str) (sp : Sp) : Prop where
  ex : ∃ (f : Addr) (fd : FuncData), FnOk P w K mg base CX k f fd ps sp ∧ mg x = some (.ref f) ∧ PySem.W.keepIn K (.ref f) = true ∧ Binds K fd ps []
/-- the module's name x holds the def that the text writes as st -/
structure Dfn (K : PySem.W.Frag) (mg : Str → Option Value) (x : Str) (st : Stmt) (ps : List Str) : Prop where
  ex : ∃ (f : Addr) (fd : FuncData), Fun K x x st f fd ∧ mg x = some (.ref f) ∧ Binds K fd ps []
section
variable {P : Program} {w : World} {K : PySem.W.Frag} {mg : Str → Option Value} {base : Heap} {CX : CXT} {k : Nat} {x : Str} {ps : List Str} {sp : Sp} {st : Stmt}
theorem Dfn.has (D : Dfn K mg x st ps) (h : ∀ f fd, Fun K x x st f fd → FnOk P w K mg base CX k f fd ps sp) : Has P w K mg base CX k x ps sp := by
  obtain ⟨f, fd, F, m, b⟩ := D.ex
  exact ⟨f, fd, h f fd F, m, F.kp, b⟩
theorem Has.mono {j : Nat} (h : Has P w K mg base CX j x ps sp) (l : j ≤ k) : Has P w K mg base CX k x ps sp := by
  obtain ⟨f, fd, F, r⟩ := h.ex
  exact ⟨f, fd, F.mono l, r⟩
theorem Has.imp {sp' : Sp} (h : Has P w K mg base CX k x ps sp) (i : ∀ vs H Q E, sp' vs H Q E → sp vs H Q E) : Has P w K mg base CX k x ps sp' := by
  obtain ⟨f, fd, F, r⟩ := h.ex
  exact ⟨f, fd, F.imp i, r⟩
/-- a promise that nobody can ask for -/
theorem Dfn.never (D : Dfn K mg x st ps) (no : ∀ vs H Q E, ¬ sp vs H Q E) : Has P w K mg base CX k x ps sp := by
  obtain ⟨f, fd, F, m, b⟩ := D.ex
  exact ⟨f, fd, ⟨fun vs H Q E h => absurd h (no vs H Q E), fun A outer s H args us vs Q E _ _ _ _ h => absurd h (no vs H Q E)⟩, m, F.kp, b⟩
end
section
variable {X : Cx} {CX : CXT} {k : Nat} {ps : List Str} {sp : Sp} {E : XK} {x : Str} {p pos : Pos} {e : Expr} {es : List Expr} {t : TA}
theorem pe_callH (h : Has X.prog X.w X.K X.mg X.base CX k x ps sp) (hr : Room k X.A) (hg : Gl X x) (hx : Passes CX X E)
    (ha : PA X (e :: es) t) (hdb : (x == ("__debug__" : Str)) = false := by decide) (he : starEach (e :: es) X.env = (false, eval e X.env) :: starEach es X.env := by rfl) (hpl : (backTo pos (starEach es X.env)).any (·.1) = false := by rfl) :
    PE X (.Call (.Name x p) (e :: es) [] pos) (tCall sp [] E t) := by
  obtain ⟨f, fd, F, m, kp, b⟩ := h.ex
  exact pe_call F hr hg m kp b .nil hx ha hdb he hpl
theorem pe_callH0 (h : Has X.prog X.w X.K X.mg X.base CX k x ps sp) (hr : Room k X.A) (hg : Gl X x) (hx : Passes CX X E)
    (hdb : (x == ("__debug__" : Str)) = false := by decide) : PE X (.Call (.Name x p) [] [] pos) (tCall sp [] E tNil) := by
  obtain ⟨f, fd, F, m, kp, b⟩ := h.ex
  exact pe_call0 F hr hg m kp b .nil hx hdb
theorem pss_consJ {st : Stmt} {rest : List Stmt} {t u : TS} (h1 : PS X st t) (h2 : PSs X rest u) : PSs X (st :: rest) (tSeqJ t u) := by
  refine ⟨fun pins s σ H D I h => ?_⟩
  obtain ⟨M, h, hm⟩ := h
  refine wpAny_execs_cons (thn (h1.run pins s σ H { D with nx := M } I h) fun f s1 q => ?_)
  cases f with
  | next =>
    obtain ⟨σ', H', I', q⟩ := q
    exact h2.run pins s1 σ' H' D I' (hm _ _ q)
  | ret v => exact q
  | brk => exact q
  | cont => exact q
/-! ### the rules by which ambiguous constructs go -/
theorem o_add : OpR X (binaryOp .Add) (rAddG X.K) := op_add.or (op_add_str.or (op_catA.or op_cat))
theorem o_eq (hu : X.A.units + 64 < cLine) : OpR X (compareOp .Eq) (rEqG X.K) := op_eq.or (op_eqD hu)
theorem o_ne (hu : X.A.units + 64 < cLine) : OpR X (compareOp .NotEq) (rNeG X.K) := op_ne.or (op_neD hu)
theorem o_sl : SlR X (rSlG X.K) := sl_list.or (sl_tupA.or sl_str)
end
end Go

set_option Elab.async false
set_option linter.all false
set_option maxRecDepth 100000
set_option maxHeartbeats 4000000
/-! Obj: instances of own classes and dicts with int keys, read and changed; isinstance; insert, remove. -/
namespace Go
open PySem L2

/-! ### attributes -/
theorem lk_hit {x : Str} {v : V} {r : List (Str × V)} : List.lookup x ((x, v) :: r) = some v := by simp [List.lookup]
theorem lk_miss {x y : Str} {v : V} {r : List (Str × V)} (h : (x == y) = false) : List.lookup x ((y, v) :: r) = List.lookup x r := by simp [List.lookup, h]
theorem lk_nil {x : Str} : List.lookup x ([] : List (Str × V)) = none := rfl
theorem pf_nil {x : Str} {v : V} : putF x v [] = [(x, v)] := rfl
theorem pf_hit {x : Str} {v u : V} {r : List (Str × V)} : putF x v ((x, u) :: r) = (x, v) :: r := by simp [putF]
theorem pf_miss {x y : Str} {v u : V} {r w : List (Str × V)} (h : ¬ y = x) (e : putF x v r = w) : putF x v ((y, u) :: r) = (y, u) :: w := by
  subst e
  show (if y = x then _ else _) = _
  rw [if_neg h]
/-- e.f of an instance of the class at C -/
def tFldC (C : Addr) (f : Str) (ta : TE) : TE := fun σ H Q => ta σ H fun x H1 => ∃ a dx fs v, x = .ref a ∧ H1 a = some (.ins C dx fs) ∧ fs.lookup f = some v ∧ Q v H1
def sFldC (C : Addr) (f : Str) (ta tv : TE) : TS := fun D σ H => tv σ H fun y H1 => ta σ H1 fun x H2 => ∃ a dx fs, x = .ref a ∧ H2 a = some (.ins C dx fs) ∧ fs.length < 1000 ∧ D.nx σ (upd H2 a (.ins C dx (putF f y fs)))
section
variable {X : Cx} {e o value : Expr} {ta tv : TE} {f : Str} {pos pos' : Pos} {C : Addr}
theorem pe_fldC (c : Cls X.K C) (n : NoAttr X.K C f) (he : PE X e ta) (hb : attributeBase e f X.env (eval e X.env) = eval e X.env) : PE X (.Attribute e f pos) (tFldC C f ta) := by
  refine ⟨fun pins z σ H Q I h => attr_of hb (thn (he.run pins z σ H _ I h) fun w z1 hw => ?_)⟩
  obtain ⟨x, H1, I1, rx, a, dx, fs, v, ex, ea, l, q⟩ := hw
  subst ex
  cases (show w = Value.ref a from rx)
  exact getattr_ok I1 ea c n l fun _ _ I2 ru => ⟨v, H1, I2, ru, q⟩
theorem ps_fldC (c : Cls X.K C) (n : NoAttr X.K C f) (ha : PE X o ta) (hv : PE X value tv) (hs : swapsWith value (some (.Attribute o f pos')) pos.line X.env = pure false) : PS X (.Assign [.Attribute o f pos'] value pos) (sFldC C f ta tv) := by
  refine ⟨fun pins z σ H D I h => plainObj_wpAny_Assign_Attribute (thn (hv.run pins z σ H _ I h) fun w z1 hw => ?_) hs⟩
  obtain ⟨y, H1, I1, ry, q⟩ := hw
  refine thn (ha.run pins z1 σ H1 _ I1 q) fun w2 z2 hw2 => ?_
  obtain ⟨x, H2, I2, rx, a, dx, fs, ex, ea, l, q2⟩ := hw2
  subst ex
  cases (show w2 = Value.ref a from rx)
  exact setattr_ok I2 ea c n l ry fun _ I3 => ⟨σ, _, I3, q2⟩
end
section
variable {σ : St} {H : Hp} {Q : VK} {D0 : Ends} {ta tb te tv : TE} {x y v : V} {K : PySem.W.Frag} {C : Addr} {f : Str}
theorem Ext.mut {S} {p : Addr} {o o' : HO} (h : H p = some o) (n1 : ∀ xs, o ≠ .tup xs) (n2 : ∀ b u, o ≠ .frz b u) (hs : p ∈ S) : Ext S H (upd H p o') :=
  ⟨fun b u e n => by rw [upd_ne (fun z => n (by rw [z]; exact hs))]; exact e,
   fun b xs e => by rw [upd_ne (fun z => by rw [z, h] at e; exact n1 _ (Option.some.inj e))]; exact e,
   fun b w u e => by rw [upd_ne (fun z => by rw [z, h] at e; exact n2 _ _ (Option.some.inj e))]; exact e⟩
theorem w_fldC (h : ta σ H fun x H1 => ∃ a dx fs v, x = .ref a ∧ H1 a = some (.ins C dx fs) ∧ fs.lookup f = some v ∧ Q v H1) : tFldC C f ta σ H Q := h
theorem w_exfld {a dx : Addr} {fs : List (Str × V)} {A : V → Prop} (h1 : H a = some (.ins C dx fs)) (l : fs.lookup f = some v) (h : A v) : ∃ b dx fs v, V.ref a = .ref b ∧ H b = some (.ins C dx fs) ∧ fs.lookup f = some v ∧ A v := ⟨a, dx, fs, v, rfl, h1, l, h⟩
def SfOk (C : Addr) (f : Str) (x y : V) (H : Hp) (N : Hp → Prop) : Prop := ∃ a dx fs, x = .ref a ∧ H a = some (.ins C dx fs) ∧ fs.length < 1000 ∧ N (upd H a (.ins C dx (putF f y fs)))
theorem w_sfldC (h : tv σ H fun y H1 => ta σ H1 fun x H2 => SfOk C f x y H2 (D0.nx σ)) : sFldC C f ta tv D0 σ H := h
theorem w_exsfld {a dx : Addr} {fs gs : List (Str × V)} {A : Hp → Prop} (h1 : H a = some (.ins C dx fs)) (hl : fs.length < 1000) (e : putF f y fs = gs) (h : ∀ H', Ext [a] H H' → H' a = some (.ins C dx gs) → A H') :
    SfOk C f (.ref a) y H A := by
  subst e
  exact ⟨a, dx, fs, rfl, h1, hl, h _ (Ext.mut h1 (fun _ z => nomatch z) (fun _ _ z => nomatch z) (by simp)) upd_same⟩
def MakeOk (C : Addr) (sp : Sp) (vs : List V) (H : Hp) (Q : VK) (E : XK) : Prop := ∀ x dx, H x = none → H dx = none → dx ≠ x → sp (.ref x :: vs) (upd (upd H dx (.own x)) x (.ins C dx [])) (fun v H2 => v = .non ∧ Q (.ref x) H2) E
theorem w_make {sp : Sp} {E : XK} {t : TA} (h : t σ H fun vs H1 => MakeOk C sp vs H1 Q E) : tMake C sp [] E t σ H Q := by
  show t σ H fun vs H1 => ∀ x dx, H1 x = none → H1 dx = none → dx ≠ x → sp (.ref x :: (vs ++ [])) (upd (upd H1 dx (.own x)) x (.ins C dx [])) (fun v H2 => v = .non ∧ Q (.ref x) H2) E
  have e : (fun (vs : List V) (H1 : Hp) => ∀ x dx, H1 x = none → H1 dx = none → dx ≠ x → sp (.ref x :: (vs ++ [])) (upd (upd H1 dx (.own x)) x (.ins C dx [])) (fun v H2 => v = .non ∧ Q (.ref x) H2) E) = fun vs H1 => MakeOk C sp vs H1 Q E := by
    funext vs H1
    rw [List.append_nil]
    rfl
  rw [e]
  exact h
theorem w_made {sp : Sp} {E : XK} {vs : List V} (h : ∀ x H2, H x = none → Ext [] H H2 → (∃ dx, H2 x = some (.ins C dx [])) → sp (.ref x :: vs) H2 (fun v H3 => v = .non ∧ Q (.ref x) H3) E) : MakeOk C sp vs H Q E := fun x dx hx hd ne =>
  h x _ hx (Ext.new2 (Ext.new hd) (by rw [upd_ne (Ne.symm ne)]; exact hx)) ⟨dx, upd_same⟩
def MethOk (C : Addr) (m : Str) (x : V) (H : Hp) : Prop := ∃ a dx fs, x = .ref a ∧ H a = some (.ins C dx fs) ∧ fs.lookup m = none
theorem w_meth {m : Str} {sp : Sp} {E : XK} {t : TA} (h : ta σ H fun x H1 => ∃ a dx fs, x = .ref a ∧ H1 a = some (.ins C dx fs) ∧ fs.lookup m = none ∧ t σ H1 fun vs H2 => sp (x :: vs) H2 Q E) : tMeth C m sp [] E ta t σ H Q := by
  have e : (fun (x : V) (H1 : Hp) => ∃ a dx fs, x = .ref a ∧ H1 a = some (.ins C dx fs) ∧ fs.lookup m = none ∧ t σ H1 fun vs H2 => sp (x :: (vs ++ [])) H2 Q E) = fun x H1 => ∃ a dx fs, x = .ref a ∧ H1 a = some (.ins C dx fs) ∧ fs.lookup m = none ∧ t σ H1 fun vs H2 => sp (x :: vs) H2 Q E := by
    funext x H1
    have e2 : (fun (vs : List V) (H2 : Hp) => sp (x :: (vs ++ [])) H2 Q E) = fun vs H2 => sp (x :: vs) H2 Q E := by
      funext vs H2
      rw [List.append_nil]
    rw [e2]
  show ta σ H fun x H1 => ∃ a dx fs, x = .ref a ∧ H1 a = some (.ins C dx fs) ∧ fs.lookup m = none ∧ t σ H1 fun vs H2 => sp (x :: (vs ++ [])) H2 Q E
  rw [e]
  exact h
theorem w_exmeth {m : Str} {a dx : Addr} {fs : List (Str × V)} {A : Prop} (h1 : H a = some (.ins C dx fs)) (l : fs.lookup m = none) (h : A) : ∃ b dx fs, V.ref a = .ref b ∧ H b = some (.ins C dx fs) ∧ fs.lookup m = none ∧ A := ⟨a, dx, fs, rfl, h1, l, h⟩

/-! ### dicts with int keys -/
/-- the dict at a: f says what stands under each int; at most n entries -/
def DI (H : Hp) (a : Addr) (f : Int → Option V) (n : Nat) : Prop := ∃ kvs, H a = some (.dK kvs) ∧ (∀ i, valV kvs (Sum.inl i) = f i) ∧ kvs.length ≤ n
theorem DI.keep {H H' : Hp} {S : List Addr} {a : Addr} {g : Int → Option V} {n : Nat} (d : DI H a g n) (e : Ext S H H') (h : a ∉ S) : DI H' a g n := by
  obtain ⟨kvs, h1, h2, h3⟩ := d
  exact ⟨kvs, e.keep _ _ h1 h, h2, h3⟩
theorem DI.same {H H' : Hp} {a : Addr} {g : Int → Option V} {n : Nat} (d : DI H a g n) (e : Ext [] H H') : DI H' a g n := d.keep e (by simp)
theorem DI.there {H : Hp} {a : Addr} {g : Int → Option V} {n : Nat} (d : DI H a g n) : ∃ o, H a = some o := let ⟨_, h1, _⟩ := d; ⟨_, h1⟩
theorem DI.more {H : Hp} {a : Addr} {g : Int → Option V} {n m : Nat} (d : DI H a g n) (h : n ≤ m) : DI H a g m := let ⟨k, h1, h2, h3⟩ := d; ⟨k, h1, h2, Nat.le_trans h3 h⟩
def NewD (H : Hp) (Q : VK) : Prop := ∀ p, H p = none → Q (.ref p) (upd H p (.dK []))
theorem w_dnewK (h : NewD H Q) : tDNewK σ H Q := h
theorem w_newD (q : ∀ p H', H p = none → Ext [] H H' → DI H' p (fun _ => none) 0 → Q (.ref p) H') : NewD H Q := fun p hp => q p _ hp (Ext.new hp) ⟨[], upd_same, fun _ => rfl, Nat.le_refl _⟩
theorem w_dget (h : ta σ H fun x H1 => tb σ H1 fun y H2 => ∃ a v, x = .ref a ∧ DGet H2 a y (some v) ∧ Q v H2) : tDGet ta tb σ H Q := h
theorem d_get {a : Addr} {g : Int → Option V} {n : Nat} {i : Int} {A : V → Prop} (d : DI H a g n) (e : g i = some v) (h : A v) : ∃ b v, V.ref a = .ref b ∧ DGet H b (.int i) (some v) ∧ A v := by
  obtain ⟨kvs, h1, h2, _⟩ := d
  refine ⟨a, v, rfl, ?_, h⟩
  have q := DGet.k (k := Sum.inl i) h1
  rw [h2, e] at q
  exact q
theorem w_din (h : ta σ H fun y H1 => tb σ H1 fun x H2 => ∃ a o, x = .ref a ∧ DGet H2 a y o ∧ Q (.bl o.isSome) H2) : tDIn ta tb σ H Q := h
theorem w_dnotin (h : ta σ H fun y H1 => tb σ H1 fun x H2 => ∃ a o, x = .ref a ∧ DGet H2 a y o ∧ Q (.bl (!o.isSome)) H2) : tDNotIn ta tb σ H Q := h
theorem d_at {a : Addr} {g : Int → Option V} {n : Nat} {i : Int} (d : DI H a g n) : DGet H a (.int i) (g i) := by
  obtain ⟨kvs, h1, h2, _⟩ := d
  have q := DGet.k (k := Sum.inl i) h1
  rw [h2] at q
  exact q
theorem d_in {a : Addr} {g : Int → Option V} {n : Nat} {i : Int} {A : Option V → Prop} (d : DI H a g n) (h : A (g i)) : ∃ b o, V.ref a = .ref b ∧ DGet H b (.int i) o ∧ A o := ⟨a, _, rfl, d_at d, h⟩
theorem w_dput (h : tv σ H fun v H1 => ta σ H1 fun x H2 => tb σ H2 fun y H3 => ∃ a H4, x = .ref a ∧ DPut H3 a y v H4 ∧ D0.nx σ H4) : sDPut ta tb tv D0 σ H := h
theorem d_put {a : Addr} {g : Int → Option V} {n : Nat} {i : Int} {A : Hp → Prop} (d : DI H a g n) (hn : n < sizeLine) (h : ∀ H', Ext [a] H H' → DI H' a (fun j => if j = i then some v else g j) (n + 1) → A H') :
    ∃ b H4, V.ref a = .ref b ∧ DPut H b (.int i) v H4 ∧ A H4 := by
  obtain ⟨kvs, h1, h2, h3⟩ := d
  refine ⟨a, _, rfl, DPut.k (k := Sum.inl i) h1 (by omega), h _ (Ext.mut h1 (fun _ z => nomatch z) (fun _ _ z => nomatch z) (by simp)) ⟨_, upd_same, fun j => ?_, Nat.le_trans (length_putK _ _ _) (by omega)⟩⟩
  rw [valV_put]
  show _ = if j = i then some v else g j
  by_cases c : j = i
  · rw [if_pos c, if_pos (by rw [c])]
  · rw [if_neg c, if_neg (fun z => c (Sum.inl.inj z))]
    exact h2 j
theorem valV_drop {κ : Type} [DecidableEq κ] (k j : κ) : ∀ kvs : List (κ × V), valV (dropK kvs k) j = if j = k then none else valV kvs j
  | [] => by simp [dropK, valV_nil]
  | p :: r => by
    have ih := valV_drop k j r
    by_cases c : p.1 = k
    · rw [dropK_pos c, ih]
      by_cases e : j = k
      · rw [if_pos e, if_pos e]
      · rw [if_neg e, if_neg e, valV_neg (fun z => e (z.symm.trans c))]
    · rw [dropK_neg c]
      by_cases e : j = k
      · subst e
        rw [if_pos rfl, valV_neg c, ih, if_pos rfl]
      · rw [if_neg e]
        by_cases f : p.1 = j
        · rw [valV_pos f, valV_pos f]
        · rw [valV_neg f, valV_neg f, ih, if_neg e]
def DDelOk (x y : V) (H : Hp) (N : Hp → Prop) : Prop := ∃ a kvs k, x = .ref a ∧ H a = some (.dK kvs) ∧ y = kV k ∧ (valV kvs k).isSome = true ∧ N (upd H a (.dK (dropK kvs k)))
theorem w_ddel (h : ta σ H fun x H1 => tb σ H1 fun y H2 => DDelOk x y H2 (D0.nx σ)) : sDDel ta tb D0 σ H := h
theorem d_del {a : Addr} {g : Int → Option V} {n : Nat} {i : Int} {A : Hp → Prop} (d : DI H a g n) (e : (g i).isSome = true) (h : ∀ H', Ext [a] H H' → DI H' a (fun j => if j = i then none else g j) n → A H') :
    DDelOk (.ref a) (.int i) H A := by
  obtain ⟨kvs, h1, h2, h3⟩ := d
  refine ⟨a, kvs, Sum.inl i, rfl, h1, rfl, by rw [h2]; exact e, h _ (Ext.mut h1 (fun _ z => nomatch z) (fun _ _ z => nomatch z) (by simp)) ⟨_, upd_same, fun j => ?_, Nat.le_trans (dropK_le _ _) h3⟩⟩
  rw [valV_drop]
  show _ = if j = i then none else g j
  by_cases c : j = i
  · rw [if_pos c, if_pos (by rw [c])]
  · rw [if_neg c, if_neg (fun z => c (Sum.inl.inj z))]
    exact h2 j

theorem w_aug {te : TE} {ti : TIp} {i : Nat} (e : σ[i]? = some (some x)) (h : te σ H fun y H1 => ti x y H1 fun z H2 => D0.nx (σ.set i (some z)) H2) : tAug i te ti D0 σ H := ⟨x, e, h⟩
theorem w_ip {g : Int → Int → Int} {i j : Int} (h : Q (.int (g i j)) H) : ipI g (.int i) (.int j) H Q := ⟨i, j, rfl, rfl, h⟩
/-- a test of two parts that leave the heap as it is -/
theorem w_andB {c d : TT} {Q : Bool → Hp → Prop} (p q : Bool) (hc : ∀ R : Bool → Hp → Prop, R p H → c σ H R) (hd : p = true → ∀ R : Bool → Hp → Prop, R q H → d σ H R) (h : Q (p && q) H) : tAnd c d σ H Q := by
  refine hc _ ?_
  cases p with
  | true => exact hd rfl _ h
  | false => exact h
theorem w_orB {c d : TT} {Q : Bool → Hp → Prop} (p q : Bool) (hc : ∀ R : Bool → Hp → Prop, R p H → c σ H R) (hd : p = false → ∀ R : Bool → Hp → Prop, R q H → d σ H R) (h : Q (p || q) H) : tOr c d σ H Q := by
  refine hc _ ?_
  cases p with
  | true => exact h
  | false => exact hd rfl _ h
/-! ### list.insert, list.remove -/
def rInsert : V → List V → Hp → VK → Prop := fun x vs H Q => ∃ (l : Addr) (xs : List V) (i : Int) (y : V), x = .ref l ∧ vs = [.int i, y] ∧ H l = some (.lst xs) ∧ xs.length < sizeLine ∧ 0 ≤ i ∧ i < 2 ^ 63 ∧
    Q .non (upd H l (.lst (xs.take i.toNat ++ [y] ++ xs.drop i.toNat)))
theorem m_ins {l : Addr} {xs : List V} {i : Int} (hx : H l = some (.lst xs)) (hl : xs.length < sizeLine) (h0 : 0 ≤ i) (h1 : i < 9223372036854775808) (h : ∀ H', Ext [l] H H' → H' l = some (.lst (xs.take i.toNat ++ [y] ++ xs.drop i.toNat)) → Q .non H') : rInsert (.ref l) [.int i, y] H Q :=
  ⟨l, xs, i, y, rfl, rfl, hx, hl, h0, by omega, h _ (Ext.put hx (by simp)) upd_same⟩
theorem m_rem {l : Addr} {ns : List Int} {k : Int} {j : Nat} (hx : H l = some (.lst (ns.map V.int))) (e : ns[j]? = some k) (hno : ∀ m : Nat, m < j → ns[m]? ≠ some k) (h : ∀ H', Ext [l] H H' → H' l = some (.lst ((ns.eraseIdx j).map V.int)) → Q .non H') : rRemI (.ref l) [.int k] H Q :=
  ⟨l, ns, k, j, rfl, rfl, hx, e, hno, h _ (Ext.put hx (by simp)) upd_same⟩

/-! ### isinstance, a built-in class -/
theorem tyx_tup {ds : List D} (h : Rp K H x (.tup ds)) : TyX K H x (.type "tuple") := by
  obtain ⟨a, xs, rfl, h1, _⟩ := h.tupI
  rcases h1 with (h1 | ⟨o, h1⟩) | ⟨o, its, n, l, c, _⟩
  · exact .base (.tup h1)
  · exact .fTuple h1
  · exact .kTuple l c
theorem is_of {a b : String} {r : Bool} (t : TyX K H x (.type a)) (k : kitB a b = some r) (h : Q (.bl r) H) : rIsi K [x, .ty b] H Q := ⟨x, .ty b, _, _, r, rfl, .ty b, t, kit_ty k, h⟩
theorem is_lst {a : Addr} {xs : List V} {b : String} {r : Bool} (e : H a = some (.lst xs)) (k : kitB "list" b = some r) (h : Q (.bl r) H) : rIsi K [.ref a, .ty b] H Q := is_of (.base (.lst e)) k h
theorem is_tup {ds : List D} {b : String} {r : Bool} (e : Rp K H x (.tup ds)) (k : kitB "tuple" b = some r) (h : Q (.bl r) H) : rIsi K [x, .ty b] H Q := is_of (tyx_tup e) k h
theorem is_int {i : Int} {b : String} {r : Bool} (k : kitB "int" b = some r) (h : Q (.bl r) H) : rIsi K [.int i, .ty b] H Q := is_of (.base (.int i)) k h
theorem is_str {i : Str} {b : String} {r : Bool} (k : kitB "str" b = some r) (h : Q (.bl r) H) : rIsi K [.str i, .ty b] H Q := is_of (.base (.str i)) k h
theorem is_bl {i : Bool} {b : String} {r : Bool} (k : kitB "bool" b = some r) (h : Q (.bl r) H) : rIsi K [.bl i, .ty b] H Q := is_of (.base (.bl i)) k h
end
end Go
namespace Go
open PySem L2
/-! ### methods and makers with their contract -/
structure HasM (P : Program) (w : World) (K : PySem.W.Frag) (mg : Str → Option Value) (base : Heap) (CX : CXT) (k : Nat) (C : Addr) (m : Str) (ps : List Str) (sp : Sp) : Prop where
  ex : ∃ (f : Addr) (fd : FuncData), FnOk P w K mg base CX k f fd ps sp ∧ Meth K C m f ∧ Binds K fd ps []
structure HasI (P : Program) (w : World) (K : PySem.W.Frag) (mg : Str → Option Value) (base : Heap) (CX : CXT) (k : Nat) (x : Str) (C : Addr) (ps : List Str) (sp : Sp) : Prop where
  ex : ∃ (f : Addr) (fd : FuncData), FnOk P w K mg base CX k f fd ps sp ∧ Mk K C f ∧ mg x = some (.ref C) ∧ Binds K fd ps []
structure DfnM (K : PySem.W.Frag) (m qual : Str) (C : Addr) (st : Stmt) (ps : List Str) : Prop where
  ex : ∃ (f : Addr) (fd : FuncData), Fun K m qual st f fd ∧ Meth K C m f ∧ Binds K fd ps []
structure DfnI (K : PySem.W.Frag) (mg : Str → Option Value) (m qual x : Str) (C : Addr) (st : Stmt) (ps : List Str) : Prop where
  ex : ∃ (f : Addr) (fd : FuncData), Fun K m qual st f fd ∧ Mk K C f ∧ mg x = some (.ref C) ∧ Binds K fd ps []
section
variable {P : Program} {w : World} {K : PySem.W.Frag} {mg : Str → Option Value} {base : Heap} {CX : CXT} {k : Nat} {C : Addr} {m qual x : Str} {ps : List Str} {sp : Sp} {st : Stmt}
theorem DfnM.has (D : DfnM K m qual C st ps) (h : ∀ f fd, Fun K m qual st f fd → FnOk P w K mg base CX k f fd ps sp) : HasM P w K mg base CX k C m ps sp := by
  obtain ⟨f, fd, F, me, b⟩ := D.ex
  exact ⟨f, fd, h f fd F, me, b⟩
theorem DfnI.has (D : DfnI K mg m qual x C st ps) (h : ∀ f fd, Fun K m qual st f fd → FnOk P w K mg base CX k f fd ps sp) : HasI P w K mg base CX k x C ps sp := by
  obtain ⟨f, fd, F, mk, g, b⟩ := D.ex
  exact ⟨f, fd, h f fd F, mk, g, b⟩
end
section
variable {X : Cx} {CX : CXT} {k : Nat} {C : Addr} {m x : Str} {ps : List Str} {sp : Sp} {E : XK} {p pos apos : Pos} {e o : Expr} {es : List Expr} {t : TA} {ta : TE}
theorem pe_methH {pl : Sem Bool} (c : Cls X.K C) (h : HasM X.prog X.w X.K X.mg X.base CX k C m ps sp) (hr : Room k X.A) (hx : Passes CX X E) (he : PE X o ta) (ha : PA X (e :: es) t)
    (hst : starEach (e :: es) X.env = (false, eval e X.env) :: starEach es X.env := by rfl) (hpl : (backTo pos (starEach es X.env)).any (·.1) = false := by rfl)
    (ht : eval (.Call (.Attribute o m apos) (e :: es) [] pos) X.env = (do
      let ov ← eval o X.env
      standAt apos.atName
      let fm ← holding [ov] (getMethod ov m pl)
      callWith pos fm.1 fm.2 (backTo pos (starEach (e :: es) X.env)) (backToKw pos (keywordEach [] X.env))) := by rfl) :
    PE X (.Call (.Attribute o m apos) (e :: es) [] pos) (tMeth C m sp [] E ta t) := by
  obtain ⟨f, fd, F, me, b⟩ := h.ex
  exact pe_meth he c me F hr b .nil hx ha hst hpl ht
theorem pe_methH0 {pl : Sem Bool} (c : Cls X.K C) (h : HasM X.prog X.w X.K X.mg X.base CX k C m ps sp) (hr : Room k X.A) (hx : Passes CX X E) (he : PE X o ta)
    (ht : eval (.Call (.Attribute o m apos) [] [] pos) X.env = (do
      let ov ← eval o X.env
      standAt apos.atName
      let fm ← holding [ov] (getMethod ov m pl)
      callWith pos fm.1 fm.2 (backTo pos (starEach [] X.env)) (backToKw pos (keywordEach [] X.env))) := by rfl) :
    PE X (.Call (.Attribute o m apos) [] [] pos) (tMeth C m sp [] E ta tNil) := by
  obtain ⟨f, fd, F, me, b⟩ := h.ex
  exact pe_meth0 he c me F hr b .nil hx ht
theorem pe_makeH (h : HasI X.prog X.w X.K X.mg X.base CX k x C ps sp) (hr : Room (k + 1) X.A) (hg : Gl X x) (hx : Passes CX X E) (ha : PA X (e :: es) t)
    (hdb : (x == ("__debug__" : Str)) = false := by decide) (he : starEach (e :: es) X.env = (false, eval e X.env) :: starEach es X.env := by rfl) (hpl : (backTo pos (starEach es X.env)).any (·.1) = false := by rfl) :
    PE X (.Call (.Name x p) (e :: es) [] pos) (tMake C sp [] E t) := by
  obtain ⟨f, fd, F, mk, g, b⟩ := h.ex
  exact pe_make mk F hr hg g b .nil hx ha hdb he hpl
theorem pe_makeH0 (h : HasI X.prog X.w X.K X.mg X.base CX k x C ps sp) (hr : Room (k + 1) X.A) (hg : Gl X x) (hx : Passes CX X E) (hdb : (x == ("__debug__" : Str)) = false := by decide) :
    PE X (.Call (.Name x p) [] [] pos) (tMake C sp [] E tNil) := by
  obtain ⟨f, fd, F, mk, g, b⟩ := h.ex
  exact pe_make0 mk F hr hg g b .nil hx hdb
end
end Go

namespace Law
open PySem L2 Go
local macro_rules | `(tactic| row_has $x) => `(tactic| repeat (first | (obtain ⟨e, _⟩ := $x:ident; subst e; rfl) | (obtain ⟨_, $x:ident⟩ := $x:ident)))
local macro_rules | `(tactic| walk_at "ts") => `(tactic| first
  | exact Tst.refl
  | (refine' Ext.ts (S := ?k0) ?k1; case k1 => assumption)
  | (refine' Tst.trans (Ext.ts (S := ?k0) ?k1) ?k2; (case k1 => assumption); (case k2 => walk_at "ts"))
  | (refine' Tst.trans ?k2 (Ext.ts (S := ?k0) ?k1); (case k1 => assumption); (case k2 => walk_at "ts")))
local macro_rules | `(tactic| walk_at "ext") => `(tactic| first
  | exact Ext.refl
  | assumption
  | (refine' Ext.trans ?k1 ?k2; (case k1 => assumption); (case k2 => walk_at "ext"))
  | (refine' Ext.trans (Ext.any ?k1) ?k2; (case k1 => assumption); (case k2 => walk_at "ext"))
  | (refine' Ext.trans ?k2 ?k1; (case k1 => assumption); (case k2 => walk_at "ext"))
  | (refine' Ext.more ?k2 ?k1; (case k1 => assumption); (case k2 => walk_at "ext")))
local macro_rules | `(tactic| walk_at "rp") => `(tactic| first
  | assumption
  | exact Rp.str _
  | exact Rp.int _
  | exact Rp.non
  | exact Rp.bl _
  | (refine' Rp.ts ?k2 ?k1; (case k1 => assumption); (case k2 => walk_at "ts")))
local macro_rules | `(tactic| walk_at "ls") => `(tactic| first
  | assumption
  | (refine' Ext.keep (S := ?k0) ?k1 _ _ ?k2 ?k3; (case k1 => assumption); (case k2 => walk_at "ls"); (case k3 => first | exact List.not_mem_nil | assumption | (simp; assumption) | (simp; exact Ne.symm (by assumption)))))
local macro_rules | `(tactic| walk_at "all") => `(tactic| first
  | exact RpAll.nil
  | (refine' RpAll.cons ?k1 ?k2; (case k1 => walk_at "rp"); (case k2 => walk_at "all")))
local macro_rules | `(tactic| walk_at "len") => `(tactic| first
  | (refine le_line ?_; simp; done)
  | (refine le_line ?_; simp only [List.length_append, List.length_cons, List.length_nil, List.length_map, List.length_take]; omega)
  | omega)
local macro_rules | `(tactic| walk_at "lk") => `(tactic| first | exact lk_hit | (refine (lk_miss (by decide +kernel)).trans ?_; walk_at "lk") | exact lk_nil)
local macro_rules | `(tactic| walk_at "pf") => `(tactic| first | exact pf_nil | exact pf_hit | (refine' pf_miss ?k1 ?k2; (case k1 => decide +kernel); (case k2 => walk_at "pf")))
local macro_rules | `(tactic| walk_at "di") => `(tactic| first
  | assumption
  | (refine' DI.keep (S := ?k0) ?k2 ?k1 ?k3; (case k1 => assumption); (case k2 => walk_at "di"); (case k3 => first | exact List.not_mem_nil | assumption | (simp; assumption) | (simp; exact Ne.symm (by assumption)))))
local macro_rules | `(tactic| walk_at "s0") => `(tactic| first
  | with_reducible refine w_asg ?_
  | with_reducible refine w_name ?_
  | with_reducible refine w_next ?_
  | with_reducible refine w_break ?_
  | with_reducible refine w_cont ?_
  | with_reducible refine w_drop ?_
  | with_reducible refine w_ret ?_
  | with_reducible refine w_retN ?_
  | with_reducible refine w_ifS ?_
  | with_reducible refine w_test ?_
  | with_reducible refine w_tB ?_
  | with_reducible refine w_exbl ?_
  | with_reducible refine w_and ?_
  | with_reducible refine w_or ?_
  | with_reducible refine w_not ?_
  | with_reducible refine w_andV ?_
  | with_reducible refine w_orV ?_
  | with_reducible refine w_notV ?_
  | with_reducible refine w_if ?_
  | ((with_reducible refine' w_var ?k1 ?_); (case k1 => rfl))
  | with_reducible refine w_c ?_
  | with_reducible refine w_op ?_
  | with_reducible refine w_un ?_
  | with_reducible refine w_cb ?_
  | with_reducible refine w_cons ?_
  | with_reducible refine w_nil ?_
  | with_reducible refine w_call ?_
  | with_reducible refine w_for ?_
  | with_reducible refine w_rng1 ?_
  | with_reducible refine w_rng2 ?_
  | with_reducible refine w_list ?_
  | with_reducible refine w_tupI ?_
  | ((with_reducible refine' w_exr1 ?k1 ?_); (case k1 => omega))
  | ((with_reducible refine' w_exr2 ?k1 ?_); (case k1 => omega))
  | ((with_reducible refine' w_ext ?k1 ?_); (case k1 => walk_at "rp"); intro _ _; subst_vars)
  | (with_reducible refine w_lc ?_)
  | with_reducible refine w_enumT ?_
  | ((with_reducible refine' w_exet ?k1 ?_); (case k1 => walk_at "rp"); intro _ _; subst_vars)
  | with_reducible refine w_yes ?_
  | with_reducible refine w_tup ?_
  | with_reducible refine w_lst ?_
  | with_reducible refine w_sub ?_
  | with_reducible refine w_bm ?_
  | with_reducible refine w_sl ?_
  | with_reducible refine w_noPart ?_
  | with_reducible refine w_part ?_
  | with_reducible refine w_exint ?_
  | with_reducible refine r_u ?_
  | with_reducible refine r_sub ?_
  | ((with_reducible refine' r_mul ?k1 ?_); (case k1 => first | exact cmul_r (by omega) (by omega) | exact cmul_l (by omega) (by omega)))
  | ((with_reducible refine' r_div ?k1 ?_); (case k1 => exact ⟨by omega, by omega⟩))
  | ((with_reducible refine' r_mod ?k1 ?_); (case k1 => omega))
  | with_reducible refine r_lt ?_
  | with_reducible refine r_le ?_
  | with_reducible refine r_gt ?_
  | with_reducible refine r_ge ?_
  | with_reducible refine a_int ?_
  | with_reducible refine e_str ?_
  | with_reducible refine e_int ?_
  | with_reducible refine e_is ?_
  | with_reducible refine e_si ?_
  | with_reducible refine n_str ?_
  | with_reducible refine n_int ?_
  | with_reducible refine b_abs ?_
  | with_reducible refine b_int ?_
  | with_reducible refine i_n ?_
  | with_reducible refine i_nn ?_
  | with_reducible refine i_b ?_
  | with_reducible refine i_nb ?_
  | ((with_reducible refine' w_inL ?k1 ?k2 ?k3 ?_); (case k1 => rfl); (case k2 => rfl); (case k3 => walk_at "len"); intro _ _)
  | ((with_reducible refine' w_inT ?k1 ?k2 ?k3 ?_); (case k1 => rfl); (case k2 => rfl); (case k3 => walk_at "len"); intro _ _)
  | ((with_reducible refine' in_D ?k1 ?k2 ?k3 ?k4 ?_); (case k1 => walk_at "rp"); (case k2 => walk_at "rp"); (case k3 => rfl); (case k4 => rfl))
  | ((with_reducible refine' w_const ?_); intro _ _)
  | ((with_reducible refine' w_newT ?k1 ?k2 ?_); (case k1 => walk_at "all"); (case k2 => walk_at "len"); intro _ _ _ _)
  | ((with_reducible refine' x_Ds ?k1 ?k2 ?_); (case k1 => walk_at "rp"); (case k2 => rfl))
  | ((with_reducible refine' x_Di ?k1 ?k2 ?_); (case k1 => walk_at "rp"); (case k2 => rfl))
  | ((with_reducible refine' x_D ?k1 ?k2 ?_); (case k1 => walk_at "rp"); (case k2 => rfl); intro _ _)
  | ((with_reducible refine' l_D ?k1 ?_); (case k1 => walk_at "rp"))
  | ((with_reducible refine' s_D ?k1 ?_); (case k1 => walk_at "rp"); intro _ _ _ _)
  | ((with_reducible refine' x_l ?k1 ?k2 ?_); (case k1 => walk_at "ls"); (case k2 => rfl))
  | ((with_reducible refine' t_set0 ?k1 ?_); (case k1 => walk_at "ls"); intro _ _ _)
  | ((with_reducible refine' t_set1 ?k1 ?_); (case k1 => walk_at "ls"); intro _ _ _)
  | ((with_reducible refine' t_set2 ?k1 ?_); (case k1 => walk_at "ls"); intro _ _ _)
  | ((with_reducible refine' t_set3 ?k1 ?_); (case k1 => walk_at "ls"); intro _ _ _)
  | ((with_reducible refine' l_l ?k1 ?_); (case k1 => walk_at "ls"))
  | ((with_reducible refine' a_tup ?k1 ?k2 ?k3 ?_); (case k1 => walk_at "rp"); (case k2 => walk_at "rp"); (case k3 => walk_at "len"); intro _ _ _ _)
  | with_reducible refine w_fldC ?_
  | ((with_reducible refine' w_exfld ?k1 ?k2 ?_); (case k1 => walk_at "ls"); (case k2 => walk_at "lk"))
  | with_reducible refine w_sfldC ?_
  | ((with_reducible refine' w_exsfld ?k1 ?k2 ?k3 ?_); (case k1 => walk_at "ls"); (case k2 => first | decide | (simp; done)); (case k3 => walk_at "pf"); intro _ _ _)
  | with_reducible refine w_meth ?_
  | ((with_reducible refine' w_exmeth ?k1 ?k2 ?_); (case k1 => walk_at "ls"); (case k2 => walk_at "lk"))
  | with_reducible refine w_make ?_
  | with_reducible refine w_dnewK ?_
  | with_reducible refine w_dget ?_
  | with_reducible refine w_din ?_
  | with_reducible refine w_dnotin ?_
  | with_reducible refine w_dput ?_
  | with_reducible refine w_ddel ?_
  | ((with_reducible refine' w_aug ?k1 ?_); (case k1 => rfl))
  | with_reducible refine w_ip ?_
  | ((with_reducible refine' is_lst ?k1 ?k2 ?_); (case k1 => walk_at "ls"); (case k2 => rfl))
  | ((with_reducible refine' is_tup ?k1 ?k2 ?_); (case k1 => walk_at "rp"); (case k2 => rfl))
  | ((with_reducible refine' is_int ?k2 ?_); (case k2 => rfl))
  | ((with_reducible refine' is_str ?k2 ?_); (case k2 => rfl))
  | ((with_reducible refine' is_bl ?k2 ?_); (case k2 => rfl))
  | with_reducible refine w_iteT (c := true) rfl ?_
  | with_reducible refine w_iteF (c := false) rfl ?_
  | ((with_reducible refine' w_iteT ?k1 ?_); (case k1 => first | assumption | rfl | decide +kernel))
  | ((with_reducible refine' w_iteF ?k1 ?_); (case k1 => first | assumption | rfl | decide +kernel))
  | dsimp only [List.set])
local macro_rules | `(tactic| walk_at "s") => `(tactic| first | with_reducible refine w_seqJ ?_ | walk_at "s0")
local macro_rules | `(tactic| walk_at "s1") => `(tactic| first | with_reducible refine w_seqA ?_ | with_reducible refine w_seqD ?_ | walk_at "s0")
local macro_rules | `(tactic| walk_at "go") => `(tactic| repeat walk_at "s")
local macro_rules | `(tactic| walk_at "gs") => `(tactic| repeat walk_at "s1")
local macro_rules | `(tactic| walk_at "eqD") => `(tactic| (refine' e_D ?k1 ?k2 ?k3 ?k4 ?k5 ?k6 ?_; (case k1 => walk_at "rp"); (case k2 => walk_at "rp"); (case k3 => assumption); (case k4 => assumption); (case k5 => assumption); (case k6 => assumption)))

structure Ad where
  c_Memory : Addr
structure Cl_Memory (K : PySem.W.Frag) (C : Addr) : Prop where
  cl : Cls K C
  n_starts : NoAttr K C "starts"
  n_sizes : NoAttr K C "sizes"
  n_cells : NoAttr K C "cells"
def top (i : Nat) : Stmt := PySem.Challenge.pw_forklent_k30_memory_blocks.main.body.getD i (.Pass ⟨0, 0, 0, 0⟩)
abbrev s_Memory_init : Stmt := inClass (top 4) 0
abbrev N_Memory_init : List Str := ["self"]
theorem sc_Memory_init : FnScope N_Memory_init ["self"] (defScope s_Memory_init) := ⟨rfl, rfl, rfl, by decide +kernel, rfl, by decide +kernel, by decide +kernel⟩
abbrev s_Memory_allocate : Stmt := inClass (top 4) 1
abbrev N_Memory_allocate : List Str := ["self", "size", "address", "at", "cell"]
theorem sc_Memory_allocate : FnScope N_Memory_allocate ["self", "size"] (defScope s_Memory_allocate) := ⟨rfl, rfl, rfl, by decide +kernel, rfl, by decide +kernel, by decide +kernel⟩
abbrev s_Memory_release : Stmt := inClass (top 4) 2
abbrev N_Memory_release : List Str := ["self", "address", "cell"]
theorem sc_Memory_release : FnScope N_Memory_release ["self", "address"] (defScope s_Memory_release) := ⟨rfl, rfl, rfl, by decide +kernel, rfl, by decide +kernel, by decide +kernel⟩
abbrev s_Memory_read : Stmt := inClass (top 4) 3
abbrev N_Memory_read : List Str := ["self", "address"]
theorem sc_Memory_read : FnScope N_Memory_read ["self", "address"] (defScope s_Memory_read) := ⟨rfl, rfl, rfl, by decide +kernel, rfl, by decide +kernel, by decide +kernel⟩
abbrev s_Memory_write : Stmt := inClass (top 4) 4
abbrev N_Memory_write : List Str := ["self", "address", "number"]
theorem sc_Memory_write : FnScope N_Memory_write ["self", "address", "number"] (defScope s_Memory_write) := ⟨rfl, rfl, rfl, by decide +kernel, rfl, by decide +kernel, by decide +kernel⟩
abbrev s_Memory_blocks : Stmt := inClass (top 4) 5
abbrev N_Memory_blocks : List Str := ["self", "start"]
theorem sc_Memory_blocks : FnScope N_Memory_blocks ["self"] (defScope s_Memory_blocks) := ⟨rfl, rfl, rfl, by decide +kernel, rfl, by decide +kernel, by decide +kernel⟩
abbrev s_l_numbers : Stmt := top 6
abbrev N_l_numbers : List Str := ["script", "numbers", "cell", "rest", "k"]
theorem sc_l_numbers : FnScope N_l_numbers ["script"] (defScope s_l_numbers) := ⟨rfl, rfl, rfl, by decide +kernel, rfl, by decide +kernel, by decide +kernel⟩
abbrev s_l_lowest : Stmt := top 7
abbrev N_l_lowest : List Str := ["blocks", "size", "address", "block"]
theorem sc_l_lowest : FnScope N_l_lowest ["blocks", "size"] (defScope s_l_lowest) := ⟨rfl, rfl, rfl, by decide +kernel, rfl, by decide +kernel, by decide +kernel⟩
abbrev s_l_with : Stmt := top 8
abbrev N_l_with : List Str := ["blocks", "added", "before", "block", "after"]
theorem sc_l_with : FnScope N_l_with ["blocks", "added"] (defScope s_l_with) := ⟨rfl, rfl, rfl, by decide +kernel, rfl, by decide +kernel, by decide +kernel⟩
abbrev s_l_same : Stmt := top 9
abbrev N_l_same : List Str := ["actual", "blocks", "k"]
theorem sc_l_same : FnScope N_l_same ["actual", "blocks"] (defScope s_l_same) := ⟨rfl, rfl, rfl, by decide +kernel, rfl, by decide +kernel, by decide +kernel⟩
abbrev s_law : Stmt := top 10
abbrev N_law : List Str := ["script", "memory", "blocks", "number", "gone", "size", "due", "actual", "k", "block"]
theorem sc_law : FnScope N_law ["script"] (defScope s_law) := ⟨rfl, rfl, rfl, by decide +kernel, rfl, by decide +kernel, by decide +kernel⟩

/-! ### blocks of a memory: plain law -/
abbrev Bl := List (Int × Int)
abbrev bD (b : Int × Int) : D := .tup [.int b.1, .int b.2]
def Ord : Int → Bl → Prop
  | _, [] => True
  | lo, b :: r => lo ≤ b.1 ∧ 1 ≤ b.2 ∧ Ord (b.1 + b.2) r
def fitA : Int → Int → Bl → Int
  | a, _, [] => a
  | a, s, b :: r => if b.1 - a < s then fitA (b.1 + b.2) s r else a
def fitN : Int → Int → Bl → Nat
  | _, _, [] => 0
  | a, s, b :: r => if b.1 - a < s then fitN (b.1 + b.2) s r + 1 else 0
def insB (a s : Int) (bl : Bl) : Bl := bl.take (fitN a s bl) ++ [(fitA a s bl, s)] ++ bl.drop (fitN a s bl)
theorem insB_yes {a s : Int} {b : Int × Int} {r : Bl} (h : b.1 - a < s) : insB a s (b :: r) = b :: insB (b.1 + b.2) s r := by simp [insB, fitN, fitA, h]
theorem insB_no {a s : Int} {b : Int × Int} {r : Bl} (h : ¬ b.1 - a < s) : insB a s (b :: r) = (a, s) :: b :: r := by simp [insB, fitN, fitA, h]
theorem Ord.low : ∀ {bl : Bl} {a a' : Int}, Ord a bl → a' ≤ a → Ord a' bl
  | [], _, _, _, _ => trivial
  | _ :: _, _, _, ⟨h1, h2, h3⟩, l => ⟨by omega, h2, h3⟩
theorem Ord.mem : ∀ {bl : Bl} {a : Int} {b : Int × Int}, Ord a bl → b ∈ bl → a ≤ b.1 ∧ 1 ≤ b.2
  | _ :: r, a, b, ⟨h1, h2, h3⟩, m => by
    rcases List.mem_cons.mp m with rfl | m
    · exact ⟨h1, h2⟩
    · have := Ord.mem h3 m
      exact ⟨by omega, this.2⟩
theorem Ord.two : ∀ {bl : Bl} {a : Int} {b c : Int × Int}, Ord a bl → b ∈ bl → c ∈ bl → b = c ∨ b.1 + b.2 ≤ c.1 ∨ c.1 + c.2 ≤ b.1
  | _ :: r, a, b, c, ⟨h1, h2, h3⟩, m, m' => by
    rcases List.mem_cons.mp m with rfl | k <;> rcases List.mem_cons.mp m' with rfl | k'
    · exact .inl rfl
    · exact .inr (.inl (Ord.mem h3 k').1)
    · exact .inr (.inr (Ord.mem h3 k).1)
    · exact Ord.two h3 k k'
theorem Ord.filt (p : Int × Int → Bool) : ∀ {bl : Bl} {a : Int}, Ord a bl → Ord a (bl.filter p)
  | [], _, _ => trivial
  | b :: r, a, ⟨h1, h2, h3⟩ => by
    rw [List.filter_cons]
    split
    · exact ⟨h1, h2, Ord.filt p h3⟩
    · exact (Ord.filt p h3).low (by omega)
theorem Ord.ins : ∀ {bl : Bl} {a s : Int}, Ord a bl → 1 ≤ s → Ord a (insB a s bl)
  | [], a, s, _, hs => ⟨Int.le_refl _, hs, trivial⟩
  | b :: r, a, s, ⟨h1, h2, h3⟩, hs => by
    by_cases c : b.1 - a < s
    · rw [insB_yes c]
      exact ⟨h1, h2, Ord.ins h3 hs⟩
    · rw [insB_no c]
      exact ⟨Int.le_refl _, hs, by show a + s ≤ b.1; omega, h2, h3⟩
theorem fitA_low : ∀ {bl : Bl} {a s : Int}, Ord a bl → a ≤ fitA a s bl
  | [], _, _, _ => Int.le_refl _
  | b :: r, a, s, ⟨h1, h2, h3⟩ => by
    have := fitA_low (s := s) h3
    unfold fitA
    split <;> omega
theorem fitA_top : ∀ {bl : Bl} {a s t : Int}, a ≤ t → (∀ b ∈ bl, b.1 + b.2 ≤ t) → fitA a s bl ≤ t
  | [], _, _, _, h, _ => h
  | b :: r, a, s, t, h, k => by
    unfold fitA
    split
    · exact fitA_top (k b (by simp)) fun c m => k c (by simp [m])
    · exact h
theorem fitN_le : ∀ {bl : Bl} {a s : Int}, fitN a s bl ≤ bl.length
  | [], _, _ => Nat.le_refl _
  | b :: r, a, s => by
    have := fitN_le (bl := r) (a := b.1 + b.2) (s := s)
    unfold fitN
    split <;> simp <;> omega
theorem fit_apart : ∀ {bl : Bl} {a s : Int}, Ord a bl → 1 ≤ s → ∀ b ∈ bl, b.1 + b.2 ≤ fitA a s bl ∨ fitA a s bl + s ≤ b.1
  | b :: r, a, s, ⟨h1, h2, h3⟩, hs, c, m => by
    unfold fitA
    split
    · rcases List.mem_cons.mp m with rfl | m
      · exact .inl (fitA_low h3)
      · exact fit_apart h3 hs c m
    · rcases List.mem_cons.mp m with rfl | m
      · exact .inr (by omega)
      · have := Ord.mem h3 m
        exact .inr (by omega)
theorem insB_mem {bl : Bl} {a s : Int} {b : Int × Int} (h : b ∈ insB a s bl) : b ∈ bl ∨ b = (fitA a s bl, s) := by
  unfold insB at h
  simp only [List.mem_append, List.mem_singleton] at h
  rcases h with (h | h) | h
  · exact .inl (List.mem_of_mem_take h)
  · exact .inr h
  · exact .inl (List.mem_of_mem_drop h)
theorem insB_len {bl : Bl} {a s : Int} : (insB a s bl).length = bl.length + 1 := by
  have := fitN_le (bl := bl) (a := a) (s := s)
  unfold insB
  simp
  omega
theorem Ord.gt {bl : Bl} {a x : Int} (h : Ord a bl) (hx : x < a) : bl.filter (fun b => decide (b.1 < x)) = [] ∧ bl.filter (fun b => decide (x < b.1)) = bl := by
  refine ⟨List.filter_eq_nil_iff.mpr fun b m => ?_, List.filter_eq_self.mpr fun b m => ?_⟩ <;> have := h.mem m <;> simp <;> omega
theorem with_eq : ∀ {bl : Bl} {a s : Int}, Ord a bl → 1 ≤ s → bl.filter (fun b => decide (b.1 < fitA a s bl)) ++ [(fitA a s bl, s)] ++ bl.filter (fun b => decide (fitA a s bl < b.1)) = insB a s bl
  | [], _, _, _, _ => rfl
  | b :: r, a, s, ⟨h1, h2, h3⟩, hs => by
    by_cases c : b.1 - a < s
    · rw [insB_yes c, ← with_eq h3 hs]
      have e : fitA a s (b :: r) = fitA (b.1 + b.2) s r := by simp [fitA, c]
      have := fitA_low (s := s) h3
      rw [e, List.filter_cons, if_pos (by simp; omega), List.filter_cons, if_neg (by simp; omega)]
      simp
    · have e : fitA a s (b :: r) = a := by simp [fitA, c]
      have k : Ord b.1 (b :: r) := ⟨Int.le_refl _, h2, h3⟩
      obtain ⟨q1, q2⟩ := k.gt (x := a) (by omega)
      rw [insB_no c, e, q1, q2]
      simp
theorem Ord.gone : ∀ {bl : Bl} {a : Int} {b : Int × Int}, Ord a bl → b ∈ bl → ∃ j : Nat, (bl.map Prod.fst)[j]? = some b.1 ∧ (∀ m : Nat, m < j → (bl.map Prod.fst)[m]? ≠ some b.1) ∧ (bl.map Prod.fst).eraseIdx j = (bl.filter fun c => !decide (c.1 = b.1)).map Prod.fst
  | c :: r, a, b, ⟨h1, h2, h3⟩, m => by
    by_cases e : c.1 = b.1
    · refine ⟨0, by simp [e], fun m hm => by omega, ?_⟩
      rw [List.filter_cons, if_neg (by simp [e])]
      have : r.filter (fun c => !decide (c.1 = b.1)) = r := List.filter_eq_self.mpr fun d m => by
        have := Ord.mem h3 m
        simp
        omega
      rw [this]
      simp
    · have m2 : b ∈ r := by
        rcases List.mem_cons.mp m with rfl | m
        · exact absurd rfl e
        · exact m
      obtain ⟨j, q1, q2, q3⟩ := Ord.gone h3 m2
      refine ⟨j + 1, by simpa using q1, fun m hm => ?_, ?_⟩
      · cases m with
        | zero => simpa using e
        | succ m => simpa using q2 m (by omega)
      · rw [List.filter_cons, if_pos (by simp [e])]
        simp [q3]

/-! ### a memory -/
structure Mem (C : Addr) (H : Hp) (m s z c : Addr) (bl : Bl) (f : Int → Option V) (n : Nat) : Prop where
  ins : ∃ dx, H m = some (.ins C dx [("starts", .ref s), ("sizes", .ref z), ("cells", .ref c)])
  st : H s = some (.lst ((bl.map Prod.fst).map V.int))
  sz : ∃ g, DI H z g n ∧ ∀ b ∈ bl, g b.1 = some (.int b.2)
  cl : DI H c f n
  ne : z ≠ c
  ord : Ord 1 bl
  top : ∀ b ∈ bl, b.1 + b.2 ≤ n + 1
  has : ∀ b ∈ bl, ∀ i, b.1 ≤ i → i < b.1 + b.2 → (f i).isSome = true
  cnt : bl.length ≤ n
theorem Mem.same {C : Addr} {H H' : Hp} {m s z c : Addr} {bl : Bl} {f : Int → Option V} {n : Nat} (M : Mem C H m s z c bl f n) (e : Ext [] H H') : Mem C H' m s z c bl f n := by
  obtain ⟨⟨dx, h1⟩, h2, ⟨g, h3, h3'⟩, h4, h5, h6, h7, h8, h9⟩ := M
  exact ⟨⟨dx, e.same _ _ h1⟩, e.same _ _ h2, ⟨g, h3.same e, h3'⟩, h4.same e, h5, h6, h7, h8, h9⟩
theorem Mem.new {C : Addr} {H : Hp} {m s z c p : Addr} {bl : Bl} {f : Int → Option V} {n : Nat} (M : Mem C H m s z c bl f n) (h : H p = none) : p ∉ [s, z, c] := by
  obtain ⟨_, o2⟩ := (let ⟨g, d, _⟩ := M.sz; d.there)
  obtain ⟨_, o3⟩ := M.cl.there
  have n1 := ne_of_none M.st h
  have n2 := ne_of_none o2 h
  have n3 := ne_of_none o3 h
  simp
  exact ⟨n1.symm, n2.symm, n3.symm⟩
def sp_Memory_init (_ : PySem.W.Frag) (A : Ad) : Sp := fun vs H Q _ => ∃ (m dx : Addr), vs = [.ref m] ∧ H m = some (.ins A.c_Memory dx []) ∧ ∀ s z c H', Ext [m] H H' → Mem A.c_Memory H' m s z c [] (fun _ => none) 0 → H s = none → H z = none → H c = none → Q .non H'
def sp_Memory_allocate (_ : PySem.W.Frag) (A : Ad) : Sp := fun vs H Q _ => ∃ (m s z c : Addr) (bl : Bl) (f : Int → Option V) (n : Nat) (size : Int), vs = [.ref m, .int size] ∧ Mem A.c_Memory H m s z c bl f n ∧ 1 ≤ size ∧ n + size ≤ 50000 ∧
  ∀ H' (n' : Nat), (n' : Int) = n + size → Ext [s, z, c] H H' → Mem A.c_Memory H' m s z c (insB 1 size bl) (fun i => if fitA 1 size bl ≤ i ∧ i < fitA 1 size bl + size then some (.int 0) else f i) n' → Q (.int (fitA 1 size bl)) H'
def sp_Memory_release (_ : PySem.W.Frag) (A : Ad) : Sp := fun vs H Q _ => ∃ (m s z c : Addr) (bl : Bl) (f : Int → Option V) (n : Nat) (b : Int × Int), vs = [.ref m, .int b.1] ∧ Mem A.c_Memory H m s z c bl f n ∧ b ∈ bl ∧ n ≤ 50000 ∧
  ∀ H' f', Ext [s, z, c] H H' → Mem A.c_Memory H' m s z c (bl.filter fun c => !decide (c.1 = b.1)) f' n → Q .non H'
def sp_Memory_read (_ : PySem.W.Frag) (A : Ad) : Sp := fun vs H Q _ => ∃ (m s z c : Addr) (bl : Bl) (f : Int → Option V) (n : Nat) (a : Int) (v : V), vs = [.ref m, .int a] ∧ Mem A.c_Memory H m s z c bl f n ∧ f a = some v ∧ Q v H
def sp_Memory_write (_ : PySem.W.Frag) (A : Ad) : Sp := fun vs H Q _ => ∃ (m s z c : Addr) (bl : Bl) (f : Int → Option V) (n : Nat) (a : Int) (v : V), vs = [.ref m, .int a, v] ∧ Mem A.c_Memory H m s z c bl f n ∧ (f a).isSome = true ∧ n ≤ 50000 ∧
  ∀ H', Ext [s, z, c] H H' → Mem A.c_Memory H' m s z c bl (fun i => if i = a then some v else f i) (n + 1) → Q .non H'
def sp_Memory_blocks (K : PySem.W.Frag) (A : Ad) : Sp := fun vs H Q _ => ∃ (m s z c : Addr) (bl : Bl) (f : Int → Option V) (n : Nat), vs = [.ref m] ∧ Mem A.c_Memory H m s z c bl f n ∧ n ≤ 50000 ∧
  ∀ p H' xs, Ext [] H H' → H p = none → H' p = some (.lst xs) → RpAll K H' xs (bl.map bD) → Q (.ref p) H'
def sp_l_numbers (K : PySem.W.Frag) (_ : Ad) : Sp := fun vs H Q _ => ∃ (a : Addr) (ns : List Int), vs = [.ref a] ∧ SqL K H a (ns.map V.int) ∧
  ∀ p H' (ks : List Int), Ext [] H H' → H p = none → H' p = some (.lst (ks.map V.int)) → ks.length ≤ 40 → (∀ k ∈ ks, 0 ≤ k ∧ k < 64) → Q (.ref p) H'
def sp_l_lowest (K : PySem.W.Frag) (_ : Ad) : Sp := fun vs H Q _ => ∃ (b : Addr) (size : Int) (bl : Bl) (xs : List V), vs = [.ref b, .int size] ∧ H b = some (.lst xs) ∧ RpAll K H xs (bl.map bD) ∧ Q (.int (fitA 1 size bl)) H
def sp_l_with (K : PySem.W.Frag) (_ : Ad) : Sp := fun vs H Q _ => ∃ (b : Addr) (v : V) (d : Int × Int) (bl : Bl) (xs : List V), vs = [.ref b, v] ∧ H b = some (.lst xs) ∧ RpAll K H xs (bl.map bD) ∧ Rp K H v (bD d) ∧ bl.length ≤ 50000 ∧
  ∀ p H' ys, Ext [] H H' → H p = none → H' p = some (.lst ys) → RpAll K H' ys ((bl.filter (fun b => decide (b.1 < d.1)) ++ [d] ++ bl.filter (fun b => decide (d.1 < b.1))).map bD) → Q (.ref p) H'
def sp_l_same (K : PySem.W.Frag) (_ : Ad) : Sp := fun vs H Q _ => ∃ (a b : Addr) (bl : Bl) (xs ys : List V), vs = [.ref a, .ref b] ∧ H a = some (.lst xs) ∧ H b = some (.lst ys) ∧ RpAll K H xs (bl.map bD) ∧ RpAll K H ys (bl.map bD) ∧ bl.length ≤ 50000 ∧ Q (.bl true) H
def sp_law (K : PySem.W.Frag) : Sp := fun vs H Q _ => ∃ (a : Addr) (ns : List Int), vs = [.ref a] ∧ SqL K H a (ns.map V.int) ∧ ns.length ≤ 63 ∧ ∀ H', Q (.bl true) H'

def t_Memory_init (K : PySem.W.Frag) (A : Ad) : TS :=
  (tSeqJ (sFldC A.c_Memory "starts" (tVar 0) (tLst tNil))
    (tSeqJ (sFldC A.c_Memory "sizes" (tVar 0) tDNewK)
    (sFldC A.c_Memory "cells" (tVar 0) tDNewK)))
def t_Memory_allocate (K : PySem.W.Frag) (A : Ad) : TS :=
  (tSeqJ (tAsg (tC (.int 1)) (gName 2))
    (tSeqJ (tAsg (tC (.int 0)) (gName 3))
    (tSeqJ (tWhile (tAnd (tTest (tOp rLtI (tVar 3) (tCB (Go.rLen K) (tCons (tFldC A.c_Memory "starts" (tVar 0)) tNil)))) (tTest (tOp rLtI (tOp rSubI (tOp (rIx K) (tFldC A.c_Memory "starts" (tVar 0)) (tVar 3)) (tVar 2)) (tVar 1)))) (tSeqJ (tAsg (tOp (rAddG K) (tOp (rIx K) (tFldC A.c_Memory "starts" (tVar 0)) (tVar 3)) (tDGet (tFldC A.c_Memory "sizes" (tVar 0)) (tOp (rIx K) (tFldC A.c_Memory "starts" (tVar 0)) (tVar 3)))) (gName 2))
    (tAug 3 (tC (.int 1)) (ipI fun i j => i + j))))
    (tSeqJ (tDrop (tBM K "list" rInsert (tFldC A.c_Memory "starts" (tVar 0)) (tCons (tVar 3) (tCons (tVar 2) tNil))))
    (tSeqJ (sDPut (tFldC A.c_Memory "sizes" (tVar 0)) (tVar 2) (tVar 1))
    (tSeqJ (tFor (iRng2 (tCons (tVar 2) (tCons (tOp (rAddG K) (tVar 2) (tVar 1)) tNil))) (gName 4) (sDPut (tFldC A.c_Memory "cells" (tVar 0)) (tVar 4) (tC (.int 0))))
    (tRet (tVar 2))))))))
def t_Memory_release (K : PySem.W.Frag) (A : Ad) : TS :=
  (tSeqJ (tIfS (tB (tDNotIn (tVar 1) (tFldC A.c_Memory "sizes" (tVar 0)))) tNever tNext)
    (tSeqJ (tFor (iRng2 (tCons (tVar 1) (tCons (tOp (rAddG K) (tVar 1) (tDGet (tFldC A.c_Memory "sizes" (tVar 0)) (tVar 1))) tNil))) (gName 2) (sDDel (tFldC A.c_Memory "cells" (tVar 0)) (tVar 2)))
    (tSeqJ (sDDel (tFldC A.c_Memory "sizes" (tVar 0)) (tVar 1))
    (tDrop (tBM K "list" rRemI (tFldC A.c_Memory "starts" (tVar 0)) (tCons (tVar 1) tNil))))))
def t_Memory_read (K : PySem.W.Frag) (A : Ad) : TS :=
  (tSeqJ (tIfS (tB (tDNotIn (tVar 1) (tFldC A.c_Memory "cells" (tVar 0)))) tNever tNext)
    (tRet (tDGet (tFldC A.c_Memory "cells" (tVar 0)) (tVar 1))))
def t_Memory_write (K : PySem.W.Frag) (A : Ad) : TS :=
  (tSeqJ (tIfS (tB (tDNotIn (tVar 1) (tFldC A.c_Memory "cells" (tVar 0)))) tNever tNext)
    (sDPut (tFldC A.c_Memory "cells" (tVar 0)) (tVar 1) (tVar 2)))
def t_Memory_blocks (K : PySem.W.Frag) (A : Ad) : TS :=
  (tRet (tLc (iList K (tFldC A.c_Memory "starts" (tVar 0))) (gName 1) tYes (tTupK K (tCons (tVar 1) (tCons (tDGet (tFldC A.c_Memory "sizes" (tVar 0)) (tVar 1)) tNil))) [1]))
def t_l_numbers (K : PySem.W.Frag) (A : Ad) : TS :=
  (tSeqJ (tAsg (tLst tNil) (gName 1))
    (tSeqJ (tFor (iList K (tSl (rSlG K) (tVar 0) tNoPart (tPart (tC (.int 63))))) (gName 2) (tSeqJ (tAsg (tCB rAbs (tCons (tCB rInt1 (tCons (tVar 2) tNil)) tNil)) (gName 3))
    (tFor (iRng1 (tCons (tC (.int 24)) tNil)) (gName 4) (tSeqJ (tDrop (tBM K "list" rAppend (tVar 1) (tCons (tOp rModI (tCB rInt1 (tCons (tVar 3) tNil)) (tC (.int 64))) tNil)))
    (tSeqJ (tAsg (tOp rDivI (tVar 3) (tC (.int 64))) (gName 3))
    (tIfS (tTest (tOp (rEqG K) (tVar 3) (tC (.int 0)))) tBreak tNext))))))
    (tRet (tSl (rSlG K) (tVar 1) tNoPart (tPart (tC (.int 40)))))))
def t_l_lowest (K : PySem.W.Frag) (A : Ad) : TS :=
  (tSeqJ (tAsg (tC (.int 1)) (gName 2))
    (tSeqJ (tFor (iList K (tVar 0)) (gName 3) (tSeqJ (tIfS (tTest (tOp rGeI (tOp rSubI (tOp (rIx K) (tVar 3) (tC (.int 0))) (tVar 2)) (tVar 1))) (tRet (tVar 2)) tNext)
    (tAsg (tOp (rAddG K) (tOp (rIx K) (tVar 3) (tC (.int 0))) (tOp (rIx K) (tVar 3) (tC (.int 1)))) (gName 2))))
    (tRet (tVar 2))))
def t_l_with (K : PySem.W.Frag) (A : Ad) : TS :=
  (tSeqJ (tAsg (tLc (iList K (tVar 0)) (gName 3) (tTest (tOp rLtI (tOp (rIx K) (tVar 3) (tC (.int 0))) (tOp (rIx K) (tVar 1) (tC (.int 0))))) (tVar 3) [3]) (gName 2))
    (tSeqJ (tAsg (tLc (iList K (tVar 0)) (gName 3) (tTest (tOp rGtI (tOp (rIx K) (tVar 3) (tC (.int 0))) (tOp (rIx K) (tVar 1) (tC (.int 0))))) (tVar 3) [3]) (gName 4))
    (tRet (tOp (rAddG K) (tOp (rAddG K) (tVar 2) (tLst (tCons (tVar 1) tNil))) (tVar 4)))))
def t_l_same (K : PySem.W.Frag) (A : Ad) : TS :=
  (tSeqJ (tIfS (tOr (tNot (tB (tCB (rIsi K) (tCons (tVar 0) (tCons (tC (.ty "list")) tNil))))) (tTest (tOp (rNeG K) (tCB (Go.rLen K) (tCons (tVar 0) tNil)) (tCB (Go.rLen K) (tCons (tVar 1) tNil))))) (tRet (tC (.bl false))) tNext)
    (tSeqJ (tFor (iRng1 (tCons (tCB (Go.rLen K) (tCons (tVar 1) tNil)) tNil)) (gName 2) (tIfS (tOr (tNot (tB (tCB (rIsi K) (tCons (tOp (rIx K) (tVar 0) (tVar 2)) (tCons (tC (.ty "tuple")) tNil))))) (tTest (tOp (rNeG K) (tOp (rIx K) (tVar 0) (tVar 2)) (tOp (rIx K) (tVar 1) (tVar 2))))) (tRet (tC (.bl false))) tNext))
    (tRet (tC (.bl true)))))
def t_law (K : PySem.W.Frag) (A : Ad) : TS :=
  (tSeqJ (tAsg (tMake A.c_Memory (sp_Memory_init K A) [] E0 tNil) (gName 1))
    (tSeqJ (tAsg (tLst tNil) (gName 2))
    (tSeqJ (tFor (iList K (tCall (sp_l_numbers K A) [] E0 (tCons (tVar 0) tNil))) (gName 3) (tSeqJ (tIfS (tAnd (tTest (tOp rGtI (tCB (Go.rLen K) (tCons (tVar 2) tNil)) (tC (.int 0)))) (tTest (tOp (rEqG K) (tOp rModI (tVar 3) (tC (.int 3))) (tC (.int 2))))) (tSeqJ (tAsg (tOp (rIx K) (tVar 2) (tOp rModI (tOp rDivI (tVar 3) (tC (.int 3))) (tCB (Go.rLen K) (tCons (tVar 2) tNil)))) (gName 4))
    (tSeqJ (tDrop (tMeth A.c_Memory "release" (sp_Memory_release K A) [] E0 (tVar 1) (tCons (tOp (rIx K) (tVar 4) (tC (.int 0))) tNil)))
    (tAsg (tLc (iList K (tVar 2)) (gName 9) (tTest (tOp (rNeG K) (tOp (rIx K) (tVar 9) (tC (.int 0))) (tOp (rIx K) (tVar 4) (tC (.int 0))))) (tVar 9) [9]) (gName 2)))) (tSeqJ (tAsg (tOp (rAddG K) (tC (.int 1)) (tOp rModI (tOp rDivI (tVar 3) (tC (.int 3))) (tC (.int 9)))) (gName 5))
    (tSeqJ (tIfS (tTest (tOp (rEqG K) (tOp rModI (tOp rDivI (tVar 3) (tC (.int 3))) (tC (.int 16))) (tC (.int 15)))) (tAsg (tOp (rAddG K) (tC (.int 60)) (tOp rModI (tVar 3) (tC (.int 31)))) (gName 5)) tNext)
    (tSeqJ (tAsg (tCall (sp_l_lowest K A) [] E0 (tCons (tVar 2) (tCons (tVar 5) tNil))) (gName 6))
    (tSeqJ (tAsg (tMeth A.c_Memory "allocate" (sp_Memory_allocate K A) [] E0 (tVar 1) (tCons (tVar 5) tNil)) (gName 7))
    (tSeqJ (tIfS (tOr (tNot (tB (tCB (rIsi K) (tCons (tVar 7) (tCons (tC (.ty "int")) tNil))))) (tOr (tB (tCB (rIsi K) (tCons (tVar 7) (tCons (tC (.ty "bool")) tNil)))) (tTest (tOp (rNeG K) (tVar 7) (tVar 6))))) (tRet (tC (.bl false))) tNext)
    (tSeqJ (tFor (iRng1 (tCons (tVar 5) tNil)) (gName 8) (tSeqJ (tIfS (tTest (tOp (rNeG K) (tMeth A.c_Memory "read" (sp_Memory_read K A) [] E0 (tVar 1) (tCons (tOp (rAddG K) (tVar 6) (tVar 8)) tNil)) (tC (.int 0)))) (tRet (tC (.bl false))) tNext)
    (tDrop (tMeth A.c_Memory "write" (sp_Memory_write K A) [] E0 (tVar 1) (tCons (tOp (rAddG K) (tVar 6) (tVar 8)) (tCons (tOp (rAddG K) (tVar 3) (tC (.int 1))) tNil))))))
    (tAsg (tCall (sp_l_with K A) [] E0 (tCons (tVar 2) (tCons (tTupK K (tCons (tVar 6) (tCons (tVar 5) tNil))) tNil))) (gName 2)))))))))
    (tIfS (tNot (tB (tCall (sp_l_same K A) [] E0 (tCons (tMeth A.c_Memory "blocks" (sp_Memory_blocks K A) [] E0 (tVar 1) tNil) (tCons (tVar 2) tNil))))) (tRet (tC (.bl false))) tNext)))
    (tRet (tCall (sp_l_same K A) [] E0 (tCons (tMeth A.c_Memory "blocks" (sp_Memory_blocks K A) [] E0 (tMake A.c_Memory (sp_Memory_init K A) [] E0 tNil) tNil) (tCons (tLst tNil) tNil)))))))

section
variable {K : PySem.W.Frag}
abbrev bd (Q : VK) : Ends := { nx := fun _ H' => Q .non H', rt := Q }
theorem line_of {n : Nat} (h : n ≤ 60000) : n < sizeLine := Nat.lt_of_le_of_lt h (by decide)
theorem pure_Memory_init (A : Ad) (vs : List V) (H : Hp) (Q : VK) (E : XK) (h : sp_Memory_init K A vs H Q E) : t_Memory_init K A (bd Q) (start N_Memory_init vs) H := by
  obtain ⟨m, dx, rfl, e0, k⟩ := h
  show t_Memory_init K A (bd Q) [some (.ref m)] H
  unfold t_Memory_init
  walk_at "go"
  refine w_newL (by walk_at "len") (fun s H1 hs x1 e1 => ?_)
  walk_at "go"
  rename_i H2 x2 e2
  refine w_newD (fun z H3 z0 x3 d3 => ?_)
  walk_at "go"
  rename_i H4 x4 e4
  refine w_newD (fun c H5 c0 x5 d5 => ?_)
  walk_at "go"
  rename_i H6 x6 e6
  have hm := ne_of_none e0 hs
  have hz := ne_of_none e2 z0
  have hc := ne_of_none e4 c0
  have e1' : H2 s = some (.lst []) := x2.keep _ _ e1 (by simpa using hm.symm)
  have hsz := ne_of_none e1' z0
  have d4 := d3.keep x4 (by simpa using hz.symm)
  obtain ⟨o, q⟩ := d4.there
  have hzc := ne_of_none q c0
  have hs4 := x4.keep _ _ (x3.same _ _ e1') (by simpa using hm.symm)
  have hsc := ne_of_none hs4 c0
  have d6 := (d4.same x5).keep x6 (by simpa using hz.symm)
  have X : Ext [m] H H6 := ((((x1.any.trans x2).trans x3.any).trans x4).trans x5.any).trans x6
  have f0 := (x1.any (S := [m])).trans x2
  refine k s z c H6 X ⟨⟨_, e6⟩, x6.keep _ _ (x5.same _ _ hs4) (by simpa using hm.symm), ⟨_, d6, fun b hb => by simp at hb⟩, d5.keep x6 (by simpa using hc.symm), hzc, trivial, fun b hb => by simp at hb, fun b hb => by simp at hb, Nat.le_refl _⟩ hs (f0.free z0 (by simpa using hz.symm)) ((f0.trans (x3.any.trans x4)).free c0 (by simpa using hc.symm))
theorem pure_Memory_read (A : Ad) (vs : List V) (H : Hp) (Q : VK) (E : XK) (h : sp_Memory_read K A vs H Q E) : t_Memory_read K A (bd Q) (start N_Memory_read vs) H := by
  obtain ⟨m, s, z, c, bl, f, n, a, v, rfl, M, hf, k⟩ := h
  show t_Memory_read K A (bd Q) [some (.ref m), some (.int a)] H
  unfold t_Memory_read
  obtain ⟨⟨dx, ei⟩, es, _, dc, _, _, _, _, _⟩ := M
  walk_at "go"
  refine d_in dc ?_
  rw [hf]
  walk_at "go"
  refine d_get dc hf ?_
  exact k
theorem pure_Memory_write (A : Ad) (vs : List V) (H : Hp) (Q : VK) (E : XK) (h : sp_Memory_write K A vs H Q E) : t_Memory_write K A (bd Q) (start N_Memory_write vs) H := by
  obtain ⟨m, s, z, c, bl, f, n, a, v, rfl, M, hf, hn, k⟩ := h
  show t_Memory_write K A (bd Q) [some (.ref m), some (.int a), some v] H
  unfold t_Memory_write
  obtain ⟨⟨dx, ei⟩, es, ⟨g, dz, hg⟩, dc, hzc, ord, top, has, cnt⟩ := M
  obtain ⟨_, hc⟩ := dc.there
  have hmc : ¬ m = c := fun e => by
    obtain ⟨_, q, _⟩ := dc
    rw [e, q] at ei
    cases ei
  have hsc : ¬ s = c := fun e => by
    obtain ⟨_, q, _⟩ := dc
    rw [e, q] at es
    cases es
  walk_at "go"
  refine d_in dc ?_
  rw [hf]
  walk_at "go"
  refine d_put dc (line_of (by omega)) (fun H1 x1 d1 => ?_)
  refine k H1 (x1.wide (by simp)) ⟨⟨dx, x1.keep _ _ ei (by simpa using hmc)⟩, x1.keep _ _ es (by simpa using hsc), ⟨g, (dz.keep x1 (by simpa using hzc)).more (by omega), hg⟩, d1, hzc, ord, fun b hb => by have := top b hb; omega, fun b hb i h1 h2 => ?_, by omega⟩
  show (if i = a then some v else f i).isSome = true
  by_cases e : i = a
  · rw [if_pos e]; rfl
  · rw [if_neg e]; exact has b hb i h1 h2
theorem fitA_cons {a s : Int} {b : Int × Int} {r : Bl} : fitA a s (b :: r) = if b.1 - a < s then fitA (b.1 + b.2) s r else a := rfl
theorem fitN_cons {a s : Int} {b : Int × Int} {r : Bl} : fitN a s (b :: r) = if b.1 - a < s then fitN (b.1 + b.2) s r + 1 else 0 := rfl
theorem rpb {H : Hp} {v : V} {b : Int × Int} {R : V → Prop} (hx : Rp K H v (bD b)) {Q : VK} (h : Q (.int b.1) H) : rIx K v (.int 0) H Q := x_Di hx rfl h
theorem rpb1 {H : Hp} {v : V} {b : Int × Int} {R : V → Prop} (hx : Rp K H v (bD b)) {Q : VK} (h : Q (.int b.2) H) : rIx K v (.int 1) H Q := x_Di hx rfl h
theorem bl_get {H : Hp} {bl : Bl} {xs : List V} {i : Nat} {v : V} (h : RpAll K H xs (bl.map bD)) (e : xs[i]? = some v) : ∃ b, bl[i]? = some b ∧ Rp K H v (bD b) := by
  obtain ⟨d, h1, h2⟩ := h.get e
  rw [List.getElem?_map] at h1
  obtain ⟨b, h3, rfl⟩ := Option.map_eq_some_iff.mp h1
  exact ⟨b, h3, h2⟩
theorem pure_l_lowest (A : Ad) (vs : List V) (H : Hp) (Q : VK) (E : XK) (h : sp_l_lowest K A vs H Q E) : t_l_lowest K A (bd Q) (start N_l_lowest vs) H := by
  obtain ⟨b, size, bl, xs, rfl, eb, hr, k⟩ := h
  show t_l_lowest K A (bd Q) [some (.ref b), some (.int size), none, none] H
  unfold t_l_lowest
  have hl := hr.length
  rw [List.length_map] at hl
  walk_at "go"
  refine w_exl (SqL.of eb) ?_
  refine f_lst (xs := xs) (fun i σ H' => H' = H ∧ ∃ (a : Int) (w : Option V), σ = [some (.ref b), some (.int size), some (.int a), w] ∧ fitA 1 size bl = fitA a size (bl.drop i)) ⟨rfl, 1, none, rfl, by simp⟩ ?_ ?_ ?_
  · rintro i σ H' _ ⟨rfl, _⟩
    exact SqL.of eb
  · rintro i v σ H' hi ⟨rfl, a, w, rfl, f1⟩
    obtain ⟨q, hq, rq⟩ := bl_get hr hi
    have hd : bl.drop i = q :: bl.drop (i + 1) := by
      obtain ⟨h1, h2⟩ := List.getElem?_eq_some_iff.mp hq
      rw [← h2]
      exact List.drop_eq_getElem_cons h1
    rw [hd, fitA_cons] at f1
    walk_at "go"
    refine w_iteD (fun c1 => ?_) (fun c1 => ?_)
    · walk_at "go"
      rw [if_neg (by omega)] at f1
      rw [← f1]
      exact k
    · walk_at "go"
      rw [if_pos (by omega)] at f1
      exact ⟨rfl, _, _, rfl, f1⟩
  · rintro σ H' ⟨rfl, a, w, rfl, f1⟩
    walk_at "go"
    rw [List.drop_eq_nil_of_le (by omega)] at f1
    have f2 : fitA 1 size bl = a := f1
    rw [← f2]
    exact k
end

section
variable {K : PySem.W.Frag}
theorem drop_at {bl : Bl} {i : Nat} {q : Int × Int} (hq : bl[i]? = some q) : bl.drop i = q :: bl.drop (i + 1) := by
  obtain ⟨h1, h2⟩ := List.getElem?_eq_some_iff.mp hq
  rw [← h2]
  exact List.drop_eq_getElem_cons h1
theorem pure_Memory_allocate (A : Ad) (vs : List V) (H : Hp) (Q : VK) (E : XK) (h : sp_Memory_allocate K A vs H Q E) : t_Memory_allocate K A (bd Q) (start N_Memory_allocate vs) H := by
  obtain ⟨m, s, z, c, bl, f, n, size, rfl, M, s1, s2, k⟩ := h
  show t_Memory_allocate K A (bd Q) [some (.ref m), some (.int size), none, none, none] H
  unfold t_Memory_allocate
  obtain ⟨⟨dx, ei⟩, es, ⟨g, dz, hg⟩, dc, hzc, ord, top, has, cnt⟩ := M
  have hmc : ¬ m = c := fun e => by obtain ⟨_, q, _⟩ := dc; rw [e, q] at ei; cases ei
  have hsc : ¬ s = c := fun e => by obtain ⟨_, q, _⟩ := dc; rw [e, q] at es; cases es
  have hmz : ¬ m = z := fun e => by obtain ⟨_, q, _⟩ := dz; rw [e, q] at ei; cases ei
  have hsz : ¬ s = z := fun e => by obtain ⟨_, q, _⟩ := dz; rw [e, q] at es; cases es
  have hms : ¬ m = s := fun e => by rw [e, es] at ei; cases ei
  have a0 := fitA_low (s := size) ord
  have a1 := fitA_top (a := 1) (s := size) (bl := bl) (t := n + 1) (by omega) top
  have n0 := fitN_le (a := 1) (s := size) (bl := bl)
  have mp : (bl.map Prod.fst).map V.int = bl.map (fun b => V.int b.1) := by simp
  walk_at "gs"
  refine ⟨fun σ H' => H' = H ∧ σ = [some (.ref m), some (.int size), some (.int (fitA 1 size bl)), some (.int (fitN 1 size bl)), none], ?_, ?_⟩
  · refine ⟨fun k σ H' => ∃ (a : Int) (j : Nat), k = bl.length - j ∧ j ≤ bl.length ∧ H' = H ∧ σ = [some (.ref m), some (.int size), some (.int a), some (.int j), none] ∧ fitA 1 size bl = fitA a size (bl.drop j) ∧ fitN 1 size bl = j + fitN a size (bl.drop j), ⟨_, 1, 0, rfl, by omega, rfl, rfl, rfl, by simp⟩, ?_⟩
    rintro k σ H' ⟨a, j, rfl, hj, rfl, rfl, f1, f2⟩
    walk_at "go"
    refine w_iteD (fun c1 => ?_) (fun c1 => ?_)
    · rw [List.length_map, List.length_map] at c1
      obtain ⟨q, hq⟩ : ∃ q, bl[j]? = some q := ⟨bl[j]'(by omega), by simp [show j < bl.length by omega]⟩
      have hv : ((bl.map Prod.fst).map V.int)[j]? = some (.int q.1) := by rw [mp, List.getElem?_map, hq]; rfl
      rw [drop_at hq, fitA_cons] at f1
      rw [drop_at hq, fitN_cons] at f2
      walk_at "go"
      refine x_l es (at_nat rfl hv) ?_
      walk_at "go"
      refine w_iteD (fun c2 => ?_) (fun c2 => ?_)
      · rw [if_pos c2] at f1 f2
        refine ⟨fun σ H'' => H'' = H' ∧ σ = [some (.ref m), some (.int size), some (.int (q.1 + q.2)), some (.int ((j : Int) + 1)), none], ?_, ?_⟩
        · rintro σ H'' ⟨rfl, rfl⟩
          exact ⟨_, by omega, q.1 + q.2, j + 1, rfl, by omega, rfl, rfl, f1, by omega⟩
        · walk_at "go"
          refine x_l es (at_nat rfl hv) ?_
          walk_at "go"
          refine x_l es (at_nat rfl hv) ?_
          walk_at "go"
          refine d_get dz (hg q (List.mem_of_getElem? hq)) ?_
          walk_at "go"
          exact ⟨rfl, rfl⟩
      · rw [if_neg c2] at f1 f2
        refine ⟨rfl, ?_⟩
        rw [f1, f2]
        rfl
    · rw [List.length_map, List.length_map] at c1
      have e : j = bl.length := by omega
      subst e
      rw [List.drop_length] at f1 f2
      refine ⟨rfl, ?_⟩
      rw [f1, f2]
      rfl
  rintro _ H1 ⟨rfl, rfl⟩
  walk_at "go"
  refine ⟨ty_l es, ?_⟩
  walk_at "go"
  refine m_ins es (line_of (by simp; omega)) (by omega) (by omega) (fun H2 x2 e2 => ?_)
  walk_at "go"
  have dz2 := dz.keep x2 (by simpa using fun e => hsz e.symm)
  have dc2 := dc.keep x2 (by simpa using fun e => hsc e.symm)
  refine d_put dz2 (line_of (by omega)) (fun H3 x3 d3 => ?_)
  have dc3 := dc2.keep x3 (by simpa using fun e => hzc e.symm)
  have ei3 := x3.keep _ _ (x2.keep _ _ ei (by simpa using hms)) (by simpa using hmz)
  have es3 := x3.keep _ _ e2 (by simpa using hsz)
  walk_at "go"
  refine f_rng (fun i σ H' => ∃ w, σ = [some (.ref m), some (.int size), some (.int (fitA 1 size bl)), some (.int (fitN 1 size bl)), w] ∧ Ext [c] H3 H' ∧ DI H' c (fun x => if fitA 1 size bl ≤ x ∧ x < fitA 1 size bl + i then some (.int 0) else f x) (n + i)) ?_ ?_ ?_
  · refine ⟨none, rfl, Ext.refl, ?_⟩
    have e : (fun x => if fitA 1 size bl ≤ x ∧ x < fitA 1 size bl + ((0 : Nat) : Int) then some (V.int 0) else f x) = f := by
      funext x
      rw [if_neg (by omega)]
    rw [e]
    exact dc3
  · rintro i σ H4 hi ⟨w, rfl, x4, d4⟩
    have ei4 := x4.keep _ _ ei3 (by simpa using hmc)
    walk_at "go"
    refine d_put d4 (line_of (by omega)) (fun H5 x5 d5 => ?_)
    refine ⟨_, rfl, x4.trans x5, ?_⟩
    have e : (fun x => if x = fitA 1 size bl + (i : Int) then some (V.int 0) else if fitA 1 size bl ≤ x ∧ x < fitA 1 size bl + (i : Int) then some (V.int 0) else f x) = fun x => if fitA 1 size bl ≤ x ∧ x < fitA 1 size bl + ((i + 1 : Nat) : Int) then some (V.int 0) else f x := by
      funext x
      by_cases h1 : x = fitA 1 size bl + (i : Int)
      · rw [if_pos h1, if_pos (by omega)]
      · rw [if_neg h1]
        by_cases h2 : fitA 1 size bl ≤ x ∧ x < fitA 1 size bl + (i : Int)
        · rw [if_pos h2, if_pos (by omega)]
        · rw [if_neg h2, if_neg (by omega)]
    rw [← e]
    exact d5
  · rintro σ H4 ⟨w, rfl, x4, d4⟩
    walk_at "go"
    have hsize : ((fitA 1 size bl + size - fitA 1 size bl).toNat : Int) = size := by omega
    rw [hsize] at d4
    have X : Ext [s, z, c] H1 H4 := ((x2.wide (by simp)).trans (x3.wide (by simp))).trans (x4.wide (by simp))
    refine k H4 (n + size.toNat) (by omega) X ⟨⟨dx, x4.keep _ _ ei3 (by simpa using hmc)⟩, ?_, ⟨_, (d3.keep x4 (by simpa using hzc)).more (by omega), fun b hb => ?_⟩, d4.more (by omega), hzc, ord.ins s1, fun b hb => ?_, fun b hb i h1 h2 => ?_, ?_⟩
    · have e4 := x4.keep _ _ es3 (by simpa using hsc)
      rw [e4]
      unfold insB
      simp [List.map_take, List.map_drop]
    · show (if b.1 = fitA 1 size bl then some (V.int size) else g b.1) = some (.int b.2)
      rcases insB_mem hb with hb | rfl
      · have := fit_apart ord s1 b hb
        have := (ord.mem hb).2
        rw [if_neg (by omega)]
        exact hg b hb
      · rw [if_pos rfl]
    · rcases insB_mem hb with hb | rfl
      · have := top b hb
        omega
      · show fitA 1 size bl + size ≤ _
        omega
    · show (if fitA 1 size bl ≤ i ∧ i < fitA 1 size bl + size then some (V.int 0) else f i).isSome = true
      by_cases e : fitA 1 size bl ≤ i ∧ i < fitA 1 size bl + size
      · rw [if_pos e]; rfl
      · rw [if_neg e]
        rcases insB_mem hb with hb | rfl
        · exact has b hb i h1 h2
        · exact absurd ⟨h1, h2⟩ e
    · rw [insB_len]
      omega
theorem pure_Memory_release (A : Ad) (vs : List V) (H : Hp) (Q : VK) (E : XK) (h : sp_Memory_release K A vs H Q E) : t_Memory_release K A (bd Q) (start N_Memory_release vs) H := by
  obtain ⟨m, s, z, c, bl, f, n, b, rfl, M, hb, hn, k⟩ := h
  show t_Memory_release K A (bd Q) [some (.ref m), some (.int b.1), none] H
  unfold t_Memory_release
  obtain ⟨⟨dx, ei⟩, es, ⟨g, dz, hg⟩, dc, hzc, ord, top, has, cnt⟩ := M
  have hmc : ¬ m = c := fun e => by obtain ⟨_, q, _⟩ := dc; rw [e, q] at ei; cases ei
  have hsc : ¬ s = c := fun e => by obtain ⟨_, q, _⟩ := dc; rw [e, q] at es; cases es
  have hmz : ¬ m = z := fun e => by obtain ⟨_, q, _⟩ := dz; rw [e, q] at ei; cases ei
  have hsz : ¬ s = z := fun e => by obtain ⟨_, q, _⟩ := dz; rw [e, q] at es; cases es
  have hms : ¬ m = s := fun e => by rw [e, es] at ei; cases ei
  have b1 := ord.mem hb
  have b2 := top b hb
  walk_at "go"
  refine d_in dz ?_
  rw [hg b hb]
  walk_at "go"
  refine d_get dz (hg b hb) ?_
  walk_at "go"
  refine f_rng (fun i σ H' => ∃ w, σ = [some (.ref m), some (.int b.1), w] ∧ Ext [c] H H' ∧ DI H' c (fun x => if b.1 ≤ x ∧ x < b.1 + i then none else f x) n) ?_ ?_ ?_
  · refine ⟨none, rfl, Ext.refl, ?_⟩
    have e : (fun x => if b.1 ≤ x ∧ x < b.1 + ((0 : Nat) : Int) then none else f x) = f := by
      funext x
      rw [if_neg (by omega)]
    rw [e]
    exact dc
  · rintro i σ H4 hi ⟨w, rfl, x4, d4⟩
    have ei4 := x4.keep _ _ ei (by simpa using hmc)
    walk_at "go"
    refine d_del d4 ?_ (fun H5 x5 d5 => ?_)
    · show (if b.1 ≤ b.1 + (i : Int) ∧ b.1 + (i : Int) < b.1 + (i : Int) then none else f (b.1 + i)).isSome = true
      rw [if_neg (by omega)]
      exact has b hb _ (by omega) (by omega)
    refine ⟨_, rfl, x4.trans x5, ?_⟩
    have e : (fun x => if x = b.1 + (i : Int) then none else if b.1 ≤ x ∧ x < b.1 + (i : Int) then none else f x) = fun x => if b.1 ≤ x ∧ x < b.1 + ((i + 1 : Nat) : Int) then none else f x := by
      funext x
      by_cases h1 : x = b.1 + (i : Int)
      · rw [if_pos h1, if_pos (by omega)]
      · rw [if_neg h1]
        by_cases h2 : b.1 ≤ x ∧ x < b.1 + (i : Int)
        · rw [if_pos h2, if_pos (by omega)]
        · rw [if_neg h2, if_neg (by omega)]
    rw [← e]
    exact d5
  · rintro σ H4 ⟨w, rfl, x4, d4⟩
    have hsize : ((b.1 + b.2 - b.1).toNat : Int) = b.2 := by omega
    rw [hsize] at d4
    have ei4 := x4.keep _ _ ei (by simpa using hmc)
    have es4 := x4.keep _ _ es (by simpa using hsc)
    have dz4 := dz.keep x4 (by simpa using hzc)
    walk_at "go"
    refine d_del dz4 (by rw [hg b hb]; rfl) (fun H5 x5 d5 => ?_)
    have ei5 := x5.keep _ _ ei4 (by simpa using hmz)
    have es5 := x5.keep _ _ es4 (by simpa using hsz)
    walk_at "go"
    refine ⟨ty_l es5, ?_⟩
    walk_at "go"
    obtain ⟨j, j1, j2, j3⟩ := ord.gone hb
    refine m_rem es5 j1 j2 (fun H6 x6 e6 => ?_)
    rw [j3] at e6
    have X : Ext [s, z, c] H H6 := ((x4.wide (by simp)).trans (x5.wide (by simp))).trans (x6.wide (by simp))
    refine k H6 _ X ⟨⟨dx, x6.keep _ _ ei5 (by simpa using hms)⟩, e6, ⟨_, d5.keep x6 (by simpa using fun e => hsz e.symm), fun q hq => ?_⟩, ((d4.keep x5 (by simpa using fun e => hzc e.symm)).keep x6 (by simpa using fun e => hsc e.symm)), hzc, ord.filt _, fun q hq => top q (List.mem_filter.mp hq).1, fun q hq i h1 h2 => ?_, Nat.le_trans (List.length_filter_le _ _) cnt⟩
    · obtain ⟨q1, q2⟩ := List.mem_filter.mp hq
      show (if q.1 = b.1 then none else g q.1) = some (.int q.2)
      rw [if_neg (by simpa using q2)]
      exact hg q q1
    · obtain ⟨q1, q2⟩ := List.mem_filter.mp hq
      show (if b.1 ≤ i ∧ i < b.1 + b.2 then none else f i).isSome = true
      have q3 : ¬ q.1 = b.1 := by simpa using q2
      have q4 := ord.mem q1
      rcases ord.two q1 hb with e | e | e
      · exact absurd (by rw [e]) q3
      · rw [if_neg (by omega)]
        exact has q q1 i h1 h2
      · rw [if_neg (by omega)]
        exact has q q1 i h1 h2
end

section
variable {K : PySem.W.Frag}
theorem take_at {bl : Bl} {i : Nat} {q : Int × Int} (hq : bl[i]? = some q) : bl.take (i + 1) = bl.take i ++ [q] := by
  rw [List.take_succ, hq]
  rfl
theorem pure_Memory_blocks (A : Ad) (vs : List V) (H : Hp) (Q : VK) (E : XK) (h : sp_Memory_blocks K A vs H Q E) : t_Memory_blocks K A (bd Q) (start N_Memory_blocks vs) H := by
  obtain ⟨m, s, z, c, bl, f, n, rfl, M, hn, k⟩ := h
  show t_Memory_blocks K A (bd Q) [some (.ref m), none] H
  unfold t_Memory_blocks
  obtain ⟨⟨dx, ei⟩, es, ⟨g, dz, hg⟩, dc, hzc, ord, top, has, cnt⟩ := M
  walk_at "go"
  refine w_exl (SqL.of es) ?_
  intro L hL
  refine c_lst (xs := (bl.map Prod.fst).map V.int) (fun i H' acc => Ext [] H H' ∧ RpAll K H' acc ((bl.take i).map bD)) hL ?_ ?_ ?_ ?_
  · rintro i H' acc _ ⟨x, _⟩
    exact SqL.of (x.same _ _ es)
  · intro H1 x1 e1
    exact ⟨x1, .nil⟩
  · rintro i v H1 acc hi e1 e2 ⟨x1, r1⟩
    rw [List.getElem?_map, List.getElem?_map] at hi
    obtain ⟨q0, h1, rfl⟩ := Option.map_eq_some_iff.mp hi
    obtain ⟨q, hq, rfl⟩ := Option.map_eq_some_iff.mp h1
    have il := (List.getElem?_eq_some_iff.mp hq).1
    walk_at "go"
    refine d_get (dz.same x1) (hg q (List.mem_of_getElem? hq)) ?_
    walk_at "go"
    rename_i v H2 x2 r2
    refine turn1 (acc := acc) (x2.same _ _ e1) e2 (line_of (by omega)) (fun H4 x4 e5 => ⟨(x1.trans x2).out hL x4, ?_⟩)
    rw [take_at hq, List.map_append]
    exact ((r1.ts x2.ts).ts x4.ts).append (.cons (r2.ts x4.ts) .nil)
  · rintro H1 acc e1 ⟨x1, r1⟩
    rw [List.length_map, List.length_map, List.take_length] at r1
    exact k L H1 acc x1 hL e1 r1
theorem pure_l_same (A : Ad) (vs : List V) (H : Hp) (Q : VK) (E : XK) (h : sp_l_same K A vs H Q E) : t_l_same K A (bd Q) (start N_l_same vs) H := by
  obtain ⟨a, b, bl, xs, ys, rfl, ea, eb, ra, rb, hn, k⟩ := h
  show t_l_same K A (bd Q) [some (.ref a), some (.ref b), none] H
  unfold t_l_same
  have la := ra.length
  have lb := rb.length
  rw [List.length_map] at la lb
  walk_at "go"
  refine w_iteND (fun e => absurd (by omega) e) (fun e => ?_)
  walk_at "go"
  refine f_rng (fun i σ H' => H' = H ∧ ∃ w, σ = [some (.ref a), some (.ref b), w]) ⟨rfl, _, rfl⟩ ?_ ?_
  · rintro i σ H' hi ⟨rfl, w, rfl⟩
    have i2 : i < bl.length := by omega
    obtain ⟨v, hv, rv⟩ := ra.getD (i := i) (d := bD (bl[i]'i2)) (by rw [List.getElem?_map]; simp [i2])
    obtain ⟨u, hu, ru⟩ := rb.getD (i := i) (d := bD (bl[i]'i2)) (by rw [List.getElem?_map]; simp [i2])
    walk_at "go"
    refine x_l ea (at_nat (by omega) hv) ?_
    walk_at "go"
    refine x_l ea (at_nat (by omega) hv) ?_
    walk_at "go"
    refine x_l eb (at_nat (by omega) hu) ?_
    refine n_D rv ru (by simp [D.sok, D.soks]) (by simp [D.dep, D.deps]) (by simp [D.sok, D.soks]) (by simp [D.dep, D.deps]) ?_
    have z : D.eqv (bD (bl[i]'i2)) (bD (bl[i]'i2)) = true := (D.eqv_iff _ _ (by simp [D.nb, D.nbs]) (by simp [D.nb, D.nbs])).mpr rfl
    rw [z]
    walk_at "go"
    exact ⟨rfl, _, rfl⟩
  · rintro σ H' ⟨rfl, w, rfl⟩
    walk_at "go"
    exact k
theorem pure_l_numbers (A : Ad) (vs : List V) (H : Hp) (Q : VK) (E : XK) (h : sp_l_numbers K A vs H Q E) : t_l_numbers K A (bd Q) (start N_l_numbers vs) H := by
  obtain ⟨a, ns, rfl, hS, k⟩ := h
  show t_l_numbers K A (bd Q) [some (.ref a), none, none, none, none] H
  unfold t_l_numbers
  walk_at "go"
  refine w_newL (by walk_at "len") (fun p H1 hp x1 e1 => ?_)
  walk_at "go"
  refine s_L (x1.same.seq hS) (fun q H2 hq x2 e2 => ?_)
  have hqp : q ≠ p := (ne_of_none e1 hq).symm
  obtain ⟨ks, ek, lk⟩ : ∃ ks : List Int, cutD (ns.map V.int) none (some 63) = ks.map V.int ∧ ks.length ≤ 63 := by
    refine ⟨ns.take 63, ?_, by simp; omega⟩
    rw [cut_to _ (by omega)]
    simp
  rw [ek] at e2
  refine w_exl (SqL.of e2) ?_
  have hq0 := x1.free hq (by simp)
  refine f_lst (xs := ks.map V.int) (fun i σ H' => ∃ (ms : List Int) (v3 v4 v5 : Option V), σ = [some (.ref a), some (.ref p), v3, v4, v5] ∧ Ext [] H H' ∧ H' p = some (.lst (ms.map V.int)) ∧ H' q = some (.lst (ks.map V.int)) ∧ ms.length ≤ 24 * i ∧ ∀ x ∈ ms, 0 ≤ x ∧ x < 64) ?_ ?_ ?_ ?_
  · exact ⟨[], none, none, none, rfl, x1.trans x2, x2.same _ _ e1, e2, by simp, fun x h => by simp at h⟩
  · rintro i σ H' _ ⟨ms, v3, v4, v5, rfl, x, ep, eq, l, _⟩
    exact SqL.of eq
  · rintro i v σ H' hi ⟨ms, v3, v4, v5, rfl, x, ep, eq, l, hm⟩
    obtain ⟨z, rfl⟩ : ∃ z, v = V.int z := by
      rw [List.getElem?_map] at hi
      obtain ⟨z, _, e⟩ := Option.map_eq_some_iff.mp hi
      exact ⟨z, e.symm⟩
    have hi2 : i < ks.length := by
      have := (List.getElem?_eq_some_iff.mp hi).1
      simpa using this
    walk_at "go"
    refine f_rng (fun j σ H'' => ∃ (ms : List Int) (rest : Int) (v3 v5 : Option V), σ = [some (.ref a), some (.ref p), v3, some (.int rest), v5] ∧ Ext [] H H'' ∧ H'' p = some (.lst (ms.map V.int)) ∧ H'' q = some (.lst (ks.map V.int)) ∧ ms.length ≤ 24 * i + j ∧ ∀ x ∈ ms, 0 ≤ x ∧ x < 64) ?_ ?_ ?_
    · exact ⟨ms, _, _, _, rfl, x, ep, eq, by omega, hm⟩
    · rintro j σ H3 hj ⟨ms, rest, v3, v5, rfl, x, ep, eq, l, hm⟩
      walk_at "go"
      refine ⟨ty_l ep, ?_⟩
      walk_at "go"
      refine m_app ep (line_of (by rw [List.length_map]; omega)) (fun H4 x4 e4 => ?_)
      have e4' : H4 p = some (.lst ((ms ++ [rest % 64]).map V.int)) := by rw [List.map_append]; exact e4
      have eq4 := x4.keep q _ eq (by simpa using hqp)
      have xx : Ext [] H H4 := x.out hp x4
      have hm' : ∀ x ∈ ms ++ [rest % 64], 0 ≤ x ∧ x < 64 := by
        intro x hx
        rcases List.mem_append.mp hx with hx | hx
        · exact hm x hx
        · rw [List.mem_singleton.mp hx]
          omega
      walk_at "go"
      refine w_iteD (fun c => ?_) (fun c => ?_)
      · walk_at "go"
        exact ⟨_, _, _, _, rfl, xx, e4', eq4, by rw [List.length_append]; simp; omega, hm'⟩
      · walk_at "go"
        exact ⟨_, _, _, _, rfl, xx, e4', eq4, by rw [List.length_append]; simp; omega, hm'⟩
    · rintro σ H3 ⟨ms, rest, v3, v5, rfl, x, ep, eq, l, hm⟩
      exact ⟨_, _, _, _, rfl, x, ep, eq, by omega, hm⟩
  · rintro σ H3 ⟨ms, v3, v4, v5, rfl, x, ep, eq, l, hm⟩
    walk_at "go"
    refine s_L (SqL.of ep) (fun r H4 hr x4 e4 => ?_)
    rw [cut_to _ (by omega)] at e4
    refine k r H4 (ms.take 40) (x.trans x4) (x.free hr (by simp)) (by rw [e4]; simp) (by simp; omega) fun y hy => hm y (List.mem_of_mem_take hy)
/-- a comprehension that keeps some of a list's blocks -/
theorem filt_step {p : Int × Int → Bool} {bl : Bl} {i : Nat} {q : Int × Int} (hq : bl[i]? = some q) : (bl.take (i + 1)).filter p = if p q = true then (bl.take i).filter p ++ [q] else (bl.take i).filter p := by
  rw [take_at hq, List.filter_append]
  by_cases e : p q = true
  · rw [if_pos e]
    simp [e]
  · rw [if_neg e]
    simp [e]
theorem c_bl {σ : St} {H : Hp} {Q : VK} {te : TE} {a : Addr} {xs : List V} {g : Nat} {tt : TT} {D : Addr} {bl : Bl} (p : Int × Int → Bool) (ha : H a = some (.lst xs)) (hr : RpAll K H xs (bl.map bD)) (hl : bl.length ≤ 50000) (hD : H D = none)
    (ht : ∀ (b : Int × Int) v H' (R : Bool → Hp → Prop), Rp K H' v (bD b) → Ext [] H H' → R (p b) H' → tt (σ.set g (some v)) H' R) (he : ∀ v H' (R : VK), R v H' → te (σ.set g (some v)) H' R)
    (hd : ∀ H' ys, Ext [] H H' → H' D = some (.lst ys) → RpAll K H' ys ((bl.filter p).map bD) → Q (.ref D) H') : LcOk (Itl K a) (gName g) tt te [g] σ D H Q := by
  have hlen := hr.length
  rw [List.length_map] at hlen
  refine c_lst (xs := xs) (fun i H' acc => Ext [] H H' ∧ RpAll K H' acc (((bl.take i).filter p).map bD)) hD ?_ ?_ ?_ ?_
  · rintro i H' acc _ ⟨x, _⟩
    exact SqL.of (x.same _ _ ha)
  · intro H1 x1 e1
    exact ⟨x1, .nil⟩
  · rintro i v H1 acc hi e1 e2 ⟨x1, r1⟩
    obtain ⟨q, hq, rq⟩ := bl_get (hr.ts x1.ts) hi
    have il := (List.getElem?_eq_some_iff.mp hq).1
    refine ht q v H1 _ rq x1 ?_
    by_cases e : p q = true
    · rw [if_pos e]
      refine he v H1 _ ?_
      refine turn1 (acc := acc) e1 e2 (line_of (by omega)) (fun H4 x4 e5 => ⟨x1.out hD x4, ?_⟩)
      rw [filt_step hq, if_pos e, List.map_append]
      exact (r1.ts x4.ts).append (.cons (rq.ts x4.ts) .nil)
    · rw [if_neg e]
      refine turn0 e1 e2 ⟨x1, ?_⟩
      rw [filt_step hq, if_neg e]
      exact r1
  · rintro H1 acc e1 ⟨x1, r1⟩
    rw [List.take_of_length_le (by omega)] at r1
    exact hd H1 acc x1 e1 r1
theorem pure_l_with (A : Ad) (vs : List V) (H : Hp) (Q : VK) (E : XK) (h : sp_l_with K A vs H Q E) : t_l_with K A (bd Q) (start N_l_with vs) H := by
  obtain ⟨b, v, d, bl, xs, rfl, eb, hr, hv, hn, k⟩ := h
  show t_l_with K A (bd Q) [some (.ref b), some v, none, none, none] H
  unfold t_l_with
  walk_at "go"
  refine w_exl (SqL.of eb) ?_
  intro L hL
  refine c_bl (bl := bl) (fun b => decide (b.1 < d.1)) eb hr hn hL ?_ ?_ ?_
  · intro q u H' R ru x hR
    walk_at "go"
    exact hR
  · intro u H' R hR
    walk_at "go"
    exact hR
  intro H1 ys x1 e1 r1
  walk_at "go"
  refine w_exl (SqL.of (x1.same _ _ eb)) ?_
  intro L2 hL2
  refine c_bl (bl := bl) (fun b => decide (d.1 < b.1)) (x1.same _ _ eb) (hr.ts x1.ts) hn hL2 ?_ ?_ ?_
  · intro q u H' R ru x hR
    walk_at "go"
    exact hR
  · intro u H' R hR
    walk_at "go"
    exact hR
  intro H2 zs x2 e2 r2
  walk_at "go"
  have l1 : ys.length ≤ 50000 := by
    rw [r1.length, List.length_map]
    exact Nat.le_trans (List.length_filter_le _ _) hn
  have l2 : zs.length ≤ 50000 := by
    rw [r2.length, List.length_map]
    exact Nat.le_trans (List.length_filter_le _ _) hn
  refine w_newL (by walk_at "len") (fun p3 H3 hp3 x3 e3 => ?_)
  refine a_lst ((x2.trans x3).same _ _ e1) e3 (Nat.le_of_lt (line_of (by simp; omega))) (fun p4 H4 hp4 x4 e4 => ?_)
  walk_at "go"
  refine a_lst e4 ((x3.trans x4).same _ _ e2) (Nat.le_of_lt (Nat.lt_of_le_of_lt (m := 100001) (by simp; omega) (by decide))) (fun p5 H5 hp5 x5 e5 => ?_)
  have t1 : Tst H1 H5 := (((x2.trans x3).trans x4).trans x5).ts
  have t2 : Tst H2 H5 := ((x3.trans x4).trans x5).ts
  refine k p5 H5 _ ((((x1.trans x2).trans x3).trans x4).trans x5) ((((x1.trans x2).trans x3).trans x4).free hp5 (by simp)) e5 ?_
  rw [List.map_append, List.map_append]
  exact ((r1.ts t1).append (.cons (hv.ts (x1.ts.trans t1)) .nil)).append (r2.ts t2)
end

section
variable {K : PySem.W.Frag}
theorem pure_law (A : Ad) (vs : List V) (H : Hp) (Q : VK) (E : XK) (h : sp_law K vs H Q E) : t_law K A (bd Q) (start N_law vs) H := by
  obtain ⟨a, ns, rfl, hS, hl, k⟩ := h
  show t_law K A (bd Q) [some (.ref a), none, none, none, none, none, none, none, none, none] H
  unfold t_law
  walk_at "gs"
  refine w_made (fun m H1 hm x1 ⟨dx, e1⟩ => ?_)
  refine ⟨m, dx, rfl, e1, fun s z c H2 x2 M2 hs hz hc => ⟨rfl, ?_⟩⟩
  walk_at "gs"
  refine w_newL (by walk_at "len") (fun lb H3 hlb x3 e3 => ?_)
  have M3 := M2.same x3
  have nlb := M2.new hlb
  walk_at "go"
  have hS3 : SqL K H3 a (ns.map V.int) := (((x1.out hm x2).trans x3).same.seq hS)
  refine ⟨a, ns, rfl, ?_, fun p H4 ks x4 hp e4 kl kb => ?_⟩
  · exact hS3
  have M4 := M3.same x4
  have np := M3.new hp
  walk_at "go"
  refine w_exl (SqL.of e4) ?_
  refine f_lst (xs := ks.map V.int) (fun i σ H' => ∃ (lb : Addr) (bl : Bl) (f : Int → Option V) (n : Nat) (xs : List V) (w : List (Option V)), σ = some (.ref a) :: some (.ref m) :: some (.ref lb) :: w ∧ w.length = 7 ∧ Mem A.c_Memory H' m s z c bl f n ∧ n ≤ 200 * i ∧ H' lb = some (.lst xs) ∧ RpAll K H' xs (bl.map bD) ∧ lb ∉ [s, z, c] ∧ H' p = some (.lst (ks.map V.int))) ?_ ?_ ?_ ?_
  · exact ⟨lb, [], _, 0, [], _, rfl, rfl, M4, by omega, x4.same _ _ e3, .nil, nlb, e4⟩
  · rintro i σ H' _ ⟨lb, bl, f, n, xs, w, rfl, hw, M, hn, el, hr, nl, ep⟩
    exact SqL.of ep
  · rintro i v σ H5 hi ⟨lb, bl, f, n, xs, w, rfl, hw, M, hn, el, hr, nl, ep⟩
    rw [List.getElem?_map] at hi
    obtain ⟨num, h1, rfl⟩ := Option.map_eq_some_iff.mp hi
    obtain ⟨nb0, nb1⟩ := kb num (List.mem_of_getElem? h1)
    have il := (List.getElem?_eq_some_iff.mp h1).1
    have hlen := hr.length
    rw [List.length_map] at hlen
    match w, hw with
    | [w3, w4, w5, w6, w7, w8, w9], _ =>
    walk_at "gs"
    refine ⟨fun σ H' => ∃ (lb : Addr) (bl : Bl) (f : Int → Option V) (n : Nat) (xs : List V) (w : List (Option V)), σ = some (.ref a) :: some (.ref m) :: some (.ref lb) :: w ∧ w.length = 7 ∧ Mem A.c_Memory H' m s z c bl f n ∧ n ≤ 200 * (i + 1) ∧ H' lb = some (.lst xs) ∧ RpAll K H' xs (bl.map bD) ∧ lb ∉ [s, z, c] ∧ H' p = some (.lst (ks.map V.int)), ?_, ?_⟩
    · refine w_ifS ?_
      refine w_andB (decide ((0 : Int) < (xs.length : Int))) (decide (num % 3 = 2)) (fun R hR => ?_) (fun _ R hR => ?_) ?_
      · walk_at "go"
        exact hR
      · walk_at "go"
        exact hR
      refine w_ite (fun c1 => ?_) (fun c1 => ?_)
      · simp only [Bool.and_eq_true, decide_eq_true_eq] at c1
        have i0 : 0 ≤ num / 3 % (xs.length : Int) := Int.emod_nonneg _ (by omega)
        have i1 : num / 3 % (xs.length : Int) < xs.length := Int.emod_lt_of_pos _ (by omega)
        obtain ⟨j, hj⟩ : ∃ j : Nat, num / 3 % (xs.length : Int) = j := ⟨_, (Int.toNat_of_nonneg i0).symm⟩
        obtain ⟨v, hv⟩ : ∃ v, xs[j]? = some v := ⟨xs[j]'(by omega), by simp [show j < xs.length by omega]⟩
        obtain ⟨b, hb, rb⟩ := bl_get hr hv
        have hbm := List.mem_of_getElem? hb
        walk_at "go"
        refine x_l el (at_nat hj hv) ?_
        obtain ⟨dx5, ei5⟩ := M.ins
        walk_at "go"
        refine ⟨m, s, z, c, bl, f, n, b, rfl, M, hbm, by omega, fun H6 f6 x6 M6 => ?_⟩
        have el6 := x6.keep _ _ el nl
        have hr6 := hr.ts x6.ts
        have rb6 : Rp K H6 v (bD b) := rb.ts x6.ts
        walk_at "go"
        refine w_exl (SqL.of el6) ?_
        intro L hL
        refine c_bl (bl := bl) (fun q => !decide (q.1 = b.1)) el6 hr6 (by have := M.cnt; omega) hL ?_ ?_ ?_
        · intro q u H' R ru x hR
          walk_at "go"
          exact hR
        · intro u H' R hR
          walk_at "go"
          exact hR
        intro H7 ys x7 e7 r7
        walk_at "go"
        exact ⟨L, _, f6, n, ys, _, rfl, rfl, M6.same x7, by omega, e7, r7, M6.new hL, x7.same _ _ (x6.keep _ _ ep np)⟩
      · walk_at "gs"
        refine ⟨fun σ H' => ∃ size : Int, 1 ≤ size ∧ size ≤ 90 ∧ H' = H5 ∧ σ = [some (.ref a), some (.ref m), some (.ref lb), some (.int num), w4, some (.int size), w6, w7, w8, w9], ?_, ?_⟩
        · walk_at "go"
          refine w_iteD (fun c2 => ?_) (fun c2 => ?_)
          · walk_at "go"
            exact ⟨_, by omega, by omega, rfl, rfl⟩
          · walk_at "go"
            exact ⟨_, by omega, by omega, rfl, rfl⟩
        rintro _ H6 ⟨size, s1, s2, rfl, rfl⟩
        obtain ⟨dx5, ei5⟩ := M.ins
        walk_at "gs"
        refine ⟨lb, size, bl, xs, rfl, el, hr, ?_⟩
        walk_at "gs"
        refine ⟨m, s, z, c, bl, f, n, size, rfl, M, s1, by omega, fun H7 n7 en7 x7 M7 => ?_⟩
        have ord := M.ord
        have a0 := fitA_low (s := size) ord
        have a1 := fitA_top (a := 1) (s := size) (bl := bl) (t := n + 1) (by omega) M.top
        generalize hA : fitA 1 size bl = ad at *
        walk_at "go"
        refine w_iteND (fun e => absurd rfl e) (fun e => ?_)
        walk_at "go"
        refine f_rng (fun j σ H' => ∃ (f : Int → Option V) (n' : Nat) (w : Option V), σ = [some (.ref a), some (.ref m), some (.ref lb), some (.int num), w4, some (.int size), some (.int ad), some (.int ad), w, w9] ∧ Ext [s, z, c] H6 H' ∧ Mem A.c_Memory H' m s z c (insB 1 size bl) f n' ∧ n' ≤ n7 + j ∧ ∀ x, ad + j ≤ x → x < ad + size → f x = some (.int 0)) ?_ ?_ ?_
        · refine ⟨_, n7, _, rfl, x7, M7, by omega, fun x h1 h2 => ?_⟩
          show (if ad ≤ x ∧ x < ad + size then _ else _) = _
          rw [if_pos (by omega)]
        · rintro j σ H8 hj ⟨f8, n8, w, rfl, x8, M8, ln8, hf8⟩
          obtain ⟨dx8, ei8⟩ := M8.ins
          walk_at "go"
          refine ⟨m, s, z, c, _, f8, n8, _, .int 0, rfl, M8, hf8 _ (by omega) (by omega), ?_⟩
          walk_at "go"
          refine ⟨m, s, z, c, _, f8, n8, _, _, rfl, M8, by rw [hf8 _ (by omega) (by omega)]; rfl, by omega, fun H9 x9 M9 => ?_⟩
          refine ⟨_, _, _, rfl, x8.trans x9, M9, by omega, fun x h1 h2 => ?_⟩
          show (if x = ad + (0 + (j : Int)) then _ else f8 x) = _
          rw [if_neg (by omega)]
          exact hf8 x (by omega) h2
        · rintro σ H8 ⟨f8, n8, w, rfl, x8, M8, ln8, hf8⟩
          walk_at "go"
          rename_i v9 H9 x9 r9
          refine ⟨lb, v9, (ad, size), bl, xs, rfl, x9.same _ _ (x8.keep _ _ el nl), hr.ts (x8.ts.trans x9.ts), r9, by have := M.cnt; omega, fun q H10 ys x10 hq e10 r10 => ?_⟩
          have we := with_eq (s := size) ord s1
          rw [hA] at we
          have we2 : bl.filter (fun b => decide (b.1 < (ad, size).1)) ++ [(ad, size)] ++ bl.filter (fun b => decide ((ad, size).1 < b.1)) = insB 1 size bl := we
          rw [we2] at r10
          exact ⟨q, insB 1 size bl, f8, n8, ys, _, rfl, rfl, (M8.same x9).same x10, by omega, e10, r10, (M8.same x9).new hq, x10.same _ _ (x9.same _ _ (x8.keep _ _ ep np))⟩
    rintro _ H6 ⟨lb, bl, f, n, xs, w, rfl, hw, M, hn, el, hr, nl, ep⟩
    match w, hw with
    | [w3, w4, w5, w6, w7, w8, w9], _ =>
    obtain ⟨dx6, ei6⟩ := M.ins
    have hlen := M.cnt
    walk_at "go"
    refine ⟨m, s, z, c, bl, f, n, rfl, M, by omega, fun q H7 ys x7 hq e7 r7 => ?_⟩
    walk_at "go"
    refine ⟨q, lb, bl, ys, xs, rfl, e7, x7.same _ _ el, r7, hr.ts x7.ts, by omega, ?_⟩
    walk_at "go"
    exact ⟨lb, bl, f, n, xs, _, rfl, rfl, M.same x7, hn, x7.same _ _ el, hr.ts x7.ts, nl, x7.same _ _ ep⟩
  · rintro σ H5 ⟨lb, bl, f, n, xs, w, rfl, hw, M, hn, el, hr, nl, ep⟩
    match w, hw with
    | [w3, w4, w5, w6, w7, w8, w9], _ =>
    walk_at "go"
    refine w_made (fun m2 H6 hm2 x6 ⟨dx6, e6⟩ => ?_)
    refine ⟨m2, dx6, rfl, e6, fun s2 z2 c2 H7 x7 M7 hs2 hz2 hc2 => ⟨rfl, ?_⟩⟩
    obtain ⟨dx7, ei7⟩ := M7.ins
    walk_at "go"
    refine ⟨m2, s2, z2, c2, [], _, 0, rfl, M7, by omega, fun q H8 ys x8 hq e8 r8 => ?_⟩
    walk_at "go"
    refine w_newL (by walk_at "len") (fun lb9 H9 hlb9 x9 e9 => ?_)
    walk_at "go"
    refine ⟨q, lb9, [], ys, [], rfl, x9.same _ _ e8, e9, r8.ts x9.ts, .nil, by simp, ?_⟩
    exact k _
end

section
variable {P : Program} {w : World} {K : PySem.W.Frag} {mg : Str → Option Value} {base : Heap}
theorem has_Memory_init (A : Ad) (C_Memory : Cl_Memory K A.c_Memory)  (F0 : DfnI K mg "__init__" "Memory.__init__" "Memory" A.c_Memory s_Memory_init ["self"])   : HasI P w K mg base CX0 1 "Memory" A.c_Memory ["self"] (sp_Memory_init K A) :=
  F0.has fun f fd F => F.ok sc_Memory_init (by intro vs H Q E h; row_has h) (fun cdv A0 outer s H vs Q E hr h => ⟨t_Memory_init K A,
    (pss_consJ (ps_fldC C_Memory.cl C_Memory.n_starts (pv 0) (pe_lst pa_nil) rfl)
    (pss_consJ (ps_fldC C_Memory.cl C_Memory.n_sizes (pv 0) pe_dnewK rfl)
    (pss_one (ps_fldC C_Memory.cl C_Memory.n_cells (pv 0) pe_dnewK rfl)))),
    pure_Memory_init A vs H Q E h⟩)
theorem has_Memory_allocate (A : Ad) (C_Memory : Cl_Memory K A.c_Memory)  (F0 : DfnM K "allocate" "Memory.allocate" A.c_Memory s_Memory_allocate ["self", "size"]) (z_len : mg "len" = none) (z_range : mg "range" = none)  : HasM P w K mg base CX0 1 A.c_Memory "allocate" ["self", "size"] (sp_Memory_allocate K A) :=
  F0.has fun f fd F => F.ok sc_Memory_allocate (by intro vs H Q E h; row_has h) (fun cdv A0 outer s H vs Q E hr h => ⟨t_Memory_allocate K A,
    (pss_consJ (ps_set (i := 2) sc_Memory_allocate.nd rfl (by first | exact Or.inl rfl | exact Or.inr rfl) pe_int)
    (pss_consJ (ps_set (i := 3) sc_Memory_allocate.nd rfl (by first | exact Or.inl rfl | exact Or.inr rfl) pe_int)
    (pss_consJ (ps_while PassesOwn.never (PW.pt (pw_and (pt_cmpR op_lt (pv 3) (pe_callB call_len (by rfl) z_len PySem.boot_len (pa_cons (pe_fldC C_Memory.cl C_Memory.n_starts (pv 0) rfl) pa_nil)) (nomark _)) (pw_and1 (pt_cmpR op_lt (pe_op op_sub (pe_ix ix_seq (pe_fldC C_Memory.cl C_Memory.n_starts (pv 0) rfl) (pv 3) (fun _ _ => rfl)) (pv 2)) (pv 1) (nomark _))))) (pss_consJ (ps_set (i := 2) sc_Memory_allocate.nd rfl (by first | exact Or.inl rfl | exact Or.inr rfl) (pe_op o_add (pe_ix ix_seq (pe_fldC C_Memory.cl C_Memory.n_starts (pv 0) rfl) (pv 3) (fun _ _ => rfl)) (pe_dget (hu_of hr) (pe_fldC C_Memory.cl C_Memory.n_sizes (pv 0) rfl) (pe_ix ix_seq (pe_fldC C_Memory.cl C_Memory.n_starts (pv 0) rfl) (pv 3) (fun _ _ => rfl)) (fun _ _ => rfl))))
    (pss_one (ps_aug (i := 3) sc_Memory_allocate.nd rfl (by first | exact Or.inl rfl | exact Or.inr rfl) pe_int ip_add))))
    (pss_consJ (ps_expr (pe_bm PySem.F.plainAttrs_list PySem.F.slot_list_insert PySem.F.type_list_insert mt_insert (pe_fldC C_Memory.cl C_Memory.n_starts (pv 0) rfl) (pa_cons (pv 3) (pa_cons (pv 2) pa_nil))))
    (pss_consJ (ps_dput (hu_of hr) (pe_fldC C_Memory.cl C_Memory.n_sizes (pv 0) rfl) (pv 2) (pv 1) rfl)
    (pss_consJ (ps_for PassesOwn.never rfl (pi_range2 (by rfl) z_range (pa_cons (pv 2) (pa_cons (pe_op o_add (pv 2) (pv 1)) pa_nil))) (pg_name (i := 4) sc_Memory_allocate.nd rfl (by first | exact Or.inl rfl | exact Or.inr rfl)) (pss_one (ps_dput (hu_of hr) (pe_fldC C_Memory.cl C_Memory.n_cells (pv 0) rfl) (pv 4) pe_int rfl)))
    (pss_one (ps_ret (pv 2))))))))),
    pure_Memory_allocate A vs H Q E h⟩)
theorem has_Memory_release (A : Ad) (C_Memory : Cl_Memory K A.c_Memory)  (F0 : DfnM K "release" "Memory.release" A.c_Memory s_Memory_release ["self", "address"]) (z_range : mg "range" = none)  : HasM P w K mg base CX0 1 A.c_Memory "release" ["self", "address"] (sp_Memory_release K A) :=
  F0.has fun f fd F => F.ok sc_Memory_release (by intro vs H Q E h; row_has h) (fun cdv A0 outer s H vs Q E hr h => ⟨t_Memory_release K A,
    (pss_consJ (ps_if (pt_cmp (pc_dnotin (hu_of hr) (pv 1) (pe_fldC C_Memory.cl C_Memory.n_sizes (pv 0) rfl)) (by rfl)) (pss_one ps_never) pss_nil)
    (pss_consJ (ps_for PassesOwn.never rfl (pi_range2 (by rfl) z_range (pa_cons (pv 1) (pa_cons (pe_op o_add (pv 1) (pe_dget (hu_of hr) (pe_fldC C_Memory.cl C_Memory.n_sizes (pv 0) rfl) (pv 1) (fun _ _ => rfl))) pa_nil))) (pg_name (i := 2) sc_Memory_release.nd rfl (by first | exact Or.inl rfl | exact Or.inr rfl)) (pss_one (ps_ddel (pe_fldC C_Memory.cl C_Memory.n_cells (pv 0) rfl) (pv 2))))
    (pss_consJ (ps_ddel (pe_fldC C_Memory.cl C_Memory.n_sizes (pv 0) rfl) (pv 1))
    (pss_one (ps_expr (pe_bm PySem.F.plainAttrs_list PySem.F.slot_list_remove PySem.F.type_list_remove mt_remove (pe_fldC C_Memory.cl C_Memory.n_starts (pv 0) rfl) (pa_cons (pv 1) pa_nil))))))),
    pure_Memory_release A vs H Q E h⟩)
theorem has_Memory_read (A : Ad) (C_Memory : Cl_Memory K A.c_Memory)  (F0 : DfnM K "read" "Memory.read" A.c_Memory s_Memory_read ["self", "address"])   : HasM P w K mg base CX0 1 A.c_Memory "read" ["self", "address"] (sp_Memory_read K A) :=
  F0.has fun f fd F => F.ok sc_Memory_read (by intro vs H Q E h; row_has h) (fun cdv A0 outer s H vs Q E hr h => ⟨t_Memory_read K A,
    (pss_consJ (ps_if (pt_cmp (pc_dnotin (hu_of hr) (pv 1) (pe_fldC C_Memory.cl C_Memory.n_cells (pv 0) rfl)) (by rfl)) (pss_one ps_never) pss_nil)
    (pss_one (ps_ret (pe_dget (hu_of hr) (pe_fldC C_Memory.cl C_Memory.n_cells (pv 0) rfl) (pv 1) (fun _ _ => rfl))))),
    pure_Memory_read A vs H Q E h⟩)
theorem has_Memory_write (A : Ad) (C_Memory : Cl_Memory K A.c_Memory)  (F0 : DfnM K "write" "Memory.write" A.c_Memory s_Memory_write ["self", "address", "number"])   : HasM P w K mg base CX0 1 A.c_Memory "write" ["self", "address", "number"] (sp_Memory_write K A) :=
  F0.has fun f fd F => F.ok sc_Memory_write (by intro vs H Q E h; row_has h) (fun cdv A0 outer s H vs Q E hr h => ⟨t_Memory_write K A,
    (pss_consJ (ps_if (pt_cmp (pc_dnotin (hu_of hr) (pv 1) (pe_fldC C_Memory.cl C_Memory.n_cells (pv 0) rfl)) (by rfl)) (pss_one ps_never) pss_nil)
    (pss_one (ps_dput (hu_of hr) (pe_fldC C_Memory.cl C_Memory.n_cells (pv 0) rfl) (pv 1) (pv 2) rfl))),
    pure_Memory_write A vs H Q E h⟩)
theorem has_Memory_blocks (A : Ad) (C_Memory : Cl_Memory K A.c_Memory)  (F0 : DfnM K "blocks" "Memory.blocks" A.c_Memory s_Memory_blocks ["self"])   : HasM P w K mg base CX0 1 A.c_Memory "blocks" ["self"] (sp_Memory_blocks K A) :=
  F0.has fun f fd F => F.ok sc_Memory_blocks (by intro vs H Q E h; row_has h) (fun cdv A0 outer s H vs Q E hr h => ⟨t_Memory_blocks K A,
    (pss_one (ps_ret (pe_lc (own := [("start", 1)]) (g := (gName 1)) (tt := tYes) (te := (tTupK K (tCons (tVar 1) (tCons (tDGet (tFldC A.c_Memory "sizes" (tVar 0)) (tVar 1)) tNil))))  rfl sc_Memory_blocks.nd (pi_list (pe_fldC C_Memory.cl C_Memory.n_starts (pv 0) rfl)) (blkOk_by (own := [("start", 1)]) (N := N_Memory_blocks) (sc := defScope s_Memory_blocks) (by decide +kernel)) (fun _ _ _ _ _ => (pg_name (i := 1) sc_Memory_blocks.nd rfl (by first | exact Or.inl rfl | exact Or.inr rfl))) (fun _ _ _ _ _ => pts_nil) (fun _ _ _ _ _ => (pe_tup (pa_cons (pv 1) (pa_cons (pe_dget (hu_of hr) (pe_fldC C_Memory.cl C_Memory.n_sizes (pv 0) rfl) (pv 1) (fun _ _ => rfl)) pa_nil))))))),
    pure_Memory_blocks A vs H Q E h⟩)
theorem has_l_numbers (F0 : Dfn K mg "_law_numbers" s_l_numbers ["script"]) (A : Ad)   (z_int : mg "int" = none) (z_abs : mg "abs" = none) (z_range : mg "range" = none)  : Has P w K mg base CX0 1 "_law_numbers" ["script"] (sp_l_numbers K A) :=
  F0.has fun f fd F => F.ok sc_l_numbers (by intro vs H Q E h; row_has h) (fun cdv A0 outer s H vs Q E hr h => ⟨t_l_numbers K A,
    (pss_consJ (ps_set (i := 1) sc_l_numbers.nd rfl (by first | exact Or.inl rfl | exact Or.inr rfl) (pe_lst pa_nil))
    (pss_consJ (ps_for PassesOwn.never rfl (pi_list (pe_slice o_sl (pv 0) po_none (po_some pe_int))) (pg_name (i := 2) sc_l_numbers.nd rfl (by first | exact Or.inl rfl | exact Or.inr rfl)) (pss_consJ (ps_set (i := 3) sc_l_numbers.nd rfl (by first | exact Or.inl rfl | exact Or.inr rfl) (pe_callB call_abs (by rfl) z_abs (by decide +kernel) (pa_cons (pe_callTy call_int1 (by rfl) z_int (by decide +kernel) (pa_cons (pv 2) pa_nil)) pa_nil)))
    (pss_one (ps_for PassesOwn.never rfl (pi_range1 (by rfl) z_range (pa_cons pe_int pa_nil)) (pg_name (i := 4) sc_l_numbers.nd rfl (by first | exact Or.inl rfl | exact Or.inr rfl)) (pss_consJ (ps_expr (pe_bm PySem.F.plainAttrs_list PySem.F.slot_list_append PySem.F.type_list_append mt_append (pv 1) (pa_cons (pe_op op_mod (pe_callTy call_int1 (by rfl) z_int (by decide +kernel) (pa_cons (pv 3) pa_nil)) pe_int) pa_nil)))
    (pss_consJ (ps_set (i := 3) sc_l_numbers.nd rfl (by first | exact Or.inl rfl | exact Or.inr rfl) (pe_op op_fdiv (pv 3) pe_int))
    (pss_one (ps_if (pt_cmpR (o_eq hr.units) (pv 3) pe_int (nomark _)) (pss_one ps_break) pss_nil))))))))
    (pss_one (ps_ret (pe_slice o_sl (pv 1) po_none (po_some pe_int)))))),
    pure_l_numbers A vs H Q E h⟩)
theorem has_l_lowest (F0 : Dfn K mg "_law_lowest" s_l_lowest ["blocks", "size"]) (A : Ad)     : Has P w K mg base CX0 1 "_law_lowest" ["blocks", "size"] (sp_l_lowest K A) :=
  F0.has fun f fd F => F.ok sc_l_lowest (by intro vs H Q E h; row_has h) (fun cdv A0 outer s H vs Q E hr h => ⟨t_l_lowest K A,
    (pss_consJ (ps_set (i := 2) sc_l_lowest.nd rfl (by first | exact Or.inl rfl | exact Or.inr rfl) pe_int)
    (pss_consJ (ps_for PassesOwn.never rfl (pi_list (pv 0)) (pg_name (i := 3) sc_l_lowest.nd rfl (by first | exact Or.inl rfl | exact Or.inr rfl)) (pss_consJ (ps_if (pt_cmpR op_ge (pe_op op_sub (pe_ix ix_seq (pv 3) pe_int (fun _ _ => rfl)) (pv 2)) (pv 1) (nomark _)) (pss_one (ps_ret (pv 2))) pss_nil)
    (pss_one (ps_set (i := 2) sc_l_lowest.nd rfl (by first | exact Or.inl rfl | exact Or.inr rfl) (pe_op o_add (pe_ix ix_seq (pv 3) pe_int (fun _ _ => rfl)) (pe_ix ix_seq (pv 3) pe_int (fun _ _ => rfl)))))))
    (pss_one (ps_ret (pv 2))))),
    pure_l_lowest A vs H Q E h⟩)
theorem has_l_with (F0 : Dfn K mg "_law_with" s_l_with ["blocks", "added"]) (A : Ad)     : Has P w K mg base CX0 1 "_law_with" ["blocks", "added"] (sp_l_with K A) :=
  F0.has fun f fd F => F.ok sc_l_with (by intro vs H Q E h; row_has h) (fun cdv A0 outer s H vs Q E hr h => ⟨t_l_with K A,
    (pss_consJ (ps_setLc (i := 2) (own := [("block", 3)]) (g := (gName 3)) (tt := (tTest (tOp rLtI (tOp (rIx K) (tVar 3) (tC (.int 0))) (tOp (rIx K) (tVar 1) (tC (.int 0)))))) (te := (tVar 3))  rfl sc_l_with.nd rfl rfl (sw_true rfl rfl rfl (by decide +kernel)) (pi_list (pv 0)) (blkOk_by (own := [("block", 3)]) (N := N_l_with) (sc := defScope s_l_with) (by decide +kernel)) (fun _ _ _ _ _ => (pg_name (i := 3) sc_l_with.nd rfl (by first | exact Or.inl rfl | exact Or.inr rfl))) (fun _ _ _ _ _ => (pts_one (pt_cmpR op_lt (pe_ix ix_seq (pv 3) pe_int (fun _ _ => rfl)) (pe_ix ix_seq (pv 1) pe_int (fun _ _ => rfl)) (nomark _)))) (fun _ _ _ _ _ => (pv 3)))
    (pss_consJ (ps_setLc (i := 4) (own := [("block", 3)]) (g := (gName 3)) (tt := (tTest (tOp rGtI (tOp (rIx K) (tVar 3) (tC (.int 0))) (tOp (rIx K) (tVar 1) (tC (.int 0)))))) (te := (tVar 3))  rfl sc_l_with.nd rfl rfl (sw_true rfl rfl rfl (by decide +kernel)) (pi_list (pv 0)) (blkOk_by (own := [("block", 3)]) (N := N_l_with) (sc := defScope s_l_with) (by decide +kernel)) (fun _ _ _ _ _ => (pg_name (i := 3) sc_l_with.nd rfl (by first | exact Or.inl rfl | exact Or.inr rfl))) (fun _ _ _ _ _ => (pts_one (pt_cmpR op_gt (pe_ix ix_seq (pv 3) pe_int (fun _ _ => rfl)) (pe_ix ix_seq (pv 1) pe_int (fun _ _ => rfl)) (nomark _)))) (fun _ _ _ _ _ => (pv 3)))
    (pss_one (ps_ret (pe_op o_add (pe_op o_add (pv 2) (pe_lst (pa_cons (pv 1) pa_nil))) (pv 4)))))),
    pure_l_with A vs H Q E h⟩)
theorem has_l_same (F0 : Dfn K mg "_law_same" s_l_same ["actual", "blocks"]) (A : Ad)   (z_isinstance : mg "isinstance" = none) (z_list : mg "list" = none) (z_len : mg "len" = none) (z_range : mg "range" = none) (z_tuple : mg "tuple" = none)  : Has P w K mg base CX0 1 "_law_same" ["actual", "blocks"] (sp_l_same K A) :=
  F0.has fun f fd F => F.ok sc_l_same (by intro vs H Q E h; row_has h) (fun cdv A0 outer s H vs Q E hr h => ⟨t_l_same K A,
    (pss_consJ (ps_if (PW.pt (pw_or (pt_not (pt_val (pe_callB call_isi (by rfl) z_isinstance (by decide +kernel) (pa_cons (pv 0) (pa_cons (pe_bltn (v := .ty "list") (by rfl) z_list (by decide +kernel) rfl) pa_nil))))) (pw_or1 (pt_cmpR (o_ne hr.units) (pe_callB call_len (by rfl) z_len PySem.boot_len (pa_cons (pv 0) pa_nil)) (pe_callB call_len (by rfl) z_len PySem.boot_len (pa_cons (pv 1) pa_nil)) (nomark _))))) (pss_one (ps_ret pe_bl)) pss_nil)
    (pss_consJ (ps_for PassesOwn.never rfl (pi_range1 (by rfl) z_range (pa_cons (pe_callB call_len (by rfl) z_len PySem.boot_len (pa_cons (pv 1) pa_nil)) pa_nil)) (pg_name (i := 2) sc_l_same.nd rfl (by first | exact Or.inl rfl | exact Or.inr rfl)) (pss_one (ps_if (PW.pt (pw_or (pt_not (pt_val (pe_callB call_isi (by rfl) z_isinstance (by decide +kernel) (pa_cons (pe_ix ix_seq (pv 0) (pv 2) (fun _ _ => rfl)) (pa_cons (pe_bltn (v := .ty "tuple") (by rfl) z_tuple (by decide +kernel) rfl) pa_nil))))) (pw_or1 (pt_cmpR (o_ne hr.units) (pe_ix ix_seq (pv 0) (pv 2) (fun _ _ => rfl)) (pe_ix ix_seq (pv 1) (pv 2) (fun _ _ => rfl)) (nomark _))))) (pss_one (ps_ret pe_bl)) pss_nil)))
    (pss_one (ps_ret pe_bl)))),
    pure_l_same A vs H Q E h⟩)
theorem ok_law {f : Addr} {fd : FuncData} (F : Fun K "law" "law" s_law f fd) (A : Ad) (C_Memory : Cl_Memory K A.c_Memory) (h_Memory_init : HasI P w K mg base CX0 1 "Memory" A.c_Memory ["self"] (sp_Memory_init K A)) (h_l_numbers : Has P w K mg base CX0 1 "_law_numbers" ["script"] (sp_l_numbers K A)) (h_Memory_release : HasM P w K mg base CX0 1 A.c_Memory "release" ["self", "address"] (sp_Memory_release K A)) (h_l_lowest : Has P w K mg base CX0 1 "_law_lowest" ["blocks", "size"] (sp_l_lowest K A)) (h_Memory_allocate : HasM P w K mg base CX0 1 A.c_Memory "allocate" ["self", "size"] (sp_Memory_allocate K A)) (h_Memory_read : HasM P w K mg base CX0 1 A.c_Memory "read" ["self", "address"] (sp_Memory_read K A)) (h_Memory_write : HasM P w K mg base CX0 1 A.c_Memory "write" ["self", "address", "number"] (sp_Memory_write K A)) (h_l_with : Has P w K mg base CX0 1 "_law_with" ["blocks", "added"] (sp_l_with K A)) (h_l_same : Has P w K mg base CX0 1 "_law_same" ["actual", "blocks"] (sp_l_same K A)) (h_Memory_blocks : HasM P w K mg base CX0 1 A.c_Memory "blocks" ["self"] (sp_Memory_blocks K A)) (z_len : mg "len" = none) (z_isinstance : mg "isinstance" = none) (z_int : mg "int" = none) (z_bool : mg "bool" = none) (z_range : mg "range" = none)  : FnOk P w K mg base CX0 6 f fd ["script"] (sp_law K) :=
  F.ok sc_law (by intro vs H Q E h; row_has h) (fun cdv A0 outer s H vs Q E hr h => ⟨t_law K A,
    (pss_consJ (ps_set (i := 1) sc_law.nd rfl (by first | exact Or.inl rfl | exact Or.inr rfl) (pe_makeH0 h_Memory_init (hr.mono (by omega)) rfl pass0))
    (pss_consJ (ps_set (i := 2) sc_law.nd rfl (by first | exact Or.inl rfl | exact Or.inr rfl) (pe_lst pa_nil))
    (pss_consJ (ps_for PassesOwn.never rfl (pi_list (pe_callH h_l_numbers (hr.mono (by omega)) rfl pass0 (pa_cons (pv 0) pa_nil))) (pg_name (i := 3) sc_law.nd rfl (by first | exact Or.inl rfl | exact Or.inr rfl)) (pss_consJ (ps_if (PW.pt (pw_and (pt_cmpR op_gt (pe_callB call_len (by rfl) z_len PySem.boot_len (pa_cons (pv 2) pa_nil)) pe_int (nomark _)) (pw_and1 (pt_cmpR (o_eq hr.units) (pe_op op_mod (pv 3) pe_int) pe_int (nomark _))))) (pss_consJ (ps_set (i := 4) sc_law.nd rfl (by first | exact Or.inl rfl | exact Or.inr rfl) (pe_ix ix_seq (pv 2) (pe_op op_mod (pe_op op_fdiv (pv 3) pe_int) (pe_callB call_len (by rfl) z_len PySem.boot_len (pa_cons (pv 2) pa_nil))) (fun _ _ => rfl)))
    (pss_consJ (ps_expr (pe_methH C_Memory.cl h_Memory_release (hr.mono (by omega)) pass0 (pv 1) (pa_cons (pe_ix ix_seq (pv 4) pe_int (fun _ _ => rfl)) pa_nil)))
    (pss_one (ps_setLc (i := 2) (own := [("block", 9)]) (g := (gName 9)) (tt := (tTest (tOp (rNeG K) (tOp (rIx K) (tVar 9) (tC (.int 0))) (tOp (rIx K) (tVar 4) (tC (.int 0)))))) (te := (tVar 9))  rfl sc_law.nd rfl rfl (sw_true rfl rfl rfl (by decide +kernel)) (pi_list (pv 2)) (blkOk_by (own := [("block", 9)]) (N := N_law) (sc := defScope s_law) (by decide +kernel)) (fun _ _ _ _ _ => (pg_name (i := 9) sc_law.nd rfl (by first | exact Or.inl rfl | exact Or.inr rfl))) (fun _ _ _ _ _ => (pts_one (pt_cmpR (o_ne hr.units) (pe_ix ix_seq (pv 9) pe_int (fun _ _ => rfl)) (pe_ix ix_seq (pv 4) pe_int (fun _ _ => rfl)) (nomark _)))) (fun _ _ _ _ _ => (pv 9)))))) (pss_consJ (ps_set (i := 5) sc_law.nd rfl (by first | exact Or.inl rfl | exact Or.inr rfl) (pe_op o_add pe_int (pe_op op_mod (pe_op op_fdiv (pv 3) pe_int) pe_int)))
    (pss_consJ (ps_if (pt_cmpR (o_eq hr.units) (pe_op op_mod (pe_op op_fdiv (pv 3) pe_int) pe_int) pe_int (nomark _)) (pss_one (ps_set (i := 5) sc_law.nd rfl (by first | exact Or.inl rfl | exact Or.inr rfl) (pe_op o_add pe_int (pe_op op_mod (pv 3) pe_int)))) pss_nil)
    (pss_consJ (ps_set (i := 6) sc_law.nd rfl (by first | exact Or.inl rfl | exact Or.inr rfl) (pe_callH h_l_lowest (hr.mono (by omega)) rfl pass0 (pa_cons (pv 2) (pa_cons (pv 5) pa_nil))))
    (pss_consJ (ps_set (i := 7) sc_law.nd rfl (by first | exact Or.inl rfl | exact Or.inr rfl) (pe_methH C_Memory.cl h_Memory_allocate (hr.mono (by omega)) pass0 (pv 1) (pa_cons (pv 5) pa_nil)))
    (pss_consJ (ps_if (PW.pt (pw_or (pt_not (pt_val (pe_callB call_isi (by rfl) z_isinstance (by decide +kernel) (pa_cons (pv 7) (pa_cons (pe_bltn (v := .ty "int") (by rfl) z_int (by decide +kernel) rfl) pa_nil))))) (pw_or (pt_val (pe_callB call_isi (by rfl) z_isinstance (by decide +kernel) (pa_cons (pv 7) (pa_cons (pe_bltn (v := .ty "bool") (by rfl) z_bool (by decide +kernel) rfl) pa_nil)))) (pw_or1 (pt_cmpR (o_ne hr.units) (pv 7) (pv 6) (nomark _)))))) (pss_one (ps_ret pe_bl)) pss_nil)
    (pss_consJ (ps_for PassesOwn.never rfl (pi_range1 (by rfl) z_range (pa_cons (pv 5) pa_nil)) (pg_name (i := 8) sc_law.nd rfl (by first | exact Or.inl rfl | exact Or.inr rfl)) (pss_consJ (ps_if (pt_cmpR (o_ne hr.units) (pe_methH C_Memory.cl h_Memory_read (hr.mono (by omega)) pass0 (pv 1) (pa_cons (pe_op o_add (pv 6) (pv 8)) pa_nil)) pe_int (nomark _)) (pss_one (ps_ret pe_bl)) pss_nil)
    (pss_one (ps_expr (pe_methH C_Memory.cl h_Memory_write (hr.mono (by omega)) pass0 (pv 1) (pa_cons (pe_op o_add (pv 6) (pv 8)) (pa_cons (pe_op o_add (pv 3) pe_int) pa_nil)))))))
    (pss_one (ps_set (i := 2) sc_law.nd rfl (by first | exact Or.inl rfl | exact Or.inr rfl) (pe_callH h_l_with (hr.mono (by omega)) rfl pass0 (pa_cons (pv 2) (pa_cons (pe_tup (pa_cons (pv 6) (pa_cons (pv 5) pa_nil))) pa_nil))))))))))))
    (pss_one (ps_if (pt_not (pt_val (pe_callH h_l_same (hr.mono (by omega)) rfl pass0 (pa_cons (pe_methH0 C_Memory.cl h_Memory_blocks (hr.mono (by omega)) pass0 (pv 1)) (pa_cons (pv 2) pa_nil))))) (pss_one (ps_ret pe_bl)) pss_nil))))
    (pss_one (ps_ret (pe_callH h_l_same (hr.mono (by omega)) rfl pass0 (pa_cons (pe_methH0 C_Memory.cl h_Memory_blocks (hr.mono (by omega)) pass0 (pe_makeH0 h_Memory_init (hr.mono (by omega)) rfl pass0)) (pa_cons (pe_lst pa_nil) pa_nil)))))))),
    pure_law A vs H Q E h⟩)
end

theorem all_mk {l : PySem.W.OpenLaw} {w : World} {K : PySem.W.Frag} {h : Heap} {mg : Str → Option Value} {fa : Addr} {adr_Memory : Addr} (X : K.In h) (G : h.Ns mainGlobals mg) (hfa : mg "law" = some (.ref fa))
    (ac_Memory : PySem.W.nsIn K mainGlobals "Memory" = some (some (.ref adr_Memory)))
    (pg_Memory : PySem.W.plainGet K adr_Memory Str.empty = true) (hd_Memory : PySem.W.hasDictIn K adr_Memory = true) (po_Memory : PySem.W.plainOver K adr_Memory = true) (sa_Memory : PySem.W.findIn K (.ref adr_Memory) "__setattr__" = some (some (.builtin "object.__setattr__"))) (mk_Memory : PySem.W.makesIn K adr_Memory = true) (kc_Memory : PySem.W.keepIn K (.ref adr_Memory) = true)
    (na_Memory_starts : PySem.W.findIn K (.ref adr_Memory) "starts" = some none)
    (na_Memory_sizes : PySem.W.findIn K (.ref adr_Memory) "sizes" = some none)
    (na_Memory_cells : PySem.W.findIn K (.ref adr_Memory) "cells" = some none)
    {f0 : Addr} {od0 an0 : Option Addr} {sl0 : Array (Option Value)} {oc0 kV0 dc0 pm0 cd0 ct0 : Value}
    {f1 : Addr} {od1 an1 : Option Addr} {sl1 : Array (Option Value)} {oc1 kV1 dc1 pm1 cd1 ct1 : Value}
    {f2 : Addr} {od2 an2 : Option Addr} {sl2 : Array (Option Value)} {oc2 kV2 dc2 pm2 cd2 ct2 : Value}
    {f3 : Addr} {od3 an3 : Option Addr} {sl3 : Array (Option Value)} {oc3 kV3 dc3 pm3 cd3 ct3 : Value}
    {f4 : Addr} {od4 an4 : Option Addr} {sl4 : Array (Option Value)} {oc4 kV4 dc4 pm4 cd4 ct4 : Value}
    {f5 : Addr} {od5 an5 : Option Addr} {sl5 : Array (Option Value)} {oc5 kV5 dc5 pm5 cd5 ct5 : Value}
    {f6 : Addr} {od6 an6 : Option Addr} {sl6 : Array (Option Value)} {oc6 kV6 dc6 pm6 cd6 ct6 : Value}
    {f7 : Addr} {od7 an7 : Option Addr} {sl7 : Array (Option Value)} {oc7 kV7 dc7 pm7 cd7 ct7 : Value}
    {f8 : Addr} {od8 an8 : Option Addr} {sl8 : Array (Option Value)} {oc8 kV8 dc8 pm8 cd8 ct8 : Value}
    {f9 : Addr} {od9 an9 : Option Addr} {sl9 : Array (Option Value)} {oc9 kV9 dc9 pm9 cd9 ct9 : Value}
    {f10 : Addr} {od10 an10 : Option Addr} {sl10 : Array (Option Value)} {oc10 kV10 dc10 pm10 cd10 ct10 : Value}
    (a0 : PySem.W.findIn K (.ref adr_Memory) "__init__" = some (some (.ref f0))) (i0 : PySem.W.isFn K (.ref f0) = true)
    (l0 : K.lookup f0 = some ⟨oc0, od0, .func (PySem.W.fnOf "__init__" "Memory.__init__" (defArgs s_Memory_init) (defBody s_Memory_init) (defScope s_Memory_init) .none kV0 dc0 pm0 an0 cd0 ct0), sl0⟩) (c0 : PySem.W.codeIn K cd0 "Memory.__init__" = true) (k0 : PySem.W.keepIn K (.ref f0) = true)
    (a1 : PySem.W.findIn K (.ref adr_Memory) "allocate" = some (some (.ref f1))) (i1 : PySem.W.isFn K (.ref f1) = true)
    (l1 : K.lookup f1 = some ⟨oc1, od1, .func (PySem.W.fnOf "allocate" "Memory.allocate" (defArgs s_Memory_allocate) (defBody s_Memory_allocate) (defScope s_Memory_allocate) .none kV1 dc1 pm1 an1 cd1 ct1), sl1⟩) (c1 : PySem.W.codeIn K cd1 "Memory.allocate" = true) (k1 : PySem.W.keepIn K (.ref f1) = true)
    (a2 : PySem.W.findIn K (.ref adr_Memory) "release" = some (some (.ref f2))) (i2 : PySem.W.isFn K (.ref f2) = true)
    (l2 : K.lookup f2 = some ⟨oc2, od2, .func (PySem.W.fnOf "release" "Memory.release" (defArgs s_Memory_release) (defBody s_Memory_release) (defScope s_Memory_release) .none kV2 dc2 pm2 an2 cd2 ct2), sl2⟩) (c2 : PySem.W.codeIn K cd2 "Memory.release" = true) (k2 : PySem.W.keepIn K (.ref f2) = true)
    (a3 : PySem.W.findIn K (.ref adr_Memory) "read" = some (some (.ref f3))) (i3 : PySem.W.isFn K (.ref f3) = true)
    (l3 : K.lookup f3 = some ⟨oc3, od3, .func (PySem.W.fnOf "read" "Memory.read" (defArgs s_Memory_read) (defBody s_Memory_read) (defScope s_Memory_read) .none kV3 dc3 pm3 an3 cd3 ct3), sl3⟩) (c3 : PySem.W.codeIn K cd3 "Memory.read" = true) (k3 : PySem.W.keepIn K (.ref f3) = true)
    (a4 : PySem.W.findIn K (.ref adr_Memory) "write" = some (some (.ref f4))) (i4 : PySem.W.isFn K (.ref f4) = true)
    (l4 : K.lookup f4 = some ⟨oc4, od4, .func (PySem.W.fnOf "write" "Memory.write" (defArgs s_Memory_write) (defBody s_Memory_write) (defScope s_Memory_write) .none kV4 dc4 pm4 an4 cd4 ct4), sl4⟩) (c4 : PySem.W.codeIn K cd4 "Memory.write" = true) (k4 : PySem.W.keepIn K (.ref f4) = true)
    (a5 : PySem.W.findIn K (.ref adr_Memory) "blocks" = some (some (.ref f5))) (i5 : PySem.W.isFn K (.ref f5) = true)
    (l5 : K.lookup f5 = some ⟨oc5, od5, .func (PySem.W.fnOf "blocks" "Memory.blocks" (defArgs s_Memory_blocks) (defBody s_Memory_blocks) (defScope s_Memory_blocks) .none kV5 dc5 pm5 an5 cd5 ct5), sl5⟩) (c5 : PySem.W.codeIn K cd5 "Memory.blocks" = true) (k5 : PySem.W.keepIn K (.ref f5) = true)
    (a6 : PySem.W.nsIn K mainGlobals "_law_numbers" = some (some (.ref f6)))
    (l6 : K.lookup f6 = some ⟨oc6, od6, .func (PySem.W.fnOf "_law_numbers" "_law_numbers" (defArgs s_l_numbers) (defBody s_l_numbers) (defScope s_l_numbers) .none kV6 dc6 pm6 an6 cd6 ct6), sl6⟩) (c6 : PySem.W.codeIn K cd6 "_law_numbers" = true) (k6 : PySem.W.keepIn K (.ref f6) = true)
    (a7 : PySem.W.nsIn K mainGlobals "_law_lowest" = some (some (.ref f7)))
    (l7 : K.lookup f7 = some ⟨oc7, od7, .func (PySem.W.fnOf "_law_lowest" "_law_lowest" (defArgs s_l_lowest) (defBody s_l_lowest) (defScope s_l_lowest) .none kV7 dc7 pm7 an7 cd7 ct7), sl7⟩) (c7 : PySem.W.codeIn K cd7 "_law_lowest" = true) (k7 : PySem.W.keepIn K (.ref f7) = true)
    (a8 : PySem.W.nsIn K mainGlobals "_law_with" = some (some (.ref f8)))
    (l8 : K.lookup f8 = some ⟨oc8, od8, .func (PySem.W.fnOf "_law_with" "_law_with" (defArgs s_l_with) (defBody s_l_with) (defScope s_l_with) .none kV8 dc8 pm8 an8 cd8 ct8), sl8⟩) (c8 : PySem.W.codeIn K cd8 "_law_with" = true) (k8 : PySem.W.keepIn K (.ref f8) = true)
    (a9 : PySem.W.nsIn K mainGlobals "_law_same" = some (some (.ref f9)))
    (l9 : K.lookup f9 = some ⟨oc9, od9, .func (PySem.W.fnOf "_law_same" "_law_same" (defArgs s_l_same) (defBody s_l_same) (defScope s_l_same) .none kV9 dc9 pm9 an9 cd9 ct9), sl9⟩) (c9 : PySem.W.codeIn K cd9 "_law_same" = true) (k9 : PySem.W.keepIn K (.ref f9) = true)
    (a10 : PySem.W.nsIn K mainGlobals "law" = some (some (.ref f10)))
    (l10 : K.lookup f10 = some ⟨oc10, od10, .func (PySem.W.fnOf "law" "law" (defArgs s_law) (defBody s_law) (defScope s_law) .none kV10 dc10 pm10 an10 cd10 ct10), sl10⟩) (c10 : PySem.W.codeIn K cd10 "law" = true) (k10 : PySem.W.keepIn K (.ref f10) = true)
    (z_len : PySem.W.nsIn K mainGlobals "len" = some none)
    (z_range : PySem.W.nsIn K mainGlobals "range" = some none)
    (z_int : PySem.W.nsIn K mainGlobals "int" = some none)
    (z_abs : PySem.W.nsIn K mainGlobals "abs" = some none)
    (z_isinstance : PySem.W.nsIn K mainGlobals "isinstance" = some none)
    (z_list : PySem.W.nsIn K mainGlobals "list" = some none)
    (z_tuple : PySem.W.nsIn K mainGlobals "tuple" = some none)
    (z_bool : PySem.W.nsIn K mainGlobals "bool" = some none)
    : ∃ fd : FuncData, (∀ (s : Shared) (v : Value), BindsTo s fd ⟨[v], []⟩ [("script", v)]) ∧ ∀ base : Heap, K.In base → base.Ns mainGlobals mg → FnOk l.prog w K mg base CX0 6 fa fd ["script"] (sp_law K) := by
  have e := hfa.symm.trans (PySem.W.mg_of X G a10)
  cases e
  have C_Memory : Cl_Memory K (Ad.mk adr_Memory).c_Memory := ⟨⟨pg_Memory, hd_Memory, po_Memory, sa_Memory⟩, na_Memory_starts, na_Memory_sizes, na_Memory_cells⟩
  have F0 := fun_mk (st := s_Memory_init) l0 c0 k0
  have D0 : DfnI K mg "__init__" "Memory.__init__" "Memory" (Ad.mk adr_Memory).c_Memory s_Memory_init ["self"] := ⟨_, _, F0, ⟨mk_Memory, a0, i0, kc_Memory⟩, PySem.W.mg_of X G ac_Memory, F0.binds (ps := ["self"]) fun _ _ _ _ _ _ us hl => match us, hl with | [_], _ => rfl⟩
  have F1 := fun_mk (st := s_Memory_allocate) l1 c1 k1
  have D1 : DfnM K "allocate" "Memory.allocate" (Ad.mk adr_Memory).c_Memory s_Memory_allocate ["self", "size"] := ⟨_, _, F1, ⟨a1, i1, k1⟩, F1.binds (ps := ["self", "size"]) fun _ _ _ _ _ _ us hl => match us, hl with | [_, _], _ => rfl⟩
  have F2 := fun_mk (st := s_Memory_release) l2 c2 k2
  have D2 : DfnM K "release" "Memory.release" (Ad.mk adr_Memory).c_Memory s_Memory_release ["self", "address"] := ⟨_, _, F2, ⟨a2, i2, k2⟩, F2.binds (ps := ["self", "address"]) fun _ _ _ _ _ _ us hl => match us, hl with | [_, _], _ => rfl⟩
  have F3 := fun_mk (st := s_Memory_read) l3 c3 k3
  have D3 : DfnM K "read" "Memory.read" (Ad.mk adr_Memory).c_Memory s_Memory_read ["self", "address"] := ⟨_, _, F3, ⟨a3, i3, k3⟩, F3.binds (ps := ["self", "address"]) fun _ _ _ _ _ _ us hl => match us, hl with | [_, _], _ => rfl⟩
  have F4 := fun_mk (st := s_Memory_write) l4 c4 k4
  have D4 : DfnM K "write" "Memory.write" (Ad.mk adr_Memory).c_Memory s_Memory_write ["self", "address", "number"] := ⟨_, _, F4, ⟨a4, i4, k4⟩, F4.binds (ps := ["self", "address", "number"]) fun _ _ _ _ _ _ us hl => match us, hl with | [_, _, _], _ => rfl⟩
  have F5 := fun_mk (st := s_Memory_blocks) l5 c5 k5
  have D5 : DfnM K "blocks" "Memory.blocks" (Ad.mk adr_Memory).c_Memory s_Memory_blocks ["self"] := ⟨_, _, F5, ⟨a5, i5, k5⟩, F5.binds (ps := ["self"]) fun _ _ _ _ _ _ us hl => match us, hl with | [_], _ => rfl⟩
  have F6 := fun_mk (st := s_l_numbers) l6 c6 k6
  have D6 : Dfn K mg "_law_numbers" s_l_numbers ["script"] := ⟨_, _, F6, PySem.W.mg_of X G a6, F6.binds (ps := ["script"]) fun _ _ _ _ _ _ us hl => match us, hl with | [_], _ => rfl⟩
  have F7 := fun_mk (st := s_l_lowest) l7 c7 k7
  have D7 : Dfn K mg "_law_lowest" s_l_lowest ["blocks", "size"] := ⟨_, _, F7, PySem.W.mg_of X G a7, F7.binds (ps := ["blocks", "size"]) fun _ _ _ _ _ _ us hl => match us, hl with | [_, _], _ => rfl⟩
  have F8 := fun_mk (st := s_l_with) l8 c8 k8
  have D8 : Dfn K mg "_law_with" s_l_with ["blocks", "added"] := ⟨_, _, F8, PySem.W.mg_of X G a8, F8.binds (ps := ["blocks", "added"]) fun _ _ _ _ _ _ us hl => match us, hl with | [_, _], _ => rfl⟩
  have F9 := fun_mk (st := s_l_same) l9 c9 k9
  have D9 : Dfn K mg "_law_same" s_l_same ["actual", "blocks"] := ⟨_, _, F9, PySem.W.mg_of X G a9, F9.binds (ps := ["actual", "blocks"]) fun _ _ _ _ _ _ us hl => match us, hl with | [_, _], _ => rfl⟩
  have F10 := fun_mk (st := s_law) l10 c10 k10
  have D10 : Dfn K mg "law" s_law ["script"] := ⟨_, _, F10, PySem.W.mg_of X G a10, F10.binds (ps := ["script"]) fun _ _ _ _ _ _ us hl => match us, hl with | [_], _ => rfl⟩
  have y_len := PySem.W.mg_none_of X G z_len
  have y_range := PySem.W.mg_none_of X G z_range
  have y_int := PySem.W.mg_none_of X G z_int
  have y_abs := PySem.W.mg_none_of X G z_abs
  have y_isinstance := PySem.W.mg_none_of X G z_isinstance
  have y_list := PySem.W.mg_none_of X G z_list
  have y_tuple := PySem.W.mg_none_of X G z_tuple
  have y_bool := PySem.W.mg_none_of X G z_bool
  refine ⟨PySem.W.fnOf "law" "law" (defArgs s_law) (defBody s_law) (defScope s_law) .none kV10 dc10 pm10 an10 cd10 ct10, fun s v => .of_eq rfl, fun base _ _ => ?_⟩
  have h_Memory_init := has_Memory_init (P := l.prog) (w := w) (K := K) (mg := mg) (base := base) (Ad.mk adr_Memory) C_Memory  D0  
  have h_Memory_allocate := has_Memory_allocate (P := l.prog) (w := w) (K := K) (mg := mg) (base := base) (Ad.mk adr_Memory) C_Memory  D1 y_len y_range 
  have h_Memory_release := has_Memory_release (P := l.prog) (w := w) (K := K) (mg := mg) (base := base) (Ad.mk adr_Memory) C_Memory  D2 y_range 
  have h_Memory_read := has_Memory_read (P := l.prog) (w := w) (K := K) (mg := mg) (base := base) (Ad.mk adr_Memory) C_Memory  D3  
  have h_Memory_write := has_Memory_write (P := l.prog) (w := w) (K := K) (mg := mg) (base := base) (Ad.mk adr_Memory) C_Memory  D4  
  have h_Memory_blocks := has_Memory_blocks (P := l.prog) (w := w) (K := K) (mg := mg) (base := base) (Ad.mk adr_Memory) C_Memory  D5  
  have h_l_numbers := has_l_numbers (P := l.prog) (w := w) (K := K) (mg := mg) (base := base) D6 (Ad.mk adr_Memory)   y_int y_abs y_range 
  have h_l_lowest := has_l_lowest (P := l.prog) (w := w) (K := K) (mg := mg) (base := base) D7 (Ad.mk adr_Memory)    
  have h_l_with := has_l_with (P := l.prog) (w := w) (K := K) (mg := mg) (base := base) D8 (Ad.mk adr_Memory)    
  have h_l_same := has_l_same (P := l.prog) (w := w) (K := K) (mg := mg) (base := base) D9 (Ad.mk adr_Memory)   y_isinstance y_list y_len y_range y_tuple 
  exact ok_law F10 (Ad.mk adr_Memory) C_Memory h_Memory_init h_l_numbers h_Memory_release h_l_lowest h_Memory_allocate h_Memory_read h_Memory_write h_l_with h_l_same h_Memory_blocks y_len y_isinstance y_int y_bool y_range 
theorem walk {l : PySem.W.OpenLaw} {q : Program} {loose : List Str} {XP : (Str → Option Value) → Heap → Prop} {YP : World → Heap → Prop} {d : DefRec} {K : Params → PySem.W.Frag} (hn : l.most = some 63) (hdf : d.params.defaults = [])
    (hY : ∀ (w : World) (h : Heap), YP w h → (K w.params).In h)
    (F : ∀ (w : World) (mg : Str → Option Value) (fa : Addr) (h : Heap), (K w.params).In h → h.Ns mainGlobals mg → mg d.name = some (.ref fa) →
      ∃ fd : FuncData, (∀ (s : Shared) (u : Value), BindsTo s fd ⟨[u], []⟩ [("script", u)]) ∧ ∀ base : Heap, (K w.params).In base → base.Ns mainGlobals mg → FnOk l.prog w (K w.params) mg base CX0 6 fa fd ["script"] (sp_law (K w.params))) :
    PySem.W.WalkO q loose XP YP l.row.toRowW d [] (fun f vs => PySem.call f vs) :=
  L2.walk_of (n := 63) (k := 6) (x := "script") (CX := fun _ => CX0) (sp := fun w => sp_law (K w.params)) hn (by decide) hdf ⟨rfl, by decide, by decide⟩ hY F (fun _ _ a ns hl _ hS => ⟨a, ns, rfl, hS, hl, fun _ => rfl⟩) fun _ _ _ _ _ z => z

end Law

open PySem PySem.W PyProof.Rows
set_option maxRecDepth 100000 in
set_option maxHeartbeats 0 in
theorem PySem.Challenge.cw_forklent_k30_memory_blocks_holds : PySem.Challenge.rw_forklent_k30_memory_blocks.Holds := by
  w_on; o_law; k_head; (case hw => w_witness2)
  k_fill
  refine Law.walk (l := PySem.Challenge.rw_forklent_k30_memory_blocks) rfl rfl (fun w h Y => PySem.W.kIn_of Y) ?F
  case F =>
    intro w mg fa h KX G hmg
    refine' Law.all_mk KX G hmg ?ac_Memory ?pg_Memory ?hd_Memory ?po_Memory ?sa_Memory ?mk_Memory ?kc_Memory ?na_Memory_starts ?na_Memory_sizes ?na_Memory_cells ?a0 ?i0 ?l0 ?c0 ?k0 ?a1 ?i1 ?l1 ?c1 ?k1 ?a2 ?i2 ?l2 ?c2 ?k2 ?a3 ?i3 ?l3 ?c3 ?k3 ?a4 ?i4 ?l4 ?c4 ?k4 ?a5 ?i5 ?l5 ?c5 ?k5 ?a6 ?l6 ?c6 ?k6 ?a7 ?l7 ?c7 ?k7 ?a8 ?l8 ?c8 ?k8 ?a9 ?l9 ?c9 ?k9 ?a10 ?l10 ?c10 ?k10 ?z_len ?z_range ?z_int ?z_abs ?z_isinstance ?z_list ?z_tuple ?z_bool
    (case ac_Memory => k_is)
    (case pg_Memory => k_is)
    (case hd_Memory => k_is)
    (case po_Memory => k_is)
    (case sa_Memory => k_is)
    (case mk_Memory => k_is)
    (case kc_Memory => k_is)
    (case na_Memory_starts => k_is)
    (case na_Memory_sizes => k_is)
    (case na_Memory_cells => k_is)
    (case a0 => k_is)
    (case i0 => k_is)
    (case l0 => k_is)
    (case c0 => k_is)
    (case k0 => k_is)
    (case a1 => k_is)
    (case i1 => k_is)
    (case l1 => k_is)
    (case c1 => k_is)
    (case k1 => k_is)
    (case a2 => k_is)
    (case i2 => k_is)
    (case l2 => k_is)
    (case c2 => k_is)
    (case k2 => k_is)
    (case a3 => k_is)
    (case i3 => k_is)
    (case l3 => k_is)
    (case c3 => k_is)
    (case k3 => k_is)
    (case a4 => k_is)
    (case i4 => k_is)
    (case l4 => k_is)
    (case c4 => k_is)
    (case k4 => k_is)
    (case a5 => k_is)
    (case i5 => k_is)
    (case l5 => k_is)
    (case c5 => k_is)
    (case k5 => k_is)
    (case a6 => k_is)
    (case l6 => k_is)
    (case c6 => k_is)
    (case k6 => k_is)
    (case a7 => k_is)
    (case l7 => k_is)
    (case c7 => k_is)
    (case k7 => k_is)
    (case a8 => k_is)
    (case l8 => k_is)
    (case c8 => k_is)
    (case k8 => k_is)
    (case a9 => k_is)
    (case l9 => k_is)
    (case c9 => k_is)
    (case k9 => k_is)
    (case a10 => k_is)
    (case l10 => k_is)
    (case c10 => k_is)
    (case k10 => k_is)
    (case z_len => k_is)
    (case z_range => k_is)
    (case z_int => k_is)
    (case z_abs => k_is)
    (case z_isinstance => k_is)
    (case z_list => k_is)
    (case z_tuple => k_is)
    (case z_bool => k_is)
#print axioms PySem.Challenge.cw_forklent_k30_memory_blocks_holds
