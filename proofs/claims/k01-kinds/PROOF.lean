import PyProof.Rows.All
import Wide.All
import OpenK.AllK
import Wide.FinOn
import HandS.ForMost
import HandS.TupAny
import HandS.Style
import KE.GoesMore
import KE.GoesEnum
import PySem.Challenge.RW_forklent_k01_kinds
set_option Elab.async false
set_option linter.all false
set_option maxRecDepth 100000
set_option maxHeartbeats 4000000
/-! Kit: own words over the hand layer: immutable data (D, Rp), heaps that grow (Ext), defs with their contract (Has), one step of a reading (walk_at "s"). -/
namespace Go
open PySem L2

/-! ### immutable data -/
inductive D where
  | non | bl (b : Bool) | int (i : Int) | str (s : Str) | tup (ds : List D)
mutual
inductive Rp (K : PySem.W.Frag) (H : Hp) : V → D → Prop
  | non : Rp K H .non .non
  | bl (b : Bool) : Rp K H (.bl b) (.bl b)
  | int (i : Int) : Rp K H (.int i) (.int i)
  | str (s : Str) : Rp K H (.str s) (.str s)
  | tup {a : Addr} {xs : List V} {ds : List D} : SqT K H a xs → RpAll K H xs ds → Rp K H (.ref a) (.tup ds)
inductive RpAll (K : PySem.W.Frag) (H : Hp) : List V → List D → Prop
  | nil : RpAll K H [] []
  | cons {v : V} {vs : List V} {d : D} {ds : List D} : Rp K H v d → RpAll K H vs ds → RpAll K H (v :: vs) (d :: ds)
end
mutual
def D.py : D → PyData
  | .non => .none
  | .bl b => .bool b
  | .int i => .int i
  | .str s => .str s
  | .tup ds => .tuple (D.pys ds)
def D.pys : List D → List PyData
  | [] => []
  | d :: ds => d.py :: D.pys ds
end
section
variable {K : PySem.W.Frag} {H H' : Hp}
mutual
theorem Rp.dp : ∀ {d : D} {v : V}, Rp K H v d → Dp K H v d.py
  | _, _, .non => .non
  | _, _, .bl b => .bl b
  | _, _, .int i => .int i
  | _, _, .str s => .str s
  | _, _, .tup h a => .tup h (RpAll.dp a)
theorem RpAll.dp : ∀ {ds : List D} {vs : List V}, RpAll K H vs ds → DpAll K H vs (D.pys ds)
  | _, _, .nil => .nil
  | _, _, .cons h t => .cons (Rp.dp h) (RpAll.dp t)
end

/-! ### heaps that grow: all but the lists named in S stands -/
structure Ext (S : List Addr) (H H' : Hp) : Prop where
  keep : ∀ b o, H b = some o → b ∉ S → H' b = some o
  tup : ∀ b xs, H b = some (.tup xs) → H' b = some (.tup xs)
  frz : ∀ b o u, H b = some (.frz o u) → H' b = some (.frz o u)
theorem Ext.refl {S} : Ext S H H := ⟨fun _ _ h _ => h, fun _ _ h => h, fun _ _ _ h => h⟩
theorem Ext.trans {S} {H1 H2 H3 : Hp} (a : Ext S H1 H2) (b : Ext S H2 H3) : Ext S H1 H3 :=
  ⟨fun c o h n => b.keep c o (a.keep c o h n) n, fun c x h => b.tup c x (a.tup c x h), fun c o u h => b.frz c o u (a.frz c o u h)⟩
theorem Ext.wide {S T : List Addr} (a : Ext S H H') (h : ∀ x, x ∈ S → x ∈ T) : Ext T H H' :=
  ⟨fun c o e n => a.keep c o e (fun z => n (h c z)), a.tup, a.frz⟩
theorem Ext.of_same {S} (a : Same H H') : Ext S H H' := ⟨fun c o h _ => a c o h, fun c x h => a c _ h, fun c o u h => a c _ h⟩
theorem Ext.same (a : Ext [] H H') : Same H H' := fun c o h => a.keep c o h (by simp)
theorem Ext.any {S} (a : Ext [] H H') : Ext S H H' := Ext.of_same a.same
theorem Ext.new {S} {p : Addr} {o : HO} (h : H p = none) : Ext S H (upd H p o) :=
  Ext.of_same fun b u e => by rw [upd_ne (ne_of_none e h)]; exact e
theorem Ext.new2 {S} {H0 : Hp} {p : Addr} {o : HO} (a : Ext S H0 H) (h : H p = none) : Ext S H0 (upd H p o) := a.trans (Ext.new h)
/-- a list is changed -/
theorem Ext.put {S} {p : Addr} {xs ys : List V} (h : H p = some (.lst xs)) (hs : p ∈ S) : Ext S H (upd H p (.lst ys)) :=
  ⟨fun b u e n => by rw [upd_ne (fun z => n (by rw [z]; exact hs))]; exact e,
   fun b xs e => by rw [upd_ne (fun z => by rw [z, h] at e; cases e)]; exact e,
   fun b o u e => by rw [upd_ne (fun z => by rw [z, h] at e; cases e)]; exact e⟩
/-- a list that was not there before is changed -/
theorem Ext.putNew {S} {H0 : Hp} {p : Addr} {xs ys : List V} (a : Ext S H0 H) (h0 : H0 p = none) (h : H p = some (.lst xs)) : Ext S H0 (upd H p (.lst ys)) :=
  ⟨fun b u e n => by rw [upd_ne (ne_of_none e h0)]; exact a.keep b u e n,
   fun b xs e => by rw [upd_ne (ne_of_none e h0)]; exact a.tup b xs e,
   fun b o u e => by rw [upd_ne (ne_of_none e h0)]; exact a.frz b o u e⟩
theorem Ext.put2 {S} {H0 : Hp} {p : Addr} {xs ys : List V} (a : Ext S H0 H) (h : H p = some (.lst xs)) (hs : p ∈ S) : Ext S H0 (upd H p (.lst ys)) := a.trans (Ext.put h hs)
theorem Ext.sqt {S} {a : Addr} {xs : List V} (e : Ext S H H') (h : SqT K H a xs) : SqT K H' a xs := by
  rcases h with (h | ⟨o, h⟩) | h
  · exact .inl (.inl (e.tup _ _ h))
  · exact .inl (.inr ⟨o, e.frz _ _ _ h⟩)
  · exact .inr h
theorem Ext.free {S} {p : Addr} (e : Ext S H H') (h : H' p = none) (hs : p ∉ S) : H p = none := by
  cases q : H p with
  | none => rfl
  | some o => rw [e.keep p o q hs] at h; cases h
mutual
theorem Rp.mono {S} (e : Ext S H H') : ∀ {d : D} {v : V}, Rp K H v d → Rp K H' v d
  | _, _, .non => .non
  | _, _, .bl b => .bl b
  | _, _, .int i => .int i
  | _, _, .str s => .str s
  | _, _, .tup h a => .tup (e.sqt h) (RpAll.mono e a)
theorem RpAll.mono {S} (e : Ext S H H') : ∀ {ds : List D} {vs : List V}, RpAll K H vs ds → RpAll K H' vs ds
  | _, _, .nil => .nil
  | _, _, .cons h t => .cons (Rp.mono e h) (RpAll.mono e t)
end
theorem Rp.new {p : Addr} {xs : List V} {ds : List D} (h : RpAll K H xs ds) (hp : H p = none) : Rp K (upd H p (.tup xs)) (.ref p) (.tup ds) :=
  .tup (SqT.of upd_same) (RpAll.mono (Ext.new (S := []) hp) h)
theorem RpAll.length : ∀ {ds : List D} {vs : List V}, RpAll K H vs ds → vs.length = ds.length
  | _, _, .nil => rfl
  | _, _, .cons _ t => congrArg (· + 1) (RpAll.length t)
theorem RpAll.get : ∀ {ds : List D} {vs : List V} {i : Nat} {v : V}, RpAll K H vs ds → vs[i]? = some v → ∃ d, ds[i]? = some d ∧ Rp K H v d
  | _, _, _, _, .nil, e => by simp at e
  | _, _, 0, _, .cons h _, e => by simp at e; subst e; exact ⟨_, rfl, h⟩
  | _, _, i + 1, v, .cons _ t, e => by
    obtain ⟨d, h1, h2⟩ := RpAll.get (i := i) (v := v) t (by simpa using e)
    exact ⟨d, by simpa using h1, h2⟩
theorem RpAll.getD : ∀ {ds : List D} {vs : List V} {i : Nat} {d : D}, RpAll K H vs ds → ds[i]? = some d → ∃ v, vs[i]? = some v ∧ Rp K H v d
  | _, _, _, _, .nil, e => by simp at e
  | _, _, 0, _, .cons h _, e => by simp at e; subst e; exact ⟨_, rfl, h⟩
  | _, _, i + 1, d, .cons _ t, e => by
    obtain ⟨v, h1, h2⟩ := RpAll.getD (i := i) (d := d) t (by simpa using e)
    exact ⟨v, by simpa using h1, h2⟩
theorem RpAll.append : ∀ {ds es : List D} {vs us : List V}, RpAll K H vs ds → RpAll K H us es → RpAll K H (vs ++ us) (ds ++ es)
  | _, _, _, _, .nil, s => s
  | _, _, _, _, .cons h t, s => .cons h (RpAll.append t s)
theorem RpAll.take : ∀ {ds : List D} {vs : List V} (n : Nat), RpAll K H vs ds → RpAll K H (vs.take n) (ds.take n)
  | _, _, 0, _ => .nil
  | _, _, _ + 1, .nil => .nil
  | _, _, n + 1, .cons h t => .cons h (RpAll.take n t)
theorem RpAll.drop : ∀ {ds : List D} {vs : List V} (n : Nat), RpAll K H vs ds → RpAll K H (vs.drop n) (ds.drop n)
  | _, _, 0, h => h
  | _, _, _ + 1, .nil => .nil
  | _, _, n + 1, .cons _ t => RpAll.drop n t
theorem Rp.tupI {v : V} {ds : List D} (h : Rp K H v (.tup ds)) : ∃ a xs, v = .ref a ∧ SqT K H a xs ∧ RpAll K H xs ds := by
  cases h with
  | tup h a => exact ⟨_, _, rfl, h, a⟩
theorem Rp.intI {v : V} {i : Int} (h : Rp K H v (.int i)) : v = .int i := by cases h; rfl
theorem Rp.strI {v : V} {i : Str} (h : Rp K H v (.str i)) : v = .str i := by cases h; rfl
theorem Rp.blI {v : V} {i : Bool} (h : Rp K H v (.bl i)) : v = .bl i := by cases h; rfl
theorem Rp.nonI {v : V} (h : Rp K H v .non) : v = .non := by cases h; rfl
end

/-! ### equality of data: ints, texts, tuples of them -/
mutual
def D.eqv : D → D → Bool
  | .non, .non => true
  | .bl a, .bl b => a == b
  | .bl a, .int j => (if a then 1 else 0) == j
  | .int i, .bl b => i == (if b then 1 else 0)
  | .int i, .int j => i == j
  | .str x, .str y => x == y
  | .tup xs, .tup ys => D.eqvs xs ys
  | .non, .bl _ | .non, .int _ | .non, .str _ | .non, .tup _ => false
  | .bl _, .non | .bl _, .str _ | .bl _, .tup _ => false
  | .int _, .non | .int _, .str _ | .int _, .tup _ => false
  | .str _, .non | .str _, .bl _ | .str _, .int _ | .str _, .tup _ => false
  | .tup _, .non | .tup _, .bl _ | .tup _, .int _ | .tup _, .str _ => false
def D.eqvs : List D → List D → Bool
  | [], [] => true
  | x :: xs, y :: ys => D.eqv x y && D.eqvs xs ys
  | [], _ :: _ => false
  | _ :: _, [] => false
end
mutual
theorem D.eqv_py : ∀ d e : D, PyData.eqv d.py e.py = D.eqv d e
  | .non, e => by cases e <;> rfl
  | .bl _, e => by cases e <;> rfl
  | .int _, e => by cases e <;> rfl
  | .str _, e => by cases e <;> rfl
  | .tup xs, .tup ys => by
    have h := D.eqvs_py xs ys
    simpa [D.py, PyData.eqv, D.eqv] using h
  | .tup _, .non => rfl
  | .tup _, .bl _ => rfl
  | .tup _, .int _ => rfl
  | .tup _, .str _ => rfl
theorem D.eqvs_py : ∀ ds es : List D, PyData.eqvAll (D.pys ds) (D.pys es) = D.eqvs ds es
  | [], [] => rfl
  | [], _ :: _ => rfl
  | _ :: _, [] => rfl
  | d :: ds, e :: es => by
    have h1 := D.eqv_py d e
    have h2 := D.eqvs_py ds es
    simp only [D.pys, PyData.eqvAll, D.eqvs, h1, h2]
end
mutual
/-- no bool within -/
def D.nb : D → Bool
  | .bl _ => false
  | .tup ds => D.nbs ds
  | _ => true
def D.nbs : List D → Bool
  | [] => true
  | d :: ds => d.nb && D.nbs ds
end
mutual
theorem D.eqv_iff : ∀ d e : D, d.nb = true → e.nb = true → (D.eqv d e = true ↔ d = e)
  | .non, e, _, h => by cases e <;> simp [D.eqv]
  | .bl _, e, h, _ => by simp [D.nb] at h
  | .int _, e, _, h => by cases e <;> simp [D.eqv, D.nb] at h ⊢
  | .str _, e, _, h => by cases e <;> simp [D.eqv]
  | .tup xs, .tup ys, h1, h2 => by
    simp only [D.nb] at h1 h2
    have h := D.eqvs_iff xs ys h1 h2
    simp [D.eqv, h]
  | .tup _, .non, _, _ => by simp [D.eqv]
  | .tup _, .bl _, _, h => by simp [D.nb] at h
  | .tup _, .int _, _, _ => by simp [D.eqv]
  | .tup _, .str _, _, _ => by simp [D.eqv]
theorem D.eqvs_iff : ∀ ds es : List D, D.nbs ds = true → D.nbs es = true → (D.eqvs ds es = true ↔ ds = es)
  | [], [], _, _ => by simp [D.eqvs]
  | [], _ :: _, _, _ => by simp [D.eqvs]
  | _ :: _, [], _, _ => by simp [D.eqvs]
  | d :: ds, e :: es, h1, h2 => by
    simp only [D.nbs, Bool.and_eq_true] at h1 h2
    have a := D.eqv_iff d e h1.1 h2.1
    have b := D.eqvs_iff ds es h1.2 h2.2
    simp [D.eqvs, a, b]
end
mutual
theorem D.eqv_symm : ∀ d e : D, D.eqv d e = D.eqv e d
  | .non, e => by cases e <;> rfl
  | .bl a, e => by cases e <;> first | rfl | exact BEq.comm
  | .int a, e => by cases e <;> first | rfl | exact BEq.comm
  | .str a, e => by cases e <;> first | rfl | exact BEq.comm
  | .tup xs, .tup ys => by
    have h := D.eqvs_symm xs ys
    simp [D.eqv, h]
  | .tup _, .non => rfl
  | .tup _, .bl _ => rfl
  | .tup _, .int _ => rfl
  | .tup _, .str _ => rfl
theorem D.eqvs_symm : ∀ ds es : List D, D.eqvs ds es = D.eqvs es ds
  | [], [] => rfl
  | [], _ :: _ => rfl
  | _ :: _, [] => rfl
  | d :: ds, e :: es => by
    have h1 := D.eqv_symm d e
    have h2 := D.eqvs_symm ds es
    simp only [D.eqvs, h1, h2]
end
mutual
def D.dep : D → Nat
  | .tup ds => D.deps ds + 1
  | _ => 0
def D.deps : List D → Nat
  | [] => 0
  | d :: ds => max d.dep (D.deps ds)
end
mutual
theorem D.depth_py : ∀ d : D, d.py.depth = d.dep
  | .non => by simp [D.py, D.dep, PyData.depth]
  | .bl _ => by simp [D.py, D.dep, PyData.depth]
  | .int _ => by simp [D.py, D.dep, PyData.depth]
  | .str _ => by simp [D.py, D.dep, PyData.depth]
  | .tup ds => by
    have h := D.depths_py ds
    simp [D.py, D.dep, PyData.depth, h]
theorem D.depths_py : ∀ ds : List D, PyData.depthAll (D.pys ds) = D.deps ds
  | [] => by simp [D.pys, D.deps, PyData.depthAll]
  | d :: ds => by
    have h1 := D.depth_py d
    have h2 := D.depths_py ds
    simp [D.pys, D.deps, PyData.depthAll, h1, h2]
end
mutual
/-- its texts can be laid -/
def D.sok : D → Bool
  | .str s => PyData.strOk s
  | .tup ds => D.soks ds
  | _ => true
def D.soks : List D → Bool
  | [] => true
  | d :: ds => d.sok && D.soks ds
end
mutual
theorem D.lay_py : ∀ d : D, PyData.canLay0 d.py = d.sok
  | .non => by simp [D.py, PyData.canLay0, D.sok]
  | .bl _ => by simp [D.py, PyData.canLay0, D.sok]
  | .int _ => by simp [D.py, PyData.canLay0, D.sok]
  | .str _ => by simp [D.py, PyData.canLay0, D.sok]
  | .tup ds => by
    have h := D.lays_py ds
    simp [D.py, PyData.canLay0, D.sok, h]
theorem D.lays_py : ∀ ds : List D, PyData.canLayAll0 (D.pys ds) = D.soks ds
  | [] => by simp [D.pys, PyData.canLayAll0, D.soks]
  | d :: ds => by
    have h1 := D.lay_py d
    have h2 := D.lays_py ds
    simp [D.pys, PyData.canLayAll0, D.soks, h1, h2]
end
/-- data that == is asked of: no bool, texts that can be laid, not too deep -/
structure D.Eq (d : D) : Prop where
  nb : d.nb = true
  sok : d.sok = true
  dep : d.dep ≤ 64
theorem D.shaped {d : D} (h1 : d.sok = true) (h : d.dep ≤ 64) : SeqAt.shaped d.py = true := by
  unfold SeqAt.shaped
  rw [D.lay_py, D.depth_py, h1]
  simpa using h

theorem D.soks_take : ∀ {ds : List D} (n : Nat), D.soks ds = true → D.soks (ds.take n) = true
  | _, 0, _ => rfl
  | [], _ + 1, _ => rfl
  | d :: ds, n + 1, h => by
    simp only [D.soks, Bool.and_eq_true, List.take_succ_cons] at h ⊢
    exact ⟨h.1, D.soks_take n h.2⟩
theorem D.deps_take : ∀ (ds : List D) (n : Nat), D.deps (ds.take n) ≤ D.deps ds
  | _, 0 => by simp [D.deps]
  | [], _ + 1 => by simp [D.deps]
  | d :: ds, n + 1 => by
    have h := D.deps_take ds n
    simp only [D.deps, List.take_succ_cons]
    omega
theorem D.soks_append : ∀ {ds es : List D}, D.soks ds = true → D.soks es = true → D.soks (ds ++ es) = true
  | [], _, _, h => h
  | d :: ds, es, h, h' => by
    simp only [D.soks, Bool.and_eq_true, List.cons_append] at h ⊢
    exact ⟨h.1, D.soks_append h.2 h'⟩
theorem D.deps_append : ∀ (ds es : List D), D.deps (ds ++ es) = max (D.deps ds) (D.deps es)
  | [], es => by simp [D.deps]
  | d :: ds, es => by
    have h := D.deps_append ds es
    simp only [D.deps, List.cons_append, h]
    omega

/-! ### tuples and frozen things alone stand -/
structure Tst (H H' : Hp) : Prop where
  tup : ∀ b xs, H b = some (.tup xs) → H' b = some (.tup xs)
  frz : ∀ b o u, H b = some (.frz o u) → H' b = some (.frz o u)
section
variable {K : PySem.W.Frag} {H H' H1 H2 H3 : Hp} {S : List Addr}
theorem Tst.refl : Tst H H := ⟨fun _ _ h => h, fun _ _ _ h => h⟩
theorem Tst.trans (a : Tst H1 H2) (b : Tst H2 H3) : Tst H1 H3 := ⟨fun c x h => b.tup c x (a.tup c x h), fun c o u h => b.frz c o u (a.frz c o u h)⟩
theorem Ext.ts (e : Ext S H H') : Tst H H' := ⟨e.tup, e.frz⟩
theorem Tst.ext (e : Tst H H') : Ext [] H' H' := Ext.refl
theorem Tst.sqt {a : Addr} {xs : List V} (e : Tst H H') (h : SqT K H a xs) : SqT K H' a xs := by
  rcases h with (h | ⟨o, h⟩) | h
  · exact .inl (.inl (e.tup _ _ h))
  · exact .inl (.inr ⟨o, e.frz _ _ _ h⟩)
  · exact .inr h
mutual
theorem Rp.ts (e : Tst H H') : ∀ {d : D} {v : V}, Rp K H v d → Rp K H' v d
  | _, _, .non => .non
  | _, _, .bl b => .bl b
  | _, _, .int i => .int i
  | _, _, .str s => .str s
  | _, _, .tup h a => .tup (e.sqt h) (RpAll.ts e a)
theorem RpAll.ts (e : Tst H H') : ∀ {ds : List D} {vs : List V}, RpAll K H vs ds → RpAll K H' vs ds
  | _, _, .nil => .nil
  | _, _, .cons h t => .cons (Rp.ts e h) (RpAll.ts e t)
end
theorem Ext.out {H0 : Hp} {l : Addr} (a : Ext S H0 H) (h0 : H0 l = none) (e : Ext [l] H H') : Ext S H0 H' :=
  ⟨fun b u q n => e.keep b u (a.keep b u q n) (by simp; exact ne_of_none q h0), fun b xs q => e.tup b xs (a.tup b xs q), fun b o u q => e.frz b o u (a.frz b o u q)⟩
theorem Ext.in1 {H0 : Hp} {l : Addr} (a : Ext S H0 H) (h0 : l ∈ S) (e : Ext [l] H H') : Ext S H0 H' := a.trans (e.wide (by simpa using h0))
theorem Ext.more {H0 : Hp} (a : Ext S H0 H) (e : Ext [] H H') : Ext S H0 H' := a.trans e.any
end

/-! ### one step of a reading, by the head of what stands there -/
section
variable {σ : St} {H : Hp} {Q : VK} {D0 : Ends} {ta tb te : TE} {t1 t2 ts : TS} {i : Nat} {v x y : V} {K : PySem.W.Frag}
theorem w_seq (h : t1 { D0 with nx := t2 D0 } σ H) : tSeq t1 t2 D0 σ H := h
/-- one statement behind another, with a word M between the two where one wants one -/
def tSeqJ (t u : TS) : TS := fun D σ H => ∃ M : St → Hp → Prop, t { D with nx := M } σ H ∧ ∀ σ' H', M σ' H' → u D σ' H'
theorem w_seqJ (h : t1 { D0 with nx := t2 D0 } σ H) : tSeqJ t1 t2 D0 σ H := ⟨_, h, fun _ _ q => q⟩
theorem w_seqA {g : TG} (h : tAsg te g { D0 with nx := t2 D0 } σ H) : tSeqJ (tAsg te g) t2 D0 σ H := w_seqJ h
theorem w_seqD (h : tDrop te { D0 with nx := t2 D0 } σ H) : tSeqJ (tDrop te) t2 D0 σ H := w_seqJ h
theorem w_next (h : D0.nx σ H) : tNext D0 σ H := h
theorem w_break (h : D0.bk σ H) : tBreak D0 σ H := h
theorem w_cont (h : D0.ct σ H) : tCont D0 σ H := h
theorem w_asg {g : TG} (h : te σ H fun x H1 => g x σ H1 D0.nx) : tAsg te g D0 σ H := h
theorem w_name {Q : St → Hp → Prop} (h : Q (σ.set i (some v)) H) : gName i v σ H Q := h
theorem w_drop (h : te σ H fun _ H1 => D0.nx σ H1) : tDrop te D0 σ H := h
theorem w_ret (h : te σ H D0.rt) : tRet te D0 σ H := h
theorem w_retN (h : D0.rt .non H) : tRetN D0 σ H := h
theorem w_ifS {c : TT} (h : c σ H fun b H1 => if b = true then t1 D0 σ H1 else t2 D0 σ H1) : tIfS c t1 t2 D0 σ H := h
theorem w_test {Q : Bool → Hp → Prop} (h : te σ H fun x H' => ∃ k, x = .bl k ∧ Q k H') : tTest te σ H Q := h
theorem w_tB {Q : Bool → Hp → Prop} (h : te σ H fun x H' => ∃ k, x = .bl k ∧ Q k H') : tB te σ H Q := h
theorem w_exbl {A : Bool → Prop} {b : Bool} (h : A b) : ∃ k, V.bl b = .bl k ∧ A k := ⟨b, rfl, h⟩
theorem w_and {c d : TT} {Q : Bool → Hp → Prop} (h : c σ H fun k H1 => if k = true then d σ H1 Q else Q false H1) : tAnd c d σ H Q := h
theorem w_or {c d : TT} {Q : Bool → Hp → Prop} (h : c σ H fun k H1 => if k = true then Q true H1 else d σ H1 Q) : tOr c d σ H Q := h
theorem w_not {c : TT} {Q : Bool → Hp → Prop} (h : c σ H fun k H1 => Q (!k) H1) : tNot c σ H Q := h
theorem w_andV (h : ta σ H fun x H1 => ∃ c, x = .bl c ∧ if c = true then tb σ H1 Q else Q (.bl false) H1) : tAndV ta tb σ H Q := h
theorem w_orV (h : ta σ H fun x H1 => ∃ c, x = .bl c ∧ if c = true then Q (.bl true) H1 else tb σ H1 Q) : tOrV ta tb σ H Q := h
theorem w_notV (h : ta σ H fun x H1 => ∃ c, x = .bl c ∧ Q (.bl (!c)) H1) : tNotV ta σ H Q := h
theorem w_if {c : TT} (h : c σ H fun k H1 => if k = true then ta σ H1 Q else tb σ H1 Q) : tIf c ta tb σ H Q := h
theorem w_var (e : σ[i]? = some (some v)) (h : Q v H) : tVar i σ H Q := ⟨v, e, h⟩
theorem w_c (h : Q v H) : tC v σ H Q := h
theorem w_op {r : R2} (h : ta σ H fun x H1 => tb σ H1 fun y H2 => r x y H2 Q) : tOp r ta tb σ H Q := h
theorem w_un {r : V → Hp → VK → Prop} (h : ta σ H fun x H1 => r x H1 Q) : tUn r ta σ H Q := h
theorem w_cb {r : List V → Hp → VK → Prop} {t : TA} (h : t σ H fun vs H1 => r vs H1 Q) : tCB r t σ H Q := h
theorem w_cons {t : TA} {Q : List V → Hp → Prop} (h : ta σ H fun x H1 => t σ H1 fun xs H2 => Q (x :: xs) H2) : tCons ta t σ H Q := h
theorem w_nil {Q : List V → Hp → Prop} (h : Q [] H) : tNil σ H Q := h
theorem w_call {sp : Sp} {E : XK} {t : TA} (h : t σ H fun vs H1 => sp vs H1 Q E) : tCall sp [] E t σ H Q := by
  show t σ H fun vs H1 => sp (vs ++ []) H1 Q E
  have e : (fun (vs : List V) (H1 : Hp) => sp (vs ++ []) H1 Q E) = fun vs H1 => sp vs H1 Q E := by
    funext vs H1
    rw [List.append_nil]
  rw [e]
  exact h
def NewT (_ : PySem.W.Frag) (xs : List V) (H : Hp) (Q : VK) : Prop := xs.length ≤ sizeLine ∧ ∀ p, H p = none → Q (.ref p) (upd H p (.tup xs))
def NewL (xs : List V) (H : Hp) (Q : VK) : Prop := xs.length ≤ sizeLine ∧ ∀ p, H p = none → Q (.ref p) (upd H p (.lst xs))
def tTupK (_ : PySem.W.Frag) (t : TA) : TE := tTup t
theorem w_tup {t : TA} (h : t σ H fun xs H1 => NewT K xs H1 Q) : tTupK K t σ H Q := h
theorem w_lst {t : TA} (h : t σ H fun xs H1 => NewL xs H1 Q) : tLst t σ H Q := h
theorem w_newT {xs : List V} {ds : List D} (h : RpAll K H xs ds) (hl : ds.length ≤ sizeLine) (q : ∀ v H', Ext [] H H' → Rp K H' v (.tup ds) → Q v H') : NewT K xs H Q :=
  ⟨by rw [h.length]; exact hl, fun p hp => q _ _ (Ext.new hp) (Rp.new h hp)⟩
theorem w_newL {xs : List V} (hl : xs.length ≤ sizeLine) (q : ∀ p H', H p = none → Ext [] H H' → H' p = some (.lst xs) → Q (.ref p) H') : NewL xs H Q :=
  ⟨hl, fun p hp => q p _ hp (Ext.new hp) upd_same⟩
theorem w_sub {to ti : TE} {t : TSet} {Q : St → Hp → Prop} (h : to σ H fun o H1 => ti σ H1 fun i H2 => t o i v H2 fun H3 => Q σ H3) : gSub to ti t v σ H Q := h
theorem w_bm {T : String} {r : V → List V → Hp → VK → Prop} {t : TA} (h : ta σ H fun x H1 => tyV K T x H1 ∧ t σ H1 fun xs H2 => r x xs H2 Q) : tBM K T r ta t σ H Q := h
theorem w_sl {r : V → Option Int → Option Int → Hp → VK → Prop} {tl th : TO} (h : te σ H fun x H1 => tl σ H1 fun l H2 => th σ H2 fun u H3 => r x l u H3 Q) : tSl r te tl th σ H Q := h
theorem w_noPart {Q : Option Int → Hp → Prop} (h : Q none H) : tNoPart σ H Q := h
theorem w_part {Q : Option Int → Hp → Prop} (h : te σ H fun x H1 => ∃ i, x = .int i ∧ Q (some i) H1) : tPart te σ H Q := h
theorem w_exint {A : Int → Prop} {j : Int} (h : A j) : ∃ i, V.int j = .int i ∧ A i := ⟨j, rfl, h⟩

/-! ### branches -/
theorem w_iteT {c : Bool} {A B : Prop} (e : c = true) (h : A) : if c = true then A else B := by rw [if_pos e]; exact h
theorem w_iteF {c : Bool} {A B : Prop} (e : c = false) (h : B) : if c = true then A else B := by rw [if_neg (by rw [e]; exact Bool.false_ne_true)]; exact h
theorem w_ite {c : Bool} {A B : Prop} (h1 : c = true → A) (h2 : c = false → B) : if c = true then A else B := by
  cases c with
  | true => exact h1 rfl
  | false => exact h2 rfl
theorem w_iteD {P : Prop} [Decidable P] {A B : Prop} (h1 : P → A) (h2 : ¬ P → B) : if decide P = true then A else B := by
  by_cases h : P
  · rw [if_pos (decide_eq_true h)]; exact h1 h
  · rw [if_neg (by simpa using h)]; exact h2 h
theorem w_iteND {P : Prop} [Decidable P] {A B : Prop} (h1 : ¬ P → A) (h2 : P → B) : if (!decide P) = true then A else B := by
  by_cases h : P
  · rw [if_neg (by simpa using h)]; exact h2 h
  · rw [if_pos (by simpa using h)]; exact h1 h

/-! ### values: ints -/
theorem r_i0 {g : Int → Int → V} {i j : Int} (h : Q (g i j) H) : rI0 g (.int i) (.int j) H Q := ⟨i, j, rfl, rfl, h⟩
theorem r_iC {C : Int → Int → Prop} {g : Int → Int → V} {i j : Int} (c : C i j) (h : Q (g i j) H) : rI C g (.int i) (.int j) H Q := ⟨i, j, rfl, rfl, c, h⟩
theorem r_u {g : Int → V} {i : Int} (h : Q (g i) H) : rU g (.int i) H Q := ⟨i, rfl, h⟩
def rAddI : R2 := rI0 fun i j => .int (i + j)
def rSubI : R2 := rI0 fun i j => .int (i - j)
def rMulI : R2 := rI CMul fun i j => .int (i * j)
def rDivI : R2 := rI CDiv fun i j => .int (i / j)
def rModI : R2 := rI (fun _ j => 0 < j) fun i j => .int (i % j)
def rLtI : R2 := rI0 fun i j => .bl (decide (i < j))
def rLeI : R2 := rI0 fun i j => .bl (decide (i ≤ j))
def rGtI : R2 := rI0 fun i j => .bl (decide (j < i))
def rGeI : R2 := rI0 fun i j => .bl (decide (j ≤ i))
theorem r_sub {i j : Int} (h : Q (.int (i - j)) H) : rSubI (.int i) (.int j) H Q := r_i0 h
theorem r_mul {i j : Int} (c : CMul i j) (h : Q (.int (i * j)) H) : rMulI (.int i) (.int j) H Q := r_iC c h
theorem r_div {i j : Int} (c : CDiv i j) (h : Q (.int (i / j)) H) : rDivI (.int i) (.int j) H Q := r_iC c h
theorem r_mod {i j : Int} (c : 0 < j) (h : Q (.int (i % j)) H) : rModI (.int i) (.int j) H Q := r_iC c h
theorem r_lt {i j : Int} (h : Q (.bl (decide (i < j))) H) : rLtI (.int i) (.int j) H Q := r_i0 h
theorem r_le {i j : Int} (h : Q (.bl (decide (i ≤ j))) H) : rLeI (.int i) (.int j) H Q := r_i0 h
theorem r_gt {i j : Int} (h : Q (.bl (decide (j < i))) H) : rGtI (.int i) (.int j) H Q := r_i0 h
theorem r_ge {i j : Int} (h : Q (.bl (decide (j ≤ i))) H) : rGeI (.int i) (.int j) H Q := r_i0 h
theorem cmul_r {i j : Int} (h1 : -18446744073709551616 < j) (h2 : j < 18446744073709551616) : CMul i j := .inr ⟨by omega, by omega⟩
theorem cmul_l {i j : Int} (h1 : -18446744073709551616 < i) (h2 : i < 18446744073709551616) : CMul i j := .inl ⟨by omega, by omega⟩

/-! ### + of ints, texts, tuples, lists -/
def rAddS : R2 := fun x y H Q => ∃ i j, x = .str i ∧ y = .str j ∧ i.length + j.length ≤ sizeLine ∧ Q (.str (i ++ j)) H
def rAddG (K : PySem.W.Frag) : R2 := fun x y H Q => rAddI x y H Q ∨ rAddS x y H Q ∨ rCatA K x y H Q ∨ rCat x y H Q
theorem a_int {i j : Int} (h : Q (.int (i + j)) H) : rAddG K (.int i) (.int j) H Q := .inl (r_i0 h)
theorem a_str {i j : Str} (hl : i.length + j.length ≤ sizeLine) (h : Q (.str (i ++ j)) H) : rAddG K (.str i) (.str j) H Q := .inr (.inl ⟨i, j, rfl, rfl, hl, h⟩)
theorem a_tup {ds es : List D} (hx : Rp K H x (.tup ds)) (hy : Rp K H y (.tup es)) (hl : ds.length + es.length ≤ sizeLine) (h : ∀ v H', Ext [] H H' → Rp K H' v (.tup (ds ++ es)) → Q v H') : rAddG K x y H Q := by
  obtain ⟨a, xs, rfl, h1, h2⟩ := hx.tupI
  obtain ⟨b, ys, rfl, h3, h4⟩ := hy.tupI
  refine .inr (.inr (.inl ⟨a, b, xs, ys, rfl, rfl, h1, h3, by rw [h2.length, h4.length]; exact hl, fun e => ?_, fun _ e => ?_, fun _ _ p hp => ?_⟩))
  · subst e
    cases h2
    exact h _ _ Ext.refl (.tup h3 h4)
  · subst e
    cases h4
    refine h _ _ Ext.refl ?_
    rw [List.append_nil]
    exact .tup h1 h2
  · exact h _ _ (Ext.new hp) (Rp.new (h2.append h4) hp)
theorem a_lst {l b : Addr} {xs zs : List V} (h1 : H l = some (.lst xs)) (h2 : H b = some (.lst zs)) (hl : xs.length + zs.length ≤ sizeLine) (h : ∀ p H', H p = none → Ext [] H H' → H' p = some (.lst (xs ++ zs)) → Q (.ref p) H') : rAddG K (.ref l) (.ref b) H Q :=
  .inr (.inr (.inr ⟨l, b, xs, zs, rfl, rfl, h1, h2, hl, fun p hp => h p _ hp (Ext.new hp) upd_same⟩))

/-! ### == -/
def rEqG (K : PySem.W.Frag) : R2 := fun x y H Q => rEq x y H Q ∨ rEqD K x y H Q
def rNeG (K : PySem.W.Frag) : R2 := fun x y H Q => rNe x y H Q ∨ rNeD K x y H Q
theorem e_scal (s : scal x y = true) (h : Q (.bl (decide (x = y))) H) : rEqG K x y H Q := .inl ⟨s, h⟩
theorem n_scal (s : scal x y = true) (h : Q (.bl (!decide (x = y))) H) : rNeG K x y H Q := .inl ⟨s, h⟩
theorem dec_vs {i j : Str} : decide (V.str i = V.str j) = decide (i = j) := by
  rw [Bool.eq_iff_iff]
  simp
theorem dec_vi {i j : Int} : decide (V.int i = V.int j) = decide (i = j) := by
  rw [Bool.eq_iff_iff]
  simp
theorem e_str {i j : Str} (h : Q (.bl (decide (i = j))) H) : rEqG K (.str i) (.str j) H Q := .inl ⟨rfl, by rw [dec_vs]; exact h⟩
theorem e_int {i j : Int} (h : Q (.bl (decide (i = j))) H) : rEqG K (.int i) (.int j) H Q := .inl ⟨rfl, by rw [dec_vi]; exact h⟩
theorem e_is {i : Int} {j : Str} (h : Q (.bl false) H) : rEqG K (.int i) (.str j) H Q := .inl ⟨rfl, by simpa using h⟩
theorem e_si {i : Int} {j : Str} (h : Q (.bl false) H) : rEqG K (.str j) (.int i) H Q := .inl ⟨rfl, by simpa using h⟩
theorem n_str {i j : Str} (h : Q (.bl (!decide (i = j))) H) : rNeG K (.str i) (.str j) H Q := .inl ⟨rfl, by rw [dec_vs]; exact h⟩
theorem n_int {i j : Int} (h : Q (.bl (!decide (i = j))) H) : rNeG K (.int i) (.int j) H Q := .inl ⟨rfl, by rw [dec_vi]; exact h⟩
theorem e_D {d e : D} (hx : Rp K H x d) (hy : Rp K H y e) (h1 : d.sok = true) (h2 : d.dep ≤ 64) (h3 : e.sok = true) (h4 : e.dep ≤ 64) (h : Q (.bl (D.eqv d e)) H) : rEqG K x y H Q :=
  .inr ⟨_, _, hx.dp, hy.dp, D.shaped h1 h2, D.shaped h3 h4, by rw [D.eqv_py]; exact h⟩
theorem n_D {d e : D} (hx : Rp K H x d) (hy : Rp K H y e) (h1 : d.sok = true) (h2 : d.dep ≤ 64) (h3 : e.sok = true) (h4 : e.dep ≤ 64) (h : Q (.bl (!D.eqv d e)) H) : rNeG K x y H Q :=
  .inr ⟨_, _, hx.dp, hy.dp, D.shaped h1 h2, D.shaped h3 h4, by rw [D.eqv_py]; exact h⟩

/-! ### subscripts, slices, len -/
theorem x_D {ds : List D} {i : Int} {d : D} (hx : Rp K H x (.tup ds)) (e : atI ds i = some d) (h : ∀ v, Rp K H v d → Q v H) : rIx K x (.int i) H Q := by
  obtain ⟨a, xs, rfl, h1, h2⟩ := hx.tupI
  unfold atI at e
  obtain ⟨j, hj, hd⟩ := Option.bind_eq_some_iff.mp e
  obtain ⟨v, hv, hr⟩ := h2.getD hd
  refine .inr (.inl ⟨a, xs, i, v, rfl, rfl, h1, ?_, h v hr⟩)
  unfold atI
  rw [h2.length, hj]
  exact hv
theorem x_Ds {ds : List D} {i : Int} {d : Str} (hx : Rp K H x (.tup ds)) (e : atI ds i = some (.str d)) (h : Q (.str d) H) : rIx K x (.int i) H Q := x_D hx e fun v r => by cases r; exact h
theorem x_Di {ds : List D} {i : Int} {d : Int} (hx : Rp K H x (.tup ds)) (e : atI ds i = some (.int d)) (h : Q (.int d) H) : rIx K x (.int i) H Q := x_D hx e fun v r => by cases r; exact h
theorem x_L {p : Addr} {xs : List V} {i : Int} (hx : SqL K H p xs) (e : atI xs i = some v) (h : Q v H) : rIx K (.ref p) (.int i) H Q := .inl ⟨p, xs, i, v, rfl, rfl, hx, e, h⟩
theorem x_l {p : Addr} {xs : List V} {i : Int} (hx : H p = some (.lst xs)) (e : atI xs i = some v) (h : Q v H) : rIx K (.ref p) (.int i) H Q := x_L (SqL.of hx) e h
def rSlG (K : PySem.W.Frag) : V → Option Int → Option Int → Hp → VK → Prop := fun x lo hi H Q => rSlL K x lo hi H Q ∨ rSlA K x lo hi H Q ∨ rSlS x lo hi H Q
def cutD {α : Type} (xs : List α) (lo hi : Option Int) : List α := (xs.drop (HT.sIx xs.length 0 lo)).take (HT.sIx xs.length xs.length hi - HT.sIx xs.length 0 lo)
theorem cutD_all {α : Type} {xs : List α} {lo hi : Option Int} (h : HT.sIx xs.length 0 lo = 0 ∧ HT.sIx xs.length xs.length hi = xs.length) : cutD xs lo hi = xs := by
  unfold cutD
  rw [h.1, h.2]
  simp
theorem cut_to {α : Type} (xs : List α) {n : Int} (h : 0 ≤ n) : cutD xs none (some n) = xs.take n.toNat := by
  obtain ⟨k, rfl⟩ : ∃ k : Nat, n = (k : Int) := ⟨n.toNat, by omega⟩
  unfold cutD
  rw [HT.sIx_none, HT.sIx_nat]
  simp [← List.take_eq_take_min]
theorem cut_from {α : Type} (xs : List α) {n : Int} (h : 0 ≤ n) : cutD xs (some n) none = xs.drop n.toNat := by
  obtain ⟨k, rfl⟩ : ∃ k : Nat, n = (k : Int) := ⟨n.toNat, by omega⟩
  unfold cutD
  rw [HT.sIx_none, HT.sIx_nat]
  by_cases hk : k ≤ xs.length
  · rw [Nat.min_eq_left hk]
    simp
    rw [List.take_of_length_le (by simp)]
  · rw [Nat.min_eq_right (by omega)]
    simp
    omega
theorem s_D {ds : List D} {lo hi : Option Int} (hx : Rp K H x (.tup ds)) (h : ∀ v H', Ext [] H H' → Rp K H' v (.tup (cutD ds lo hi)) → Q v H') : rSlG K x lo hi H Q := by
  obtain ⟨a, xs, rfl, h1, h2⟩ := hx.tupI
  refine .inr (.inl ⟨a, xs, rfl, h1, fun e => ?_, fun _ p hp => ?_⟩)
  · refine h _ _ Ext.refl ?_
    rw [h2.length] at e
    rw [cutD_all e]
    exact hx
  · refine h _ _ (Ext.new hp) (Rp.new ?_ hp)
    unfold cutV cutD
    rw [h2.length]
    exact (h2.drop _).take _
theorem s_L {p : Addr} {xs : List V} {lo hi : Option Int} (hx : SqL K H p xs) (h : ∀ q H', H q = none → Ext [] H H' → H' q = some (.lst (cutD xs lo hi)) → Q (.ref q) H') : rSlG K (.ref p) lo hi H Q :=
  .inl ⟨p, xs, rfl, hx, fun q hq => h q _ hq (Ext.new hq) upd_same⟩
def rLen (K : PySem.W.Frag) : List V → Hp → VK → Prop := fun xs H Q => ∃ x n, xs = [x] ∧ LenV K x H n ∧ Q (.int n) H
theorem l_D {ds : List D} (hx : Rp K H x (.tup ds)) (h : Q (.int ds.length) H) : rLen K [x] H Q := by
  obtain ⟨a, xs, rfl, h1, h2⟩ := hx.tupI
  exact ⟨_, _, rfl, .inr ⟨xs, h1, rfl⟩, by rw [h2.length]; exact h⟩
theorem l_L {p : Addr} {xs : List V} (hx : SqL K H p xs) (h : Q (.int xs.length) H) : rLen K [.ref p] H Q := ⟨_, _, rfl, .inl ⟨xs, hx, rfl⟩, h⟩
theorem l_l {p : Addr} {xs : List V} (hx : H p = some (.lst xs)) (h : Q (.int xs.length) H) : rLen K [.ref p] H Q := l_L (SqL.of hx) h
theorem l_s {s : Str} (hx : s.length ≤ sizeLine) (h : Q (.int s.length) H) : rLen K [.str s] H Q := ⟨_, _, rfl, ⟨hx, rfl⟩, h⟩

/-! ### is -/
def rIsNo : R2 := fun x y H Q => y = .non ∧ Q (.bl (decide (x = .non))) H
def rIsNN : R2 := fun x y H Q => y = .non ∧ Q (.bl (!decide (x = .non))) H
theorem i_n (h : Q (.bl (decide (x = .non))) H) : rIsNo x .non H Q := ⟨rfl, h⟩
theorem i_nn (h : Q (.bl (!decide (x = .non))) H) : rIsNN x .non H Q := ⟨rfl, h⟩
theorem i_b {a b : Bool} (h : Q (.bl (decide (a = b))) H) : rIsB (.bl a) (.bl b) H Q := ⟨a, b, rfl, rfl, h⟩
theorem i_nb {a b : Bool} (h : Q (.bl (!decide (a = b))) H) : rNotB (.bl a) (.bl b) H Q := ⟨a, b, rfl, rfl, h⟩

/-! ### built-ins of ints; tuple(list); list.append; xs[i] = v -/
def rAbs : List V → Hp → VK → Prop := fun xs H Q => ∃ i, xs = [.int i] ∧ Q (.int (if i < 0 then -i else i)) H
def rInt1 : List V → Hp → VK → Prop := fun xs H Q => (∃ i, xs = [.int i] ∧ Q (.int i) H) ∨ ∃ k, xs = [.bl k] ∧ Q (.int (if k then 1 else 0)) H
def rTupOf (K : PySem.W.Frag) : List V → Hp → VK → Prop := fun xs H Q => ∃ p ys, xs = [.ref p] ∧ ((SqL K H p ys ∧ ∀ l, H l = none → Q (.ref l) (upd H l (.tup ys))) ∨ (SqT K H p ys ∧ Q (.ref p) H))
def rLstOf (K : PySem.W.Frag) : List V → Hp → VK → Prop := fun xs H Q => ∃ p ys, xs = [.ref p] ∧ (SqL K H p ys ∨ SqT K H p ys) ∧ ∀ l, H l = none → Q (.ref l) (upd H l (.lst ys))
theorem b_abs {i : Int} (h : Q (.int (if i < 0 then -i else i)) H) : rAbs [.int i] H Q := ⟨i, rfl, h⟩
theorem b_int {i : Int} (h : Q (.int i) H) : rInt1 [.int i] H Q := .inl ⟨i, rfl, h⟩
theorem b_tupl {p : Addr} {xs : List V} {ds : List D} (hx : H p = some (.lst xs)) (ha : RpAll K H xs ds) (h : ∀ v H', Ext [] H H' → Rp K H' v (.tup ds) → Q v H') : rTupOf K [.ref p] H Q :=
  ⟨p, xs, rfl, .inl ⟨SqL.of hx, fun l hl => h _ _ (Ext.new hl) (Rp.new ha hl)⟩⟩
theorem m_app {l : Addr} {xs : List V} (hx : H l = some (.lst xs)) (hl : xs.length < sizeLine) (h : ∀ H', Ext [l] H H' → H' l = some (.lst (xs ++ [y])) → Q .non H') : rAppend (.ref l) [y] H Q :=
  ⟨l, xs, y, rfl, rfl, hx, hl, h _ (Ext.put hx (by simp)) upd_same⟩
theorem ty_l {l : Addr} {xs : List V} (hx : H l = some (.lst xs)) : tyV K "list" (.ref l) H := .inl ⟨rfl, xs, SqL.of hx⟩
theorem t_set {l : Addr} {xs : List V} {k : Int} {j : Nat} {Q : Hp → Prop} (hx : H l = some (.lst xs)) (e : ixN xs.length k = some j) (h : ∀ H', Ext [l] H H' → H' l = some (.lst (xs.set j v)) → Q H') : rSetL (.ref l) (.int k) v H Q :=
  ⟨l, xs, k, j, rfl, rfl, hx, e, h _ (Ext.put hx (by simp)) upd_same⟩

theorem t_set0 {l : Addr} {x0 : V} {r : List V} {Q : Hp → Prop} (hx : H l = some (.lst (x0 :: r))) (h : ∀ H', Ext [l] H H' → H' l = some (.lst (v :: r)) → Q H') : rSetL (.ref l) (.int 0) v H Q :=
  t_set (j := 0) hx (by first | (simp [ixN]; omega) | simp [ixN]) h
theorem t_set1 {l : Addr} {x0 x1 : V} {r : List V} {Q : Hp → Prop} (hx : H l = some (.lst (x0 :: x1 :: r))) (h : ∀ H', Ext [l] H H' → H' l = some (.lst (x0 :: v :: r)) → Q H') : rSetL (.ref l) (.int 1) v H Q :=
  t_set (j := 1) hx (by first | (simp [ixN]; omega) | simp [ixN]) h
theorem t_set2 {l : Addr} {x0 x1 x2 : V} {r : List V} {Q : Hp → Prop} (hx : H l = some (.lst (x0 :: x1 :: x2 :: r))) (h : ∀ H', Ext [l] H H' → H' l = some (.lst (x0 :: x1 :: v :: r)) → Q H') : rSetL (.ref l) (.int 2) v H Q :=
  t_set (j := 2) hx (by first | (simp [ixN]; omega) | simp [ixN]) h
theorem t_set3 {l : Addr} {x0 x1 x2 x3 : V} {r : List V} {Q : Hp → Prop} (hx : H l = some (.lst (x0 :: x1 :: x2 :: x3 :: r))) (h : ∀ H', Ext [l] H H' → H' l = some (.lst (x0 :: x1 :: x2 :: v :: r)) → Q H') : rSetL (.ref l) (.int 3) v H Q :=
  t_set (j := 3) hx (by first | (simp [ixN]; omega) | simp [ixN]) h
theorem atI_int {ns : List Int} {i : Int} (h0 : 0 ≤ i) (h : i < (ns.length : Int)) : ∃ z, ns[i.toNat]? = some z ∧ atI (ns.map V.int) i = some (V.int z) := by
  have hk : i.toNat < ns.length := by omega
  refine ⟨ns[i.toNat], by simp [hk], at_of (j := i.toNat) (by omega) (by rw [List.getElem?_map, List.getElem?_eq_getElem hk]; rfl)⟩

theorem at_nat {α : Type} {xs : List α} {i : Int} {j : Nat} {v : α} (e : i = (j : Int)) (h : xs[j]? = some v) : atI xs i = some v := by
  rw [e]
  exact atI_nat h

/-! ### loops -/
/-- a for's reading once its iterator has come -/
def ForOk (J : It) (g : TG) (tb : TS) (D : Ends) (σ : St) (H : Hp) : Prop := ∃ W : Nat → Nat → St → Hp → Prop, (∃ m, W 0 m σ H) ∧ ∀ i m σ H, W i m σ H →
  (J.stop i H ∧ D.nx σ H) ∨ (J.go i H ∧ ∃ N : St → Hp → Prop, (∀ σ' H', N σ' H' → ∃ m', m' < m ∧ W (i + 1) m' σ' H') ∧ ∀ x H', J.yld i H x H' → g x σ H' fun σ2 H2 => tb { D with nx := N, ct := N, bk := D.nx } σ2 H2)
theorem w_for {wi : TI} {g : TG} {tb : TS} (h : wi σ H fun J H1 => ForOk J g tb D0 σ H1) : tFor wi g tb D0 σ H := h
theorem w_rng1 {ta : TA} {R : It → Hp → Prop} (h : ta σ H fun vs H1 => ∃ j : Int, vs = [.int j] ∧ -(2 ^ 62) ≤ j ∧ j < 2 ^ 62 ∧ R (Itr 0 j.toNat) H1) : iRng1 ta σ H R := h
theorem w_rng2 {ta : TA} {R : It → Hp → Prop} (h : ta σ H fun vs H1 => ∃ i j : Int, vs = [.int i, .int j] ∧ (-(2 ^ 62) ≤ i ∧ i < 2 ^ 62 ∧ -(2 ^ 62) ≤ j ∧ j < 2 ^ 62) ∧ R (Itr i (j - i).toNat) H1) : iRng2 ta σ H R := h
theorem w_exr1 {j : Int} {A : Int → Prop} (h1 : -4611686018427387904 ≤ j ∧ j < 4611686018427387904) (h : A j) : ∃ i : Int, [V.int j] = [.int i] ∧ -(2 ^ 62) ≤ i ∧ i < 2 ^ 62 ∧ A i := ⟨j, rfl, by omega, by omega, h⟩
theorem w_exr2 {j k : Int} {A : Int → Int → Prop} (h1 : -4611686018427387904 ≤ j ∧ j < 4611686018427387904 ∧ -4611686018427387904 ≤ k ∧ k < 4611686018427387904) (h : A j k) :
    ∃ i l : Int, [V.int j, V.int k] = [.int i, .int l] ∧ (-(2 ^ 62) ≤ i ∧ i < 2 ^ 62 ∧ -(2 ^ 62) ≤ l ∧ l < 2 ^ 62) ∧ A i l := ⟨j, k, rfl, by omega, h⟩
theorem w_list {R : It → Hp → Prop} (h : te σ H fun x H1 => ∃ a, x = .ref a ∧ (∃ xs, SqL K H1 a xs) ∧ R (Itl K a) H1) : iList K te σ H R := h
theorem w_tupI {R : It → Hp → Prop} (h : te σ H fun x H1 => ∃ a, x = .ref a ∧ (∃ xs, SqT K H1 a xs) ∧ R (Itt K a) H1) : iTup K te σ H R := h
theorem w_exl {a : Addr} {xs : List V} {A : Addr → Prop} (h1 : SqL K H a xs) (h : A a) : ∃ b, V.ref a = .ref b ∧ (∃ xs, SqL K H b xs) ∧ A b := ⟨a, rfl, ⟨xs, h1⟩, h⟩
theorem w_ext {ds : List D} {A : Addr → Prop} (h1 : Rp K H x (.tup ds)) (h : ∀ a, x = .ref a → A a) : ∃ b, x = .ref b ∧ (∃ xs, SqT K H b xs) ∧ A b := by
  obtain ⟨a, xs, rfl, h2, _⟩ := h1.tupI
  exact ⟨a, rfl, ⟨xs, h2⟩, h a rfl⟩
/-- over a range -/
theorem f_rng {lo : Int} {n g : Nat} {tb : TS} (W : Nat → St → Hp → Prop) (h0 : W 0 σ H)
    (hs : ∀ i σ H, i < n → W i σ H → tb { D0 with nx := W (i + 1), ct := W (i + 1), bk := D0.nx } (σ.set g (some (.int (lo + i)))) H) (hd : ∀ σ H, W n σ H → D0.nx σ H) : ForOk (Itr lo n) (gName g) tb D0 σ H :=
  for_range W h0 hs hd
/-- over a list that stands -/
theorem f_lst {a : Addr} {xs : List V} {g : Nat} {tb : TS} (W : Nat → St → Hp → Prop) (h0 : W 0 σ H) (hl : ∀ i σ H, i ≤ xs.length → W i σ H → SqL K H a xs)
    (hs : ∀ i v σ H, xs[i]? = some v → W i σ H → tb { D0 with nx := W (i + 1), ct := W (i + 1), bk := D0.nx } (σ.set g (some v)) H) (hd : ∀ σ H, W xs.length σ H → D0.nx σ H) : ForOk (Itl K a) (gName g) tb D0 σ H :=
  for_list W h0 hl hs hd
/-- over the items of a tuple; W by the turn -/
theorem f_tup {a : Addr} {g : Nat} {ds : List D} {tb : TS} (W : Nat → St → Hp → Prop) (h0 : W 0 σ H) (hk : ∀ i σ H, i ≤ ds.length → W i σ H → Rp K H (.ref a) (.tup ds))
    (hs : ∀ i d v σ H, ds[i]? = some d → Rp K H v d → W i σ H → tb { D0 with nx := W (i + 1), ct := W (i + 1), bk := D0.nx } (σ.set g (some v)) H) (hd : ∀ σ H, W ds.length σ H → D0.nx σ H) :
    ForOk (Itt K a) (gName g) tb D0 σ H := by
  refine ⟨fun i m σ H => m = ds.length - i ∧ i ≤ ds.length ∧ W i σ H, ⟨ds.length, by simp, Nat.zero_le _, h0⟩, ?_⟩
  rintro i m σ H ⟨rfl, hi, p⟩
  obtain ⟨a', xs', e, k1, k2⟩ := (hk i σ H hi p).tupI
  cases e
  have hl := k2.length
  by_cases hlt : i < ds.length
  · refine .inr ⟨⟨xs', xs'[i]'(by omega), k1, by simp [show i < xs'.length by omega]⟩, W (i + 1), fun σ' H' p' => ⟨ds.length - (i + 1), by omega, rfl, hlt, p'⟩, fun x H' y => ?_⟩
    obtain ⟨e, y⟩ := y
    subst e
    obtain ⟨d, hd1, hr⟩ := k2.get (y xs' k1)
    exact hs i d x σ _ hd1 hr p
  · have e : i = ds.length := by omega
    subst e
    exact .inl ⟨⟨xs', k1, by omega⟩, hd σ H p⟩
/-! ### comprehensions -/
def LcOk (J : It) (g : TG) (tt : TT) (te : TE) (vs : List Nat) (σ : St) (D : Addr) (H1 : Hp) (Q : VK) : Prop := ∃ W : Nat → Nat → Hp → Prop, (∃ m, W 0 m (upd H1 D (.lst []))) ∧ ∀ i m H, W i m H →
  (J.stop i H ∧ Q (.ref D) H) ∨ (J.go i H ∧ ∃ Nx : Hp → Prop, (∀ H', Nx H' → ∃ m', m' < m ∧ W (i + 1) m' H') ∧ ∀ x H', J.yld i H x H' → g x (wipe σ vs) H' fun σ2 H2 => wipe σ2 vs = wipe σ vs ∧ tt σ2 H2 fun b H3 =>
    if b = true then te σ2 H3 fun y H4 => ∃ acc, H4 D = some (.lst acc) ∧ acc.length < sizeLine ∧ Nx (upd H4 D (.lst (acc ++ [y]))) else Nx H3)
theorem w_lc {wi : TI} {g : TG} {tt : TT} {vs : List Nat} (h : wi σ H fun J H1 => ∀ D, H1 D = none → LcOk J g tt te vs σ D H1 Q) : tLc wi g tt te vs σ H Q := h
/-- what a turn of a comprehension is to reach: the list so far is acc at D -/
def LcN (D : Addr) (W : Nat → Hp → List V → Prop) (i : Nat) (H : Hp) : Prop := ∃ acc, H D = some (.lst acc) ∧ acc.length ≤ i ∧ W i H acc
def LcT (D : Addr) (W : Nat → Hp → List V → Prop) (i : Nat) (y : V) (H : Hp) : Prop := ∃ acc, H D = some (.lst acc) ∧ acc.length < sizeLine ∧ LcN D W (i + 1) (upd H D (.lst (acc ++ [y])))
theorem turn1 {D : Addr} {W : Nat → Hp → List V → Prop} {i : Nat} {acc : List V} (h1 : H D = some (.lst acc)) (h2 : acc.length ≤ i) (h3 : i < sizeLine) (h : ∀ H', Ext [D] H H' → H' D = some (.lst (acc ++ [y])) → W (i + 1) H' (acc ++ [y])) : LcT D W i y H :=
  ⟨acc, h1, by omega, acc ++ [y], upd_same, by rw [List.length_append]; simp; omega, h _ (Ext.put h1 (by simp)) upd_same⟩
theorem turn0 {D : Addr} {W : Nat → Hp → List V → Prop} {i : Nat} {acc : List V} (h1 : H D = some (.lst acc)) (h2 : acc.length ≤ i) (h : W (i + 1) H acc) : LcN D W (i + 1) H := ⟨acc, h1, by omega, h⟩
theorem c_gen {J : It} {n g : Nat} {tt : TT} {D : Addr} (R : Nat → V → Hp → Prop) (W : Nat → Hp → List V → Prop) (hD : H D = none)
    (hgo : ∀ i H acc, i < n → W i H acc → J.go i H) (hst : ∀ H acc, W n H acc → J.stop n H) (hy : ∀ i x H H' acc, i < n → W i H acc → J.yld i H x H' → H' = H ∧ R i x H)
    (h0 : ∀ H', Ext [] H H' → H' D = some (.lst []) → W 0 H' [])
    (hs : ∀ i x H acc, i < n → H D = some (.lst acc) → acc.length ≤ i → R i x H → W i H acc → tt (σ.set g (some x)) H fun b H3 => if b = true then te (σ.set g (some x)) H3 (LcT D W i) else LcN D W (i + 1) H3)
    (hd : ∀ H acc, H D = some (.lst acc) → W n H acc → Q (.ref D) H) : LcOk J (gName g) tt te [g] σ D H Q := by
  refine ⟨fun i m H => m = n - i ∧ i ≤ n ∧ LcN D W i H, ⟨n, by simp, Nat.zero_le _, [], upd_same, Nat.le_refl _, h0 _ (Ext.new hD) upd_same⟩, ?_⟩
  rintro i m H ⟨rfl, hi, acc, e1, e2, p⟩
  by_cases hlt : i < n
  · refine .inr ⟨hgo i H acc hlt p, LcN D W (i + 1), fun H' p' => ⟨n - (i + 1), by omega, rfl, hlt, p'⟩, fun x H' y => ?_⟩
    obtain ⟨e, r⟩ := hy i x H H' acc hlt p y
    subst e
    have s1 : (wipe σ [g]).set g (some x) = σ.set g (some x) := by
      show (σ.set g none).set g (some x) = _
      rw [List.set_set]
    show wipe ((wipe σ [g]).set g (some x)) [g] = wipe σ [g] ∧ _
    rw [s1]
    refine ⟨?_, ?_⟩
    · show (σ.set g (some x)).set g none = σ.set g none
      rw [List.set_set]
    exact hs i x H' acc hlt e1 e2 r p
  · have e : i = n := by omega
    subst e
    exact .inl ⟨hst H acc p, hd H acc e1 p⟩
/-- over a range -/
theorem c_rng {lo : Int} {n g : Nat} {tt : TT} {D : Addr} (W : Nat → Hp → List V → Prop) (hD : H D = none) (h0 : ∀ H', Ext [] H H' → H' D = some (.lst []) → W 0 H' [])
    (hs : ∀ i H acc, i < n → H D = some (.lst acc) → acc.length ≤ i → W i H acc → tt (σ.set g (some (.int (lo + i)))) H fun b H3 => if b = true then te (σ.set g (some (.int (lo + i)))) H3 (LcT D W i) else LcN D W (i + 1) H3)
    (hd : ∀ H acc, H D = some (.lst acc) → W n H acc → Q (.ref D) H) : LcOk (Itr lo n) (gName g) tt te [g] σ D H Q :=
  c_gen (fun i x _ => x = .int (lo + i)) W hD (fun _ _ _ h _ => h) (fun _ _ _ => Nat.le_refl n) (fun _ _ _ _ _ _ _ y => y) h0 (fun i x H acc hi e1 e2 r p => by subst r; exact hs i H acc hi e1 e2 p) hd
/-- over a list that stands -/
theorem c_lst {a : Addr} {xs : List V} {g : Nat} {tt : TT} {D : Addr} (W : Nat → Hp → List V → Prop) (hD : H D = none) (hl : ∀ i H acc, i ≤ xs.length → W i H acc → SqL K H a xs) (h0 : ∀ H', Ext [] H H' → H' D = some (.lst []) → W 0 H' [])
    (hs : ∀ i x H acc, xs[i]? = some x → H D = some (.lst acc) → acc.length ≤ i → W i H acc → tt (σ.set g (some x)) H fun b H3 => if b = true then te (σ.set g (some x)) H3 (LcT D W i) else LcN D W (i + 1) H3)
    (hd : ∀ H acc, H D = some (.lst acc) → W xs.length H acc → Q (.ref D) H) : LcOk (Itl K a) (gName g) tt te [g] σ D H Q :=
  c_gen (n := xs.length) (fun i x _ => xs[i]? = some x) W hD (fun i H acc h p => ⟨xs, xs[i], hl i H acc (Nat.le_of_lt h) p, by simp [h]⟩) (fun H acc p => ⟨xs, hl _ H acc (Nat.le_refl _) p, Nat.le_refl _⟩)
    (fun i x H H' acc h p y => ⟨y.1, y.2 xs (hl i H acc (Nat.le_of_lt h) p)⟩) h0 (fun i x H acc _ e1 e2 r p => hs i x H acc r e1 e2 p) hd
/-- over the items of a tuple -/
theorem c_tup {a : Addr} {ds : List D} {g : Nat} {tt : TT} {D : Addr} (W : Nat → Hp → List V → Prop) (hD : H D = none) (hl : ∀ i H acc, i ≤ ds.length → W i H acc → Rp K H (.ref a) (.tup ds)) (h0 : ∀ H', Ext [] H H' → H' D = some (.lst []) → W 0 H' [])
    (hs : ∀ i d x H acc, ds[i]? = some d → Rp K H x d → H D = some (.lst acc) → acc.length ≤ i → W i H acc → tt (σ.set g (some x)) H fun b H3 => if b = true then te (σ.set g (some x)) H3 (LcT D W i) else LcN D W (i + 1) H3)
    (hd : ∀ H acc, H D = some (.lst acc) → W ds.length H acc → Q (.ref D) H) : LcOk (Itt K a) (gName g) tt te [g] σ D H Q := by
  have get : ∀ i H acc, i ≤ ds.length → W i H acc → ∃ xs, SqT K H a xs ∧ RpAll K H xs ds := fun i H acc hi p => by
    obtain ⟨a', xs, e, h1, h2⟩ := (hl i H acc hi p).tupI
    cases e
    exact ⟨xs, h1, h2⟩
  refine c_gen (n := ds.length) (fun i x H => ∃ d, ds[i]? = some d ∧ Rp K H x d) W hD (fun i H acc h p => ?_) (fun H acc p => ?_) (fun i x H H' acc h p y => ?_) h0 (fun i x H acc _ e1 e2 r p => ?_) hd
  · obtain ⟨xs, h1, h2⟩ := get i H acc (Nat.le_of_lt h) p
    have hl := h2.length
    exact ⟨xs, xs[i]'(by omega), h1, by simp [show i < xs.length by omega]⟩
  · obtain ⟨xs, h1, h2⟩ := get _ H acc (Nat.le_refl _) p
    exact ⟨xs, h1, by rw [h2.length]; exact Nat.le_refl _⟩
  · obtain ⟨xs, h1, h2⟩ := get i H acc (Nat.le_of_lt h) p
    obtain ⟨d, hd1, hr⟩ := h2.get (y.2 xs h1)
    exact ⟨y.1, d, hd1, hr⟩
  · obtain ⟨d, hd1, hr⟩ := r
    exact hs i d x H acc hd1 hr e1 e2 p
theorem w_yes {Q : Bool → Hp → Prop} (h : Q true H) : tYes σ H Q := h
end
theorem le_line {n : Nat} (h : n ≤ 1000) : n ≤ sizeLine := Nat.le_trans h (by decide)
/-! ### in, not in -/
section
variable {H : Hp} {Q : VK} {x y : V} {K : PySem.W.Frag}
theorem w_inL {xs : List V} {neg : Bool} (fx : flatV x = true) (fs : xs.all flatV = true) (hl : xs.length ≤ sizeLine) (h : ∀ H', Ext [] H H' → Q (.bl (if neg = true then !inV x xs else inV x xs)) H') : NewL xs H fun y H1 => rIn K neg x y H1 Q :=
  ⟨hl, fun p hp => ⟨p, xs, rfl, .inl (SqL.of upd_same), fx, fs, h _ (Ext.new hp)⟩⟩
theorem w_inT {xs : List V} {neg : Bool} (fx : flatV x = true) (fs : xs.all flatV = true) (hl : xs.length ≤ sizeLine) (h : ∀ H', Ext [] H H' → Q (.bl (if neg = true then !inV x xs else inV x xs)) H') : NewT K xs H fun y H1 => rIn K neg x y H1 Q :=
  ⟨hl, fun p hp => ⟨p, xs, rfl, .inr (SqT.of upd_same), fx, fs, h _ (Ext.new hp)⟩⟩
theorem w_inl {p : Addr} {xs : List V} {neg : Bool} (fx : flatV x = true) (hp : H p = some (.lst xs)) (fs : xs.all flatV = true) (h : Q (.bl (if neg = true then !inV x xs else inV x xs)) H) : rIn K neg x (.ref p) H Q :=
  ⟨p, xs, rfl, .inl (SqL.of hp), fx, fs, h⟩
def D.flat : D → Bool
  | .tup _ => false
  | _ => true
theorem flat_V {d : D} (h : Rp K H x d) (f : d.flat = true) : flatV x = true := by
  cases h <;> first | rfl | cases f
theorem eqV_eqv {d e : D} (h : Rp K H x d) (f : d.flat = true) (h' : Rp K H y e) (f' : e.flat = true) : eqV x y = D.eqv d e := by
  cases h <;> cases h' <;> first | rfl | cases f | cases f'
theorem flat_all : ∀ {ds : List D} {vs : List V}, RpAll K H vs ds → ds.all D.flat = true → vs.all flatV = true
  | _, _, .nil, _ => rfl
  | _, _, .cons h t, f => by
    rw [List.all_cons, Bool.and_eq_true] at f ⊢
    exact ⟨flat_V h f.1, flat_all t f.2⟩
theorem inV_any {d : D} (hx : Rp K H x d) (fx : d.flat = true) : ∀ {ds : List D} {vs : List V}, RpAll K H vs ds → ds.all D.flat = true → inV x vs = ds.any fun e => D.eqv e d
  | _, _, .nil, _ => rfl
  | _, _, .cons h t, f => by
    rw [List.all_cons, Bool.and_eq_true] at f
    have ih := inV_any hx fx t f.2
    unfold inV at ih ⊢
    rw [List.any_cons, List.any_cons, ih, eqV_eqv h f.1 hx fx]
theorem in_D {ds : List D} {d : D} {neg : Bool} (hx : Rp K H x d) (hy : Rp K H y (.tup ds)) (fx : d.flat = true) (fs : ds.all D.flat = true) (h : Q (.bl (if neg = true then !ds.any (fun e => D.eqv e d) else ds.any fun e => D.eqv e d)) H) : rIn K neg x y H Q := by
  obtain ⟨a, xs, rfl, h1, h2⟩ := hy.tupI
  refine ⟨a, xs, rfl, .inr h1, flat_V hx fx, flat_all h2 fs, ?_⟩
  rw [inV_any hx fx h2 fs]
  exact h
/-- a constant of the module: data that stand in every heap -/
def tConst (K : PySem.W.Frag) (d : D) : TE := fun _ H Q => ∀ v, (∀ H', Rp K H' v d) → Q v H
theorem w_const {σ : St} {d : D} (h : ∀ v, Rp K H v d → Q v H) : tConst K d σ H Q := fun v r => h v (r H)
end
/-- the module's name x holds data d -/
def Cst (K : PySem.W.Frag) (mg : Str → Option Value) (x : Str) (d : D) : Prop := ∃ a, mg x = some (.ref a) ∧ ∀ H, Rp K H (.ref a) d
theorem pe_const {X : Cx} {x : Str} {d : D} {pos : Pos} (c : Cst X.K X.mg x d) (hg : Gl X x) (hd : (x == ("__debug__" : Str)) = false := by decide) : PE X (.Name x pos) (tConst X.K d) := by
  obtain ⟨a, m, r⟩ := c
  refine ⟨fun pins s σ H Q I h => ?_⟩
  exact (pe_glob (v := .ref a) hg m rfl hd).run pins s σ H Q I (h (.ref a) r)
/-- a written tuple of texts, numbers: as the top has laid it -/
theorem cst_of {K : PySem.W.Frag} {mg : Str → Option Value} {x : Str} {a : Addr} {od : Option Addr} {its : List Value} {n : Nat} {sl : Array (Option Value)} {xs : List V} {ds : List D} (m : mg x = some (.ref a)) (l : K.lookup a = some ⟨.type "tuple", od, .seq its.toArray n, sl⟩)
    (hz : its.length ≤ sizeLine) (hv : Vals xs its) (hr : ∀ H, RpAll K H xs ds) : Cst K mg x (.tup ds) :=
  ⟨a, m, fun H => .tup (.inr ⟨_, its.toArray, n, l, rfl, rfl, by simpa using hz, by simpa using hv⟩) (hr H)⟩

/-! ### defs with their contract -/
/-- the module's name x holds a def that keeps sp -/
structure Has (P : Program) (w : World) (K : PySem.W.Frag) (mg : Str → Option Value) (base : Heap) (CX : CXT) (k : Nat) (x : Str) (ps : List Str) (sp : Sp) : Prop where
  ex : ∃ (f : Addr) (fd : FuncData), FnOk P w K mg base CX k f fd ps sp ∧ mg x = some (.ref f) ∧ PySem.W.keepIn K (.ref f) = true ∧ Binds K fd ps []
/-- the module's name x holds the def that the text writes as st -/
structure Dfn (K : PySem.W.Frag) (mg : Str → Option Value) (x : Str) (st : Stmt) (ps : List Str) : Prop where
  ex : ∃ (f : Addr) (fd : FuncData), Fun K x x st f fd ∧ mg x = some (.ref f) ∧ Binds K fd ps []
section
variable {P : Program} {w : World} {K : PySem.W.Frag} {mg : Str → Option Value} {base : Heap} {CX : CXT} {k : Nat} {x : Str} {ps : List Str} {sp : Sp} {st : Stmt}
theorem Dfn.has (D : Dfn K mg x st ps) (h : ∀ f fd, Fun K x x st f fd → FnOk P w K mg base CX k f fd ps sp) : Has P w K mg base CX k x ps sp := by
  obtain ⟨f, fd, F, m, b⟩ := D.ex
  exact ⟨f, fd, h f fd F, m, F.kp, b⟩
theorem Has.mono {j : Nat} (h : Has P w K mg base CX j x ps sp) (l : j ≤ k) : Has P w K mg base CX k x ps sp := by
  obtain ⟨f, fd, F, r⟩ := h.ex
  exact ⟨f, fd, F.mono l, r⟩
theorem Has.imp {sp' : Sp} (h : Has P w K mg base CX k x ps sp) (i : ∀ vs H Q E, sp' vs H Q E → sp vs H Q E) : Has P w K mg base CX k x ps sp' := by
  obtain ⟨f, fd, F, r⟩ := h.ex
  exact ⟨f, fd, F.imp i, r⟩
/-- a promise that nobody can ask for -/
theorem Dfn.never (D : Dfn K mg x st ps) (no : ∀ vs H Q E, ¬ sp vs H Q E) : Has P w K mg base CX k x ps sp := by
  obtain ⟨f, fd, F, m, b⟩ := D.ex
  exact ⟨f, fd, ⟨fun vs H Q E h => absurd h (no vs H Q E), fun A outer s H args us vs Q E _ _ _ _ h => absurd h (no vs H Q E)⟩, m, F.kp, b⟩
end
section
variable {X : Cx} {CX : CXT} {k : Nat} {ps : List Str} {sp : Sp} {E : XK} {x : Str} {p pos : Pos} {e : Expr} {es : List Expr} {t : TA}
theorem pe_callH (h : Has X.prog X.w X.K X.mg X.base CX k x ps sp) (hr : Room k X.A) (hg : Gl X x) (hx : Passes CX X E)
    (ha : PA X (e :: es) t) (hdb : (x == ("__debug__" : Str)) = false := by decide) (he : starEach (e :: es) X.env = (false, eval e X.env) :: starEach es X.env := by rfl) (hpl : (backTo pos (starEach es X.env)).any (·.1) = false := by rfl) :
    PE X (.Call (.Name x p) (e :: es) [] pos) (tCall sp [] E t) := by
  obtain ⟨f, fd, F, m, kp, b⟩ := h.ex
  exact pe_call F hr hg m kp b .nil hx ha hdb he hpl
theorem pe_callH0 (h : Has X.prog X.w X.K X.mg X.base CX k x ps sp) (hr : Room k X.A) (hg : Gl X x) (hx : Passes CX X E)
    (hdb : (x == ("__debug__" : Str)) = false := by decide) : PE X (.Call (.Name x p) [] [] pos) (tCall sp [] E tNil) := by
  obtain ⟨f, fd, F, m, kp, b⟩ := h.ex
  exact pe_call0 F hr hg m kp b .nil hx hdb
theorem pss_consJ {st : Stmt} {rest : List Stmt} {t u : TS} (h1 : PS X st t) (h2 : PSs X rest u) : PSs X (st :: rest) (tSeqJ t u) := by
  refine ⟨fun pins s σ H D I h => ?_⟩
  obtain ⟨M, h, hm⟩ := h
  refine wpAny_execs_cons (thn (h1.run pins s σ H { D with nx := M } I h) fun f s1 q => ?_)
  cases f with
  | next =>
    obtain ⟨σ', H', I', q⟩ := q
    exact h2.run pins s1 σ' H' D I' (hm _ _ q)
  | ret v => exact q
  | brk => exact q
  | cont => exact q
/-! ### the rules by which ambiguous constructs go -/
theorem o_add : OpR X (binaryOp .Add) (rAddG X.K) := op_add.or (op_add_str.or (op_catA.or op_cat))
theorem o_eq (hu : X.A.units + 64 < cLine) : OpR X (compareOp .Eq) (rEqG X.K) := op_eq.or (op_eqD hu)
theorem o_ne (hu : X.A.units + 64 < cLine) : OpR X (compareOp .NotEq) (rNeG X.K) := op_ne.or (op_neD hu)
theorem o_sl : SlR X (rSlG X.K) := sl_list.or (sl_tupA.or sl_str)
end
end Go

set_option Elab.async false
set_option linter.all false
set_option maxRecDepth 100000
set_option maxHeartbeats 4000000
/-! EnumT: enumerate of a tuple, walked by a for or a comprehension. -/
namespace Go
open PySem L2 PySem.Spec PyProof.Rows

abbrev enObj (n : Addr) : Obj := { cls := .type "enumerate", data := .fields #[.none, .bool false, .ref n, rawInt 0, .none, .none] }
set_option maxHeartbeats 1000000 in
theorem en_meets {v : Value} {ob : Obj} {G : Heap → Prop} (B : Begins v ob G) :
    Meets (Builtin.«enumerate.__new__» ⟨[.type "enumerate", v], []⟩) (fun _ R z => G z.heap ∧ R (.ok (.ret (.ref (z.heap.push ob).objs.size))) { z with heap := (z.heap.push ob).push (enObj z.heap.objs.size) }) :=
  .of_wp fun P w A R z hz => by
    obtain ⟨hp, ge, dr, tk, oz⟩ := z
    obtain ⟨g1, hz⟩ := hz
    have isSub := sub_enumerate
    have it : ∀ {A' : Around} {E : Value → Shared → Prop} {Q : Value → Shared → Prop}, Q (.ref hp.objs.size) ⟨hp.push ob, ge, dr, tk, oz⟩ → wpAny (model P w) A' (pyIter v) Q E ⟨hp, ge, dr, tk, oz⟩ :=
      fun q => B.iter P w _ _ ⟨hp, ge, dr, tk, oz⟩ _ g1 q
    wp_walk using it
    refine wpAny_stack_any fun _ => wpAny_pure ?_
    split
    · rename_i c _ _ _ _ _
      cases (c == Value.type "enumerate") <;> (wp_walk using it; exact ⟨_, rfl, hz⟩)
    · wp_walk using it
      exact ⟨_, rfl, hz⟩
section
variable {P : Program} {w : World} {A : Around} {E : Value → Shared → Prop} {z : Shared}
theorem en_call {v : Value} {ob : Obj} {G : Heap → Prop} {Q : Value → Shared → Prop} (B : Begins v ob G) (g1 : G z.heap)
    (q : ∀ hp, IsEnum hp (z.heap.objs.size + 1) z.heap.objs.size 0 .none → hp.get? z.heap.objs.size = some ob → (∀ b u, z.heap.get? b = some u → hp.get? b = some u) → Q (.ref (z.heap.objs.size + 1)) { z with heap := hp }) :
    wpAny (model P w) A (call (.type "enumerate") [v]) Q E z := by
  refine callType_new F.called_enumerate (by decide) (F.typeCall_enumerate_1 _) (F.newCall_enumerate_1 _)
    (fun x => F.args_object_init_2 x _) F.entry_enumerate_new (en_meets B) ⟨g1, ?_⟩
  have sz : (z.heap.push ob).objs.size = z.heap.objs.size + 1 := Heap.size_push ..
  show _ ∧ _
  rw [sz]
  have en : IsEnum ((z.heap.push ob).push (enObj z.heap.objs.size)) (z.heap.objs.size + 1) z.heap.objs.size 0 .none := by
    have k := Heap.get?_push_size (z.heap.push ob) (o := enObj z.heap.objs.size) rfl
    rw [sz] at k
    exact k
  exact ⟨⟨_, en, rfl⟩, q _ en (Heap.get?_push_of_some _ (Heap.get?_push_size _ B.free)) fun b u x => Heap.get?_push_of_some _ (Heap.get?_push_of_some _ x)⟩
end
/-- the tuple at a, each item in a new pair with its number -/
def Itet (K : PySem.W.Frag) (a : Addr) : It :=
  ⟨fun i H => ∃ (xs : List V) (x : V), SqT K H a xs ∧ xs[i]? = some x,
   fun i H v H' => ∃ T x, v = .ref T ∧ H T = none ∧ H' = upd H T (.tup [.int (i : Nat), x]) ∧ ∀ xs, SqT K H a xs → xs[i]? = some x,
   fun i H => ∃ xs : List V, SqT K H a xs ∧ xs.length = i⟩
theorem turn_et {P : Program} {w : World} {K : PySem.W.Frag} {elts : List Expr} {kk : Nat} {tpos : Pos} (a e it : Addr) :
    Turn P w K (.Tuple elts kk tpos) (Itet K a) [e, it] e (fun i h => (∃ old, IsEnum h e it ((i : Nat) : Int) old) ∧ h.IsTupleIter it a i ∧ e ≠ it ∧ a ≠ it ∧ a ≠ e) where
  mem := by simp
  obj := fun i h st b hb => by
    obtain ⟨⟨old, he⟩, ⟨o, ho, _, hd⟩, _⟩ := st
    have c : b = e ∨ b = it := by simpa using hb
    rcases c with rfl | rfl
    · exact ⟨_, he, fun v q => nomatch q⟩
    · exact ⟨o, ho, fun v q => by rw [hd] at q; cases q⟩
  keep := fun i h h' st k => by
    obtain ⟨⟨old, he⟩, hi, ne⟩ := st
    exact ⟨⟨old, k e (by simp) _ he⟩, hi.at fun o q => k it (by simp) o q, ne⟩
  item := by
    intro X hP hw hK hc i pins z σ H E I hf st hg
    subst hP hw hK
    obtain ⟨⟨old, he⟩, hit, ne, na, nae⟩ := st
    obtain ⟨xs, x, hq, hx⟩ := hg
    obtain ⟨its, rv, p, _⟩ := I.tuple hq
    obtain ⟨u, hu, ru⟩ := rv.get hx
    have lte : e < z.heap.objs.size := Heap.lt_size he
    have lti : it < z.heap.objs.size := by obtain ⟨_, q, _⟩ := hit; exact Heap.lt_size q
    have Dr := Draws.tuple (prog := X.prog) (w := X.w) (A := X.A.in1) (I.ok.hd hc) it a na its.toArray
    have hil : i < its.toArray.size := by
      have := (List.getElem?_eq_some_iff.mp hu).1
      simpa using this
    refine wpAny_pyNext_enum_itemD Dr he ⟨hit, show z.heap.IsTuple a its.toArray from p⟩ hil ne (by simp; exact ⟨ne, nae.symm⟩) fun y h' tk hy ho hst hT hsz hk => ?_
    have ey : y = u := by
      have h1 : its[i]? = some y := by simpa using hy
      rw [hu] at h1
      exact (Option.some.inj h1).symm
    subst ey
    refine ⟨_, rfl, wpAny_letOwnedTupleGo_enum (s := { z with heap := h', toks := tk + 1 }) ho fun h2 he2 sb => ?_⟩
    have hT2 : h2.get? z.heap.objs.size = some { cls := .type "tuple", data := .seq #[.int i tk, y] } := (sb.2 _ (Nat.ne_of_gt lte)).trans hT
    have nw : ObjOk X.prog X.w (upd H z.heap.objs.size (.tup [.int (i : Nat), x])) h2 z.heap.objs.size (.tup [.int (i : Nat), x]) :=
      ⟨by show 2 ≤ sizeLine; decide, [.int i tk, y], .cons ⟨_, rfl⟩ (.cons ru .nil), ⟨_, hT2, rfl, _, rfl⟩⟩
    have I1 : Inv X pins σ (upd H z.heap.objs.size (.tup [.int (i : Nat), x])) { z with heap := h2, toks := tk + 1 } :=
      I.turnedNew (ch := [e, it]) (fun b ob hb q => (sb.2 b (fun c => hb (by simp [c]))).trans (hk b ob (fun c => hb (by simp [c])) (fun c => hb (by simp [c])) q)) hf (Nat.le_refl _) nw
    refine ⟨.ref z.heap.objs.size, _, I1, rfl, ⟨_, x, rfl, I.hok.fresh (Nat.le_refl _), rfl, fun ys hy => by rw [I.tuple_inj hy hq]; exact hx⟩, ⟨⟨y, ?_⟩, hst.1.at fun o q => (sb.2 it (Ne.symm ne)).trans q, ne, na, nae⟩, fun b hb => ?_⟩
    · have c : ((i + 1 : Nat) : Int) = (i : Int) + 1 := by omega
      rw [c]
      exact he2
    · have c : b = e ∨ b = it := by simpa using hb
      have lt : b < z.heap.objs.size := by rcases c with rfl | rfl <;> assumption
      rw [upd_ne (Nat.ne_of_lt lt)]
      exact (hf b hb).1
  done := by
    intro X hP hw hK hc i pins z σ H E I hf st hg
    subst hP hw hK
    obtain ⟨⟨old, he⟩, hit, ne, na, nae⟩ := st
    obtain ⟨xs, hq, hx⟩ := hg
    obtain ⟨its, rv, p, _⟩ := I.tuple hq
    obtain ⟨f0, f1, f2, f3, f4, f5⟩ := hf it (by simp)
    have Dr := Draws.tuple (prog := X.prog) (w := X.w) (A := X.A.in1) (I.ok.hd hc) it a na its.toArray
    have c : i = its.toArray.size := by
      rw [List.size_toArray, ← rv.length]
      exact hx.symm
    subst c
    exact wpAny_pyNext_enum_endD Dr he ⟨hit, show z.heap.IsTuple a its.toArray from p⟩ fun h' eb => ⟨rfl, I.turned (t' := z.toks) (fun b o hb q => eb b o hb q) f0 f1 f3 f4 f5⟩
  self := fun A i z Q E st h => by
    obtain ⟨⟨_, he⟩, _⟩ := st
    exact wpAny_pyIter_enum he h
def iEnumT (K : PySem.W.Frag) (ta : TA) : TI := fun σ H R => ta σ H fun vs H1 => ∃ a xs, vs = [.ref a] ∧ SqT K H1 a xs ∧ R (Itet K a) H1
theorem pi_enumT {X : Cx} {e : Expr} {ta : TA} {p pos tpos : Pos} {elts : List Expr} {kk : Nat} (hg : Gl X "enumerate") (hm : X.mg "enumerate" = none) (ha : PA X [e] ta)
    (hs : starEach [e] X.env = [(false, eval e X.env)] := by rfl) : PI X (.Tuple elts kk tpos) (.Call (.Name "enumerate" p) [e] [] pos) (iEnumT X.K ta) := by
  refine ⟨fun pins z σ H R I h => ?_⟩
  refine Call_ (ld_blt I hg hm boot_enumerate (callWith_type1 (thn (ha.run pos pins z σ H _ I h) fun us z1 ⟨vs, H1, I1, r1, q1⟩ => ?_) hs rfl))
  obtain ⟨a, xs, ex, hq, q⟩ := q1
  subst ex
  cases r1 with
  | cons r rr =>
    cases rr
    cases r
    obtain ⟨its, rv, p', _⟩ := I1.tuple hq
    have lta : a < z1.heap.objs.size := p'.lt
    refine en_call (begins_tuple a its.toArray) (show z1.heap.IsTuple a its.toArray from p') fun h' he ho hk => wpAny_pyIter_enum he ?_
    have I2 : Inv X pins σ H1 { z1 with heap := h' } := I1.kept (t' := z1.toks) hk
    refine ⟨z1.heap.objs.size + 1, [z1.heap.objs.size + 1, z1.heap.objs.size], _, _, H1, rfl, I2, turn_et a (z1.heap.objs.size + 1) z1.heap.objs.size, ⟨⟨.none, he⟩, ⟨_, ho, rfl, rfl⟩, Nat.succ_ne_self _, Nat.ne_of_lt lta, Nat.ne_of_lt (Nat.lt_succ_of_lt lta)⟩, fun b hb => ?_, q⟩
    have c : b = z1.heap.objs.size + 1 ∨ b = z1.heap.objs.size := by simpa using hb
    have le : z1.heap.objs.size ≤ b := by
      rcases c with rfl | rfl
      · exact Nat.le_add_right _ _
      · exact Nat.le_refl _
    exact I1.fpOk le (I1.hok.fresh le)
section
variable {σ : L2.St} {H : Hp} {Q : VK} {D0 : Ends} {K : PySem.W.Frag} {x : V}
theorem w_enumT {ta : TA} {R : It → Hp → Prop} (h : ta σ H fun vs H1 => ∃ a xs, vs = [.ref a] ∧ SqT K H1 a xs ∧ R (Itet K a) H1) : iEnumT K ta σ H R := h
theorem w_exet {ds : List D} {A : Addr → Prop} (h1 : Rp K H x (.tup ds)) (h : ∀ a, x = .ref a → A a) : ∃ a xs, [x] = [.ref a] ∧ SqT K H a xs ∧ A a := by
  obtain ⟨a, xs, rfl, h2, _⟩ := h1.tupI
  exact ⟨a, xs, rfl, h2, h a rfl⟩
/-- for i, d in enumerate(t): the number in slot g1, the item in slot g2 -/
theorem f_et {a : Addr} {g1 g2 : Nat} {ds : List D} {tb : TS} (W : Nat → L2.St → Hp → Prop) (h0 : W 0 σ H) (hk : ∀ i σ H, i ≤ ds.length → W i σ H → Rp K H (.ref a) (.tup ds))
    (hs : ∀ i d v σ H H', ds[i]? = some d → Rp K H' v d → Ext [] H H' → W i σ H → tb { D0 with nx := W (i + 1), ct := W (i + 1), bk := D0.nx } ((σ.set g1 (some (.int (i : Nat)))).set g2 (some v)) H') (hd : ∀ σ H, W ds.length σ H → D0.nx σ H) :
    ForOk (Itet K a) (gTup K 2 (gCons (gName g1) (gCons (gName g2) gNil))) tb D0 σ H := by
  refine ⟨fun i m σ H => m = ds.length - i ∧ i ≤ ds.length ∧ W i σ H, ⟨ds.length, by simp, Nat.zero_le _, h0⟩, ?_⟩
  rintro i m σ H ⟨rfl, hi, p⟩
  obtain ⟨a', xs, e, k1, k2⟩ := (hk i σ H hi p).tupI
  cases e
  have hl := k2.length
  by_cases hlt : i < ds.length
  · refine .inr ⟨⟨xs, xs[i]'(by omega), k1, by simp [show i < xs.length by omega]⟩, W (i + 1), fun σ' H' p' => ⟨ds.length - (i + 1), by omega, rfl, hlt, p'⟩, fun x H' y => ?_⟩
    obtain ⟨T, v, rfl, hT, rfl, y⟩ := y
    obtain ⟨d, hd1, hr⟩ := k2.get (y xs k1)
    have ex : Ext [] H (upd H T (.tup [.int (i : Nat), v])) := Ext.new hT
    exact ⟨T, _, rfl, SqT.of upd_same, rfl, _, _, rfl, _, _, rfl, rfl, hs i d v σ H _ hd1 (hr.ts ex.ts) ex p⟩
  · have e : i = ds.length := by omega
    subst e
    exact .inl ⟨⟨xs, k1, hl⟩, hd σ H p⟩
end
end Go

namespace Law
open PySem L2 Go
local macro_rules | `(tactic| row_has $x) => `(tactic| repeat (first | (obtain ⟨e, _⟩ := $x:ident; subst e; rfl) | (obtain ⟨_, $x:ident⟩ := $x:ident)))
local macro_rules | `(tactic| walk_at "ts") => `(tactic| first
  | exact Tst.refl
  | (refine' Ext.ts (S := ?k0) ?k1; case k1 => assumption)
  | (refine' Tst.trans (Ext.ts (S := ?k0) ?k1) ?k2; (case k1 => assumption); (case k2 => walk_at "ts"))
  | (refine' Tst.trans ?k2 (Ext.ts (S := ?k0) ?k1); (case k1 => assumption); (case k2 => walk_at "ts")))
local macro_rules | `(tactic| walk_at "ext") => `(tactic| first
  | exact Ext.refl
  | assumption
  | (refine' Ext.trans ?k1 ?k2; (case k1 => assumption); (case k2 => walk_at "ext"))
  | (refine' Ext.trans (Ext.any ?k1) ?k2; (case k1 => assumption); (case k2 => walk_at "ext"))
  | (refine' Ext.trans ?k2 ?k1; (case k1 => assumption); (case k2 => walk_at "ext"))
  | (refine' Ext.more ?k2 ?k1; (case k1 => assumption); (case k2 => walk_at "ext")))
local macro_rules | `(tactic| walk_at "rp") => `(tactic| first
  | assumption
  | exact Rp.str _
  | exact Rp.int _
  | exact Rp.non
  | exact Rp.bl _
  | (refine' Rp.ts ?k2 ?k1; (case k1 => assumption); (case k2 => walk_at "ts")))
local macro_rules | `(tactic| walk_at "ls") => `(tactic| first
  | assumption
  | (refine' Ext.keep (S := ?k0) ?k1 _ _ ?k2 ?k3; (case k1 => assumption); (case k2 => walk_at "ls"); (case k3 => first | exact List.not_mem_nil | (simp; assumption) | (simp; exact Ne.symm (by assumption)))))
local macro_rules | `(tactic| walk_at "all") => `(tactic| first
  | exact RpAll.nil
  | (refine' RpAll.cons ?k1 ?k2; (case k1 => walk_at "rp"); (case k2 => walk_at "all")))
local macro_rules | `(tactic| walk_at "len") => `(tactic| first
  | (refine le_line ?_; simp; done)
  | (refine le_line ?_; simp only [List.length_append, List.length_cons, List.length_nil, List.length_map, List.length_take]; omega)
  | omega)
local macro_rules | `(tactic| walk_at "s0") => `(tactic| first
  | with_reducible refine w_asg ?_
  | with_reducible refine w_name ?_
  | with_reducible refine w_next ?_
  | with_reducible refine w_break ?_
  | with_reducible refine w_cont ?_
  | with_reducible refine w_drop ?_
  | with_reducible refine w_ret ?_
  | with_reducible refine w_retN ?_
  | with_reducible refine w_ifS ?_
  | with_reducible refine w_test ?_
  | with_reducible refine w_tB ?_
  | with_reducible refine w_exbl ?_
  | with_reducible refine w_and ?_
  | with_reducible refine w_or ?_
  | with_reducible refine w_not ?_
  | with_reducible refine w_andV ?_
  | with_reducible refine w_orV ?_
  | with_reducible refine w_notV ?_
  | with_reducible refine w_if ?_
  | ((with_reducible refine' w_var ?k1 ?_); (case k1 => rfl))
  | with_reducible refine w_c ?_
  | with_reducible refine w_op ?_
  | with_reducible refine w_un ?_
  | with_reducible refine w_cb ?_
  | with_reducible refine w_cons ?_
  | with_reducible refine w_nil ?_
  | with_reducible refine w_call ?_
  | with_reducible refine w_for ?_
  | with_reducible refine w_rng1 ?_
  | with_reducible refine w_rng2 ?_
  | with_reducible refine w_list ?_
  | with_reducible refine w_tupI ?_
  | ((with_reducible refine' w_exr1 ?k1 ?_); (case k1 => omega))
  | ((with_reducible refine' w_exr2 ?k1 ?_); (case k1 => omega))
  | ((with_reducible refine' w_ext ?k1 ?_); (case k1 => walk_at "rp"); intro _ _; subst_vars)
  | (with_reducible refine w_lc ?_)
  | with_reducible refine w_enumT ?_
  | ((with_reducible refine' w_exet ?k1 ?_); (case k1 => walk_at "rp"); intro _ _; subst_vars)
  | with_reducible refine w_yes ?_
  | with_reducible refine w_tup ?_
  | with_reducible refine w_lst ?_
  | with_reducible refine w_sub ?_
  | with_reducible refine w_bm ?_
  | with_reducible refine w_sl ?_
  | with_reducible refine w_noPart ?_
  | with_reducible refine w_part ?_
  | with_reducible refine w_exint ?_
  | with_reducible refine r_u ?_
  | with_reducible refine r_sub ?_
  | ((with_reducible refine' r_mul ?k1 ?_); (case k1 => first | exact cmul_r (by omega) (by omega) | exact cmul_l (by omega) (by omega)))
  | ((with_reducible refine' r_div ?k1 ?_); (case k1 => exact ⟨by omega, by omega⟩))
  | ((with_reducible refine' r_mod ?k1 ?_); (case k1 => omega))
  | with_reducible refine r_lt ?_
  | with_reducible refine r_le ?_
  | with_reducible refine r_gt ?_
  | with_reducible refine r_ge ?_
  | with_reducible refine a_int ?_
  | with_reducible refine e_str ?_
  | with_reducible refine e_int ?_
  | with_reducible refine e_is ?_
  | with_reducible refine e_si ?_
  | with_reducible refine n_str ?_
  | with_reducible refine n_int ?_
  | with_reducible refine b_abs ?_
  | with_reducible refine b_int ?_
  | with_reducible refine i_n ?_
  | with_reducible refine i_nn ?_
  | with_reducible refine i_b ?_
  | with_reducible refine i_nb ?_
  | ((with_reducible refine' w_inL ?k1 ?k2 ?k3 ?_); (case k1 => rfl); (case k2 => rfl); (case k3 => walk_at "len"); intro _ _)
  | ((with_reducible refine' w_inT ?k1 ?k2 ?k3 ?_); (case k1 => rfl); (case k2 => rfl); (case k3 => walk_at "len"); intro _ _)
  | ((with_reducible refine' in_D ?k1 ?k2 ?k3 ?k4 ?_); (case k1 => walk_at "rp"); (case k2 => walk_at "rp"); (case k3 => rfl); (case k4 => rfl))
  | ((with_reducible refine' w_const ?_); intro _ _)
  | ((with_reducible refine' w_newT ?k1 ?k2 ?_); (case k1 => walk_at "all"); (case k2 => walk_at "len"); intro _ _ _ _)
  | ((with_reducible refine' x_Ds ?k1 ?k2 ?_); (case k1 => walk_at "rp"); (case k2 => rfl))
  | ((with_reducible refine' x_Di ?k1 ?k2 ?_); (case k1 => walk_at "rp"); (case k2 => rfl))
  | ((with_reducible refine' x_D ?k1 ?k2 ?_); (case k1 => walk_at "rp"); (case k2 => rfl); intro _ _)
  | ((with_reducible refine' l_D ?k1 ?_); (case k1 => walk_at "rp"))
  | ((with_reducible refine' s_D ?k1 ?_); (case k1 => walk_at "rp"); intro _ _ _ _)
  | ((with_reducible refine' x_l ?k1 ?k2 ?_); (case k1 => walk_at "ls"); (case k2 => rfl))
  | ((with_reducible refine' t_set0 ?k1 ?_); (case k1 => walk_at "ls"); intro _ _ _)
  | ((with_reducible refine' t_set1 ?k1 ?_); (case k1 => walk_at "ls"); intro _ _ _)
  | ((with_reducible refine' t_set2 ?k1 ?_); (case k1 => walk_at "ls"); intro _ _ _)
  | ((with_reducible refine' t_set3 ?k1 ?_); (case k1 => walk_at "ls"); intro _ _ _)
  | ((with_reducible refine' l_l ?k1 ?_); (case k1 => walk_at "ls"))
  | ((with_reducible refine' a_tup ?k1 ?k2 ?k3 ?_); (case k1 => walk_at "rp"); (case k2 => walk_at "rp"); (case k3 => walk_at "len"); intro _ _ _ _)
  | with_reducible refine w_iteT (c := true) rfl ?_
  | with_reducible refine w_iteF (c := false) rfl ?_
  | ((with_reducible refine' w_iteT ?k1 ?_); (case k1 => first | assumption | rfl | decide +kernel))
  | ((with_reducible refine' w_iteF ?k1 ?_); (case k1 => first | assumption | rfl | decide +kernel))
  | dsimp only [List.set])
local macro_rules | `(tactic| walk_at "s") => `(tactic| first | with_reducible refine w_seqJ ?_ | walk_at "s0")
local macro_rules | `(tactic| walk_at "s1") => `(tactic| first | with_reducible refine w_seqA ?_ | with_reducible refine w_seqD ?_ | walk_at "s0")
local macro_rules | `(tactic| walk_at "go") => `(tactic| repeat walk_at "s")
local macro_rules | `(tactic| walk_at "gs") => `(tactic| repeat walk_at "s1")
local macro_rules | `(tactic| walk_at "eqD") => `(tactic| (refine' e_D ?k1 ?k2 ?k3 ?k4 ?k5 ?k6 ?_; (case k1 => walk_at "rp"); (case k2 => walk_at "rp"); (case k3 => assumption); (case k4 => assumption); (case k5 => assumption); (case k6 => assumption)))

abbrev c_LEAVES : D := .tup [.str "shared", .str "exclusive", .str "task"]
def top (i : Nat) : Stmt := PySem.Challenge.pw_forklent_k01_kinds.main.body.getD i (.Pass ⟨0, 0, 0, 0⟩)
abbrev s_is_plain : Stmt := top 2
abbrev N_is_plain : List Str := ["kind", "item"]
theorem sc_is_plain : FnScope N_is_plain ["kind"] (defScope s_is_plain) := ⟨rfl, rfl, rfl, by decide +kernel, rfl, by decide +kernel, by decide +kernel⟩
abbrev s_is_copy : Stmt := top 3
abbrev N_is_copy : List Str := ["kind", "item"]
theorem sc_is_copy : FnScope N_is_copy ["kind"] (defScope s_is_copy) := ⟨rfl, rfl, rfl, by decide +kernel, rfl, by decide +kernel, by decide +kernel⟩
abbrev s_levels : Stmt := top 4
abbrev N_levels : List Str := ["kind", "item"]
theorem sc_levels : FnScope N_levels ["kind"] (defScope s_levels) := ⟨rfl, rfl, rfl, by decide +kernel, rfl, by decide +kernel, by decide +kernel⟩
abbrev s_leaves : Stmt := top 5
abbrev N_leaves : List Str := ["kind", "paths", "path", "index", "item"]
theorem sc_leaves : FnScope N_leaves ["kind"] (defScope s_leaves) := ⟨rfl, rfl, rfl, by decide +kernel, rfl, by decide +kernel, by decide +kernel⟩
abbrev s_l_tape : Stmt := top 7
abbrev N_l_tape : List Str := ["script", "numbers", "total", "cell", "rest", "k"]
theorem sc_l_tape : FnScope N_l_tape ["script"] (defScope s_l_tape) := ⟨rfl, rfl, rfl, by decide +kernel, rfl, by decide +kernel, by decide +kernel⟩
abbrev s_l_next : Stmt := top 8
abbrev N_l_next : List Str := ["tape", "many", "at"]
theorem sc_l_next : FnScope N_l_next ["tape", "many"] (defScope s_l_next) := ⟨rfl, rfl, rfl, by decide +kernel, rfl, by decide +kernel, by decide +kernel⟩
abbrev s_l_cells : Stmt := top 9
abbrev N_l_cells : List Str := ["kind", "item"]
theorem sc_l_cells : FnScope N_l_cells ["kind"] (defScope s_l_cells) := ⟨rfl, rfl, rfl, by decide +kernel, rfl, by decide +kernel, by decide +kernel⟩
abbrev s_l_fitting : Stmt := top 10
abbrev N_l_fitting : List Str := ["items", "most", "found", "cells", "k", "item"]
theorem sc_l_fitting : FnScope N_l_fitting ["items", "most"] (defScope s_l_fitting) := ⟨rfl, rfl, rfl, by decide +kernel, rfl, by decide +kernel, by decide +kernel⟩
abbrev s_l_kind : Stmt := top 11
abbrev N_l_kind : List Str := ["tape", "depth", "plain", "choice", "many", "k"]
theorem sc_l_kind : FnScope N_l_kind ["tape", "depth", "plain"] (defScope s_l_kind) := ⟨rfl, rfl, rfl, by decide +kernel, rfl, by decide +kernel, by decide +kernel⟩
abbrev s_l_plain : Stmt := top 12
abbrev N_l_plain : List Str := ["kind", "item"]
theorem sc_l_plain : FnScope N_l_plain ["kind"] (defScope s_l_plain) := ⟨rfl, rfl, rfl, by decide +kernel, rfl, by decide +kernel, by decide +kernel⟩
abbrev s_l_copy : Stmt := top 13
abbrev N_l_copy : List Str := ["kind", "item"]
theorem sc_l_copy : FnScope N_l_copy ["kind"] (defScope s_l_copy) := ⟨rfl, rfl, rfl, by decide +kernel, rfl, by decide +kernel, by decide +kernel⟩
abbrev s_l_levels : Stmt := top 14
abbrev N_l_levels : List Str := ["kind", "item"]
theorem sc_l_levels : FnScope N_l_levels ["kind"] (defScope s_l_levels) := ⟨rfl, rfl, rfl, by decide +kernel, rfl, by decide +kernel, by decide +kernel⟩
abbrev s_l_leaves : Stmt := top 15
abbrev N_l_leaves : List Str := ["kind", "found", "path", "k"]
theorem sc_l_leaves : FnScope N_l_leaves ["kind"] (defScope s_l_leaves) := ⟨rfl, rfl, rfl, by decide +kernel, rfl, by decide +kernel, by decide +kernel⟩
abbrev s_l_is : Stmt := top 16
abbrev N_l_is : List Str := ["answer", "due"]
theorem sc_l_is : FnScope N_l_is ["answer", "due"] (defScope s_l_is) := ⟨rfl, rfl, rfl, by decide +kernel, rfl, by decide +kernel, by decide +kernel⟩
abbrev s_law : Stmt := top 17
abbrev N_law : List Str := ["script", "tape", "k", "kind"]
theorem sc_law : FnScope N_law ["script"] (defScope s_law) := ⟨rfl, rfl, rfl, by decide +kernel, rfl, by decide +kernel, by decide +kernel⟩

/-! ### the tape: a list [place, numbers, total] -/
def Tape (H : Hp) (t n : Addr) : Prop := ∃ (at_ tot : Int) (ns : List Int), H t = some (.lst [.int at_, .ref n, .int tot]) ∧ H n = some (.lst (ns.map V.int)) ∧ 0 ≤ at_
theorem Tape.keep {H H' : Hp} {t n : Addr} {S : List Addr} (T : Tape H t n) (e : Ext S H H') (h1 : t ∉ S) (h2 : n ∉ S) : Tape H' t n := by
  obtain ⟨x, y, ns, e2, e3, e4⟩ := T
  exact ⟨x, y, ns, e.keep _ _ e2 h1, e.keep _ _ e3 h2, e4⟩
theorem Tape.same {H H' : Hp} {t n : Addr} (T : Tape H t n) (e : Ext [] H H') : Tape H' t n := T.keep e (by simp) (by simp)
theorem Tape.ne {H : Hp} {t n p : Addr} (T : Tape H t n) (h : H p = none) : p ≠ t ∧ p ≠ n := by
  obtain ⟨_, _, _, e1, e2, _⟩ := T
  exact ⟨(ne_of_none e1 h).symm, (ne_of_none e2 h).symm⟩
theorem Tape.apart {H : Hp} {t n : Addr} (T : Tape H t n) : n ≠ t := fun z => by
  obtain ⟨_, _, ns, e1, e2, _⟩ := T
  rw [z, e1] at e2
  have z2 := HO.lst.inj (Option.some.inj e2)
  match ns, z2 with
  | _ :: _ :: _, z3 => simp at z3
/-- a list that was not there before is changed -/
theorem Tape.new {H H' : Hp} {t n p : Addr} (T : Tape H t n) (h1 : p ≠ t ∧ p ≠ n) (e : Ext [p] H H') : Tape H' t n :=
  T.keep e (by simpa using h1.1.symm) (by simpa using h1.2.symm)
def sp_l_tape (K : PySem.W.Frag) : Sp := fun vs H Q _ => ∃ (a : Addr) (ns : List Int), vs = [.ref a] ∧ SqL K H a (ns.map V.int) ∧ ∀ t n H', Ext [] H H' → H t = none → Tape H' t n → Q (.ref t) H'
def sp_l_next (_ : PySem.W.Frag) : Sp := fun vs H Q _ => ∃ (t n : Addr) (m : Int), vs = [.ref t, .int m] ∧ Tape H t n ∧ 0 < m ∧ ∀ r H', 0 ≤ r → r < m → Ext [t] H H' → Tape H' t n → Q (.int r) H'
/-- an item of a written list, at a drawn place -/
theorem p_next {K : PySem.W.Frag} {H : Hp} {Q : VK} {σ : St} {xs : List V} {t n : Addr} {m : Int} {i : Nat} (hv : σ[i]? = some (some (.ref t))) (T : Tape H t n) (hm : 0 < m) (hl : m = xs.length) (hz : xs.length ≤ 1000)
    (q : ∀ v H', v ∈ xs → Ext [t] H H' → Tape H' t n → Q v H') :
    NewL xs H fun x H1 => tCall (sp_l_next K) [] E0 (tCons (tVar i) (tCons (tC (.int m)) tNil)) σ H1 fun y H2 => rIx K x y H2 Q := by
  refine w_newL (le_line hz) fun p H1 hp x1 e1 => ?_
  refine w_call ?_
  refine w_cons (w_var hv (w_cons (w_c (w_nil ?_))))
  refine ⟨t, n, m, rfl, T.same x1, hm, fun r H2 r0 r1 x2 T2 => ?_⟩
  have hr : r.toNat < xs.length := by omega
  refine x_l (x2.keep p _ e1 (by simpa using (T.ne hp).1)) (at_of (j := r.toNat) (by omega) (List.getElem?_eq_getElem hr)) ?_
  exact q _ _ (List.getElem_mem hr) (x1.any.trans x2) T2

/-! ### kinds -/
inductive Kd where
  | int | bool | unit | box (k : Kd) | maybe (k : Kd) | tuple (ks : List Kd) | recd (n : Str) | shared (k : Kd) | excl (k : Kd) | task (k : Kd)
mutual
def Kd.d : Kd → D
  | .int => .tup [.str "int"]
  | .bool => .tup [.str "bool"]
  | .unit => .tup [.str "unit"]
  | .box k => .tup [.str "box", k.d]
  | .maybe k => .tup [.str "maybe", k.d]
  | .tuple ks => .tup [.str "tuple", .tup (Kd.ds ks)]
  | .recd n => .tup [.str "record", .str n]
  | .shared k => .tup [.str "shared", k.d]
  | .excl k => .tup [.str "exclusive", k.d]
  | .task k => .tup [.str "task", k.d]
def Kd.ds : List Kd → List D
  | [] => []
  | k :: ks => k.d :: Kd.ds ks
end
mutual
def Kd.lev : Kd → Nat
  | .int | .bool | .unit | .recd _ => 1
  | .box k | .maybe k | .shared k | .excl k | .task k => k.lev + 1
  | .tuple ks => Kd.levs ks + 1
def Kd.levs : List Kd → Nat
  | [] => 0
  | k :: ks => max k.lev (Kd.levs ks)
end
theorem Kd.lev_pos : ∀ k : Kd, 1 ≤ k.lev
  | .int | .bool | .unit | .recd _ => by simp [Kd.lev]
  | .box k | .maybe k | .shared k | .excl k | .task k => by simp [Kd.lev]
  | .tuple ks => by simp [Kd.lev]
mutual
/-- a tuple has one item to six -/
def Kd.good : Kd → Bool
  | .int | .bool | .unit | .recd _ => true
  | .box k | .maybe k | .shared k | .excl k | .task k => k.good
  | .tuple ks => decide (1 ≤ ks.length) && decide (ks.length ≤ 6) && Kd.goods ks
def Kd.goods : List Kd → Bool
  | [] => true
  | k :: ks => k.good && Kd.goods ks
end
mutual
def Kd.plain : Kd → Bool
  | .shared _ | .excl _ | .task _ => false
  | .box k | .maybe k => k.plain
  | .tuple ks => Kd.plains ks
  | .int | .bool | .unit | .recd _ => true
def Kd.plains : List Kd → Bool
  | [] => true
  | k :: ks => k.plain && Kd.plains ks
end
mutual
def Kd.copy : Kd → Bool
  | .int | .bool | .unit | .shared _ => true
  | .maybe k => k.copy
  | .tuple ks => Kd.copys ks
  | .box _ | .recd _ | .excl _ | .task _ => false
def Kd.copys : List Kd → Bool
  | [] => true
  | k :: ks => k.copy && Kd.copys ks
end
mutual
def Kd.lvs : Kd → List (List D)
  | .shared _ | .excl _ | .task _ => [[]]
  | .maybe k => k.lvs.map (.str "?" :: ·)
  | .tuple ks => Kd.lvss 0 ks
  | .int | .bool | .unit | .recd _ | .box _ => []
def Kd.lvss : Nat → List Kd → List (List D)
  | _, [] => []
  | i, k :: ks => k.lvs.map (.int (i : Nat) :: ·) ++ Kd.lvss (i + 1) ks
end
theorem Kd.ds_map : ∀ ks : List Kd, Kd.ds ks = ks.map Kd.d
  | [] => rfl
  | k :: ks => by rw [Kd.ds, Kd.ds_map ks]; rfl
theorem Kd.ds_length (ks : List Kd) : (Kd.ds ks).length = ks.length := by rw [Kd.ds_map, List.length_map]
theorem Kd.ds_get {ks : List Kd} {i : Nat} {d : D} (h : (Kd.ds ks)[i]? = some d) : ∃ k, ks[i]? = some k ∧ d = k.d := by
  rw [Kd.ds_map, List.getElem?_map] at h
  obtain ⟨k, h1, h2⟩ := Option.map_eq_some_iff.mp h
  exact ⟨k, h1, h2.symm⟩
theorem Kd.lev_mem : ∀ {ks : List Kd} {k : Kd}, k ∈ ks → k.lev ≤ Kd.levs ks
  | _ :: ks, k, h => by
    rw [Kd.levs]
    rcases List.mem_cons.mp h with rfl | h
    · omega
    · have := Kd.lev_mem h
      omega
theorem Kd.good_mem : ∀ {ks : List Kd} {k : Kd}, Kd.goods ks = true → k ∈ ks → k.good = true
  | _ :: ks, k, g, h => by
    rw [Kd.goods, Bool.and_eq_true] at g
    rcases List.mem_cons.mp h with rfl | h
    · exact g.1
    · exact Kd.good_mem g.2 h
theorem Kd.levs_le : ∀ {ks : List Kd} {n : Nat}, (∀ k, k ∈ ks → k.lev ≤ n) → Kd.levs ks ≤ n
  | [], _, _ => Nat.zero_le _
  | k :: ks, n, h => by
    rw [Kd.levs]
    have h1 := h k (by simp)
    have h2 := Kd.levs_le (ks := ks) (n := n) fun k hk => h k (by simp [hk])
    omega
theorem Kd.goods_of : ∀ {ks : List Kd}, (∀ k, k ∈ ks → k.good = true) → Kd.goods ks = true
  | [], _ => rfl
  | k :: ks, h => by
    rw [Kd.goods, h k (by simp), Kd.goods_of fun k hk => h k (by simp [hk])]
    rfl
theorem Kd.levs_in : ∀ {ks : List Kd}, ks ≠ [] → ∃ k, k ∈ ks ∧ k.lev = Kd.levs ks
  | [k], _ => ⟨k, by simp, by simp [Kd.levs]⟩
  | k :: k2 :: ks, _ => by
    obtain ⟨j, h1, h2⟩ := Kd.levs_in (ks := k2 :: ks) (by simp)
    by_cases c : k.lev ≤ Kd.levs (k2 :: ks)
    · exact ⟨j, List.mem_cons.mpr (.inr h1), by rw [Kd.levs, h2]; omega⟩
    · exact ⟨k, by simp, by rw [Kd.levs]; omega⟩
/-- what max gives of the items' levels -/
theorem Kd.levs_max {ks : List Kd} {m : Int} (h1 : m ∈ ks.map fun k => (k.lev : Int)) (h2 : ∀ y, y ∈ (ks.map fun k => (k.lev : Int)) → y ≤ m) : m = (Kd.levs ks : Int) := by
  obtain ⟨k, hk, rfl⟩ := List.mem_map.mp h1
  obtain ⟨j, hj, e⟩ := Kd.levs_in (ks := ks) (by intro z; rw [z] at hk; cases hk)
  have a := Kd.lev_mem hk
  have b := h2 _ (List.mem_map.mpr ⟨j, hj, rfl⟩)
  omega
theorem Kd.plains_take : ∀ {ks : List Kd} {i : Nat} {k : Kd}, ks[i]? = some k → Kd.plains (ks.take (i + 1)) = (Kd.plains (ks.take i) && k.plain)
  | [], i, k, h => by simp at h
  | a :: r, 0, k, h => by
    have e : a = k := Option.some.inj h
    subst e
    simp [Kd.plains]
  | a :: r, i + 1, k, h => by
    have ih := Kd.plains_take (ks := r) (i := i) (k := k) h
    show Kd.plains (a :: r.take (i + 1)) = (Kd.plains (a :: r.take i) && k.plain)
    rw [Kd.plains, Kd.plains, ih, Bool.and_assoc]
theorem Kd.copys_take : ∀ {ks : List Kd} {i : Nat} {k : Kd}, ks[i]? = some k → Kd.copys (ks.take (i + 1)) = (Kd.copys (ks.take i) && k.copy)
  | [], i, k, h => by simp at h
  | a :: r, 0, k, h => by
    have e : a = k := Option.some.inj h
    subst e
    simp [Kd.copys]
  | a :: r, i + 1, k, h => by
    have ih := Kd.copys_take (ks := r) (i := i) (k := k) h
    show Kd.copys (a :: r.take (i + 1)) = (Kd.copys (a :: r.take i) && k.copy)
    rw [Kd.copys, Kd.copys, ih, Bool.and_assoc]
theorem Kd.plains_false {ks : List Kd} {i : Nat} {k : Kd} (h : ks[i]? = some k) (e : k.plain = false) : Kd.plains ks = false := by
  induction ks generalizing i with
  | nil => simp at h
  | cons a r ih =>
    rw [Kd.plains]
    cases i with
    | zero =>
      have z : a = k := Option.some.inj h
      rw [z, e, Bool.false_and]
    | succ i => rw [ih (i := i) h, Bool.and_false]
theorem Kd.copys_false {ks : List Kd} {i : Nat} {k : Kd} (h : ks[i]? = some k) (e : k.copy = false) : Kd.copys ks = false := by
  induction ks generalizing i with
  | nil => simp at h
  | cons a r ih =>
    rw [Kd.copys]
    cases i with
    | zero =>
      have z : a = k := Option.some.inj h
      rw [z, e, Bool.false_and]
    | succ i => rw [ih (i := i) h, Bool.and_false]
theorem Kd.lvss_take : ∀ {ks : List Kd} {i j : Nat} {k : Kd}, ks[i]? = some k → Kd.lvss j (ks.take (i + 1)) = Kd.lvss j (ks.take i) ++ k.lvs.map (.int ((j + i : Nat) : Int) :: ·)
  | [], i, j, k, h => by simp at h
  | a :: r, 0, j, k, h => by
    have e : a = k := Option.some.inj h
    subst e
    simp [Kd.lvss]
  | a :: r, i + 1, j, k, h => by
    have ih := Kd.lvss_take (ks := r) (i := i) (j := j + 1) (k := k) h
    show Kd.lvss j (a :: r.take (i + 1)) = Kd.lvss j (a :: r.take i) ++ _
    rw [Kd.lvss, Kd.lvss, ih, List.append_assoc, show j + 1 + i = j + (i + 1) by omega]
mutual
theorem Kd.lvs_len : ∀ (k : Kd), k.good = true → k.lvs.length ≤ 6 ^ k.lev
  | .int | .bool | .unit | .recd _ => fun _ => by simp [Kd.lvs]
  | .box _ => fun _ => by simp [Kd.lvs]
  | .shared k | .excl k | .task k => fun _ => by
    simp only [Kd.lvs, List.length_singleton]
    exact Nat.one_le_pow _ _ (by decide)
  | .maybe k => fun g => by
    have h := Kd.lvs_len k g
    simp only [Kd.lvs, List.length_map, Kd.lev]
    exact Nat.le_trans h (Nat.pow_le_pow_right (by decide) (by omega))
  | .tuple ks => fun g => by
    simp only [Kd.good, Bool.and_eq_true, decide_eq_true_eq] at g
    have h := Kd.lvss_len ks 0 (Kd.levs ks) g.2 (Nat.le_refl _)
    simp only [Kd.lvs, Kd.lev, Nat.pow_succ]
    refine Nat.le_trans h ?_
    rw [Nat.mul_comm]
    exact Nat.mul_le_mul_left _ g.1.2
theorem Kd.lvss_len : ∀ (ks : List Kd) (i n : Nat), Kd.goods ks = true → Kd.levs ks ≤ n → (Kd.lvss i ks).length ≤ ks.length * 6 ^ n
  | [], _, _, _, _ => by simp [Kd.lvss]
  | k :: ks, i, n, g, h => by
    rw [Kd.goods, Bool.and_eq_true] at g
    rw [Kd.levs] at h
    have h1 := Kd.lvs_len k g.1
    have h2 := Kd.lvss_len ks (i + 1) n g.2 (by omega)
    have h3 : 6 ^ k.lev ≤ 6 ^ n := Nat.pow_le_pow_right (by decide) (by omega)
    rw [Kd.lvss, List.length_append, List.length_map, List.length_cons, Nat.succ_mul]
    omega
end
theorem Kd.goods_take {ks : List Kd} (i : Nat) (h : Kd.goods ks = true) : Kd.goods (ks.take i) = true := Kd.goods_of fun _ hk => Kd.good_mem h (List.mem_of_mem_take hk)
theorem Kd.levs_take (ks : List Kd) (i : Nat) : Kd.levs (ks.take i) ≤ Kd.levs ks := Kd.levs_le fun _ hk => Kd.lev_mem (List.mem_of_mem_take hk)
theorem Kd.lvs_small {k : Kd} (g : k.good = true) (h : k.lev ≤ 5) : k.lvs.length ≤ 7776 :=
  Nat.le_trans (Kd.lvs_len k g) (Nat.le_trans (Nat.pow_le_pow_right (by decide) h) (by decide))
theorem Kd.lvss_small {ks : List Kd} (i j : Nat) (g : Kd.goods ks = true) (h : Kd.levs ks ≤ 5) (l : ks.length ≤ 6) : (Kd.lvss j (ks.take i)).length ≤ 46656 := by
  refine Nat.le_trans (Kd.lvss_len _ j 5 (Kd.goods_take i g) (Nat.le_trans (Kd.levs_take ks i) h)) ?_
  rw [List.length_take]
  have : min i ks.length ≤ 6 := by omega
  exact Nat.le_trans (Nat.mul_le_mul_right _ this) (by decide)
mutual
/-- a path has no more steps than the kind has levels; its steps are numbers and texts -/
theorem Kd.lvs_item : ∀ (k : Kd) (p : List D), p ∈ k.lvs → p.length ≤ k.lev ∧ D.soks p = true ∧ D.deps p = 0 ∧ D.nbs p = true
  | .int, _, h | .bool, _, h | .unit, _, h | .recd _, _, h | .box _, _, h => by simp [Kd.lvs] at h
  | .shared k, p, h | .excl k, p, h | .task k, p, h => by
    simp only [Kd.lvs, List.mem_singleton] at h
    subst h
    exact ⟨Nat.zero_le _, rfl, rfl, rfl⟩
  | .maybe k, p, h => by
    simp only [Kd.lvs] at h
    obtain ⟨r, hr, rfl⟩ := List.mem_map.mp h
    obtain ⟨h1, h2, h3, h4⟩ := Kd.lvs_item k r hr
    exact ⟨by rw [List.length_cons, Kd.lev]; omega, by rw [D.soks, h2, show (D.str "?").sok = true by decide +kernel]; rfl, by rw [D.deps, h3]; rfl, by rw [D.nbs, h4]; rfl⟩
  | .tuple ks, p, h => by
    simp only [Kd.lvs] at h
    obtain ⟨h1, h2, h3, h4⟩ := Kd.lvss_item ks 0 p h
    exact ⟨by rw [Kd.lev]; omega, h2, h3, h4⟩
theorem Kd.lvss_item : ∀ (ks : List Kd) (i : Nat) (p : List D), p ∈ Kd.lvss i ks → p.length ≤ Kd.levs ks + 1 ∧ D.soks p = true ∧ D.deps p = 0 ∧ D.nbs p = true
  | [], _, _, h => by simp [Kd.lvss] at h
  | k :: ks, i, p, h => by
    rw [Kd.lvss] at h
    rcases List.mem_append.mp h with h | h
    · obtain ⟨r, hr, rfl⟩ := List.mem_map.mp h
      obtain ⟨h1, h2, h3, h4⟩ := Kd.lvs_item k r hr
      exact ⟨by rw [List.length_cons, Kd.levs]; omega, by rw [D.soks, h2]; rfl, by rw [D.deps, h3]; rfl, by rw [D.nbs, h4]; rfl⟩
    · obtain ⟨h1, h2, h3, h4⟩ := Kd.lvss_item ks (i + 1) p h
      exact ⟨by rw [Kd.levs]; omega, h2, h3, h4⟩
end
theorem D.soks_all : ∀ {ds : List D}, (∀ d, d ∈ ds → d.sok = true) → D.soks ds = true
  | [], _ => rfl
  | d :: ds, h => by rw [D.soks, h d (by simp), D.soks_all fun e he => h e (by simp [he])]; rfl
theorem D.deps_all : ∀ {ds : List D} {n : Nat}, (∀ d, d ∈ ds → d.dep ≤ n) → D.deps ds ≤ n
  | [], _, _ => Nat.zero_le _
  | d :: ds, n, h => by
    rw [D.deps]
    have h1 := h d (by simp)
    have h2 := D.deps_all (ds := ds) (n := n) fun e he => h e (by simp [he])
    omega
theorem D.nbs_all : ∀ {ds : List D}, (∀ d, d ∈ ds → d.nb = true) → D.nbs ds = true
  | [], _ => rfl
  | d :: ds, h => by rw [D.nbs, h d (by simp), D.nbs_all fun e he => h e (by simp [he])]; rfl
/-- the leaves of a kind as data -/
theorem Kd.lvs_ok (k : Kd) : (D.tup (k.lvs.map .tup)).sok = true ∧ (D.tup (k.lvs.map .tup)).dep ≤ 2 ∧ (D.tup (k.lvs.map .tup)).nb = true := by
  have g : ∀ d, d ∈ k.lvs.map D.tup → d.sok = true ∧ d.dep ≤ 1 ∧ d.nb = true := fun d hd => by
    obtain ⟨p, hp, rfl⟩ := List.mem_map.mp hd
    obtain ⟨_, h2, h3, h4⟩ := Kd.lvs_item k p hp
    exact ⟨h2, by rw [D.dep, h3]; exact Nat.le_refl _, h4⟩
  exact ⟨D.soks_all fun d hd => (g d hd).1, Nat.succ_le_succ (D.deps_all fun d hd => (g d hd).2.1), D.nbs_all fun d hd => (g d hd).2.2⟩
theorem Kd.ds_at {ks : List Kd} {i : Nat} {k : Kd} (h : ks[i]? = some k) : (Kd.ds ks)[i]? = some k.d := by
  rw [Kd.ds_map, List.getElem?_map, h]
  rfl

section
variable {K : PySem.W.Frag}
def sp_is_plain (K : PySem.W.Frag) (n : Nat) : Sp := fun vs H Q _ => ∃ (v : V) (k : Kd), vs = [v] ∧ Rp K H v k.d ∧ k.lev ≤ n ∧ ∀ H', Ext [] H H' → Q (.bl k.plain) H'
def sp_is_copy (K : PySem.W.Frag) (n : Nat) : Sp := fun vs H Q _ => ∃ (v : V) (k : Kd), vs = [v] ∧ Rp K H v k.d ∧ k.lev ≤ n ∧ ∀ H', Ext [] H H' → Q (.bl k.copy) H'
def sp_levels (K : PySem.W.Frag) (n : Nat) : Sp := fun vs H Q _ => ∃ (v : V) (k : Kd), vs = [v] ∧ Rp K H v k.d ∧ k.lev ≤ n ∧ k.good = true ∧ ∀ H', Ext [] H H' → Q (.int (k.lev : Int)) H'
def sp_leaves (K : PySem.W.Frag) (n : Nat) : Sp := fun vs H Q _ => ∃ (v : V) (k : Kd), vs = [v] ∧ Rp K H v k.d ∧ k.lev ≤ n ∧ n ≤ 6 ∧ k.good = true ∧ ∀ u H', Ext [] H H' → Rp K H' u (.tup (k.lvs.map .tup)) → Q u H'
def sp_l_cells (K : PySem.W.Frag) (n : Nat) : Sp := fun vs H Q _ => ∃ (v : V) (k : Kd), vs = [v] ∧ Rp K H v k.d ∧ k.lev ≤ n ∧ k.good = true ∧ ∀ i H', Ext [] H H' → Q (.int i) H'
def sp_l_fitting (K : PySem.W.Frag) : Sp := fun vs H Q _ => ∃ (p : Addr) (m : Int) (xs : List V) (ks : List Kd), vs = [.ref p, .int m] ∧ H p = some (.lst xs) ∧ RpAll K H xs (Kd.ds ks) ∧ ks.length ≤ 6 ∧ (∀ k, k ∈ ks → k.lev ≤ 6 ∧ k.good = true) ∧
  ∀ u H' ks', Ext [] H H' → Rp K H' u (.tup (Kd.ds ks')) → ks'.length = ks.length → (∀ k, k ∈ ks' → k ∈ ks ∨ k = .int) → Q u H'
def sp_l_kind (K : PySem.W.Frag) (n : Nat) : Sp := fun vs H Q _ => ∃ (t nn : Addr) (d : Int) (pl : Bool), vs = [.ref t, .int d, .bl pl] ∧ Tape H t nn ∧ 1 ≤ d ∧ d ≤ (n : Int) ∧ n ≤ 6 ∧
  ∀ u H' (k : Kd), Ext [t] H H' → Tape H' t nn → Rp K H' u k.d → (k.lev : Int) ≤ d → k.good = true → Q u H'
def sp_l_plain (K : PySem.W.Frag) (n : Nat) : Sp := fun vs H Q _ => ∃ (v : V) (k : Kd), vs = [v] ∧ Rp K H v k.d ∧ k.lev ≤ n ∧ k.good = true ∧ ∀ H', Ext [] H H' → Q (.bl k.plain) H'
def sp_l_copy (K : PySem.W.Frag) (n : Nat) : Sp := fun vs H Q _ => ∃ (v : V) (k : Kd), vs = [v] ∧ Rp K H v k.d ∧ k.lev ≤ n ∧ k.good = true ∧ ∀ H', Ext [] H H' → Q (.bl k.copy) H'
abbrev sp_l_levels := sp_levels
def sp_l_leaves (K : PySem.W.Frag) (n : Nat) : Sp := fun vs H Q _ => ∃ (v : V) (k : Kd), vs = [v] ∧ Rp K H v k.d ∧ k.lev ≤ n ∧ n ≤ 6 ∧ k.good = true ∧ ∀ p xs H', Ext [] H H' → H p = none → H' p = some (.lst xs) → RpAll K H' xs (k.lvs.map .tup) → Q (.ref p) H'
def sp_l_is (_ : PySem.W.Frag) : Sp := fun vs H Q _ => ∃ a b : Bool, vs = [.bl a, .bl b] ∧ Q (.bl (decide (a = b))) H
def sp_law (K : PySem.W.Frag) : Sp := fun vs H Q _ => ∃ (a : Addr) (ns : List Int), vs = [.ref a] ∧ SqL K H a (ns.map V.int) ∧ ns.length ≤ 63 ∧ ∀ H', Q (.bl true) H'
end

def t_is_plain (K : PySem.W.Frag) (n : Nat) : TS :=
  (tSeqJ (tIfS (tTest (tOp (rIn K false) (tOp (rIx K) (tVar 0) (tC (.int 0))) (tConst K c_LEAVES))) (tRet (tC (.bl false))) tNext)
    (tSeqJ (tIfS (tOr (tTest (tOp (rEqG K) (tOp (rIx K) (tVar 0) (tC (.int 0))) (tC (.str "box")))) (tTest (tOp (rEqG K) (tOp (rIx K) (tVar 0) (tC (.int 0))) (tC (.str "maybe"))))) (tRet (tCall (sp_is_plain K n) [] E0 (tCons (tOp (rIx K) (tVar 0) (tC (.int 1))) tNil))) tNext)
    (tSeqJ (tIfS (tTest (tOp (rEqG K) (tOp (rIx K) (tVar 0) (tC (.int 0))) (tC (.str "tuple")))) (tFor (iTup K (tOp (rIx K) (tVar 0) (tC (.int 1)))) (gName 1) (tIfS (tNot (tB (tCall (sp_is_plain K n) [] E0 (tCons (tVar 1) tNil)))) (tRet (tC (.bl false))) tNext)) tNext)
    (tRet (tC (.bl true))))))
def t_is_copy (K : PySem.W.Frag) (n : Nat) : TS :=
  (tSeqJ (tIfS (tTest (tOp (rEqG K) (tOp (rIx K) (tVar 0) (tC (.int 0))) (tC (.str "maybe")))) (tRet (tCall (sp_is_copy K n) [] E0 (tCons (tOp (rIx K) (tVar 0) (tC (.int 1))) tNil))) tNext)
    (tSeqJ (tIfS (tTest (tOp (rEqG K) (tOp (rIx K) (tVar 0) (tC (.int 0))) (tC (.str "tuple")))) (tSeqJ (tFor (iTup K (tOp (rIx K) (tVar 0) (tC (.int 1)))) (gName 1) (tIfS (tNot (tB (tCall (sp_is_copy K n) [] E0 (tCons (tVar 1) tNil)))) (tRet (tC (.bl false))) tNext))
    (tRet (tC (.bl true)))) tNext)
    (tRet (tOp (rIn K false) (tOp (rIx K) (tVar 0) (tC (.int 0))) (tTupK K (tCons (tC (.str "int")) (tCons (tC (.str "bool")) (tCons (tC (.str "unit")) (tCons (tC (.str "shared")) tNil)))))))))
def t_levels (K : PySem.W.Frag) (n : Nat) : TS :=
  (tSeqJ (tIfS (tTest (tOp (rIn K false) (tOp (rIx K) (tVar 0) (tC (.int 0))) (tTupK K (tCons (tC (.str "box")) (tCons (tC (.str "maybe")) (tCons (tC (.str "shared")) (tCons (tC (.str "exclusive")) (tCons (tC (.str "task")) tNil)))))))) (tRet (tOp (rAddG K) (tC (.int 1)) (tCall (sp_levels K n) [] E0 (tCons (tOp (rIx K) (tVar 0) (tC (.int 1))) tNil)))) tNext)
    (tSeqJ (tIfS (tTest (tOp (rEqG K) (tOp (rIx K) (tVar 0) (tC (.int 0))) (tC (.str "tuple")))) (tRet (tOp (rAddG K) (tC (.int 1)) (tCB (rMax K) (tCons (tLc (iTup K (tOp (rIx K) (tVar 0) (tC (.int 1)))) (gName 1) tYes (tCall (sp_levels K n) [] E0 (tCons (tVar 1) tNil)) [1]) tNil)))) tNext)
    (tRet (tC (.int 1)))))
def t_leaves (K : PySem.W.Frag) (n : Nat) : TS :=
  (tSeqJ (tIfS (tTest (tOp (rIn K false) (tOp (rIx K) (tVar 0) (tC (.int 0))) (tConst K c_LEAVES))) (tRet (tTupK K (tCons (tTupK K tNil) tNil))) tNext)
    (tSeqJ (tAsg (tLst tNil) (gName 1))
    (tSeqJ (tIfS (tTest (tOp (rEqG K) (tOp (rIx K) (tVar 0) (tC (.int 0))) (tC (.str "maybe")))) (tFor (iTup K (tCall (sp_leaves K n) [] E0 (tCons (tOp (rIx K) (tVar 0) (tC (.int 1))) tNil))) (gName 2) (tDrop (tBM K "list" rAppend (tVar 1) (tCons (tOp (rAddG K) (tTupK K (tCons (tC (.str "?")) tNil)) (tVar 2)) tNil)))) tNext)
    (tSeqJ (tIfS (tTest (tOp (rEqG K) (tOp (rIx K) (tVar 0) (tC (.int 0))) (tC (.str "tuple")))) (tFor (iEnumT K (tCons (tOp (rIx K) (tVar 0) (tC (.int 1))) tNil)) (gTup K 2 (gCons (gName 3) (gCons (gName 4) gNil))) (tFor (iTup K (tCall (sp_leaves K n) [] E0 (tCons (tVar 4) tNil))) (gName 2) (tDrop (tBM K "list" rAppend (tVar 1) (tCons (tOp (rAddG K) (tTupK K (tCons (tVar 3) tNil)) (tVar 2)) tNil))))) tNext)
    (tRet (tCB (rTupOf K) (tCons (tVar 1) tNil)))))))
def t_l_tape (K : PySem.W.Frag) : TS :=
  (tSeqJ (tAsg (tLst tNil) (gName 1))
    (tSeqJ (tAsg (tC (.int 1)) (gName 2))
    (tSeqJ (tFor (iList K (tSl (rSlG K) (tVar 0) tNoPart (tPart (tC (.int 63))))) (gName 3) (tSeqJ (tAsg (tCB rAbs (tCons (tCB rInt1 (tCons (tVar 3) tNil)) tNil)) (gName 4))
    (tSeqJ (tAsg (tOp (rAddG K) (tVar 2) (tVar 4)) (gName 2))
    (tFor (iRng1 (tCons (tC (.int 24)) tNil)) (gName 5) (tSeqJ (tDrop (tBM K "list" rAppend (tVar 1) (tCons (tOp rModI (tCB rInt1 (tCons (tVar 4) tNil)) (tC (.int 60))) tNil)))
    (tSeqJ (tAsg (tOp rDivI (tVar 4) (tC (.int 60))) (gName 4))
    (tIfS (tTest (tOp (rEqG K) (tVar 4) (tC (.int 0)))) tBreak tNext)))))))
    (tRet (tLst (tCons (tC (.int 0)) (tCons (tVar 1) (tCons (tOp rModI (tCB rInt1 (tCons (tVar 2) tNil)) (tC (.int 1000003))) tNil))))))))
def t_l_next (K : PySem.W.Frag) : TS :=
  (tSeqJ (tAsg (tOp (rIx K) (tVar 0) (tC (.int 0))) (gName 2))
    (tSeqJ (tAsg (tOp (rAddG K) (tVar 2) (tC (.int 1))) (gSub (tVar 0) (tC (.int 0)) rSetL))
    (tSeqJ (tIfS (tTest (tOp rLtI (tVar 2) (tCB (rLen K) (tCons (tOp (rIx K) (tVar 0) (tC (.int 1))) tNil)))) (tRet (tOp rModI (tCB rInt1 (tCons (tOp (rIx K) (tOp (rIx K) (tVar 0) (tC (.int 1))) (tVar 2)) tNil)) (tVar 1))) tNext)
    (tRet (tOp rModI (tOp rDivI (tOp rModI (tCB rInt1 (tCons (tOp (rAddG K) (tOp rMulI (tOp (rAddG K) (tVar 2) (tC (.int 1))) (tC (.int 48271))) (tOp rMulI (tOp (rIx K) (tVar 0) (tC (.int 2))) (tC (.int 69621)))) tNil)) (tC (.int 2147483647))) (tC (.int 11))) (tVar 1))))))
def t_l_cells (K : PySem.W.Frag) (n : Nat) : TS :=
  (tSeqJ (tIfS (tTest (tOp (rEqG K) (tOp (rIx K) (tVar 0) (tC (.int 0))) (tC (.str "maybe")))) (tRet (tOp (rAddG K) (tC (.int 1)) (tCall (sp_l_cells K n) [] E0 (tCons (tOp (rIx K) (tVar 0) (tC (.int 1))) tNil)))) tNext)
    (tSeqJ (tIfS (tTest (tOp (rEqG K) (tOp (rIx K) (tVar 0) (tC (.int 0))) (tC (.str "tuple")))) (tRet (tCB (rSum K) (tCons (tLc (iTup K (tOp (rIx K) (tVar 0) (tC (.int 1)))) (gName 1) tYes (tCall (sp_l_cells K n) [] E0 (tCons (tVar 1) tNil)) [1]) tNil))) tNext)
    (tRet (tIf (tTest (tOp (rEqG K) (tOp (rIx K) (tVar 0) (tC (.int 0))) (tC (.str "record")))) (tC (.int 3)) (tC (.int 1))))))
def t_l_fitting (K : PySem.W.Frag) : TS :=
  (tSeqJ (tAsg (tLst tNil) (gName 2))
    (tSeqJ (tAsg (tC (.int 0)) (gName 3))
    (tSeqJ (tFor (iRng1 (tCons (tCB (rLen K) (tCons (tVar 0) tNil)) tNil)) (gName 4) (tSeqJ (tAsg (tOp (rIx K) (tVar 0) (tVar 4)) (gName 5))
    (tSeqJ (tIfS (tTest (tOp rGtI (tOp rSubI (tOp rSubI (tOp (rAddG K) (tOp (rAddG K) (tVar 3) (tCall (sp_l_cells K 6) [] E0 (tCons (tVar 5) tNil))) (tCB (rLen K) (tCons (tVar 0) tNil))) (tC (.int 1))) (tVar 4)) (tVar 1))) (tAsg (tTupK K (tCons (tC (.str "int")) tNil)) (gName 5)) tNext)
    (tSeqJ (tAsg (tOp (rAddG K) (tVar 3) (tCall (sp_l_cells K 6) [] E0 (tCons (tVar 5) tNil))) (gName 3))
    (tDrop (tBM K "list" rAppend (tVar 2) (tCons (tVar 5) tNil)))))))
    (tRet (tCB (rTupOf K) (tCons (tVar 2) tNil))))))
def t_l_kind (K : PySem.W.Frag) (n : Nat) : TS :=
  (tSeqJ (tAsg (tCall (sp_l_next K) [] E0 (tCons (tVar 0) (tCons (tC (.int 11)) tNil))) (gName 3))
    (tSeqJ (tIfS (tOr (tTest (tOp rLeI (tVar 1) (tC (.int 1)))) (tTest (tOp rLtI (tVar 3) (tC (.int 3))))) (tRet (tOp (rIx K) (tLst (tCons (tTupK K (tCons (tC (.str "int")) tNil)) (tCons (tTupK K (tCons (tC (.str "bool")) tNil)) (tCons (tTupK K (tCons (tC (.str "unit")) tNil)) (tCons (tTupK K (tCons (tC (.str "record")) (tCons (tC (.str "Node")) tNil))) tNil))))) (tCall (sp_l_next K) [] E0 (tCons (tVar 0) (tCons (tC (.int 4)) tNil))))) tNext)
    (tSeqJ (tIfS (tTest (tOp (rEqG K) (tVar 3) (tC (.int 3)))) (tRet (tTupK K (tCons (tC (.str "box")) (tCons (tCall (sp_l_kind K n) [] E0 (tCons (tVar 0) (tCons (tOp rSubI (tVar 1) (tC (.int 1))) (tCons (tC (.bl true)) tNil)))) tNil)))) tNext)
    (tSeqJ (tIfS (tTest (tOp (rEqG K) (tVar 3) (tC (.int 4)))) (tRet (tOp (rAddG K) (tTupK K (tCons (tC (.str "maybe")) tNil)) (tCall (sp_l_fitting K) [] E0 (tCons (tLst (tCons (tCall (sp_l_kind K n) [] E0 (tCons (tVar 0) (tCons (tOp rSubI (tVar 1) (tC (.int 1))) (tCons (tVar 2) tNil)))) tNil)) (tCons (tC (.int 59)) tNil))))) tNext)
    (tSeqJ (tIfS (tOr (tTest (tOp rLtI (tVar 3) (tC (.int 8)))) (tB (tVar 2))) (tSeqJ (tAsg (tOp (rAddG K) (tC (.int 2)) (tCall (sp_l_next K) [] E0 (tCons (tVar 0) (tCons (tC (.int 5)) tNil)))) (gName 4))
    (tRet (tTupK K (tCons (tC (.str "tuple")) (tCons (tCall (sp_l_fitting K) [] E0 (tCons (tLc (iRng1 (tCons (tVar 4) tNil)) (gName 5) tYes (tCall (sp_l_kind K n) [] E0 (tCons (tVar 0) (tCons (tOp rSubI (tVar 1) (tC (.int 1))) (tCons (tVar 2) tNil)))) [5]) (tCons (tC (.int 60)) tNil))) tNil))))) tNext)
    (tRet (tTupK K (tCons (tOp (rIx K) (tLst (tCons (tC (.str "shared")) (tCons (tC (.str "exclusive")) (tCons (tC (.str "task")) tNil)))) (tOp rSubI (tVar 3) (tC (.int 8)))) (tCons (tCall (sp_l_kind K n) [] E0 (tCons (tVar 0) (tCons (tOp rSubI (tVar 1) (tC (.int 1))) (tCons (tC (.bl true)) tNil)))) tNil)))))))))
def t_l_plain (K : PySem.W.Frag) (n : Nat) : TS :=
  (tSeqJ (tIfS (tTest (tOp (rIn K false) (tOp (rIx K) (tVar 0) (tC (.int 0))) (tLst (tCons (tC (.str "shared")) (tCons (tC (.str "exclusive")) (tCons (tC (.str "task")) tNil)))))) (tRet (tC (.bl false))) tNext)
    (tSeqJ (tIfS (tTest (tOp (rIn K false) (tOp (rIx K) (tVar 0) (tC (.int 0))) (tLst (tCons (tC (.str "box")) (tCons (tC (.str "maybe")) tNil))))) (tRet (tCall (sp_l_plain K n) [] E0 (tCons (tOp (rIx K) (tVar 0) (tC (.int 1))) tNil))) tNext)
    (tSeqJ (tIfS (tTest (tOp (rEqG K) (tOp (rIx K) (tVar 0) (tC (.int 0))) (tC (.str "tuple")))) (tRet (tOp (rEqG K) (tCB (rLen K) (tCons (tLc (iTup K (tOp (rIx K) (tVar 0) (tC (.int 1)))) (gName 1) (tNot (tB (tCall (sp_l_plain K n) [] E0 (tCons (tVar 1) tNil)))) (tVar 1) [1]) tNil)) (tC (.int 0)))) tNext)
    (tRet (tC (.bl true))))))
def t_l_copy (K : PySem.W.Frag) (n : Nat) : TS :=
  (tSeqJ (tIfS (tTest (tOp (rEqG K) (tOp (rIx K) (tVar 0) (tC (.int 0))) (tC (.str "maybe")))) (tRet (tCall (sp_l_copy K n) [] E0 (tCons (tOp (rIx K) (tVar 0) (tC (.int 1))) tNil))) tNext)
    (tSeqJ (tIfS (tTest (tOp (rEqG K) (tOp (rIx K) (tVar 0) (tC (.int 0))) (tC (.str "tuple")))) (tRet (tOp (rEqG K) (tCB (rLen K) (tCons (tLc (iTup K (tOp (rIx K) (tVar 0) (tC (.int 1)))) (gName 1) (tNot (tB (tCall (sp_l_copy K n) [] E0 (tCons (tVar 1) tNil)))) (tVar 1) [1]) tNil)) (tC (.int 0)))) tNext)
    (tRet (tOp (rIn K false) (tOp (rIx K) (tVar 0) (tC (.int 0))) (tLst (tCons (tC (.str "int")) (tCons (tC (.str "bool")) (tCons (tC (.str "unit")) (tCons (tC (.str "shared")) tNil)))))))))
def t_l_levels (K : PySem.W.Frag) (n : Nat) : TS :=
  (tSeqJ (tIfS (tTest (tOp (rEqG K) (tOp (rIx K) (tVar 0) (tC (.int 0))) (tC (.str "tuple")))) (tRet (tOp (rAddG K) (tC (.int 1)) (tCB (rMax K) (tCons (tLc (iTup K (tOp (rIx K) (tVar 0) (tC (.int 1)))) (gName 1) tYes (tCall (sp_l_levels K n) [] E0 (tCons (tVar 1) tNil)) [1]) tNil)))) tNext)
    (tSeqJ (tIfS (tTest (tOp (rIn K false) (tOp (rIx K) (tVar 0) (tC (.int 0))) (tLst (tCons (tC (.str "box")) (tCons (tC (.str "maybe")) (tCons (tC (.str "shared")) (tCons (tC (.str "exclusive")) (tCons (tC (.str "task")) tNil)))))))) (tRet (tOp (rAddG K) (tC (.int 1)) (tCall (sp_l_levels K n) [] E0 (tCons (tOp (rIx K) (tVar 0) (tC (.int 1))) tNil)))) tNext)
    (tRet (tC (.int 1)))))
def t_l_leaves (K : PySem.W.Frag) (n : Nat) : TS :=
  (tSeqJ (tIfS (tTest (tOp (rIn K false) (tOp (rIx K) (tVar 0) (tC (.int 0))) (tLst (tCons (tC (.str "shared")) (tCons (tC (.str "exclusive")) (tCons (tC (.str "task")) tNil)))))) (tRet (tLst (tCons (tTupK K tNil) tNil))) tNext)
    (tSeqJ (tAsg (tLst tNil) (gName 1))
    (tSeqJ (tIfS (tTest (tOp (rEqG K) (tOp (rIx K) (tVar 0) (tC (.int 0))) (tC (.str "maybe")))) (tAsg (tLc (iList K (tCall (sp_l_leaves K n) [] E0 (tCons (tOp (rIx K) (tVar 0) (tC (.int 1))) tNil))) (gName 2) tYes (tOp (rAddG K) (tTupK K (tCons (tC (.str "?")) tNil)) (tVar 2)) [2]) (gName 1)) tNext)
    (tSeqJ (tIfS (tTest (tOp (rEqG K) (tOp (rIx K) (tVar 0) (tC (.int 0))) (tC (.str "tuple")))) (tFor (iRng1 (tCons (tCB (rLen K) (tCons (tOp (rIx K) (tVar 0) (tC (.int 1))) tNil)) tNil)) (gName 3) (tAsg (tOp (rAddG K) (tVar 1) (tLc (iList K (tCall (sp_l_leaves K n) [] E0 (tCons (tOp (rIx K) (tOp (rIx K) (tVar 0) (tC (.int 1))) (tVar 3)) tNil))) (gName 2) tYes (tOp (rAddG K) (tTupK K (tCons (tVar 3) tNil)) (tVar 2)) [2])) (gName 1))) tNext)
    (tRet (tVar 1))))))
def t_l_is (K : PySem.W.Frag) : TS :=
  (tRet (tIf (tB (tVar 1)) (tOp rIsB (tVar 0) (tC (.bl true))) (tOp rIsB (tVar 0) (tC (.bl false)))))
def t_law (K : PySem.W.Frag) : TS :=
  (tSeqJ (tAsg (tCall (sp_l_tape K) [] E0 (tCons (tVar 0) tNil)) (gName 1))
    (tSeqJ (tFor (iRng1 (tCons (tC (.int 3)) tNil)) (gName 2) (tSeqJ (tAsg (tCall (sp_l_kind K 6) [] E0 (tCons (tVar 1) (tCons (tC (.int 6)) (tCons (tC (.bl false)) tNil)))) (gName 3))
    (tSeqJ (tIfS (tOr (tNot (tB (tCall (sp_l_is K) [] E0 (tCons (tCall (sp_is_plain K 6) [] E0 (tCons (tVar 3) tNil)) (tCons (tCall (sp_l_plain K 6) [] E0 (tCons (tVar 3) tNil)) tNil))))) (tNot (tB (tCall (sp_l_is K) [] E0 (tCons (tCall (sp_is_copy K 6) [] E0 (tCons (tVar 3) tNil)) (tCons (tCall (sp_l_copy K 6) [] E0 (tCons (tVar 3) tNil)) tNil)))))) (tRet (tC (.bl false))) tNext)
    (tIfS (tOr (tTest (tOp (rNeG K) (tCall (sp_levels K 6) [] E0 (tCons (tVar 3) tNil)) (tCall (sp_l_levels K 6) [] E0 (tCons (tVar 3) tNil)))) (tTest (tOp (rNeG K) (tCall (sp_leaves K 6) [] E0 (tCons (tVar 3) tNil)) (tCB (rTupOf K) (tCons (tCall (sp_l_leaves K 6) [] E0 (tCons (tVar 3) tNil)) tNil))))) (tRet (tC (.bl false))) tNext))))
    (tRet (tC (.bl true)))))

section
variable {K : PySem.W.Frag}
abbrev bd (Q : VK) : Ends := { nx := fun _ H' => Q .non H', rt := Q }
theorem line_of {n : Nat} (h : n ≤ 100000) : n < sizeLine := Nat.lt_of_le_of_lt h (by decide)
theorem pure_l_next (vs : List V) (H : Hp) (Q : VK) (E : XK) (h : sp_l_next K vs H Q E) : t_l_next K (bd Q) (start N_l_next vs) H := by
  obtain ⟨t, n, m, rfl, T, hm, k⟩ := h
  have hn := T.apart
  obtain ⟨at_, tot, ns, e1, e2, e3⟩ := T
  show t_l_next K (bd Q) [some (.ref t), some (.int m), none] H
  unfold t_l_next
  walk_at "go"
  rename_i H1 x1 l1
  have l2 := x1.keep n _ e2 (by simpa using hn)
  have T1 : Tape H1 t n := ⟨at_ + 1, tot, ns, l1, l2, by omega⟩
  rw [List.length_map]
  refine w_iteD (fun c => ?_) (fun c => ?_)
  · obtain ⟨z, hz, ez⟩ := atI_int e3 c
    walk_at "go"
    refine x_l l2 ez ?_
    walk_at "go"
    exact k _ _ (Int.emod_nonneg _ (by omega)) (Int.emod_lt_of_pos _ hm) x1 T1
  · walk_at "go"
    exact k _ _ (Int.emod_nonneg _ (by omega)) (Int.emod_lt_of_pos _ hm) x1 T1
theorem pure_l_tape (vs : List V) (H : Hp) (Q : VK) (E : XK) (h : sp_l_tape K vs H Q E) : t_l_tape K (bd Q) (start N_l_tape vs) H := by
  obtain ⟨a, ns, rfl, hS, k⟩ := h
  show t_l_tape K (bd Q) [some (.ref a), none, none, none, none, none] H
  unfold t_l_tape
  walk_at "go"
  refine w_newL (by walk_at "len") (fun p H1 hp x1 e1 => ?_)
  walk_at "go"
  refine s_L (x1.same.seq hS) (fun q H2 hq x2 e2 => ?_)
  have hqp : q ≠ p := (ne_of_none e1 hq).symm
  obtain ⟨ks, ek, lk⟩ : ∃ ks : List Int, cutD (ns.map V.int) none (some 63) = ks.map V.int ∧ ks.length ≤ 63 := by
    refine ⟨ns.take 63, ?_, by simp; omega⟩
    rw [cut_to _ (by omega)]
    simp
  rw [ek] at e2
  refine w_exl (SqL.of e2) ?_
  have hq0 := x1.free hq (by simp)
  refine f_lst (xs := ks.map V.int) (fun i σ H' => ∃ (ms : List Int) (tot : Int) (v3 v4 v5 : Option V), σ = [some (.ref a), some (.ref p), some (.int tot), v3, v4, v5] ∧ Ext [] H H' ∧ H' p = some (.lst (ms.map V.int)) ∧ H' q = some (.lst (ks.map V.int)) ∧ ms.length ≤ 24 * i) ?_ ?_ ?_ ?_
  · exact ⟨[], 1, none, none, none, rfl, x1.trans x2, x2.same _ _ e1, e2, by simp⟩
  · rintro i σ H' _ ⟨ms, tot, v3, v4, v5, rfl, x, ep, eq, l⟩
    exact SqL.of eq
  · rintro i v σ H' hi ⟨ms, tot, v3, v4, v5, rfl, x, ep, eq, l⟩
    obtain ⟨z, rfl⟩ : ∃ z, v = V.int z := by
      rw [List.getElem?_map] at hi
      obtain ⟨z, _, e⟩ := Option.map_eq_some_iff.mp hi
      exact ⟨z, e.symm⟩
    have hi2 : i < ks.length := by
      have := (List.getElem?_eq_some_iff.mp hi).1
      simpa using this
    walk_at "go"
    refine f_rng (fun j σ H'' => ∃ (ms : List Int) (tot rest : Int) (v3 v5 : Option V), σ = [some (.ref a), some (.ref p), some (.int tot), v3, some (.int rest), v5] ∧ Ext [] H H'' ∧ H'' p = some (.lst (ms.map V.int)) ∧ H'' q = some (.lst (ks.map V.int)) ∧ ms.length ≤ 24 * i + j) ?_ ?_ ?_
    · exact ⟨ms, _, _, _, _, rfl, x, ep, eq, by omega⟩
    · rintro j σ H3 hj ⟨ms, tot, rest, v3, v5, rfl, x, ep, eq, l⟩
      walk_at "go"
      refine ⟨ty_l ep, ?_⟩
      walk_at "go"
      refine m_app ep (line_of (by rw [List.length_map]; omega)) (fun H4 x4 e4 => ?_)
      have e4' : H4 p = some (.lst ((ms ++ [rest % 60]).map V.int)) := by rw [List.map_append]; exact e4
      have eq4 := x4.keep q _ eq (by simpa using hqp)
      have xx : Ext [] H H4 := x.out hp x4
      walk_at "go"
      refine w_iteD (fun c => ?_) (fun c => ?_)
      · walk_at "go"
        exact ⟨_, _, _, _, _, rfl, xx, e4', eq4, by rw [List.length_append]; simp; omega⟩
      · walk_at "go"
        exact ⟨_, _, _, _, _, rfl, xx, e4', eq4, by rw [List.length_append]; simp; omega⟩
    · rintro σ H3 ⟨ms, tot, rest, v3, v5, rfl, x, ep, eq, l⟩
      exact ⟨_, _, _, _, _, rfl, x, ep, eq, by omega⟩
  · rintro σ H3 ⟨ms, tot, v3, v4, v5, rfl, x, ep, eq, l⟩
    walk_at "go"
    refine w_newL (by walk_at "len") (fun t H4 ht x4 e4 => ?_)
    exact k t p H4 (x.trans x4) (x.free ht (by simp)) ⟨0, _, ms, e4, x4.same _ _ ep, by omega⟩
end

section
variable {K : PySem.W.Frag}
theorem no_is_plain (vs : List V) (H : Hp) (Q : VK) (E : XK) : ¬ sp_is_plain K 0 vs H Q E := by
  rintro ⟨v, k, _, _, h, _⟩
  have := k.lev_pos
  omega
theorem no_is_copy (vs : List V) (H : Hp) (Q : VK) (E : XK) : ¬ sp_is_copy K 0 vs H Q E := by
  rintro ⟨v, k, _, _, h, _⟩
  have := k.lev_pos
  omega
theorem no_levels (vs : List V) (H : Hp) (Q : VK) (E : XK) : ¬ sp_levels K 0 vs H Q E := by
  rintro ⟨v, k, _, _, h, _⟩
  have := k.lev_pos
  omega
theorem no_leaves (vs : List V) (H : Hp) (Q : VK) (E : XK) : ¬ sp_leaves K 0 vs H Q E := by
  rintro ⟨v, k, _, _, h, _⟩
  have := k.lev_pos
  omega
theorem no_l_cells (vs : List V) (H : Hp) (Q : VK) (E : XK) : ¬ sp_l_cells K 0 vs H Q E := by
  rintro ⟨v, k, _, _, h, _⟩
  have := k.lev_pos
  omega
theorem no_l_plain (vs : List V) (H : Hp) (Q : VK) (E : XK) : ¬ sp_l_plain K 0 vs H Q E := by
  rintro ⟨v, k, _, _, h, _⟩
  have := k.lev_pos
  omega
theorem no_l_copy (vs : List V) (H : Hp) (Q : VK) (E : XK) : ¬ sp_l_copy K 0 vs H Q E := by
  rintro ⟨v, k, _, _, h, _⟩
  have := k.lev_pos
  omega
theorem no_l_levels (vs : List V) (H : Hp) (Q : VK) (E : XK) : ¬ sp_l_levels K 0 vs H Q E := no_levels vs H Q E
theorem no_l_leaves (vs : List V) (H : Hp) (Q : VK) (E : XK) : ¬ sp_l_leaves K 0 vs H Q E := by
  rintro ⟨v, k, _, _, h, _⟩
  have := k.lev_pos
  omega
theorem no_l_kind (vs : List V) (H : Hp) (Q : VK) (E : XK) : ¬ sp_l_kind K 0 vs H Q E := by
  rintro ⟨t, nn, d, pl, _, _, h1, h2, _⟩
  omega
theorem pure_is_plain (n : Nat) (vs : List V) (H : Hp) (Q : VK) (E : XK) (h : sp_is_plain K (n + 1) vs H Q E) : t_is_plain K n (bd Q) (start N_is_plain vs) H := by
  obtain ⟨v, k, rfl, hv, hl, q⟩ := h
  show t_is_plain K n (bd Q) [some v, none] H
  unfold t_is_plain
  cases k <;> rw [Kd.d] at hv <;> rw [Kd.plain] at q <;> rw [Kd.lev] at hl
  case int => walk_at "go"; exact q _ Ext.refl
  case bool => walk_at "go"; exact q _ Ext.refl
  case unit => walk_at "go"; exact q _ Ext.refl
  case recd => walk_at "go"; exact q _ Ext.refl
  case shared => walk_at "go"; exact q _ Ext.refl
  case excl => walk_at "go"; exact q _ Ext.refl
  case task => walk_at "go"; exact q _ Ext.refl
  case box k => walk_at "go"; exact ⟨_, k, rfl, by walk_at "rp", by omega, q⟩
  case maybe k => walk_at "go"; exact ⟨_, k, rfl, by walk_at "rp", by omega, q⟩
  case tuple ks =>
    walk_at "go"
    refine f_tup (ds := Kd.ds ks) (fun i σ H' => ∃ w, σ = [some v, w] ∧ Ext [] H H' ∧ Kd.plains (ks.take i) = true) ⟨none, rfl, Ext.refl, rfl⟩ ?_ ?_ ?_
    · rintro i σ H' _ ⟨w, _, x, _⟩
      walk_at "rp"
    · rintro i d u σ H' hd hu ⟨w, rfl, x, hp⟩
      obtain ⟨k, hk, rfl⟩ := Kd.ds_get hd
      have hkl := Kd.lev_mem (List.mem_of_getElem? hk)
      walk_at "go"
      refine ⟨_, k, rfl, hu, by omega, fun H2 x2 => ?_⟩
      walk_at "go"
      refine w_ite (fun c => ?_) (fun c => ?_)
      · walk_at "go"
        have := q H2 (x.trans x2)
        rw [Kd.plains_false hk (by simpa using c)] at this
        exact this
      · walk_at "go"
        exact ⟨_, rfl, x.trans x2, by rw [Kd.plains_take hk, hp]; simpa using c⟩
    · rintro σ H' ⟨w, rfl, x, hp⟩
      walk_at "go"
      rw [Kd.ds_length, List.take_length] at hp
      have := q H' x
      rw [hp] at this
      exact this
theorem pure_is_copy (n : Nat) (vs : List V) (H : Hp) (Q : VK) (E : XK) (h : sp_is_copy K (n + 1) vs H Q E) : t_is_copy K n (bd Q) (start N_is_copy vs) H := by
  obtain ⟨v, k, rfl, hv, hl, q⟩ := h
  show t_is_copy K n (bd Q) [some v, none] H
  unfold t_is_copy
  cases k <;> rw [Kd.d] at hv <;> rw [Kd.copy] at q <;> rw [Kd.lev] at hl
  case tuple ks =>
    walk_at "go"
    refine f_tup (ds := Kd.ds ks) (fun i σ H' => ∃ w, σ = [some v, w] ∧ Ext [] H H' ∧ Kd.copys (ks.take i) = true) ⟨none, rfl, Ext.refl, rfl⟩ ?_ ?_ ?_
    · rintro i σ H' _ ⟨w, _, x, _⟩
      walk_at "rp"
    · rintro i d u σ H' hd hu ⟨w, rfl, x, hp⟩
      obtain ⟨k, hk, rfl⟩ := Kd.ds_get hd
      have hkl := Kd.lev_mem (List.mem_of_getElem? hk)
      walk_at "go"
      refine ⟨_, k, rfl, hu, by omega, fun H2 x2 => ?_⟩
      walk_at "go"
      refine w_ite (fun c => ?_) (fun c => ?_)
      · walk_at "go"
        have := q H2 (x.trans x2)
        rw [Kd.copys_false hk (by simpa using c)] at this
        exact this
      · walk_at "go"
        exact ⟨_, rfl, x.trans x2, by rw [Kd.copys_take hk, hp]; simpa using c⟩
    · rintro σ H' ⟨w, rfl, x, hp⟩
      walk_at "go"
      rw [Kd.ds_length, List.take_length] at hp
      have := q H' x
      rw [hp] at this
      exact this
  case maybe k => walk_at "go"; exact ⟨_, k, rfl, by walk_at "rp", by omega, q⟩
  all_goals (walk_at "go"; exact q _ (by assumption))
theorem pure_levels (n : Nat) (vs : List V) (H : Hp) (Q : VK) (E : XK) (h : sp_levels K (n + 1) vs H Q E) : t_levels K n (bd Q) (start N_levels vs) H := by
  obtain ⟨v, k, rfl, hv, hl, hg, q⟩ := h
  show t_levels K n (bd Q) [some v, none] H
  unfold t_levels
  cases k <;> rw [Kd.d] at hv <;> rw [Kd.lev] at hl q <;> rw [Kd.good] at hg
  case int => walk_at "go"; exact q _ (by walk_at "ext")
  case bool => walk_at "go"; exact q _ (by walk_at "ext")
  case unit => walk_at "go"; exact q _ (by walk_at "ext")
  case recd => walk_at "go"; exact q _ (by walk_at "ext")
  case tuple ks =>
    simp only [Bool.and_eq_true, decide_eq_true_eq] at hg
    walk_at "go"
    intro L hL
    rename_i H1 x1 a r1
    refine c_tup (ds := Kd.ds ks) (fun i H' acc => Ext [] H1 H' ∧ acc = (ks.take i).map fun k => V.int (k.lev : Int)) hL ?_ ?_ ?_ ?_
    · rintro i H' acc _ ⟨x, _⟩
      walk_at "rp"
    · intro H' e l
      exact ⟨e, rfl⟩
    · rintro i d u H2 acc hd hu e1 e2 ⟨x, rfl⟩
      obtain ⟨k, hk, rfl⟩ := Kd.ds_get hd
      have hkl := Kd.lev_mem (List.mem_of_getElem? hk)
      have hi : i < ks.length := (List.getElem?_eq_some_iff.mp hk).1
      walk_at "go"
      refine ⟨_, k, rfl, hu, by omega, Kd.good_mem hg.2 (List.mem_of_getElem? hk), fun H3 x3 => ?_⟩
      refine turn1 (x3.same _ _ e1) e2 (line_of (by omega)) fun H4 x4 l4 => ⟨(x.trans x3).out hL x4, ?_⟩
      rw [List.take_succ, hk, List.map_append]
      rfl
    · rintro H2 acc e1 ⟨x, rfl⟩
      walk_at "go"
      rw [Kd.ds_length, List.take_length] at e1
      have e1' : H2 L = some (.lst ((ks.map fun k => (k.lev : Int)).map V.int)) := by
        rw [e1, List.map_map]
        rfl
      refine ⟨L, _, rfl, SqL.of e1', by rw [List.length_map]; omega, fun m hm hy => ?_⟩
      rw [Kd.levs_max hm hy]
      walk_at "go"
      have z := q H2 (x1.trans x)
      rw [Int.add_comm]
      exact z
  all_goals
    walk_at "go"
    refine ⟨_, _, rfl, by walk_at "rp", by omega, hg, fun H' x => ?_⟩
    walk_at "go"
    rw [Int.add_comm]
    exact q _ (by walk_at "ext")
theorem pure_l_is (vs : List V) (H : Hp) (Q : VK) (E : XK) (h : sp_l_is K vs H Q E) : t_l_is K (bd Q) (start N_l_is vs) H := by
  obtain ⟨a, b, rfl, k⟩ := h
  show t_l_is K (bd Q) [some (.bl a), some (.bl b)] H
  unfold t_l_is
  walk_at "go"
  cases b
  · refine w_iteF rfl ?_
    walk_at "go"
    exact k
  · refine w_iteT rfl ?_
    walk_at "go"
    exact k
theorem pure_l_levels (n : Nat) (vs : List V) (H : Hp) (Q : VK) (E : XK) (h : sp_l_levels K (n + 1) vs H Q E) : t_l_levels K n (bd Q) (start N_l_levels vs) H := by
  obtain ⟨v, k, rfl, hv, hl, hg, q⟩ := h
  show t_l_levels K n (bd Q) [some v, none] H
  unfold t_l_levels
  cases k <;> rw [Kd.d] at hv <;> rw [Kd.lev] at hl q <;> rw [Kd.good] at hg
  case int => walk_at "go"; exact q _ (by walk_at "ext")
  case bool => walk_at "go"; exact q _ (by walk_at "ext")
  case unit => walk_at "go"; exact q _ (by walk_at "ext")
  case recd => walk_at "go"; exact q _ (by walk_at "ext")
  case tuple ks =>
    simp only [Bool.and_eq_true, decide_eq_true_eq] at hg
    walk_at "go"
    intro L hL
    rename_i a r1
    refine c_tup (ds := Kd.ds ks) (fun i H' acc => Ext [] H H' ∧ acc = (ks.take i).map fun k => V.int (k.lev : Int)) hL ?_ ?_ ?_ ?_
    · rintro i H' acc _ ⟨x, _⟩
      walk_at "rp"
    · intro H' e l
      exact ⟨e, rfl⟩
    · rintro i d u H2 acc hd hu e1 e2 ⟨x, rfl⟩
      obtain ⟨k, hk, rfl⟩ := Kd.ds_get hd
      have hkl := Kd.lev_mem (List.mem_of_getElem? hk)
      have hi : i < ks.length := (List.getElem?_eq_some_iff.mp hk).1
      walk_at "go"
      refine ⟨_, k, rfl, hu, by omega, Kd.good_mem hg.2 (List.mem_of_getElem? hk), fun H3 x3 => ?_⟩
      refine turn1 (x3.same _ _ e1) e2 (line_of (by omega)) fun H4 x4 l4 => ⟨(x.trans x3).out hL x4, ?_⟩
      rw [List.take_succ, hk, List.map_append]
      rfl
    · rintro H2 acc e1 ⟨x, rfl⟩
      walk_at "go"
      rw [Kd.ds_length, List.take_length] at e1
      have e1' : H2 L = some (.lst ((ks.map fun k => (k.lev : Int)).map V.int)) := by
        rw [e1, List.map_map]
        rfl
      refine ⟨L, _, rfl, SqL.of e1', by rw [List.length_map]; omega, fun m hm hy => ?_⟩
      rw [Kd.levs_max hm hy]
      walk_at "go"
      have z := q H2 x
      rw [Int.add_comm]
      exact z
  all_goals
    walk_at "go"
    refine ⟨_, _, rfl, by walk_at "rp", by omega, hg, fun H' x => ?_⟩
    walk_at "go"
    rw [Int.add_comm]
    exact q _ (by walk_at "ext")
end

section
variable {K : PySem.W.Frag}
theorem pure_l_plain (n : Nat) (vs : List V) (H : Hp) (Q : VK) (E : XK) (h : sp_l_plain K (n + 1) vs H Q E) : t_l_plain K n (bd Q) (start N_l_plain vs) H := by
  obtain ⟨v, k, rfl, hv, hl, hg, q⟩ := h
  show t_l_plain K n (bd Q) [some v, none] H
  unfold t_l_plain
  cases k <;> rw [Kd.d] at hv <;> rw [Kd.plain] at q <;> rw [Kd.lev] at hl <;> rw [Kd.good] at hg
  case box k => walk_at "go"; exact ⟨_, k, rfl, by walk_at "rp", by omega, hg, fun H' x => q H' (Ext.trans (by walk_at "ext") x)⟩
  case maybe k => walk_at "go"; exact ⟨_, k, rfl, by walk_at "rp", by omega, hg, fun H' x => q H' (Ext.trans (by walk_at "ext") x)⟩
  case tuple ks =>
    simp only [Bool.and_eq_true, decide_eq_true_eq] at hg
    walk_at "go"
    intro L hL
    rename_i H0 x0 H1 x1 a r1
    refine c_tup (ds := Kd.ds ks) (fun i H' acc => Ext [] H1 H' ∧ Kd.plains (ks.take i) = acc.isEmpty) hL ?_ ?_ ?_ ?_
    · rintro i H' acc _ ⟨x, _⟩
      walk_at "rp"
    · intro H' e l
      exact ⟨e, rfl⟩
    · rintro i d u H2 acc hd hu e1 e2 ⟨x, hp⟩
      obtain ⟨k, hk, rfl⟩ := Kd.ds_get hd
      have hkl := Kd.lev_mem (List.mem_of_getElem? hk)
      have hi : i < ks.length := (List.getElem?_eq_some_iff.mp hk).1
      have hi2 : i < sizeLine := line_of (by omega)
      walk_at "go"
      refine ⟨_, k, rfl, hu, by omega, Kd.good_mem hg.2 (List.mem_of_getElem? hk), fun H3 x3 => ?_⟩
      walk_at "go"
      refine w_ite (fun c => ?_) (fun c => ?_)
      · walk_at "go"
        refine turn1 (x3.same _ _ e1) e2 hi2 fun H4 x4 l4 => ⟨(x.trans x3).out hL x4, ?_⟩
        rw [Kd.plains_take hk, show k.plain = false by simpa using c, Bool.and_false]
        simp
      · refine turn0 (x3.same _ _ e1) e2 ⟨x.trans x3, ?_⟩
        rw [Kd.plains_take hk, hp, show k.plain = true by simpa using c, Bool.and_true]
    · rintro H2 acc e1 ⟨x, hp⟩
      walk_at "go"
      rw [Kd.ds_length, List.take_length] at hp
      have z := q H2 ((x0.trans x1).trans x)
      have e : decide ((acc.length : Int) = 0) = Kd.plains ks := by
        rw [hp]
        cases acc <;> simp <;> omega
      rw [e]
      exact z
  all_goals (walk_at "go"; exact q _ (by walk_at "ext"))
theorem pure_l_copy (n : Nat) (vs : List V) (H : Hp) (Q : VK) (E : XK) (h : sp_l_copy K (n + 1) vs H Q E) : t_l_copy K n (bd Q) (start N_l_copy vs) H := by
  obtain ⟨v, k, rfl, hv, hl, hg, q⟩ := h
  show t_l_copy K n (bd Q) [some v, none] H
  unfold t_l_copy
  cases k <;> rw [Kd.d] at hv <;> rw [Kd.copy] at q <;> rw [Kd.lev] at hl <;> rw [Kd.good] at hg
  case maybe k => walk_at "go"; exact ⟨_, k, rfl, by walk_at "rp", by omega, hg, fun H' x => q H' (Ext.trans (by walk_at "ext") x)⟩
  case tuple ks =>
    simp only [Bool.and_eq_true, decide_eq_true_eq] at hg
    walk_at "go"
    intro L hL
    rename_i a r1
    refine c_tup (ds := Kd.ds ks) (fun i H' acc => Ext [] H H' ∧ Kd.copys (ks.take i) = acc.isEmpty) hL ?_ ?_ ?_ ?_
    · rintro i H' acc _ ⟨x, _⟩
      walk_at "rp"
    · intro H' e l
      exact ⟨e, rfl⟩
    · rintro i d u H2 acc hd hu e1 e2 ⟨x, hp⟩
      obtain ⟨k, hk, rfl⟩ := Kd.ds_get hd
      have hkl := Kd.lev_mem (List.mem_of_getElem? hk)
      have hi : i < ks.length := (List.getElem?_eq_some_iff.mp hk).1
      have hi2 : i < sizeLine := line_of (by omega)
      walk_at "go"
      refine ⟨_, k, rfl, hu, by omega, Kd.good_mem hg.2 (List.mem_of_getElem? hk), fun H3 x3 => ?_⟩
      walk_at "go"
      refine w_ite (fun c => ?_) (fun c => ?_)
      · walk_at "go"
        refine turn1 (x3.same _ _ e1) e2 hi2 fun H4 x4 l4 => ⟨(x.trans x3).out hL x4, ?_⟩
        rw [Kd.copys_take hk, show k.copy = false by simpa using c, Bool.and_false]
        simp
      · refine turn0 (x3.same _ _ e1) e2 ⟨x.trans x3, ?_⟩
        rw [Kd.copys_take hk, hp, show k.copy = true by simpa using c, Bool.and_true]
    · rintro H2 acc e1 ⟨x, hp⟩
      walk_at "go"
      rw [Kd.ds_length, List.take_length] at hp
      have z := q H2 x
      have e : decide ((acc.length : Int) = 0) = Kd.copys ks := by
        rw [hp]
        cases acc <;> simp <;> omega
      rw [e]
      exact z
  all_goals (walk_at "go"; exact q _ (by walk_at "ext"))
end

section
variable {K : PySem.W.Frag}
theorem pure_l_leaves (n : Nat) (vs : List V) (H : Hp) (Q : VK) (E : XK) (h : sp_l_leaves K (n + 1) vs H Q E) : t_l_leaves K n (bd Q) (start N_l_leaves vs) H := by
  obtain ⟨v, k, rfl, hv, hl, hn, hg, q⟩ := h
  show t_l_leaves K n (bd Q) [some v, none, none, none] H
  unfold t_l_leaves
  cases k <;> rw [Kd.d] at hv <;> rw [Kd.lvs] at q <;> rw [Kd.lev] at hl <;> rw [Kd.good] at hg
  case maybe k =>
    walk_at "go"
    rename_i H0 x0
    refine w_newL (by walk_at "len") fun p H1 hp x1 e1 => ?_
    walk_at "go"
    refine ⟨_, k, rfl, by walk_at "rp", by omega, by omega, hg, fun p2 xs H2 x2 hp2 e2 r2 => ?_⟩
    refine w_exl (SqL.of e2) fun L hL => ?_
    have hsm := Kd.lvs_small hg (by omega)
    have hxs := r2.length
    rw [List.length_map] at hxs
    have hL2 : L ≠ p2 := (ne_of_none e2 hL).symm
    refine c_lst (xs := xs) (fun i H' acc => Ext [] H2 H' ∧ H' p2 = some (.lst xs) ∧ RpAll K H' acc (((k.lvs.take i).map (.str "?" :: ·)).map .tup)) hL ?_ ?_ ?_ ?_
    · rintro i H' acc _ ⟨_, e, _⟩
      exact SqL.of e
    · intro H' e l
      exact ⟨e, e.same _ _ e2, .nil⟩
    · rintro i u H3 acc hu e3 l3 ⟨x3, e4, r3⟩
      obtain ⟨d, hd, hr⟩ := (r2.ts x3.ts).get hu
      rw [List.getElem?_map] at hd
      obtain ⟨ps, hps, rfl⟩ := Option.map_eq_some_iff.mp hd
      have hi : i < k.lvs.length := (List.getElem?_eq_some_iff.mp hps).1
      have hpl := (Kd.lvs_item k ps (List.mem_of_getElem? hps)).1
      walk_at "go"
      rename_i w1 H4 x4 r4 w2 H5 x5 r5
      refine turn1 (x5.same _ _ (x4.same _ _ e3)) l3 (line_of (by omega)) fun H6 x6 l6 => ⟨((x3.trans x4).trans x5).out hL x6, ?_, ?_⟩
      · exact x6.keep _ _ (x5.same _ _ (x4.same _ _ e4)) (by simpa using hL2.symm)
      · rw [List.take_succ, hps]
        simp only [Option.toList_some, List.map_append, List.map_cons, List.map_nil]
        exact (((r3.ts x4.ts).ts x5.ts).ts x6.ts).append (.cons (r5.ts x6.ts) .nil)
    · rintro H3 acc e3 ⟨x3, _, r3⟩
      rw [hxs, List.take_length] at r3
      walk_at "go"
      refine q L acc H3 ?_ ?_ e3 r3
      · walk_at "ext"
      · have y : Ext [] H H2 := by walk_at "ext"
        exact y.free hL (by simp)
  case tuple ks =>
    simp only [Bool.and_eq_true, decide_eq_true_eq] at hg
    walk_at "go"
    rename_i H0 x0
    refine w_newL (by walk_at "len") fun p H1 hp x1 e1 => ?_
    walk_at "go"
    rename_i w1 rw1
    rw [Kd.ds_length]
    walk_at "go"
    refine f_rng (fun i σ H' => ∃ p acc w3 w4, σ = [some v, some (.ref p), w3, w4] ∧ Ext [] H H' ∧ H p = none ∧ H' p = some (.lst acc) ∧ RpAll K H' acc ((Kd.lvss 0 (ks.take i)).map .tup)) ?_ ?_ ?_
    · exact ⟨p, [], none, none, rfl, x0.trans x1, x0.free hp (by simp), e1, .nil⟩
    · rintro i σ H2 hi ⟨p, acc, w3, w4, rfl, x2, hp2, e2, r2⟩
      have hi' : i < ks.length := by omega
      obtain ⟨k, hk⟩ : ∃ k, ks[i]? = some k := ⟨ks[i], by simp [hi']⟩
      have hkl := Kd.lev_mem (List.mem_of_getElem? hk)
      have hkg := Kd.good_mem hg.2 (List.mem_of_getElem? hk)
      have hsm := Kd.lvs_small hkg (by omega)
      have hsa := Kd.lvss_small i 0 hg.2 (by omega) hg.1.2
      have hacc := r2.length
      rw [List.length_map] at hacc
      walk_at "go"
      refine x_D (by walk_at "rp") (at_nat (j := i) (by omega) (Kd.ds_at hk)) fun u ru => ?_
      walk_at "go"
      refine ⟨_, k, rfl, ru, by omega, by omega, hkg, fun p3 xs H3 x3 hp3 e3 r3 => ?_⟩
      refine w_exl (SqL.of e3) fun L hL => ?_
      have hxs := r3.length
      rw [List.length_map] at hxs
      have hL3 : L ≠ p3 := (ne_of_none e3 hL).symm
      have e2' := x3.same _ _ e2
      have hLp : L ≠ p := (ne_of_none e2' hL).symm
      refine c_lst (xs := xs) (fun j H' acc2 => Ext [] H3 H' ∧ H' p3 = some (.lst xs) ∧ H' p = some (.lst acc) ∧ RpAll K H' acc2 (((k.lvs.take j).map (.int (i : Nat) :: ·)).map .tup)) hL ?_ ?_ ?_ ?_
      · rintro j H' acc2 _ ⟨_, e, _⟩
        exact SqL.of e
      · intro H' e l
        exact ⟨e, e.same _ _ e3, e.same _ _ e2', .nil⟩
      · rintro j u2 H4 acc2 hu e4 l4 ⟨x4, e5, e6, r4⟩
        obtain ⟨d, hd, hr⟩ := (r3.ts x4.ts).get hu
        rw [List.getElem?_map] at hd
        obtain ⟨ps, hps, rfl⟩ := Option.map_eq_some_iff.mp hd
        have hj : j < k.lvs.length := (List.getElem?_eq_some_iff.mp hps).1
        have hpl := (Kd.lvs_item k ps (List.mem_of_getElem? hps)).1
        walk_at "go"
        rename_i w1 H5 x5 r5 w2 H6 x6 r6
        rw [Int.zero_add] at r6
        refine turn1 (x6.same _ _ (x5.same _ _ e4)) l4 (line_of (by omega)) fun H7 x7 l7 => ⟨((x4.trans x5).trans x6).out hL x7, ?_, ?_, ?_⟩
        · exact x7.keep _ _ (x6.same _ _ (x5.same _ _ e5)) (by simpa using hL3.symm)
        · exact x7.keep _ _ (x6.same _ _ (x5.same _ _ e6)) (by simpa using hLp.symm)
        · rw [List.take_succ, hps]
          simp only [Option.toList_some, List.map_append, List.map_cons, List.map_nil]
          exact (((r4.ts x5.ts).ts x6.ts).ts x7.ts).append (.cons (r6.ts x7.ts) .nil)
      · rintro H4 acc2 e4 ⟨x4, _, e6, r4⟩
        rw [hxs, List.take_length] at r4
        have h4 := r4.length
        rw [List.length_map, List.length_map] at h4
        walk_at "go"
        refine a_lst e6 e4 (Nat.le_of_lt (line_of (by omega))) fun p5 H5 hp5 x5 e5 => ?_
        walk_at "go"
        have xx : Ext [] H H4 := (x2.trans x3).trans x4
        refine ⟨p5, _, _, _, rfl, xx.trans x5, xx.free hp5 (by simp), e5, ?_⟩
        have y := Kd.lvss_take (j := 0) hk
        rw [Nat.zero_add] at y
        rw [y, List.map_append]
        exact ((r2.ts (x3.trans x4).ts).append r4).ts x5.ts
    · rintro σ H2 ⟨p, acc, w3, w4, rfl, x2, hp2, e2, r2⟩
      walk_at "go"
      rw [Int.toNat_natCast, List.take_length] at r2
      exact q p acc H2 x2 hp2 e2 r2
  case shared =>
    walk_at "go"
    rename_i H0 x0 w H1 x1 r1
    refine w_newL (by walk_at "len") fun p H2 hp x2 e2 => ?_
    exact q p _ _ ((x0.trans x1).trans x2) ((x0.trans x1).free hp (by simp)) e2 (.cons (r1.ts x2.ts) .nil)
  case excl =>
    walk_at "go"
    rename_i H0 x0 w H1 x1 r1
    refine w_newL (by walk_at "len") fun p H2 hp x2 e2 => ?_
    exact q p _ _ ((x0.trans x1).trans x2) ((x0.trans x1).free hp (by simp)) e2 (.cons (r1.ts x2.ts) .nil)
  case task =>
    walk_at "go"
    rename_i H0 x0 w H1 x1 r1
    refine w_newL (by walk_at "len") fun p H2 hp x2 e2 => ?_
    exact q p _ _ ((x0.trans x1).trans x2) ((x0.trans x1).free hp (by simp)) e2 (.cons (r1.ts x2.ts) .nil)
  all_goals
    walk_at "go"
    rename_i H0 x0
    refine w_newL (by walk_at "len") fun p H1 hp x1 e1 => ?_
    walk_at "go"
    exact q p [] _ (x0.trans x1) (x0.free hp (by simp)) e1 .nil
end

section
variable {K : PySem.W.Frag}
theorem pure_leaves (n : Nat) (vs : List V) (H : Hp) (Q : VK) (E : XK) (h : sp_leaves K (n + 1) vs H Q E) : t_leaves K n (bd Q) (start N_leaves vs) H := by
  obtain ⟨v, k, rfl, hv, hl, hn, hg, q⟩ := h
  show t_leaves K n (bd Q) [some v, none, none, none, none] H
  unfold t_leaves
  cases k <;> rw [Kd.d] at hv <;> rw [Kd.lvs] at q <;> rw [Kd.lev] at hl <;> rw [Kd.good] at hg
  case shared => walk_at "go"; exact q _ _ (by walk_at "ext") (by assumption)
  case excl => walk_at "go"; exact q _ _ (by walk_at "ext") (by assumption)
  case task => walk_at "go"; exact q _ _ (by walk_at "ext") (by assumption)
  case maybe k =>
    have hsm := Kd.lvs_small hg (by omega)
    walk_at "go"
    refine w_newL (by walk_at "len") fun p H1 hp x1 e1 => ?_
    walk_at "go"
    refine ⟨_, k, rfl, by walk_at "rp", by omega, by omega, hg, fun u H2 x2 r2 => ?_⟩
    walk_at "go"
    refine f_tup (ds := k.lvs.map .tup) (fun i σ H' => ∃ acc w2 w3 w4, σ = [some v, some (.ref p), w2, w3, w4] ∧ Ext [] H H' ∧ Ext [p] H2 H' ∧ H' p = some (.lst acc) ∧ RpAll K H' acc (((k.lvs.take i).map (.str "?" :: ·)).map .tup)) ?_ ?_ ?_ ?_
    · exact ⟨[], none, none, none, rfl, x1.trans x2, Ext.refl, x2.same _ _ e1, .nil⟩
    · rintro i σ H' _ ⟨_, _, _, _, _, _, x, _⟩
      walk_at "rp"
    · rintro i d u2 σ H3 hd hu ⟨acc, w2, w3, w4, rfl, x3, y3, e3, r3⟩
      rw [List.getElem?_map] at hd
      obtain ⟨ps, hps, rfl⟩ := Option.map_eq_some_iff.mp hd
      have hi : i < k.lvs.length := (List.getElem?_eq_some_iff.mp hps).1
      have hpl := (Kd.lvs_item k ps (List.mem_of_getElem? hps)).1
      have hacc := r3.length
      rw [List.length_map, List.length_map, List.length_take] at hacc
      walk_at "go"
      refine ⟨ty_l e3, ?_⟩
      walk_at "go"
      rename_i w5 H4 x4 r4 w6 H5 x5 r5
      refine m_app (x5.same _ _ (x4.same _ _ e3)) (line_of (by omega)) fun H6 x6 e6 => ?_
      walk_at "go"
      refine ⟨_, _, _, _, rfl, ((x3.trans x4).trans x5).out hp x6, ((y3.more x4).more x5).trans x6, e6, ?_⟩
      rw [List.take_succ, hps]
      simp only [Option.toList_some, List.map_append, List.map_cons, List.map_nil]
      exact (((r3.ts x4.ts).ts x5.ts).ts x6.ts).append (.cons (r5.ts x6.ts) .nil)
    · rintro σ H3 ⟨acc, w2, w3, w4, rfl, x3, y3, e3, r3⟩
      rw [List.length_map, List.take_length] at r3
      walk_at "go"
      refine b_tupl e3 r3 fun u H4 x4 r4 => ?_
      exact q u H4 (x3.trans x4) r4
  case tuple ks =>
    simp only [Bool.and_eq_true, decide_eq_true_eq] at hg
    walk_at "go"
    refine w_newL (by walk_at "len") fun p H1 hp x1 e1 => ?_
    walk_at "go"
    refine f_et (ds := Kd.ds ks) (fun i σ H' => ∃ acc w2 w3 w4, σ = [some v, some (.ref p), w2, w3, w4] ∧ Ext [] H H' ∧ Ext [p] H1 H' ∧ H' p = some (.lst acc) ∧ RpAll K H' acc ((Kd.lvss 0 (ks.take i)).map .tup)) ?_ ?_ ?_ ?_
    · exact ⟨[], none, none, none, rfl, x1, Ext.refl, e1, .nil⟩
    · rintro i σ H' _ ⟨_, _, _, _, _, _, x, _⟩
      walk_at "rp"
    · rintro i d u σ H2 H3 hd hu x3 ⟨acc, w2, w3, w4, rfl, x2, y2, e2, r2⟩
      obtain ⟨k, hk, rfl⟩ := Kd.ds_get hd
      have hi : i < ks.length := (List.getElem?_eq_some_iff.mp hk).1
      have hkl := Kd.lev_mem (List.mem_of_getElem? hk)
      have hkg := Kd.good_mem hg.2 (List.mem_of_getElem? hk)
      have hsm := Kd.lvs_small hkg (by omega)
      have hsa := Kd.lvss_small i 0 hg.2 (by omega) hg.1.2
      dsimp only [List.set]
      walk_at "go"
      refine ⟨_, k, rfl, hu, by omega, by omega, hkg, fun u3 H4 x4 r4 => ?_⟩
      walk_at "go"
      refine f_tup (ds := k.lvs.map .tup) (fun j σ H' => ∃ acc w2, σ = [some v, some (.ref p), w2, some (.int (i : Nat)), some u] ∧ Ext [] H H' ∧ Ext [p] H1 H' ∧ Ext [p] H4 H' ∧ H' p = some (.lst acc) ∧ RpAll K H' acc ((Kd.lvss 0 (ks.take i) ++ (k.lvs.take j).map (.int (i : Nat) :: ·)).map .tup)) ?_ ?_ ?_ ?_
      · refine ⟨acc, _, rfl, (x2.trans x3).trans x4, (y2.more x3).more x4, Ext.refl, x4.same _ _ (x3.same _ _ e2), ?_⟩
        rw [List.take_zero, List.map_nil, List.append_nil]
        exact (r2.ts x3.ts).ts x4.ts
      · rintro j σ H' _ ⟨_, _, _, _, _, x, _⟩
        walk_at "rp"
      · rintro j d u2 σ H5 hd hu2 ⟨acc, w2, rfl, x5, y5, z5, e5, r5⟩
        rw [List.getElem?_map] at hd
        obtain ⟨ps, hps, rfl⟩ := Option.map_eq_some_iff.mp hd
        have hj : j < k.lvs.length := (List.getElem?_eq_some_iff.mp hps).1
        have hpl := (Kd.lvs_item k ps (List.mem_of_getElem? hps)).1
        have hacc := r5.length
        rw [List.length_map, List.length_append, List.length_map, List.length_take] at hacc
        walk_at "go"
        refine ⟨ty_l e5, ?_⟩
        walk_at "go"
        rename_i w5 H6 x6 r6 w6 H7 x7 r7
        refine m_app (x7.same _ _ (x6.same _ _ e5)) (line_of (by omega)) fun H8 x8 e8 => ?_
        walk_at "go"
        refine ⟨_, _, rfl, ((x5.trans x6).trans x7).out hp x8, ((y5.more x6).more x7).trans x8, ((z5.more x6).more x7).trans x8, e8, ?_⟩
        rw [List.take_succ, hps]
        simp only [Option.toList_some, List.map_append, List.map_cons, List.map_nil] at r5 ⊢
        rw [← List.append_assoc]
        exact (((r5.ts x6.ts).ts x7.ts).ts x8.ts).append (.cons (r7.ts x8.ts) .nil)
      · rintro σ H5 ⟨acc, w2, rfl, x5, y5, z5, e5, r5⟩
        rw [List.length_map, List.take_length] at r5
        refine ⟨acc, _, _, _, rfl, x5, y5, e5, ?_⟩
        have y := Kd.lvss_take (j := 0) hk
        rw [Nat.zero_add] at y
        rw [y]
        exact r5
    · rintro σ H2 ⟨acc, w2, w3, w4, rfl, x2, y2, e2, r2⟩
      rw [Kd.ds_length, List.take_length] at r2
      walk_at "go"
      refine b_tupl e2 r2 fun u H4 x4 r4 => ?_
      exact q u H4 (x2.trans x4) r4
  all_goals
    walk_at "go"
    refine w_newL (by walk_at "len") fun p H1 hp x1 e1 => ?_
    walk_at "go"
    refine b_tupl e1 .nil fun u H2 x2 r2 => ?_
    exact q u H2 (x1.trans x2) r2
end

section
variable {K : PySem.W.Frag}
theorem pure_l_cells (n : Nat) (vs : List V) (H : Hp) (Q : VK) (E : XK) (h : sp_l_cells K (n + 1) vs H Q E) : t_l_cells K n (bd Q) (start N_l_cells vs) H := by
  obtain ⟨v, k, rfl, hv, hl, hg, q⟩ := h
  show t_l_cells K n (bd Q) [some v, none] H
  unfold t_l_cells
  cases k <;> rw [Kd.d] at hv <;> rw [Kd.lev] at hl <;> rw [Kd.good] at hg
  case maybe k =>
    walk_at "go"
    refine ⟨_, k, rfl, by walk_at "rp", by omega, hg, fun i H' x => ?_⟩
    walk_at "go"
    exact q _ _ x
  case tuple ks =>
    simp only [Bool.and_eq_true, decide_eq_true_eq] at hg
    walk_at "go"
    intro L hL
    rename_i a r1
    refine c_tup (ds := Kd.ds ks) (fun i H' acc => Ext [] H H' ∧ ∃ ns : List Int, acc = ns.map V.int) hL ?_ ?_ ?_ ?_
    · rintro i H' acc _ ⟨x, _⟩
      walk_at "rp"
    · intro H' e l
      exact ⟨e, [], rfl⟩
    · rintro i d u H2 acc hd hu e1 e2 ⟨x, ns, rfl⟩
      obtain ⟨k, hk, rfl⟩ := Kd.ds_get hd
      have hkl := Kd.lev_mem (List.mem_of_getElem? hk)
      have hi : i < ks.length := (List.getElem?_eq_some_iff.mp hk).1
      walk_at "go"
      refine ⟨_, k, rfl, hu, by omega, Kd.good_mem hg.2 (List.mem_of_getElem? hk), fun z H3 x3 => ?_⟩
      exact turn1 (x3.same _ _ e1) e2 (line_of (by omega)) fun H4 x4 l4 => ⟨(x.trans x3).out hL x4, ns ++ [z], by simp⟩
    · rintro H2 acc e1 ⟨x, ns, rfl⟩
      walk_at "go"
      exact ⟨L, ns, rfl, SqL.of e1, q _ _ x⟩
  all_goals (walk_at "go"; exact q _ _ Ext.refl)
theorem pure_l_fitting (vs : List V) (H : Hp) (Q : VK) (E : XK) (h : sp_l_fitting K vs H Q E) : t_l_fitting K (bd Q) (start N_l_fitting vs) H := by
  obtain ⟨p, m, xs, ks, rfl, ep, rp, hl, hk, q⟩ := h
  show t_l_fitting K (bd Q) [some (.ref p), some (.int m), none, none, none, none] H
  unfold t_l_fitting
  walk_at "go"
  refine w_newL (by walk_at "len") fun f H1 hf x1 e1 => ?_
  have hlx := rp.length
  rw [Kd.ds_length] at hlx
  have ep1 := x1.same _ _ ep
  walk_at "go"
  refine f_rng (fun i σ H' => ∃ c acc ks' w4 w5, σ = [some (.ref p), some (.int m), some (.ref f), some (.int c), w4, w5] ∧ Ext [] H H' ∧ H' p = some (.lst xs) ∧ H' f = some (.lst acc) ∧ RpAll K H' acc (Kd.ds ks') ∧ ks'.length = i ∧ ∀ k, k ∈ ks' → k ∈ ks ∨ k = .int) ?_ ?_ ?_
  · exact ⟨0, [], [], none, none, rfl, x1, ep1, e1, .nil, rfl, fun k hk => absurd hk (by simp)⟩
  · rintro i σ H2 hi ⟨c, acc, ks', w4, w5, rfl, x2, e2, f2, r2, l2, m2⟩
    have hi' : i < ks.length := by omega
    obtain ⟨k, hk'⟩ : ∃ k, ks[i]? = some k := ⟨ks[i], by simp [hi']⟩
    obtain ⟨hk1, hk2⟩ := hk k (List.mem_of_getElem? hk')
    obtain ⟨u, hu, ru⟩ := (rp.ts x2.ts).getD (Kd.ds_at hk')
    have hacc := r2.length
    rw [Kd.ds_length] at hacc
    walk_at "gs"
    refine x_l e2 (at_nat (j := i) (by omega) hu) ?_
    walk_at "gs"
    refine ⟨fun σ H' => ∃ (u : V) (k : Kd), σ = [some (.ref p), some (.int m), some (.ref f), some (.int c), some (.int (0 + i)), some u] ∧ Ext [] H2 H' ∧ Rp K H' u k.d ∧ k.lev ≤ 6 ∧ k.good = true ∧ (k ∈ ks ∨ k = .int), ?_, ?_⟩
    · walk_at "go"
      refine ⟨_, k, rfl, ru, hk1, hk2, fun z H3 x3 => ?_⟩
      walk_at "go"
      refine w_iteD (fun c => ?_) (fun c => ?_)
      · walk_at "go"
        exact ⟨_, .int, rfl, by walk_at "ext", by assumption, by decide, rfl, .inr rfl⟩
      · walk_at "go"
        exact ⟨_, k, rfl, x3, ru.ts x3.ts, hk1, hk2, .inl (List.mem_of_getElem? hk')⟩
    · rintro _ H3 ⟨u, k, rfl, x3, r3, l3, g3, m3⟩
      walk_at "go"
      refine ⟨_, k, rfl, r3, l3, g3, fun z H4 x4 => ?_⟩
      walk_at "go"
      have f4 := x4.same _ _ (x3.same _ _ f2)
      refine ⟨ty_l f4, ?_⟩
      walk_at "go"
      refine m_app f4 (line_of (by omega)) fun H5 x5 e5 => ?_
      walk_at "go"
      have hfp : p ≠ f := ne_of_none ep hf
      refine ⟨_, _, ks' ++ [k], _, _, rfl, ((x2.trans x3).trans x4).out hf x5, x5.keep _ _ (x4.same _ _ (x3.same _ _ e2)) (by simpa using hfp), e5, ?_, by simp; omega, ?_⟩
      · rw [Kd.ds_map, List.map_append, ← Kd.ds_map]
        exact (((r2.ts x3.ts).ts x4.ts).ts x5.ts).append (.cons ((r3.ts x4.ts).ts x5.ts) .nil)
      · intro j hj
        rcases List.mem_append.mp hj with hj | hj
        · exact m2 j hj
        · rw [List.mem_singleton.mp hj]
          exact m3
  · rintro σ H2 ⟨c, acc, ks', w4, w5, rfl, x2, e2, f2, r2, l2, m2⟩
    walk_at "go"
    refine b_tupl f2 r2 fun u H3 x3 r3 => ?_
    exact q u H3 ks' (x2.trans x3) r3 (by omega) m2
end

section
variable {K : PySem.W.Frag}
theorem pick3 {r : Int} (h0 : 0 ≤ r) (h1 : r < 3) (a b c : Str) : ∃ s : Str, (s = a ∨ s = b ∨ s = c) ∧ atI [V.str a, V.str b, V.str c] r = some (.str s) := by
  have k : r = 0 ∨ r = 1 ∨ r = 2 := by omega
  rcases k with rfl | rfl | rfl
  · exact ⟨_, .inl rfl, rfl⟩
  · exact ⟨_, .inr (.inl rfl), rfl⟩
  · exact ⟨_, .inr (.inr rfl), rfl⟩
theorem pure_l_kind (n : Nat) (vs : List V) (H : Hp) (Q : VK) (E : XK) (h : sp_l_kind K (n + 1) vs H Q E) : t_l_kind K n (bd Q) (start N_l_kind vs) H := by
  obtain ⟨t, nn, d, pl, rfl, T, hd1, hdn, hn, q⟩ := h
  show t_l_kind K n (bd Q) [some (.ref t), some (.int d), some (.bl pl), none, none, none] H
  unfold t_l_kind
  walk_at "go"
  refine ⟨t, nn, _, rfl, T, by omega, fun r1 H1 a0 a1 x1 T1 => ?_⟩
  walk_at "go"
  refine w_iteD (fun c1 => ?_) (fun c1 => ?_)
  · walk_at "go"
    rename_i v1 H2 x2 r2 v2 H3 x3 r3 v3 H4 x4 r4 v4 H5 x5 r5
    refine p_next rfl ((((T1.same x2).same x3).same x4).same x5) (by omega) rfl (by simp) fun v H6 hv x6 T6 => ?_
    have xx : Ext [t] H H6 := ((((x1.more x2).more x3).more x4).more x5).trans x6
    simp at hv
    rcases hv with rfl | rfl | rfl | rfl
    · exact q _ _ .int xx T6 (by walk_at "rp") (by rw [Kd.lev]; omega) rfl
    · exact q _ _ .bool xx T6 (by walk_at "rp") (by rw [Kd.lev]; omega) rfl
    · exact q _ _ .unit xx T6 (by walk_at "rp") (by rw [Kd.lev]; omega) rfl
    · exact q _ _ (.recd "Node") xx T6 (by walk_at "rp") (by rw [Kd.lev]; omega) rfl
  walk_at "go"
  refine w_iteD (fun c2 => ?_) (fun c2 => ?_)
  · walk_at "go"
    rename_i v1 H2 x2 r2 v2 H3 x3 r3 v3 H4 x4 r4 v4 H5 x5 r5
    refine p_next rfl ((((T1.same x2).same x3).same x4).same x5) (by omega) rfl (by simp) fun v H6 hv x6 T6 => ?_
    have xx : Ext [t] H H6 := ((((x1.more x2).more x3).more x4).more x5).trans x6
    simp at hv
    rcases hv with rfl | rfl | rfl | rfl
    · exact q _ _ .int xx T6 (by walk_at "rp") (by rw [Kd.lev]; omega) rfl
    · exact q _ _ .bool xx T6 (by walk_at "rp") (by rw [Kd.lev]; omega) rfl
    · exact q _ _ .unit xx T6 (by walk_at "rp") (by rw [Kd.lev]; omega) rfl
    · exact q _ _ (.recd "Node") xx T6 (by walk_at "rp") (by rw [Kd.lev]; omega) rfl
  walk_at "go"
  refine w_iteD (fun c3 => ?_) (fun c3 => ?_)
  · walk_at "go"
    refine ⟨t, nn, _, _, rfl, T1, by omega, by omega, by omega, fun u H2 k x2 T2 r2 l2 g2 => ?_⟩
    walk_at "go"
    rename_i w H3 x3 r3
    exact q _ _ (.box k) ((x1.trans x2).more x3) (T2.same x3) r3 (by rw [Kd.lev]; omega) g2
  walk_at "go"
  refine w_iteD (fun c4 => ?_) (fun c4 => ?_)
  · walk_at "go"
    rename_i v1 H2 x2 r2
    refine ⟨t, nn, _, _, rfl, T1.same x2, by omega, by omega, by omega, fun u H3 k x3 T3 r3 l3 g3 => ?_⟩
    walk_at "go"
    refine w_newL (by walk_at "len") fun p H4 hp x4 e4 => ?_
    walk_at "go"
    refine ⟨p, _, _, [k], rfl, e4, .cons (r3.ts x4.ts) .nil, by simp, fun j hj => ?_, fun u2 H5 ks' x5 r5 l5 m5 => ?_⟩
    · rw [List.mem_singleton.mp hj]
      exact ⟨by omega, g3⟩
    match ks', l5 with
    | [k2], _ =>
    have g5 : (k2.lev : Int) ≤ d - 1 ∧ k2.good = true := by
      rcases m5 k2 (by simp) with h | h
      · rw [List.mem_singleton.mp h]
        exact ⟨l3, g3⟩
      · rw [h]
        exact ⟨by rw [Kd.lev]; omega, rfl⟩
    have r2' := ((r2.ts x3.ts).ts x4.ts).ts x5.ts
    walk_at "go"
    refine a_tup r2' r5 (le_line (by rw [Kd.ds_length]; simp)) fun w H6 x6 r6 => ?_
    exact q _ _ (.maybe k2) ((((x1.more x2).trans x3).more (x4.trans x5)).more x6) (((T3.same x4).same x5).same x6) r6 (by rw [Kd.lev]; omega) g5.2
  walk_at "go"
  -- a tuple
  have tup : ∀ (D0 : Ends) H1, D0.rt = Q → Ext [t] H H1 → Tape H1 t nn →
      (tSeqJ (tAsg (tOp (rAddG K) (tC (.int 2)) (tCall (sp_l_next K) [] E0 (tCons (tVar 0) (tCons (tC (.int 5)) tNil)))) (gName 4))
    (tRet (tTupK K (tCons (tC (.str "tuple")) (tCons (tCall (sp_l_fitting K) [] E0 (tCons (tLc (iRng1 (tCons (tVar 4) tNil)) (gName 5) tYes (tCall (sp_l_kind K n) [] E0 (tCons (tVar 0) (tCons (tOp rSubI (tVar 1) (tC (.int 1))) (tCons (tVar 2) tNil)))) [5]) (tCons (tC (.int 60)) tNil))) tNil))))) D0 [some (.ref t), some (.int d), some (.bl pl), some (.int r1), none, none] H1 := by
    rintro D0 H1 eD x1 T1
    rw [← eD] at q
    walk_at "go"
    refine ⟨t, nn, _, rfl, T1, by omega, fun r2 H2 b0 b1 x2 T2 => ?_⟩
    walk_at "go"
    intro L hL
    have hLt := T2.ne hL
    refine c_rng (fun i H' acc => ∃ ks, RpAll K H' acc (Kd.ds ks) ∧ ks.length = i ∧ (∀ k, k ∈ ks → (k.lev : Int) ≤ d - 1 ∧ k.good = true) ∧ Ext [t] H2 H' ∧ Tape H' t nn) hL ?_ ?_ ?_
    · intro H3 e3 l3
      exact ⟨[], .nil, rfl, fun k hk => absurd hk (by simp), e3.any, T2.same e3⟩
    · rintro i H3 acc hi e3 l3 ⟨ks, r3, lk, mk, x3, T3⟩
      walk_at "go"
      refine ⟨t, nn, _, _, rfl, T3, by omega, by omega, by omega, fun u H4 k x4 T4 r4 l4 g4 => ?_⟩
      refine turn1 (x4.keep _ _ e3 (by simpa using hLt.1)) l3 (line_of (by omega)) fun H5 x5 l5 => ⟨ks ++ [k], ?_, by simp; omega, ?_, (x3.trans x4).out hL x5, T4.new hLt x5⟩
      · rw [Kd.ds_map, List.map_append, ← Kd.ds_map]
        exact ((r3.ts x4.ts).ts x5.ts).append (.cons (r4.ts x5.ts) .nil)
      · intro j hj
        rcases List.mem_append.mp hj with hj | hj
        · exact mk j hj
        · rw [List.mem_singleton.mp hj]
          exact ⟨l4, g4⟩
    · rintro H3 acc e3 ⟨ks, r3, lk, mk, x3, T3⟩
      walk_at "go"
      refine ⟨L, _, acc, ks, rfl, e3, r3, by omega, fun k hk => ⟨by have := (mk k hk).1; omega, (mk k hk).2⟩, fun u H4 ks' x4 r4 l4 m4 => ?_⟩
      walk_at "go"
      rename_i w H5 x5 r5
      have all : ∀ k, k ∈ ks' → (k.lev : Int) ≤ d - 1 ∧ k.good = true := fun k hk => by
        rcases m4 k hk with h | h
        · exact mk k h
        · rw [h]
          exact ⟨by rw [Kd.lev]; omega, rfl⟩
      refine q _ _ (.tuple ks') (((x1.trans x2).trans x3).more (x4.trans x5)) ((T3.same x4).same x5) r5 ?_ ?_
      · rw [Kd.lev]
        have h1 : Kd.levs ks' ≤ (d - 1).toNat := Kd.levs_le fun k hk => by have := (all k hk).1; omega
        omega
      · rw [Kd.good, Bool.and_eq_true, Bool.and_eq_true]
        exact ⟨⟨by simp; omega, by simp; omega⟩, Kd.goods_of fun k hk => (all k hk).2⟩
  refine w_iteD (fun c5 => ?_) (fun c5 => ?_)
  · refine w_iteT rfl ?_
    exact tup _ H1 rfl x1 T1
  cases pl
  · walk_at "go"
    refine w_newL (by walk_at "len") fun p H2 hp x2 e2 => ?_
    walk_at "go"
    obtain ⟨s, hs, es⟩ := pick3 (r := r1 - 8) (by omega) (by omega) "shared" "exclusive" "task"
    refine x_l e2 es ?_
    walk_at "go"
    refine ⟨t, nn, _, _, rfl, T1.same x2, by omega, by omega, by omega, fun u H3 k x3 T3 r3 l3 g3 => ?_⟩
    walk_at "go"
    rename_i w H4 x4 r4
    have xx : Ext [t] H H4 := ((x1.more x2).trans x3).more x4
    rcases hs with rfl | rfl | rfl
    · exact q _ _ (.shared k) xx (T3.same x4) r4 (by rw [Kd.lev]; omega) g3
    · exact q _ _ (.excl k) xx (T3.same x4) r4 (by rw [Kd.lev]; omega) g3
    · exact q _ _ (.task k) xx (T3.same x4) r4 (by rw [Kd.lev]; omega) g3
  · walk_at "s"
    walk_at "s"
    walk_at "s"
    refine w_iteT rfl ?_
    exact tup _ H1 rfl x1 T1
theorem pure_law (vs : List V) (H : Hp) (Q : VK) (E : XK) (h : sp_law K vs H Q E) : t_law K (bd Q) (start N_law vs) H := by
  obtain ⟨a, ns, rfl, hS, hl, q⟩ := h
  show t_law K (bd Q) [some (.ref a), none, none, none] H
  unfold t_law
  walk_at "go"
  refine ⟨a, ns, rfl, hS, fun t n H1 x1 ht T1 => ?_⟩
  walk_at "go"
  refine f_rng (fun i σ H' => ∃ w2 w3, σ = [some (.ref a), some (.ref t), w2, w3] ∧ Tape H' t n) ⟨_, _, rfl, T1⟩ ?_ ?_
  · rintro i σ H2 hi ⟨w2, w3, rfl, T2⟩
    walk_at "go"
    refine ⟨t, n, _, _, rfl, T2, by omega, by omega, by omega, fun u H3 k x3 T3 r3 l3 g3 => ?_⟩
    have hk : k.lev ≤ 6 := by omega
    walk_at "go"
    refine ⟨u, k, rfl, r3, hk, fun H4 x4 => ?_⟩
    walk_at "go"
    refine ⟨u, k, rfl, by walk_at "rp", hk, g3, fun H5 x5 => ?_⟩
    walk_at "go"
    refine ⟨_, _, rfl, ?_⟩
    rw [decide_eq_true rfl]
    walk_at "go"
    refine ⟨u, k, rfl, by walk_at "rp", hk, fun H6 x6 => ?_⟩
    walk_at "go"
    refine ⟨u, k, rfl, by walk_at "rp", hk, g3, fun H7 x7 => ?_⟩
    walk_at "go"
    refine ⟨_, _, rfl, ?_⟩
    rw [decide_eq_true rfl]
    walk_at "go"
    refine ⟨u, k, rfl, by walk_at "rp", hk, g3, fun H8 x8 => ?_⟩
    walk_at "go"
    refine ⟨u, k, rfl, by walk_at "rp", hk, g3, fun H9 x9 => ?_⟩
    walk_at "go"
    rw [decide_eq_true rfl]
    walk_at "go"
    refine ⟨u, k, rfl, by walk_at "rp", hk, by omega, g3, fun u2 H10 x10 r10 => ?_⟩
    walk_at "go"
    refine ⟨u, k, rfl, by walk_at "rp", hk, by omega, g3, fun p xs H11 x11 hp11 e11 r11 => ?_⟩
    walk_at "go"
    refine b_tupl e11 r11 fun u3 H12 x12 r12 => ?_
    obtain ⟨o1, o2, o3⟩ := k.lvs_ok
    refine n_D (by walk_at "rp") r12 o1 (by omega) o1 (by omega) ?_
    have z : D.eqv (D.tup (k.lvs.map .tup)) (D.tup (k.lvs.map .tup)) = true := (D.eqv_iff _ _ o3 o3).mpr rfl
    rw [z]
    walk_at "go"
    exact ⟨_, _, rfl, ((((((((T3.same x4).same x5).same x6).same x7).same x8).same x9).same x10).same x11).same x12⟩
  · rintro σ H2 ⟨w2, w3, rfl, T2⟩
    walk_at "go"
    exact q _
end

section
variable {P : Program} {w : World} {K : PySem.W.Frag} {mg : Str → Option Value} {base : Heap}
theorem step_is_plain (n : Nat) (F0 : Dfn K mg "is_plain" s_is_plain ["kind"]) (h_is_plain : Has P w K mg base CX0 (n + 0) "is_plain" ["kind"] (sp_is_plain K n))  (q_LEAVES : Cst K mg "LEAVES" c_LEAVES) : Has P w K mg base CX0 (n + 0 + 1) "is_plain" ["kind"] (sp_is_plain K (n + 1)) :=
  F0.has fun f fd F => F.ok sc_is_plain (by intro vs H Q E h; row_has h) (fun cdv A outer s H vs Q E hr h => ⟨t_is_plain K n,
    (pss_consJ (ps_if (pt_cmpR op_in_seq (pe_ix ix_seq (pv 0) pe_int (fun _ _ => rfl)) (pe_const q_LEAVES (by rfl)) rfl) (pss_one (ps_ret pe_bl)) pss_nil)
    (pss_consJ (ps_if (PW.pt (pw_or (pt_cmpR (o_eq hr.units) (pe_ix ix_seq (pv 0) pe_int (fun _ _ => rfl)) pe_str (nomark _)) (pw_or1 (pt_cmpR (o_eq hr.units) (pe_ix ix_seq (pv 0) pe_int (fun _ _ => rfl)) pe_str (nomark _))))) (pss_one (ps_ret (pe_callH h_is_plain (hr.mono (by omega)) rfl pass0 (pa_cons (pe_ix ix_seq (pv 0) pe_int (fun _ _ => rfl)) pa_nil)))) pss_nil)
    (pss_consJ (ps_if (pt_cmpR (o_eq hr.units) (pe_ix ix_seq (pv 0) pe_int (fun _ _ => rfl)) pe_str (nomark _)) (pss_one (ps_for PassesOwn.never rfl (pi_tup (pe_ix ix_seq (pv 0) pe_int (fun _ _ => rfl))) (pg_name (i := 1) sc_is_plain.nd rfl (by first | exact Or.inl rfl | exact Or.inr rfl)) (pss_one (ps_if (pt_not (pt_val (pe_callH h_is_plain (hr.mono (by omega)) rfl pass0 (pa_cons (pv 1) pa_nil)))) (pss_one (ps_ret pe_bl)) pss_nil)))) pss_nil)
    (pss_one (ps_ret pe_bl))))),
    pure_is_plain n vs H Q E h⟩)
theorem has_is_plain (F0 : Dfn K mg "is_plain" s_is_plain ["kind"])   (q_LEAVES : Cst K mg "LEAVES" c_LEAVES) : ∀ n : Nat, Has P w K mg base CX0 (n + 0) "is_plain" ["kind"] (sp_is_plain K n)
  | 0 => F0.never no_is_plain
  | n + 1 => (step_is_plain n F0 (has_is_plain F0   q_LEAVES n)  q_LEAVES).mono (by omega)
theorem step_is_copy (n : Nat) (F0 : Dfn K mg "is_copy" s_is_copy ["kind"]) (h_is_copy : Has P w K mg base CX0 (n + 0) "is_copy" ["kind"] (sp_is_copy K n))   : Has P w K mg base CX0 (n + 0 + 1) "is_copy" ["kind"] (sp_is_copy K (n + 1)) :=
  F0.has fun f fd F => F.ok sc_is_copy (by intro vs H Q E h; row_has h) (fun cdv A outer s H vs Q E hr h => ⟨t_is_copy K n,
    (pss_consJ (ps_if (pt_cmpR (o_eq hr.units) (pe_ix ix_seq (pv 0) pe_int (fun _ _ => rfl)) pe_str (nomark _)) (pss_one (ps_ret (pe_callH h_is_copy (hr.mono (by omega)) rfl pass0 (pa_cons (pe_ix ix_seq (pv 0) pe_int (fun _ _ => rfl)) pa_nil)))) pss_nil)
    (pss_consJ (ps_if (pt_cmpR (o_eq hr.units) (pe_ix ix_seq (pv 0) pe_int (fun _ _ => rfl)) pe_str (nomark _)) (pss_consJ (ps_for PassesOwn.never rfl (pi_tup (pe_ix ix_seq (pv 0) pe_int (fun _ _ => rfl))) (pg_name (i := 1) sc_is_copy.nd rfl (by first | exact Or.inl rfl | exact Or.inr rfl)) (pss_one (ps_if (pt_not (pt_val (pe_callH h_is_copy (hr.mono (by omega)) rfl pass0 (pa_cons (pv 1) pa_nil)))) (pss_one (ps_ret pe_bl)) pss_nil)))
    (pss_one (ps_ret pe_bl))) pss_nil)
    (pss_one (ps_ret (pe_cmpR op_in_seq (pe_ix ix_seq (pv 0) pe_int (fun _ _ => rfl)) (pe_tup (pa_cons pe_str (pa_cons pe_str (pa_cons pe_str (pa_cons pe_str pa_nil))))) rfl))))),
    pure_is_copy n vs H Q E h⟩)
theorem has_is_copy (F0 : Dfn K mg "is_copy" s_is_copy ["kind"])    : ∀ n : Nat, Has P w K mg base CX0 (n + 0) "is_copy" ["kind"] (sp_is_copy K n)
  | 0 => F0.never no_is_copy
  | n + 1 => (step_is_copy n F0 (has_is_copy F0    n)  ).mono (by omega)
theorem step_levels (n : Nat) (F0 : Dfn K mg "levels" s_levels ["kind"]) (h_levels : Has P w K mg base CX0 (n + 0) "levels" ["kind"] (sp_levels K n)) (z_max : mg "max" = none)  : Has P w K mg base CX0 (n + 0 + 1) "levels" ["kind"] (sp_levels K (n + 1)) :=
  F0.has fun f fd F => F.ok sc_levels (by intro vs H Q E h; row_has h) (fun cdv A outer s H vs Q E hr h => ⟨t_levels K n,
    (pss_consJ (ps_if (pt_cmpR op_in_seq (pe_ix ix_seq (pv 0) pe_int (fun _ _ => rfl)) (pe_tup (pa_cons pe_str (pa_cons pe_str (pa_cons pe_str (pa_cons pe_str (pa_cons pe_str pa_nil)))))) rfl) (pss_one (ps_ret (pe_op o_add pe_int (pe_callH h_levels (hr.mono (by omega)) rfl pass0 (pa_cons (pe_ix ix_seq (pv 0) pe_int (fun _ _ => rfl)) pa_nil))))) pss_nil)
    (pss_consJ (ps_if (pt_cmpR (o_eq hr.units) (pe_ix ix_seq (pv 0) pe_int (fun _ _ => rfl)) pe_str (nomark _)) (pss_one (ps_ret (pe_op o_add pe_int (pe_callB (cr_max rfl) (by rfl) z_max (by decide +kernel) (pa_cons (pe_lc (own := [("item", 1)]) (g := (gName 1)) (tt := tYes) (te := (tCall (sp_levels K n) [] E0 (tCons (tVar 1) tNil)))  rfl sc_levels.nd (pi_tup (pe_ix ix_seq (pv 0) pe_int (fun _ _ => rfl))) (blkOk_by (own := [("item", 1)]) (N := N_levels) (sc := defScope s_levels) (by decide +kernel)) (fun _ _ _ _ _ => (pg_name (i := 1) sc_levels.nd rfl (by first | exact Or.inl rfl | exact Or.inr rfl))) (fun _ _ _ _ _ => pts_nil) (fun _ _ _ _ _ => (pe_callH h_levels (hr.mono (by omega)) rfl pass0 (pa_cons (pv 1) pa_nil)))) pa_nil))))) pss_nil)
    (pss_one (ps_ret pe_int)))),
    pure_levels n vs H Q E h⟩)
theorem has_levels (F0 : Dfn K mg "levels" s_levels ["kind"])  (z_max : mg "max" = none)  : ∀ n : Nat, Has P w K mg base CX0 (n + 0) "levels" ["kind"] (sp_levels K n)
  | 0 => F0.never no_levels
  | n + 1 => (step_levels n F0 (has_levels F0  z_max  n) z_max ).mono (by omega)
theorem step_leaves (n : Nat) (F0 : Dfn K mg "leaves" s_leaves ["kind"]) (h_leaves : Has P w K mg base CX0 (n + 0) "leaves" ["kind"] (sp_leaves K n)) (z_enumerate : mg "enumerate" = none) (z_tuple : mg "tuple" = none) (q_LEAVES : Cst K mg "LEAVES" c_LEAVES) : Has P w K mg base CX0 (n + 0 + 1) "leaves" ["kind"] (sp_leaves K (n + 1)) :=
  F0.has fun f fd F => F.ok sc_leaves (by intro vs H Q E h; row_has h) (fun cdv A outer s H vs Q E hr h => ⟨t_leaves K n,
    (pss_consJ (ps_if (pt_cmpR op_in_seq (pe_ix ix_seq (pv 0) pe_int (fun _ _ => rfl)) (pe_const q_LEAVES (by rfl)) rfl) (pss_one (ps_ret (pe_tup (pa_cons (pe_tup pa_nil) pa_nil)))) pss_nil)
    (pss_consJ (ps_set (i := 1) sc_leaves.nd rfl (by first | exact Or.inl rfl | exact Or.inr rfl) (pe_lst pa_nil))
    (pss_consJ (ps_if (pt_cmpR (o_eq hr.units) (pe_ix ix_seq (pv 0) pe_int (fun _ _ => rfl)) pe_str (nomark _)) (pss_one (ps_for PassesOwn.never rfl (pi_tup (pe_callH h_leaves (hr.mono (by omega)) rfl pass0 (pa_cons (pe_ix ix_seq (pv 0) pe_int (fun _ _ => rfl)) pa_nil))) (pg_name (i := 2) sc_leaves.nd rfl (by first | exact Or.inl rfl | exact Or.inr rfl)) (pss_one (ps_expr (pe_bm PySem.F.plainAttrs_list PySem.F.slot_list_append PySem.F.type_list_append mt_append (pv 1) (pa_cons (pe_op o_add (pe_tup (pa_cons pe_str pa_nil)) (pv 2)) pa_nil)))))) pss_nil)
    (pss_consJ (ps_if (pt_cmpR (o_eq hr.units) (pe_ix ix_seq (pv 0) pe_int (fun _ _ => rfl)) pe_str (nomark _)) (pss_one (ps_for PassesOwn.never rfl (pi_enumT (by rfl) z_enumerate (pa_cons (pe_ix ix_seq (pv 0) pe_int (fun _ _ => rfl)) pa_nil)) (pg_tup rfl (pgs_cons (pg_name (i := 3) sc_leaves.nd rfl (by first | exact Or.inl rfl | exact Or.inr rfl)) (pgs_cons (pg_name (i := 4) sc_leaves.nd rfl (by first | exact Or.inl rfl | exact Or.inr rfl)) pgs_nil))) (pss_one (ps_for PassesOwn.never rfl (pi_tup (pe_callH h_leaves (hr.mono (by omega)) rfl pass0 (pa_cons (pv 4) pa_nil))) (pg_name (i := 2) sc_leaves.nd rfl (by first | exact Or.inl rfl | exact Or.inr rfl)) (pss_one (ps_expr (pe_bm PySem.F.plainAttrs_list PySem.F.slot_list_append PySem.F.type_list_append mt_append (pv 1) (pa_cons (pe_op o_add (pe_tup (pa_cons (pv 3) pa_nil)) (pv 2)) pa_nil)))))))) pss_nil)
    (pss_one (ps_ret (pe_callTy call_tuple_of (by rfl) z_tuple (by decide +kernel) (pa_cons (pv 1) pa_nil)))))))),
    pure_leaves n vs H Q E h⟩)
theorem has_leaves (F0 : Dfn K mg "leaves" s_leaves ["kind"])  (z_enumerate : mg "enumerate" = none) (z_tuple : mg "tuple" = none) (q_LEAVES : Cst K mg "LEAVES" c_LEAVES) : ∀ n : Nat, Has P w K mg base CX0 (n + 0) "leaves" ["kind"] (sp_leaves K n)
  | 0 => F0.never no_leaves
  | n + 1 => (step_leaves n F0 (has_leaves F0  z_enumerate z_tuple q_LEAVES n) z_enumerate z_tuple q_LEAVES).mono (by omega)
theorem has_l_tape (F0 : Dfn K mg "_law_tape" s_l_tape ["script"])  (z_int : mg "int" = none) (z_abs : mg "abs" = none) (z_range : mg "range" = none)  : Has P w K mg base CX0 1 "_law_tape" ["script"] (sp_l_tape K) :=
  F0.has fun f fd F => F.ok sc_l_tape (by intro vs H Q E h; row_has h) (fun cdv A outer s H vs Q E hr h => ⟨t_l_tape K,
    (pss_consJ (ps_set (i := 1) sc_l_tape.nd rfl (by first | exact Or.inl rfl | exact Or.inr rfl) (pe_lst pa_nil))
    (pss_consJ (ps_set (i := 2) sc_l_tape.nd rfl (by first | exact Or.inl rfl | exact Or.inr rfl) pe_int)
    (pss_consJ (ps_for PassesOwn.never rfl (pi_list (pe_slice o_sl (pv 0) po_none (po_some pe_int))) (pg_name (i := 3) sc_l_tape.nd rfl (by first | exact Or.inl rfl | exact Or.inr rfl)) (pss_consJ (ps_set (i := 4) sc_l_tape.nd rfl (by first | exact Or.inl rfl | exact Or.inr rfl) (pe_callB call_abs (by rfl) z_abs (by decide +kernel) (pa_cons (pe_callTy call_int1 (by rfl) z_int (by decide +kernel) (pa_cons (pv 3) pa_nil)) pa_nil)))
    (pss_consJ (ps_set (i := 2) sc_l_tape.nd rfl (by first | exact Or.inl rfl | exact Or.inr rfl) (pe_op o_add (pv 2) (pv 4)))
    (pss_one (ps_for PassesOwn.never rfl (pi_range1 (by rfl) z_range (pa_cons pe_int pa_nil)) (pg_name (i := 5) sc_l_tape.nd rfl (by first | exact Or.inl rfl | exact Or.inr rfl)) (pss_consJ (ps_expr (pe_bm PySem.F.plainAttrs_list PySem.F.slot_list_append PySem.F.type_list_append mt_append (pv 1) (pa_cons (pe_op op_mod (pe_callTy call_int1 (by rfl) z_int (by decide +kernel) (pa_cons (pv 4) pa_nil)) pe_int) pa_nil)))
    (pss_consJ (ps_set (i := 4) sc_l_tape.nd rfl (by first | exact Or.inl rfl | exact Or.inr rfl) (pe_op op_fdiv (pv 4) pe_int))
    (pss_one (ps_if (pt_cmpR (o_eq hr.units) (pv 4) pe_int (nomark _)) (pss_one ps_break) pss_nil)))))))))
    (pss_one (ps_ret (pe_lst (pa_cons pe_int (pa_cons (pv 1) (pa_cons (pe_op op_mod (pe_callTy call_int1 (by rfl) z_int (by decide +kernel) (pa_cons (pv 2) pa_nil)) pe_int) pa_nil))))))))),
    pure_l_tape vs H Q E h⟩)
theorem has_l_next (F0 : Dfn K mg "_law_next" s_l_next ["tape", "many"])  (z_len : mg "len" = none) (z_int : mg "int" = none)  : Has P w K mg base CX0 1 "_law_next" ["tape", "many"] (sp_l_next K) :=
  F0.has fun f fd F => F.ok sc_l_next (by intro vs H Q E h; row_has h) (fun cdv A outer s H vs Q E hr h => ⟨t_l_next K,
    (pss_consJ (ps_set (i := 2) sc_l_next.nd rfl (by first | exact Or.inl rfl | exact Or.inr rfl) (pe_ix ix_seq (pv 0) pe_int (fun _ _ => rfl)))
    (pss_consJ (ps_asg (pe_op o_add (pv 2) pe_int) (pg_sub (pv 0) pe_int set_list))
    (pss_consJ (ps_if (pt_cmpR op_lt (pv 2) (pe_callB call_len (by rfl) z_len PySem.boot_len (pa_cons (pe_ix ix_seq (pv 0) pe_int (fun _ _ => rfl)) pa_nil)) (nomark _)) (pss_one (ps_ret (pe_op op_mod (pe_callTy call_int1 (by rfl) z_int (by decide +kernel) (pa_cons (pe_ix ix_seq (pe_ix ix_seq (pv 0) pe_int (fun _ _ => rfl)) (pv 2) (fun _ _ => rfl)) pa_nil)) (pv 1)))) pss_nil)
    (pss_one (ps_ret (pe_op op_mod (pe_op op_fdiv (pe_op op_mod (pe_callTy call_int1 (by rfl) z_int (by decide +kernel) (pa_cons (pe_op o_add (pe_op op_mul (pe_op o_add (pv 2) pe_int) pe_int) (pe_op op_mul (pe_ix ix_seq (pv 0) pe_int (fun _ _ => rfl)) pe_int)) pa_nil)) pe_int) pe_int) (pv 1))))))),
    pure_l_next vs H Q E h⟩)
theorem step_l_cells (n : Nat) (F0 : Dfn K mg "_law_cells" s_l_cells ["kind"]) (h_l_cells : Has P w K mg base CX0 (n + 0) "_law_cells" ["kind"] (sp_l_cells K n)) (z_sum : mg "sum" = none)  : Has P w K mg base CX0 (n + 0 + 1) "_law_cells" ["kind"] (sp_l_cells K (n + 1)) :=
  F0.has fun f fd F => F.ok sc_l_cells (by intro vs H Q E h; row_has h) (fun cdv A outer s H vs Q E hr h => ⟨t_l_cells K n,
    (pss_consJ (ps_if (pt_cmpR (o_eq hr.units) (pe_ix ix_seq (pv 0) pe_int (fun _ _ => rfl)) pe_str (nomark _)) (pss_one (ps_ret (pe_op o_add pe_int (pe_callH h_l_cells (hr.mono (by omega)) rfl pass0 (pa_cons (pe_ix ix_seq (pv 0) pe_int (fun _ _ => rfl)) pa_nil))))) pss_nil)
    (pss_consJ (ps_if (pt_cmpR (o_eq hr.units) (pe_ix ix_seq (pv 0) pe_int (fun _ _ => rfl)) pe_str (nomark _)) (pss_one (ps_ret (pe_callB (cr_sum rfl) (by rfl) z_sum (by decide +kernel) (pa_cons (pe_lc (own := [("item", 1)]) (g := (gName 1)) (tt := tYes) (te := (tCall (sp_l_cells K n) [] E0 (tCons (tVar 1) tNil)))  rfl sc_l_cells.nd (pi_tup (pe_ix ix_seq (pv 0) pe_int (fun _ _ => rfl))) (blkOk_by (own := [("item", 1)]) (N := N_l_cells) (sc := defScope s_l_cells) (by decide +kernel)) (fun _ _ _ _ _ => (pg_name (i := 1) sc_l_cells.nd rfl (by first | exact Or.inl rfl | exact Or.inr rfl))) (fun _ _ _ _ _ => pts_nil) (fun _ _ _ _ _ => (pe_callH h_l_cells (hr.mono (by omega)) rfl pass0 (pa_cons (pv 1) pa_nil)))) pa_nil)))) pss_nil)
    (pss_one (ps_ret (pe_ifExp (pt_cmpR (o_eq hr.units) (pe_ix ix_seq (pv 0) pe_int (fun _ _ => rfl)) pe_str (nomark _)) pe_int pe_int))))),
    pure_l_cells n vs H Q E h⟩)
theorem has_l_cells (F0 : Dfn K mg "_law_cells" s_l_cells ["kind"])  (z_sum : mg "sum" = none)  : ∀ n : Nat, Has P w K mg base CX0 (n + 0) "_law_cells" ["kind"] (sp_l_cells K n)
  | 0 => F0.never no_l_cells
  | n + 1 => (step_l_cells n F0 (has_l_cells F0  z_sum  n) z_sum ).mono (by omega)
theorem has_l_fitting (F0 : Dfn K mg "_law_fitting" s_l_fitting ["items", "most"]) (h_l_cells : Has P w K mg base CX0 6 "_law_cells" ["kind"] (sp_l_cells K 6)) (z_len : mg "len" = none) (z_range : mg "range" = none) (z_tuple : mg "tuple" = none)  : Has P w K mg base CX0 7 "_law_fitting" ["items", "most"] (sp_l_fitting K) :=
  F0.has fun f fd F => F.ok sc_l_fitting (by intro vs H Q E h; row_has h) (fun cdv A outer s H vs Q E hr h => ⟨t_l_fitting K,
    (pss_consJ (ps_set (i := 2) sc_l_fitting.nd rfl (by first | exact Or.inl rfl | exact Or.inr rfl) (pe_lst pa_nil))
    (pss_consJ (ps_set (i := 3) sc_l_fitting.nd rfl (by first | exact Or.inl rfl | exact Or.inr rfl) pe_int)
    (pss_consJ (ps_for PassesOwn.never rfl (pi_range1 (by rfl) z_range (pa_cons (pe_callB call_len (by rfl) z_len PySem.boot_len (pa_cons (pv 0) pa_nil)) pa_nil)) (pg_name (i := 4) sc_l_fitting.nd rfl (by first | exact Or.inl rfl | exact Or.inr rfl)) (pss_consJ (ps_set (i := 5) sc_l_fitting.nd rfl (by first | exact Or.inl rfl | exact Or.inr rfl) (pe_ix ix_seq (pv 0) (pv 4) (fun _ _ => rfl)))
    (pss_consJ (ps_if (pt_cmpR op_gt (pe_op op_sub (pe_op op_sub (pe_op o_add (pe_op o_add (pv 3) (pe_callH h_l_cells (hr.mono (by omega)) rfl pass0 (pa_cons (pv 5) pa_nil))) (pe_callB call_len (by rfl) z_len PySem.boot_len (pa_cons (pv 0) pa_nil))) pe_int) (pv 4)) (pv 1) (nomark _)) (pss_one (ps_set (i := 5) sc_l_fitting.nd rfl (by first | exact Or.inl rfl | exact Or.inr rfl) (pe_tup (pa_cons pe_str pa_nil)))) pss_nil)
    (pss_consJ (ps_set (i := 3) sc_l_fitting.nd rfl (by first | exact Or.inl rfl | exact Or.inr rfl) (pe_op o_add (pv 3) (pe_callH h_l_cells (hr.mono (by omega)) rfl pass0 (pa_cons (pv 5) pa_nil))))
    (pss_one (ps_expr (pe_bm PySem.F.plainAttrs_list PySem.F.slot_list_append PySem.F.type_list_append mt_append (pv 2) (pa_cons (pv 5) pa_nil))))))))
    (pss_one (ps_ret (pe_callTy call_tuple_of (by rfl) z_tuple (by decide +kernel) (pa_cons (pv 2) pa_nil))))))),
    pure_l_fitting vs H Q E h⟩)
theorem step_l_kind (n : Nat) (F0 : Dfn K mg "_law_kind" s_l_kind ["tape", "depth", "plain"]) (h_l_next : Has P w K mg base CX0 1 "_law_next" ["tape", "many"] (sp_l_next K)) (h_l_kind : Has P w K mg base CX0 (n + 7) "_law_kind" ["tape", "depth", "plain"] (sp_l_kind K n)) (h_l_fitting : Has P w K mg base CX0 7 "_law_fitting" ["items", "most"] (sp_l_fitting K)) (z_range : mg "range" = none)  : Has P w K mg base CX0 (n + 7 + 1) "_law_kind" ["tape", "depth", "plain"] (sp_l_kind K (n + 1)) :=
  F0.has fun f fd F => F.ok sc_l_kind (by intro vs H Q E h; row_has h) (fun cdv A outer s H vs Q E hr h => ⟨t_l_kind K n,
    (pss_consJ (ps_set (i := 3) sc_l_kind.nd rfl (by first | exact Or.inl rfl | exact Or.inr rfl) (pe_callH h_l_next (hr.mono (by omega)) rfl pass0 (pa_cons (pv 0) (pa_cons pe_int pa_nil))))
    (pss_consJ (ps_if (PW.pt (pw_or (pt_cmpR op_le (pv 1) pe_int (nomark _)) (pw_or1 (pt_cmpR op_lt (pv 3) pe_int (nomark _))))) (pss_one (ps_ret (pe_ix ix_seq (pe_lst (pa_cons (pe_tup (pa_cons pe_str pa_nil)) (pa_cons (pe_tup (pa_cons pe_str pa_nil)) (pa_cons (pe_tup (pa_cons pe_str pa_nil)) (pa_cons (pe_tup (pa_cons pe_str (pa_cons pe_str pa_nil))) pa_nil))))) (pe_callH h_l_next (hr.mono (by omega)) rfl pass0 (pa_cons (pv 0) (pa_cons pe_int pa_nil))) (fun _ _ => rfl)))) pss_nil)
    (pss_consJ (ps_if (pt_cmpR (o_eq hr.units) (pv 3) pe_int (nomark _)) (pss_one (ps_ret (pe_tup (pa_cons pe_str (pa_cons (pe_callH h_l_kind (hr.mono (by omega)) rfl pass0 (pa_cons (pv 0) (pa_cons (pe_op op_sub (pv 1) pe_int) (pa_cons pe_bl pa_nil)))) pa_nil))))) pss_nil)
    (pss_consJ (ps_if (pt_cmpR (o_eq hr.units) (pv 3) pe_int (nomark _)) (pss_one (ps_ret (pe_op o_add (pe_tup (pa_cons pe_str pa_nil)) (pe_callH h_l_fitting (hr.mono (by omega)) rfl pass0 (pa_cons (pe_lst (pa_cons (pe_callH h_l_kind (hr.mono (by omega)) rfl pass0 (pa_cons (pv 0) (pa_cons (pe_op op_sub (pv 1) pe_int) (pa_cons (pv 2) pa_nil)))) pa_nil)) (pa_cons pe_int pa_nil)))))) pss_nil)
    (pss_consJ (ps_if (PW.pt (pw_or (pt_cmpR op_lt (pv 3) pe_int (nomark _)) (pw_or1 (pt_val (pv 2))))) (pss_consJ (ps_set (i := 4) sc_l_kind.nd rfl (by first | exact Or.inl rfl | exact Or.inr rfl) (pe_op o_add pe_int (pe_callH h_l_next (hr.mono (by omega)) rfl pass0 (pa_cons (pv 0) (pa_cons pe_int pa_nil)))))
    (pss_one (ps_ret (pe_tup (pa_cons pe_str (pa_cons (pe_callH h_l_fitting (hr.mono (by omega)) rfl pass0 (pa_cons (pe_lc (own := [("k", 5)]) (g := (gName 5)) (tt := tYes) (te := (tCall (sp_l_kind K n) [] E0 (tCons (tVar 0) (tCons (tOp rSubI (tVar 1) (tC (.int 1))) (tCons (tVar 2) tNil)))))  rfl sc_l_kind.nd (pi_range1 (by rfl) z_range (pa_cons (pv 4) pa_nil)) (blkOk_by (own := [("k", 5)]) (N := N_l_kind) (sc := defScope s_l_kind) (by decide +kernel)) (fun _ _ _ _ _ => (pg_name (i := 5) sc_l_kind.nd rfl (by first | exact Or.inl rfl | exact Or.inr rfl))) (fun _ _ _ _ _ => pts_nil) (fun _ _ _ _ _ => (pe_callH h_l_kind (hr.mono (by omega)) rfl pass0 (pa_cons (pv 0) (pa_cons (pe_op op_sub (pv 1) pe_int) (pa_cons (pv 2) pa_nil)))))) (pa_cons pe_int pa_nil))) pa_nil)))))) pss_nil)
    (pss_one (ps_ret (pe_tup (pa_cons (pe_ix ix_seq (pe_lst (pa_cons pe_str (pa_cons pe_str (pa_cons pe_str pa_nil)))) (pe_op op_sub (pv 3) pe_int) (fun _ _ => rfl)) (pa_cons (pe_callH h_l_kind (hr.mono (by omega)) rfl pass0 (pa_cons (pv 0) (pa_cons (pe_op op_sub (pv 1) pe_int) (pa_cons pe_bl pa_nil)))) pa_nil)))))))))),
    pure_l_kind n vs H Q E h⟩)
theorem has_l_kind (F0 : Dfn K mg "_law_kind" s_l_kind ["tape", "depth", "plain"]) (h_l_next : Has P w K mg base CX0 1 "_law_next" ["tape", "many"] (sp_l_next K)) (h_l_fitting : Has P w K mg base CX0 7 "_law_fitting" ["items", "most"] (sp_l_fitting K)) (z_range : mg "range" = none)  : ∀ n : Nat, Has P w K mg base CX0 (n + 7) "_law_kind" ["tape", "depth", "plain"] (sp_l_kind K n)
  | 0 => F0.never no_l_kind
  | n + 1 => (step_l_kind n F0 h_l_next (has_l_kind F0 h_l_next h_l_fitting z_range  n) h_l_fitting z_range ).mono (by omega)
theorem step_l_plain (n : Nat) (F0 : Dfn K mg "_law_plain" s_l_plain ["kind"]) (h_l_plain : Has P w K mg base CX0 (n + 0) "_law_plain" ["kind"] (sp_l_plain K n)) (z_len : mg "len" = none)  : Has P w K mg base CX0 (n + 0 + 1) "_law_plain" ["kind"] (sp_l_plain K (n + 1)) :=
  F0.has fun f fd F => F.ok sc_l_plain (by intro vs H Q E h; row_has h) (fun cdv A outer s H vs Q E hr h => ⟨t_l_plain K n,
    (pss_consJ (ps_if (pt_cmpR op_in_seq (pe_ix ix_seq (pv 0) pe_int (fun _ _ => rfl)) (pe_lst (pa_cons pe_str (pa_cons pe_str (pa_cons pe_str pa_nil)))) rfl) (pss_one (ps_ret pe_bl)) pss_nil)
    (pss_consJ (ps_if (pt_cmpR op_in_seq (pe_ix ix_seq (pv 0) pe_int (fun _ _ => rfl)) (pe_lst (pa_cons pe_str (pa_cons pe_str pa_nil))) rfl) (pss_one (ps_ret (pe_callH h_l_plain (hr.mono (by omega)) rfl pass0 (pa_cons (pe_ix ix_seq (pv 0) pe_int (fun _ _ => rfl)) pa_nil)))) pss_nil)
    (pss_consJ (ps_if (pt_cmpR (o_eq hr.units) (pe_ix ix_seq (pv 0) pe_int (fun _ _ => rfl)) pe_str (nomark _)) (pss_one (ps_ret (pe_cmpR (o_eq hr.units) (pe_callB call_len (by rfl) z_len PySem.boot_len (pa_cons (pe_lc (own := [("item", 1)]) (g := (gName 1)) (tt := (tNot (tB (tCall (sp_l_plain K n) [] E0 (tCons (tVar 1) tNil))))) (te := (tVar 1))  rfl sc_l_plain.nd (pi_tup (pe_ix ix_seq (pv 0) pe_int (fun _ _ => rfl))) (blkOk_by (own := [("item", 1)]) (N := N_l_plain) (sc := defScope s_l_plain) (by decide +kernel)) (fun _ _ _ _ _ => (pg_name (i := 1) sc_l_plain.nd rfl (by first | exact Or.inl rfl | exact Or.inr rfl))) (fun _ _ _ _ _ => (pts_one (pt_not (pt_val (pe_callH h_l_plain (hr.mono (by omega)) rfl pass0 (pa_cons (pv 1) pa_nil)))))) (fun _ _ _ _ _ => (pv 1))) pa_nil)) pe_int (nomark _)))) pss_nil)
    (pss_one (ps_ret pe_bl))))),
    pure_l_plain n vs H Q E h⟩)
theorem has_l_plain (F0 : Dfn K mg "_law_plain" s_l_plain ["kind"])  (z_len : mg "len" = none)  : ∀ n : Nat, Has P w K mg base CX0 (n + 0) "_law_plain" ["kind"] (sp_l_plain K n)
  | 0 => F0.never no_l_plain
  | n + 1 => (step_l_plain n F0 (has_l_plain F0  z_len  n) z_len ).mono (by omega)
theorem step_l_copy (n : Nat) (F0 : Dfn K mg "_law_copy" s_l_copy ["kind"]) (h_l_copy : Has P w K mg base CX0 (n + 0) "_law_copy" ["kind"] (sp_l_copy K n)) (z_len : mg "len" = none)  : Has P w K mg base CX0 (n + 0 + 1) "_law_copy" ["kind"] (sp_l_copy K (n + 1)) :=
  F0.has fun f fd F => F.ok sc_l_copy (by intro vs H Q E h; row_has h) (fun cdv A outer s H vs Q E hr h => ⟨t_l_copy K n,
    (pss_consJ (ps_if (pt_cmpR (o_eq hr.units) (pe_ix ix_seq (pv 0) pe_int (fun _ _ => rfl)) pe_str (nomark _)) (pss_one (ps_ret (pe_callH h_l_copy (hr.mono (by omega)) rfl pass0 (pa_cons (pe_ix ix_seq (pv 0) pe_int (fun _ _ => rfl)) pa_nil)))) pss_nil)
    (pss_consJ (ps_if (pt_cmpR (o_eq hr.units) (pe_ix ix_seq (pv 0) pe_int (fun _ _ => rfl)) pe_str (nomark _)) (pss_one (ps_ret (pe_cmpR (o_eq hr.units) (pe_callB call_len (by rfl) z_len PySem.boot_len (pa_cons (pe_lc (own := [("item", 1)]) (g := (gName 1)) (tt := (tNot (tB (tCall (sp_l_copy K n) [] E0 (tCons (tVar 1) tNil))))) (te := (tVar 1))  rfl sc_l_copy.nd (pi_tup (pe_ix ix_seq (pv 0) pe_int (fun _ _ => rfl))) (blkOk_by (own := [("item", 1)]) (N := N_l_copy) (sc := defScope s_l_copy) (by decide +kernel)) (fun _ _ _ _ _ => (pg_name (i := 1) sc_l_copy.nd rfl (by first | exact Or.inl rfl | exact Or.inr rfl))) (fun _ _ _ _ _ => (pts_one (pt_not (pt_val (pe_callH h_l_copy (hr.mono (by omega)) rfl pass0 (pa_cons (pv 1) pa_nil)))))) (fun _ _ _ _ _ => (pv 1))) pa_nil)) pe_int (nomark _)))) pss_nil)
    (pss_one (ps_ret (pe_cmpR op_in_seq (pe_ix ix_seq (pv 0) pe_int (fun _ _ => rfl)) (pe_lst (pa_cons pe_str (pa_cons pe_str (pa_cons pe_str (pa_cons pe_str pa_nil))))) rfl))))),
    pure_l_copy n vs H Q E h⟩)
theorem has_l_copy (F0 : Dfn K mg "_law_copy" s_l_copy ["kind"])  (z_len : mg "len" = none)  : ∀ n : Nat, Has P w K mg base CX0 (n + 0) "_law_copy" ["kind"] (sp_l_copy K n)
  | 0 => F0.never no_l_copy
  | n + 1 => (step_l_copy n F0 (has_l_copy F0  z_len  n) z_len ).mono (by omega)
theorem step_l_levels (n : Nat) (F0 : Dfn K mg "_law_levels" s_l_levels ["kind"]) (h_l_levels : Has P w K mg base CX0 (n + 0) "_law_levels" ["kind"] (sp_l_levels K n)) (z_max : mg "max" = none)  : Has P w K mg base CX0 (n + 0 + 1) "_law_levels" ["kind"] (sp_l_levels K (n + 1)) :=
  F0.has fun f fd F => F.ok sc_l_levels (by intro vs H Q E h; row_has h) (fun cdv A outer s H vs Q E hr h => ⟨t_l_levels K n,
    (pss_consJ (ps_if (pt_cmpR (o_eq hr.units) (pe_ix ix_seq (pv 0) pe_int (fun _ _ => rfl)) pe_str (nomark _)) (pss_one (ps_ret (pe_op o_add pe_int (pe_callB (cr_max rfl) (by rfl) z_max (by decide +kernel) (pa_cons (pe_lc (own := [("item", 1)]) (g := (gName 1)) (tt := tYes) (te := (tCall (sp_l_levels K n) [] E0 (tCons (tVar 1) tNil)))  rfl sc_l_levels.nd (pi_tup (pe_ix ix_seq (pv 0) pe_int (fun _ _ => rfl))) (blkOk_by (own := [("item", 1)]) (N := N_l_levels) (sc := defScope s_l_levels) (by decide +kernel)) (fun _ _ _ _ _ => (pg_name (i := 1) sc_l_levels.nd rfl (by first | exact Or.inl rfl | exact Or.inr rfl))) (fun _ _ _ _ _ => pts_nil) (fun _ _ _ _ _ => (pe_callH h_l_levels (hr.mono (by omega)) rfl pass0 (pa_cons (pv 1) pa_nil)))) pa_nil))))) pss_nil)
    (pss_consJ (ps_if (pt_cmpR op_in_seq (pe_ix ix_seq (pv 0) pe_int (fun _ _ => rfl)) (pe_lst (pa_cons pe_str (pa_cons pe_str (pa_cons pe_str (pa_cons pe_str (pa_cons pe_str pa_nil)))))) rfl) (pss_one (ps_ret (pe_op o_add pe_int (pe_callH h_l_levels (hr.mono (by omega)) rfl pass0 (pa_cons (pe_ix ix_seq (pv 0) pe_int (fun _ _ => rfl)) pa_nil))))) pss_nil)
    (pss_one (ps_ret pe_int)))),
    pure_l_levels n vs H Q E h⟩)
theorem has_l_levels (F0 : Dfn K mg "_law_levels" s_l_levels ["kind"])  (z_max : mg "max" = none)  : ∀ n : Nat, Has P w K mg base CX0 (n + 0) "_law_levels" ["kind"] (sp_l_levels K n)
  | 0 => F0.never no_l_levels
  | n + 1 => (step_l_levels n F0 (has_l_levels F0  z_max  n) z_max ).mono (by omega)
theorem step_l_leaves (n : Nat) (F0 : Dfn K mg "_law_leaves" s_l_leaves ["kind"]) (h_l_leaves : Has P w K mg base CX0 (n + 0) "_law_leaves" ["kind"] (sp_l_leaves K n)) (z_len : mg "len" = none) (z_range : mg "range" = none)  : Has P w K mg base CX0 (n + 0 + 1) "_law_leaves" ["kind"] (sp_l_leaves K (n + 1)) :=
  F0.has fun f fd F => F.ok sc_l_leaves (by intro vs H Q E h; row_has h) (fun cdv A outer s H vs Q E hr h => ⟨t_l_leaves K n,
    (pss_consJ (ps_if (pt_cmpR op_in_seq (pe_ix ix_seq (pv 0) pe_int (fun _ _ => rfl)) (pe_lst (pa_cons pe_str (pa_cons pe_str (pa_cons pe_str pa_nil)))) rfl) (pss_one (ps_ret (pe_lst (pa_cons (pe_tup pa_nil) pa_nil)))) pss_nil)
    (pss_consJ (ps_set (i := 1) sc_l_leaves.nd rfl (by first | exact Or.inl rfl | exact Or.inr rfl) (pe_lst pa_nil))
    (pss_consJ (ps_if (pt_cmpR (o_eq hr.units) (pe_ix ix_seq (pv 0) pe_int (fun _ _ => rfl)) pe_str (nomark _)) (pss_one (ps_setLc (i := 1) (own := [("path", 2)]) (g := (gName 2)) (tt := tYes) (te := (tOp (rAddG K) (tTupK K (tCons (tC (.str "?")) tNil)) (tVar 2)))  rfl sc_l_leaves.nd rfl rfl (sw_true rfl rfl rfl (by decide +kernel)) (pi_list (pe_callH h_l_leaves (hr.mono (by omega)) rfl pass0 (pa_cons (pe_ix ix_seq (pv 0) pe_int (fun _ _ => rfl)) pa_nil))) (blkOk_by (own := [("path", 2)]) (N := N_l_leaves) (sc := defScope s_l_leaves) (by decide +kernel)) (fun _ _ _ _ _ => (pg_name (i := 2) sc_l_leaves.nd rfl (by first | exact Or.inl rfl | exact Or.inr rfl))) (fun _ _ _ _ _ => pts_nil) (fun _ _ _ _ _ => (pe_op o_add (pe_tup (pa_cons pe_str pa_nil)) (pv 2))))) pss_nil)
    (pss_consJ (ps_if (pt_cmpR (o_eq hr.units) (pe_ix ix_seq (pv 0) pe_int (fun _ _ => rfl)) pe_str (nomark _)) (pss_one (ps_for PassesOwn.never rfl (pi_range1 (by rfl) z_range (pa_cons (pe_callB call_len (by rfl) z_len PySem.boot_len (pa_cons (pe_ix ix_seq (pv 0) pe_int (fun _ _ => rfl)) pa_nil)) pa_nil)) (pg_name (i := 3) sc_l_leaves.nd rfl (by first | exact Or.inl rfl | exact Or.inr rfl)) (pss_one (ps_set (i := 1) sc_l_leaves.nd rfl (by first | exact Or.inl rfl | exact Or.inr rfl) (pe_op o_add (pv 1) (pe_lc (own := [("path", 2)]) (g := (gName 2)) (tt := tYes) (te := (tOp (rAddG K) (tTupK K (tCons (tVar 3) tNil)) (tVar 2)))  rfl sc_l_leaves.nd (pi_list (pe_callH h_l_leaves (hr.mono (by omega)) rfl pass0 (pa_cons (pe_ix ix_seq (pe_ix ix_seq (pv 0) pe_int (fun _ _ => rfl)) (pv 3) (fun _ _ => rfl)) pa_nil))) (blkOk_by (own := [("path", 2)]) (N := N_l_leaves) (sc := defScope s_l_leaves) (by decide +kernel)) (fun _ _ _ _ _ => (pg_name (i := 2) sc_l_leaves.nd rfl (by first | exact Or.inl rfl | exact Or.inr rfl))) (fun _ _ _ _ _ => pts_nil) (fun _ _ _ _ _ => (pe_op o_add (pe_tup (pa_cons (pv 3) pa_nil)) (pv 2))))))))) pss_nil)
    (pss_one (ps_ret (pv 1))))))),
    pure_l_leaves n vs H Q E h⟩)
theorem has_l_leaves (F0 : Dfn K mg "_law_leaves" s_l_leaves ["kind"])  (z_len : mg "len" = none) (z_range : mg "range" = none)  : ∀ n : Nat, Has P w K mg base CX0 (n + 0) "_law_leaves" ["kind"] (sp_l_leaves K n)
  | 0 => F0.never no_l_leaves
  | n + 1 => (step_l_leaves n F0 (has_l_leaves F0  z_len z_range  n) z_len z_range ).mono (by omega)
theorem has_l_is (F0 : Dfn K mg "_law_is" s_l_is ["answer", "due"])    : Has P w K mg base CX0 1 "_law_is" ["answer", "due"] (sp_l_is K) :=
  F0.has fun f fd F => F.ok sc_l_is (by intro vs H Q E h; row_has h) (fun cdv A outer s H vs Q E hr h => ⟨t_l_is K,
    (pss_one (ps_ret (pe_ifExp (pt_val (pv 1)) (pe_cmpR op_isBl (pv 0) pe_bl (nomark _)) (pe_cmpR op_isBl (pv 0) pe_bl (nomark _))))),
    pure_l_is vs H Q E h⟩)
theorem ok_law {f : Addr} {fd : FuncData} (F : Fun K "law" "law" s_law f fd) (h_l_tape : Has P w K mg base CX0 1 "_law_tape" ["script"] (sp_l_tape K)) (h_l_kind : Has P w K mg base CX0 13 "_law_kind" ["tape", "depth", "plain"] (sp_l_kind K 6)) (h_l_is : Has P w K mg base CX0 1 "_law_is" ["answer", "due"] (sp_l_is K)) (h_l_plain : Has P w K mg base CX0 6 "_law_plain" ["kind"] (sp_l_plain K 6)) (h_is_plain : Has P w K mg base CX0 6 "is_plain" ["kind"] (sp_is_plain K 6)) (h_l_copy : Has P w K mg base CX0 6 "_law_copy" ["kind"] (sp_l_copy K 6)) (h_is_copy : Has P w K mg base CX0 6 "is_copy" ["kind"] (sp_is_copy K 6)) (h_levels : Has P w K mg base CX0 6 "levels" ["kind"] (sp_levels K 6)) (h_l_levels : Has P w K mg base CX0 6 "_law_levels" ["kind"] (sp_l_levels K 6)) (h_leaves : Has P w K mg base CX0 6 "leaves" ["kind"] (sp_leaves K 6)) (h_l_leaves : Has P w K mg base CX0 6 "_law_leaves" ["kind"] (sp_l_leaves K 6)) (z_range : mg "range" = none) (z_tuple : mg "tuple" = none)  : FnOk P w K mg base CX0 14 f fd ["script"] (sp_law K) :=
  F.ok sc_law (by intro vs H Q E h; row_has h) (fun cdv A outer s H vs Q E hr h => ⟨t_law K,
    (pss_consJ (ps_set (i := 1) sc_law.nd rfl (by first | exact Or.inl rfl | exact Or.inr rfl) (pe_callH h_l_tape (hr.mono (by omega)) rfl pass0 (pa_cons (pv 0) pa_nil)))
    (pss_consJ (ps_for PassesOwn.never rfl (pi_range1 (by rfl) z_range (pa_cons pe_int pa_nil)) (pg_name (i := 2) sc_law.nd rfl (by first | exact Or.inl rfl | exact Or.inr rfl)) (pss_consJ (ps_set (i := 3) sc_law.nd rfl (by first | exact Or.inl rfl | exact Or.inr rfl) (pe_callH h_l_kind (hr.mono (by omega)) rfl pass0 (pa_cons (pv 1) (pa_cons pe_int (pa_cons pe_bl pa_nil)))))
    (pss_consJ (ps_if (PW.pt (pw_or (pt_not (pt_val (pe_callH h_l_is (hr.mono (by omega)) rfl pass0 (pa_cons (pe_callH h_is_plain (hr.mono (by omega)) rfl pass0 (pa_cons (pv 3) pa_nil)) (pa_cons (pe_callH h_l_plain (hr.mono (by omega)) rfl pass0 (pa_cons (pv 3) pa_nil)) pa_nil))))) (pw_or1 (pt_not (pt_val (pe_callH h_l_is (hr.mono (by omega)) rfl pass0 (pa_cons (pe_callH h_is_copy (hr.mono (by omega)) rfl pass0 (pa_cons (pv 3) pa_nil)) (pa_cons (pe_callH h_l_copy (hr.mono (by omega)) rfl pass0 (pa_cons (pv 3) pa_nil)) pa_nil)))))))) (pss_one (ps_ret pe_bl)) pss_nil)
    (pss_one (ps_if (PW.pt (pw_or (pt_cmpR (o_ne hr.units) (pe_callH h_levels (hr.mono (by omega)) rfl pass0 (pa_cons (pv 3) pa_nil)) (pe_callH h_l_levels (hr.mono (by omega)) rfl pass0 (pa_cons (pv 3) pa_nil)) (nomark _)) (pw_or1 (pt_cmpR (o_ne hr.units) (pe_callH h_leaves (hr.mono (by omega)) rfl pass0 (pa_cons (pv 3) pa_nil)) (pe_callTy call_tuple_of (by rfl) z_tuple (by decide +kernel) (pa_cons (pe_callH h_l_leaves (hr.mono (by omega)) rfl pass0 (pa_cons (pv 3) pa_nil)) pa_nil)) (nomark _))))) (pss_one (ps_ret pe_bl)) pss_nil)))))
    (pss_one (ps_ret pe_bl)))),
    pure_law vs H Q E h⟩)
end

theorem all_mk {l : PySem.W.OpenLaw} {w : World} {K : PySem.W.Frag} {h : Heap} {mg : Str → Option Value} {fa : Addr} (X : K.In h) (G : h.Ns mainGlobals mg) (hfa : mg "law" = some (.ref fa))
    {f0 : Addr} {od0 an0 : Option Addr} {sl0 : Array (Option Value)} {oc0 kV0 dc0 pm0 cd0 ct0 : Value}
    {f1 : Addr} {od1 an1 : Option Addr} {sl1 : Array (Option Value)} {oc1 kV1 dc1 pm1 cd1 ct1 : Value}
    {f2 : Addr} {od2 an2 : Option Addr} {sl2 : Array (Option Value)} {oc2 kV2 dc2 pm2 cd2 ct2 : Value}
    {f3 : Addr} {od3 an3 : Option Addr} {sl3 : Array (Option Value)} {oc3 kV3 dc3 pm3 cd3 ct3 : Value}
    {f4 : Addr} {od4 an4 : Option Addr} {sl4 : Array (Option Value)} {oc4 kV4 dc4 pm4 cd4 ct4 : Value}
    {f5 : Addr} {od5 an5 : Option Addr} {sl5 : Array (Option Value)} {oc5 kV5 dc5 pm5 cd5 ct5 : Value}
    {f6 : Addr} {od6 an6 : Option Addr} {sl6 : Array (Option Value)} {oc6 kV6 dc6 pm6 cd6 ct6 : Value}
    {f7 : Addr} {od7 an7 : Option Addr} {sl7 : Array (Option Value)} {oc7 kV7 dc7 pm7 cd7 ct7 : Value}
    {f8 : Addr} {od8 an8 : Option Addr} {sl8 : Array (Option Value)} {oc8 kV8 dc8 pm8 cd8 ct8 : Value}
    {f9 : Addr} {od9 an9 : Option Addr} {sl9 : Array (Option Value)} {oc9 kV9 dc9 pm9 cd9 ct9 : Value}
    {f10 : Addr} {od10 an10 : Option Addr} {sl10 : Array (Option Value)} {oc10 kV10 dc10 pm10 cd10 ct10 : Value}
    {f11 : Addr} {od11 an11 : Option Addr} {sl11 : Array (Option Value)} {oc11 kV11 dc11 pm11 cd11 ct11 : Value}
    {f12 : Addr} {od12 an12 : Option Addr} {sl12 : Array (Option Value)} {oc12 kV12 dc12 pm12 cd12 ct12 : Value}
    {f13 : Addr} {od13 an13 : Option Addr} {sl13 : Array (Option Value)} {oc13 kV13 dc13 pm13 cd13 ct13 : Value}
    {f14 : Addr} {od14 an14 : Option Addr} {sl14 : Array (Option Value)} {oc14 kV14 dc14 pm14 cd14 ct14 : Value}
    (a0 : PySem.W.nsIn K mainGlobals "is_plain" = some (some (.ref f0))) (l0 : K.lookup f0 = some ⟨oc0, od0, .func (PySem.W.fnOf "is_plain" "is_plain" (defArgs s_is_plain) (defBody s_is_plain) (defScope s_is_plain) .none kV0 dc0 pm0 an0 cd0 ct0), sl0⟩) (c0 : PySem.W.codeIn K cd0 "is_plain" = true) (k0 : PySem.W.keepIn K (.ref f0) = true)
    (a1 : PySem.W.nsIn K mainGlobals "is_copy" = some (some (.ref f1))) (l1 : K.lookup f1 = some ⟨oc1, od1, .func (PySem.W.fnOf "is_copy" "is_copy" (defArgs s_is_copy) (defBody s_is_copy) (defScope s_is_copy) .none kV1 dc1 pm1 an1 cd1 ct1), sl1⟩) (c1 : PySem.W.codeIn K cd1 "is_copy" = true) (k1 : PySem.W.keepIn K (.ref f1) = true)
    (a2 : PySem.W.nsIn K mainGlobals "levels" = some (some (.ref f2))) (l2 : K.lookup f2 = some ⟨oc2, od2, .func (PySem.W.fnOf "levels" "levels" (defArgs s_levels) (defBody s_levels) (defScope s_levels) .none kV2 dc2 pm2 an2 cd2 ct2), sl2⟩) (c2 : PySem.W.codeIn K cd2 "levels" = true) (k2 : PySem.W.keepIn K (.ref f2) = true)
    (a3 : PySem.W.nsIn K mainGlobals "leaves" = some (some (.ref f3))) (l3 : K.lookup f3 = some ⟨oc3, od3, .func (PySem.W.fnOf "leaves" "leaves" (defArgs s_leaves) (defBody s_leaves) (defScope s_leaves) .none kV3 dc3 pm3 an3 cd3 ct3), sl3⟩) (c3 : PySem.W.codeIn K cd3 "leaves" = true) (k3 : PySem.W.keepIn K (.ref f3) = true)
    (a4 : PySem.W.nsIn K mainGlobals "_law_tape" = some (some (.ref f4))) (l4 : K.lookup f4 = some ⟨oc4, od4, .func (PySem.W.fnOf "_law_tape" "_law_tape" (defArgs s_l_tape) (defBody s_l_tape) (defScope s_l_tape) .none kV4 dc4 pm4 an4 cd4 ct4), sl4⟩) (c4 : PySem.W.codeIn K cd4 "_law_tape" = true) (k4 : PySem.W.keepIn K (.ref f4) = true)
    (a5 : PySem.W.nsIn K mainGlobals "_law_next" = some (some (.ref f5))) (l5 : K.lookup f5 = some ⟨oc5, od5, .func (PySem.W.fnOf "_law_next" "_law_next" (defArgs s_l_next) (defBody s_l_next) (defScope s_l_next) .none kV5 dc5 pm5 an5 cd5 ct5), sl5⟩) (c5 : PySem.W.codeIn K cd5 "_law_next" = true) (k5 : PySem.W.keepIn K (.ref f5) = true)
    (a6 : PySem.W.nsIn K mainGlobals "_law_cells" = some (some (.ref f6))) (l6 : K.lookup f6 = some ⟨oc6, od6, .func (PySem.W.fnOf "_law_cells" "_law_cells" (defArgs s_l_cells) (defBody s_l_cells) (defScope s_l_cells) .none kV6 dc6 pm6 an6 cd6 ct6), sl6⟩) (c6 : PySem.W.codeIn K cd6 "_law_cells" = true) (k6 : PySem.W.keepIn K (.ref f6) = true)
    (a7 : PySem.W.nsIn K mainGlobals "_law_fitting" = some (some (.ref f7))) (l7 : K.lookup f7 = some ⟨oc7, od7, .func (PySem.W.fnOf "_law_fitting" "_law_fitting" (defArgs s_l_fitting) (defBody s_l_fitting) (defScope s_l_fitting) .none kV7 dc7 pm7 an7 cd7 ct7), sl7⟩) (c7 : PySem.W.codeIn K cd7 "_law_fitting" = true) (k7 : PySem.W.keepIn K (.ref f7) = true)
    (a8 : PySem.W.nsIn K mainGlobals "_law_kind" = some (some (.ref f8))) (l8 : K.lookup f8 = some ⟨oc8, od8, .func (PySem.W.fnOf "_law_kind" "_law_kind" (defArgs s_l_kind) (defBody s_l_kind) (defScope s_l_kind) .none kV8 dc8 pm8 an8 cd8 ct8), sl8⟩) (c8 : PySem.W.codeIn K cd8 "_law_kind" = true) (k8 : PySem.W.keepIn K (.ref f8) = true)
    (a9 : PySem.W.nsIn K mainGlobals "_law_plain" = some (some (.ref f9))) (l9 : K.lookup f9 = some ⟨oc9, od9, .func (PySem.W.fnOf "_law_plain" "_law_plain" (defArgs s_l_plain) (defBody s_l_plain) (defScope s_l_plain) .none kV9 dc9 pm9 an9 cd9 ct9), sl9⟩) (c9 : PySem.W.codeIn K cd9 "_law_plain" = true) (k9 : PySem.W.keepIn K (.ref f9) = true)
    (a10 : PySem.W.nsIn K mainGlobals "_law_copy" = some (some (.ref f10))) (l10 : K.lookup f10 = some ⟨oc10, od10, .func (PySem.W.fnOf "_law_copy" "_law_copy" (defArgs s_l_copy) (defBody s_l_copy) (defScope s_l_copy) .none kV10 dc10 pm10 an10 cd10 ct10), sl10⟩) (c10 : PySem.W.codeIn K cd10 "_law_copy" = true) (k10 : PySem.W.keepIn K (.ref f10) = true)
    (a11 : PySem.W.nsIn K mainGlobals "_law_levels" = some (some (.ref f11))) (l11 : K.lookup f11 = some ⟨oc11, od11, .func (PySem.W.fnOf "_law_levels" "_law_levels" (defArgs s_l_levels) (defBody s_l_levels) (defScope s_l_levels) .none kV11 dc11 pm11 an11 cd11 ct11), sl11⟩) (c11 : PySem.W.codeIn K cd11 "_law_levels" = true) (k11 : PySem.W.keepIn K (.ref f11) = true)
    (a12 : PySem.W.nsIn K mainGlobals "_law_leaves" = some (some (.ref f12))) (l12 : K.lookup f12 = some ⟨oc12, od12, .func (PySem.W.fnOf "_law_leaves" "_law_leaves" (defArgs s_l_leaves) (defBody s_l_leaves) (defScope s_l_leaves) .none kV12 dc12 pm12 an12 cd12 ct12), sl12⟩) (c12 : PySem.W.codeIn K cd12 "_law_leaves" = true) (k12 : PySem.W.keepIn K (.ref f12) = true)
    (a13 : PySem.W.nsIn K mainGlobals "_law_is" = some (some (.ref f13))) (l13 : K.lookup f13 = some ⟨oc13, od13, .func (PySem.W.fnOf "_law_is" "_law_is" (defArgs s_l_is) (defBody s_l_is) (defScope s_l_is) .none kV13 dc13 pm13 an13 cd13 ct13), sl13⟩) (c13 : PySem.W.codeIn K cd13 "_law_is" = true) (k13 : PySem.W.keepIn K (.ref f13) = true)
    (a14 : PySem.W.nsIn K mainGlobals "law" = some (some (.ref f14))) (l14 : K.lookup f14 = some ⟨oc14, od14, .func (PySem.W.fnOf "law" "law" (defArgs s_law) (defBody s_law) (defScope s_law) .none kV14 dc14 pm14 an14 cd14 ct14), sl14⟩) (c14 : PySem.W.codeIn K cd14 "law" = true) (k14 : PySem.W.keepIn K (.ref f14) = true)
    (z_max : PySem.W.nsIn K mainGlobals "max" = some none)
    (z_enumerate : PySem.W.nsIn K mainGlobals "enumerate" = some none)
    (z_tuple : PySem.W.nsIn K mainGlobals "tuple" = some none)
    (z_int : PySem.W.nsIn K mainGlobals "int" = some none)
    (z_abs : PySem.W.nsIn K mainGlobals "abs" = some none)
    (z_range : PySem.W.nsIn K mainGlobals "range" = some none)
    (z_len : PySem.W.nsIn K mainGlobals "len" = some none)
    (z_sum : PySem.W.nsIn K mainGlobals "sum" = some none)
    {g_LEAVES : Addr} {go_LEAVES : Option Addr} {gn_LEAVES : Nat} {gs_LEAVES : Array (Option Value)} {gt_LEAVES_0 gt_LEAVES_1 gt_LEAVES_2 : Tok}
    (ga_LEAVES : PySem.W.nsIn K mainGlobals "LEAVES" = some (some (.ref g_LEAVES))) (gl_LEAVES : K.lookup g_LEAVES = some ⟨.type "tuple", go_LEAVES, .seq [.str "shared" gt_LEAVES_0, .str "exclusive" gt_LEAVES_1, .str "task" gt_LEAVES_2].toArray gn_LEAVES, gs_LEAVES⟩)
    : ∃ fd : FuncData, (∀ (s : Shared) (v : Value), BindsTo s fd ⟨[v], []⟩ [("script", v)]) ∧ ∀ base : Heap, K.In base → base.Ns mainGlobals mg → FnOk l.prog w K mg base CX0 14 fa fd ["script"] (sp_law K) := by
  have e := hfa.symm.trans (PySem.W.mg_of X G a14)
  cases e
  have F0 := fun_mk (st := s_is_plain) l0 c0 k0
  have D0 : Dfn K mg "is_plain" s_is_plain ["kind"] := ⟨_, _, F0, PySem.W.mg_of X G a0, F0.binds (ps := ["kind"]) fun _ _ _ _ _ _ us hl => match us, hl with | [_], _ => rfl⟩
  have F1 := fun_mk (st := s_is_copy) l1 c1 k1
  have D1 : Dfn K mg "is_copy" s_is_copy ["kind"] := ⟨_, _, F1, PySem.W.mg_of X G a1, F1.binds (ps := ["kind"]) fun _ _ _ _ _ _ us hl => match us, hl with | [_], _ => rfl⟩
  have F2 := fun_mk (st := s_levels) l2 c2 k2
  have D2 : Dfn K mg "levels" s_levels ["kind"] := ⟨_, _, F2, PySem.W.mg_of X G a2, F2.binds (ps := ["kind"]) fun _ _ _ _ _ _ us hl => match us, hl with | [_], _ => rfl⟩
  have F3 := fun_mk (st := s_leaves) l3 c3 k3
  have D3 : Dfn K mg "leaves" s_leaves ["kind"] := ⟨_, _, F3, PySem.W.mg_of X G a3, F3.binds (ps := ["kind"]) fun _ _ _ _ _ _ us hl => match us, hl with | [_], _ => rfl⟩
  have F4 := fun_mk (st := s_l_tape) l4 c4 k4
  have D4 : Dfn K mg "_law_tape" s_l_tape ["script"] := ⟨_, _, F4, PySem.W.mg_of X G a4, F4.binds (ps := ["script"]) fun _ _ _ _ _ _ us hl => match us, hl with | [_], _ => rfl⟩
  have F5 := fun_mk (st := s_l_next) l5 c5 k5
  have D5 : Dfn K mg "_law_next" s_l_next ["tape", "many"] := ⟨_, _, F5, PySem.W.mg_of X G a5, F5.binds (ps := ["tape", "many"]) fun _ _ _ _ _ _ us hl => match us, hl with | [_, _], _ => rfl⟩
  have F6 := fun_mk (st := s_l_cells) l6 c6 k6
  have D6 : Dfn K mg "_law_cells" s_l_cells ["kind"] := ⟨_, _, F6, PySem.W.mg_of X G a6, F6.binds (ps := ["kind"]) fun _ _ _ _ _ _ us hl => match us, hl with | [_], _ => rfl⟩
  have F7 := fun_mk (st := s_l_fitting) l7 c7 k7
  have D7 : Dfn K mg "_law_fitting" s_l_fitting ["items", "most"] := ⟨_, _, F7, PySem.W.mg_of X G a7, F7.binds (ps := ["items", "most"]) fun _ _ _ _ _ _ us hl => match us, hl with | [_, _], _ => rfl⟩
  have F8 := fun_mk (st := s_l_kind) l8 c8 k8
  have D8 : Dfn K mg "_law_kind" s_l_kind ["tape", "depth", "plain"] := ⟨_, _, F8, PySem.W.mg_of X G a8, F8.binds (ps := ["tape", "depth", "plain"]) fun _ _ _ _ _ _ us hl => match us, hl with | [_, _, _], _ => rfl⟩
  have F9 := fun_mk (st := s_l_plain) l9 c9 k9
  have D9 : Dfn K mg "_law_plain" s_l_plain ["kind"] := ⟨_, _, F9, PySem.W.mg_of X G a9, F9.binds (ps := ["kind"]) fun _ _ _ _ _ _ us hl => match us, hl with | [_], _ => rfl⟩
  have F10 := fun_mk (st := s_l_copy) l10 c10 k10
  have D10 : Dfn K mg "_law_copy" s_l_copy ["kind"] := ⟨_, _, F10, PySem.W.mg_of X G a10, F10.binds (ps := ["kind"]) fun _ _ _ _ _ _ us hl => match us, hl with | [_], _ => rfl⟩
  have F11 := fun_mk (st := s_l_levels) l11 c11 k11
  have D11 : Dfn K mg "_law_levels" s_l_levels ["kind"] := ⟨_, _, F11, PySem.W.mg_of X G a11, F11.binds (ps := ["kind"]) fun _ _ _ _ _ _ us hl => match us, hl with | [_], _ => rfl⟩
  have F12 := fun_mk (st := s_l_leaves) l12 c12 k12
  have D12 : Dfn K mg "_law_leaves" s_l_leaves ["kind"] := ⟨_, _, F12, PySem.W.mg_of X G a12, F12.binds (ps := ["kind"]) fun _ _ _ _ _ _ us hl => match us, hl with | [_], _ => rfl⟩
  have F13 := fun_mk (st := s_l_is) l13 c13 k13
  have D13 : Dfn K mg "_law_is" s_l_is ["answer", "due"] := ⟨_, _, F13, PySem.W.mg_of X G a13, F13.binds (ps := ["answer", "due"]) fun _ _ _ _ _ _ us hl => match us, hl with | [_, _], _ => rfl⟩
  have F14 := fun_mk (st := s_law) l14 c14 k14
  have D14 : Dfn K mg "law" s_law ["script"] := ⟨_, _, F14, PySem.W.mg_of X G a14, F14.binds (ps := ["script"]) fun _ _ _ _ _ _ us hl => match us, hl with | [_], _ => rfl⟩
  have y_max := PySem.W.mg_none_of X G z_max
  have y_enumerate := PySem.W.mg_none_of X G z_enumerate
  have y_tuple := PySem.W.mg_none_of X G z_tuple
  have y_int := PySem.W.mg_none_of X G z_int
  have y_abs := PySem.W.mg_none_of X G z_abs
  have y_range := PySem.W.mg_none_of X G z_range
  have y_len := PySem.W.mg_none_of X G z_len
  have y_sum := PySem.W.mg_none_of X G z_sum
  have q_LEAVES : Cst K mg "LEAVES" c_LEAVES := cst_of (PySem.W.mg_of X G ga_LEAVES) gl_LEAVES (by show 3 ≤ sizeLine; decide) (xs := [.str "shared", .str "exclusive", .str "task"]) ((.cons ⟨_, rfl⟩ (.cons ⟨_, rfl⟩ (.cons ⟨_, rfl⟩ .nil)))) (fun _ => ((.cons (.str _) (.cons (.str _) (.cons (.str _) .nil)))))
  refine ⟨PySem.W.fnOf "law" "law" (defArgs s_law) (defBody s_law) (defScope s_law) .none kV14 dc14 pm14 an14 cd14 ct14, fun s v => .of_eq rfl, fun base _ _ => ?_⟩
  have h_is_plain := has_is_plain (P := l.prog) (w := w) (base := base) D0   q_LEAVES 6
  have h_is_copy := has_is_copy (P := l.prog) (w := w) (base := base) D1    6
  have h_levels := has_levels (P := l.prog) (w := w) (base := base) D2  y_max  6
  have h_leaves := has_leaves (P := l.prog) (w := w) (base := base) D3  y_enumerate y_tuple q_LEAVES 6
  have h_l_tape := has_l_tape (P := l.prog) (w := w) (base := base) D4  y_int y_abs y_range 
  have h_l_next := has_l_next (P := l.prog) (w := w) (base := base) D5  y_len y_int 
  have h_l_cells := has_l_cells (P := l.prog) (w := w) (base := base) D6  y_sum  6
  have h_l_fitting := has_l_fitting (P := l.prog) (w := w) (base := base) D7 h_l_cells y_len y_range y_tuple 
  have h_l_kind := has_l_kind (P := l.prog) (w := w) (base := base) D8 h_l_next h_l_fitting y_range  6
  have h_l_plain := has_l_plain (P := l.prog) (w := w) (base := base) D9  y_len  6
  have h_l_copy := has_l_copy (P := l.prog) (w := w) (base := base) D10  y_len  6
  have h_l_levels := has_l_levels (P := l.prog) (w := w) (base := base) D11  y_max  6
  have h_l_leaves := has_l_leaves (P := l.prog) (w := w) (base := base) D12  y_len y_range  6
  have h_l_is := has_l_is (P := l.prog) (w := w) (base := base) D13   
  exact ok_law F14 h_l_tape h_l_kind h_l_is h_l_plain h_is_plain h_l_copy h_is_copy h_levels h_l_levels h_leaves h_l_leaves y_range y_tuple 
theorem walk {l : PySem.W.OpenLaw} {q : Program} {loose : List Str} {XP : (Str → Option Value) → Heap → Prop} {YP : World → Heap → Prop} {d : DefRec} {K : Params → PySem.W.Frag} (hn : l.most = some 63) (hdf : d.params.defaults = [])
    (hY : ∀ (w : World) (h : Heap), YP w h → (K w.params).In h)
    (F : ∀ (w : World) (mg : Str → Option Value) (fa : Addr) (h : Heap), (K w.params).In h → h.Ns mainGlobals mg → mg d.name = some (.ref fa) →
      ∃ fd : FuncData, (∀ (s : Shared) (u : Value), BindsTo s fd ⟨[u], []⟩ [("script", u)]) ∧ ∀ base : Heap, (K w.params).In base → base.Ns mainGlobals mg → FnOk l.prog w (K w.params) mg base CX0 14 fa fd ["script"] (sp_law (K w.params))) :
    PySem.W.WalkO q loose XP YP l.row.toRowW d [] (fun f vs => PySem.call f vs) :=
  L2.walk_of (n := 63) (k := 14) (x := "script") (CX := fun _ => CX0) (sp := fun w => sp_law (K w.params)) hn (by decide) hdf ⟨rfl, by decide, by decide⟩ hY F (fun _ _ a ns hl _ hS => ⟨a, ns, rfl, hS, hl, fun _ => rfl⟩) fun _ _ _ _ _ z => z

end Law

open PySem PySem.W PyProof.Rows
set_option maxRecDepth 100000 in
set_option maxHeartbeats 0 in
theorem PySem.Challenge.cw_forklent_k01_kinds_holds : PySem.Challenge.rw_forklent_k01_kinds.Holds := by
  w_on; o_law; k_head; (case hw => w_witness2)
  k_fill
  refine Law.walk (l := PySem.Challenge.rw_forklent_k01_kinds) rfl rfl (fun w h Y => PySem.W.kIn_of Y) ?F
  case F =>
    intro w mg fa h KX G hmg
    refine' Law.all_mk KX G hmg ?a0 ?l0 ?c0 ?k0 ?a1 ?l1 ?c1 ?k1 ?a2 ?l2 ?c2 ?k2 ?a3 ?l3 ?c3 ?k3 ?a4 ?l4 ?c4 ?k4 ?a5 ?l5 ?c5 ?k5 ?a6 ?l6 ?c6 ?k6 ?a7 ?l7 ?c7 ?k7 ?a8 ?l8 ?c8 ?k8 ?a9 ?l9 ?c9 ?k9 ?a10 ?l10 ?c10 ?k10 ?a11 ?l11 ?c11 ?k11 ?a12 ?l12 ?c12 ?k12 ?a13 ?l13 ?c13 ?k13 ?a14 ?l14 ?c14 ?k14 ?z_max ?z_enumerate ?z_tuple ?z_int ?z_abs ?z_range ?z_len ?z_sum ?ga_LEAVES ?gl_LEAVES
    (case a0 => k_is)
    (case l0 => k_is)
    (case c0 => k_is)
    (case k0 => k_is)
    (case a1 => k_is)
    (case l1 => k_is)
    (case c1 => k_is)
    (case k1 => k_is)
    (case a2 => k_is)
    (case l2 => k_is)
    (case c2 => k_is)
    (case k2 => k_is)
    (case a3 => k_is)
    (case l3 => k_is)
    (case c3 => k_is)
    (case k3 => k_is)
    (case a4 => k_is)
    (case l4 => k_is)
    (case c4 => k_is)
    (case k4 => k_is)
    (case a5 => k_is)
    (case l5 => k_is)
    (case c5 => k_is)
    (case k5 => k_is)
    (case a6 => k_is)
    (case l6 => k_is)
    (case c6 => k_is)
    (case k6 => k_is)
    (case a7 => k_is)
    (case l7 => k_is)
    (case c7 => k_is)
    (case k7 => k_is)
    (case a8 => k_is)
    (case l8 => k_is)
    (case c8 => k_is)
    (case k8 => k_is)
    (case a9 => k_is)
    (case l9 => k_is)
    (case c9 => k_is)
    (case k9 => k_is)
    (case a10 => k_is)
    (case l10 => k_is)
    (case c10 => k_is)
    (case k10 => k_is)
    (case a11 => k_is)
    (case l11 => k_is)
    (case c11 => k_is)
    (case k11 => k_is)
    (case a12 => k_is)
    (case l12 => k_is)
    (case c12 => k_is)
    (case k12 => k_is)
    (case a13 => k_is)
    (case l13 => k_is)
    (case c13 => k_is)
    (case k13 => k_is)
    (case a14 => k_is)
    (case l14 => k_is)
    (case c14 => k_is)
    (case k14 => k_is)
    (case z_max => k_is)
    (case z_enumerate => k_is)
    (case z_tuple => k_is)
    (case z_int => k_is)
    (case z_abs => k_is)
    (case z_range => k_is)
    (case z_len => k_is)
    (case z_sum => k_is)
    (case ga_LEAVES => k_is)
    (case gl_LEAVES => k_is)
#print axioms PySem.Challenge.cw_forklent_k01_kinds_holds
