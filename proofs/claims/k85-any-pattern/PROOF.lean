import PyProof.Rows.All
import Wide.All
import OpenK.AllK
import Wide.FinOn
import KE.KStateDown
import HandS.Base
import HandS.Call
import HandS.List
import HandS.Comp
import HandS.Ends
import HandS.Dict
import HandS.Iter
import HandS.Text
import HandS.More
import HandS.Words
import HandS.WordsList
import HandS.WordsDict
import HandS.Exc
import HandS.TryOnly
import HandS.ExcOwn
import HandS.WordsExc
import HandS.ExcIs
import HandS.Flow
import HandS.Style
import HandS.FStr
import HandS.Defaults
import HandS.MakeKwOnly
import HandS.Zip
import HandS.Rev
import HandS.TupAny
import HandS.Deep
import HandS.IsInst
import HandS.Wide
import HandS.Codes
import HandS.Head0
import HandS.Head1
import HandS.Head2
import HandS.HeadEnd
import HandS.HeadHook1
import HandS.HeadHook2
import PyProof.ListStr
import KE.GoesMore
import KE.GoesEnum
import PySem.Challenge.RW_hushlink_k85_whole_any_pattern_agrees
set_option Elab.async false
set_option linter.all false
set_option maxRecDepth 100000
set_option maxHeartbeats 4000000
namespace DL
open PySem PySem.Spec PyProof.Rows L2

/-! ### data -/
inductive D where
  | non | bl (b : Bool) | int (i : Int) | str (x : Str) | ty (n : String) | ref (a : Addr)
  | lst (xs : List D) | scr (xs : List D) | tup (xs : List D) | obj (c : Str) (ks : List Str) (vs : List D) | dic (ks : List Str) (vs : List D)

mutual
/-- the value v stands for the datum d, all its objects in F -/
inductive Rp (K : PySem.W.Frag) (F : Hp) : V → D → Prop
  | non : Rp K F .non .non
  | bl (b : Bool) : Rp K F (.bl b) (.bl b)
  | int (i : Int) : Rp K F (.int i) (.int i)
  | str (x : Str) : Rp K F (.str x) (.str x)
  | ty (n : String) : Rp K F (.ty n) (.ty n)
  | ref (a : Addr) : Rp K F (.ref a) (.ref a)
  | lst {a : Addr} {xs : List V} {ds : List D} : F a = some (.lst xs) → Rps K F xs ds → Rp K F (.ref a) (.lst ds)
  | scr {a : Addr} {xs : List V} {ds : List D} : SqL K F a xs → Rps K F xs ds → Rp K F (.ref a) (.scr ds)
  | tup {a : Addr} {xs : List V} {ds : List D} : SqT K F a xs → Rps K F xs ds → Rp K F (.ref a) (.tup ds)
  | obj {a : Addr} {c : Str} {dx : Addr} {fv : List (Str × V)} {ks : List Str} {ds : List D} : F a = some (.ins (He.ga K c) dx fv) → fv.map (·.1) = ks → Rps K F (fv.map (·.2)) ds → Rp K F (.ref a) (.obj c ks ds)
  | dic {a : Addr} {kv : List (Key × V)} {ks : List Str} {ds : List D} : F a = some (.dK kv) → kv.map (·.1) = ks.map Sum.inr → Rps K F (kv.map (·.2)) ds → Rp K F (.ref a) (.dic ks ds)
inductive Rps (K : PySem.W.Frag) (F : Hp) : List V → List D → Prop
  | nil : Rps K F [] []
  | cons {v : V} {vs : List V} {d : D} {ds : List D} : Rp K F v d → Rps K F vs ds → Rps K F (v :: vs) (d :: ds)
end

theorem seqT_mono {K : PySem.W.Frag} {F F' : Hp} {a : Addr} {xs : List V} (e : Same F F') (h : SqT K F a xs) : SqT K F' a xs := by
  rcases h with (h | ⟨o, h⟩) | h
  · exact .inl (.inl (e _ _ h))
  · exact .inl (.inr ⟨o, e _ _ h⟩)
  · exact .inr h
mutual
theorem Rp.mono {K : PySem.W.Frag} {F F' : Hp} (e : Same F F') : ∀ (d : D) (v : V), Rp K F v d → Rp K F' v d
  | .non, _, h => by cases h; exact .non
  | .bl b, _, h => by cases h; exact .bl b
  | .int i, _, h => by cases h; exact .int i
  | .str x, _, h => by cases h; exact .str x
  | .ty n, _, h => by cases h; exact .ty n
  | .ref a, _, h => by cases h; exact .ref a
  | .lst ds, _, h => by
    cases h with
    | lst h1 h2 => exact .lst (e _ _ h1) (Rps.mono e ds _ h2)
  | .scr ds, _, h => by
    cases h with
    | scr h1 h2 => exact .scr (e.seq h1) (Rps.mono e ds _ h2)
  | .tup ds, _, h => by
    cases h with
    | tup h1 h2 => exact .tup (seqT_mono e h1) (Rps.mono e ds _ h2)
  | .obj c ks ds, _, h => by
    cases h with
    | obj h1 h2 h3 => exact .obj (e _ _ h1) h2 (Rps.mono e ds _ h3)
  | .dic ks ds, _, h => by
    cases h with
    | dic h1 h2 h3 => exact .dic (e _ _ h1) h2 (Rps.mono e ds _ h3)
theorem Rps.mono {K : PySem.W.Frag} {F F' : Hp} (e : Same F F') : ∀ (ds : List D) (vs : List V), Rps K F vs ds → Rps K F' vs ds
  | [], _, h => by cases h; exact .nil
  | d :: ds, _, h => by
    cases h with
    | cons h1 h2 => exact .cons (Rp.mono e d _ h1) (Rps.mono e ds _ h2)
end
section
variable {K : PySem.W.Frag} {F F' : Hp}
theorem Rps.length : ∀ {vs : List V} {ds : List D}, Rps K F vs ds → vs.length = ds.length
  | _, _, .nil => rfl
  | _, _, .cons _ t => by rw [List.length_cons, List.length_cons, t.length]
theorem Rps.get : ∀ {vs : List V} {ds : List D} {i : Nat} {d : D}, Rps K F vs ds → ds[i]? = some d → ∃ v, vs[i]? = some v ∧ Rp K F v d
  | _, _, _, _, .nil, e => by simp at e
  | _, _, 0, _, .cons r _, e => by simp at e; subst e; exact ⟨_, rfl, r⟩
  | _, _, i + 1, x, .cons _ t, e => by
    obtain ⟨u, h1, h2⟩ := Rps.get (i := i) (d := x) t (by simpa using e)
    exact ⟨u, by simpa using h1, h2⟩
theorem Rps.getV : ∀ {vs : List V} {ds : List D} {i : Nat} {v : V}, Rps K F vs ds → vs[i]? = some v → ∃ d, ds[i]? = some d ∧ Rp K F v d
  | _, _, _, _, .nil, e => by simp at e
  | _, _, 0, _, .cons r _, e => by simp at e; subst e; exact ⟨_, rfl, r⟩
  | _, _, i + 1, x, .cons _ t, e => by
    obtain ⟨u, h1, h2⟩ := Rps.getV (i := i) (v := x) t (by simpa using e)
    exact ⟨u, by simpa using h1, h2⟩
theorem Rps.app : ∀ {vs ws : List V} {ds es : List D}, Rps K F vs ds → Rps K F ws es → Rps K F (vs ++ ws) (ds ++ es)
  | _, _, _, _, .nil, s => s
  | _, _, _, _, .cons r t, s => .cons r (Rps.app t s)
theorem Rps.set {x : V} {d : D} (r : Rp K F x d) : ∀ {vs : List V} {ds : List D} (i : Nat), Rps K F vs ds → Rps K F (vs.set i x) (ds.set i d)
  | _, _, _, .nil => .nil
  | _, _, 0, .cons _ t => .cons r t
  | _, _, i + 1, .cons q t => .cons q (Rps.set r i t)
theorem Rps.take : ∀ {vs : List V} {ds : List D} (n : Nat), Rps K F vs ds → Rps K F (vs.take n) (ds.take n)
  | _, _, 0, _ => .nil
  | _, _, _ + 1, .nil => .nil
  | _, _, n + 1, .cons r t => .cons r (Rps.take n t)
theorem Rps.drop : ∀ {vs : List V} {ds : List D} (n : Nat), Rps K F vs ds → Rps K F (vs.drop n) (ds.drop n)
  | _, _, 0, r => r
  | _, _, _ + 1, .nil => .nil
  | _, _, n + 1, .cons _ t => Rps.drop n t
theorem Rps.rev : ∀ {vs : List V} {ds : List D}, Rps K F vs ds → Rps K F vs.reverse ds.reverse
  | _, _, .nil => .nil
  | _, _, .cons r t => by rw [List.reverse_cons, List.reverse_cons]; exact t.rev.app (.cons r .nil)
theorem Rps.one {vs : List V} {d : D} (h : Rps K F vs [d]) : ∃ v, vs = [v] ∧ Rp K F v d := by
  cases h with
  | cons r t => cases t; exact ⟨_, rfl, r⟩
theorem Rps.two {vs : List V} {d e : D} (h : Rps K F vs [d, e]) : ∃ v w, vs = [v, w] ∧ Rp K F v d ∧ Rp K F w e := by
  cases h with
  | cons r t => obtain ⟨w, rfl, r2⟩ := t.one; exact ⟨_, _, rfl, r, r2⟩
end

/-! ### the state: F what never changes, M the cells -/
abbrev Mem := List (Addr × D)
abbrev Gm := List (Option D)
def dom (M : Mem) : List Addr := M.map (·.1)
/-- the cell at a -/
def Cell (K : PySem.W.Frag) (F H : Hp) (a : Addr) : D → Prop
  | .lst ds => ∃ vs, H a = some (.lst vs) ∧ Rps K F vs ds
  | .obj c ks ds => ∃ dx fv, H a = some (.ins (He.ga K c) dx fv) ∧ fv.map (·.1) = ks ∧ Rps K F (fv.map (·.2)) ds
  | .dic ks ds => ∃ kv, H a = some (.dK kv) ∧ kv.map (·.1) = ks.map Sum.inr ∧ Rps K F (kv.map (·.2)) ds
  | _ => False
structure Sat (K : PySem.W.Frag) (F : Hp) (M : Mem) (H : Hp) : Prop where
  sub : Same F H
  nd : (dom M).Nodup
  cell : ∀ (j : Nat) (a : Addr) (d : D), M[j]? = some (a, d) → F a = none ∧ Cell K F H a d
structure Step (F : Hp) (M : Mem) (H F' : Hp) (M' : Mem) (H' : Hp) : Prop where
  ext : Same F F'
  keep : ∀ b o, H b = some o → b ∉ dom M → H' b = some o ∧ b ∉ dom M' ∧ (F b = none → F' b = none)
theorem Step.refl (F : Hp) (M : Mem) (H : Hp) : Step F M H F M H := ⟨Same.refl F, fun _ _ h n => ⟨h, n, fun z => z⟩⟩
theorem Step.trans {F F1 F2 H H1 H2 : Hp} {M M1 M2 : Mem} (a : Step F M H F1 M1 H1) (b : Step F1 M1 H1 F2 M2 H2) : Step F M H F2 M2 H2 :=
  ⟨a.ext.trans b.ext, fun c o h n => by
    obtain ⟨h1, n1, f1⟩ := a.keep c o h n
    obtain ⟨h2, n2, f2⟩ := b.keep c o h1 n1
    exact ⟨h2, n2, fun z => f2 (f1 z)⟩⟩
theorem cell_some {K : PySem.W.Frag} {F H : Hp} {a : Addr} {d : D} (h : Cell K F H a d) : ∃ o, H a = some o := by
  cases d <;> first | exact h.elim | (obtain ⟨_, e, _⟩ := h; exact ⟨_, e⟩) | (obtain ⟨_, _, e, _⟩ := h; exact ⟨_, e⟩)
theorem cell_mono {K : PySem.W.Frag} {F F' H H' : Hp} {a : Addr} {d : D} (e : Same F F') (he : ∀ o, H a = some o → H' a = some o) (h : Cell K F H a d) : Cell K F' H' a d := by
  cases d with
  | lst ds => obtain ⟨vs, e1, r⟩ := h; exact ⟨vs, he _ e1, Rps.mono e _ _ r⟩
  | obj c ks ds => obtain ⟨dx, fv, e1, ek, r⟩ := h; exact ⟨dx, fv, he _ e1, ek, Rps.mono e _ _ r⟩
  | dic ks ds => obtain ⟨kv, e1, ek, r⟩ := h; exact ⟨kv, he _ e1, ek, Rps.mono e _ _ r⟩
  | _ => exact h.elim
theorem dom_get {M : Mem} {j : Nat} {a : Addr} {d : D} (h : M[j]? = some (a, d)) : (dom M)[j]? = some a := by
  unfold dom; rw [List.getElem?_map, h]; rfl
theorem dom_mem {M : Mem} {j : Nat} {a : Addr} {d : D} (h : M[j]? = some (a, d)) : a ∈ dom M := List.mem_of_getElem? (dom_get h)
theorem mem_dom {M : Mem} {a : Addr} (h : a ∈ dom M) : ∃ (j : Nat) (d : D), M[j]? = some (a, d) := by
  unfold dom at h
  obtain ⟨p, hp, e⟩ := List.mem_map.mp h
  obtain ⟨j, hj⟩ := List.mem_iff_getElem?.mp hp
  obtain ⟨a', d⟩ := p
  dsimp only at e
  subst e
  exact ⟨j, d, hj⟩
theorem dom_set {M : Mem} {j : Nat} {a : Addr} {d d' : D} (h : M[j]? = some (a, d)) : dom (M.set j (a, d')) = dom M := by
  unfold dom
  rw [List.map_set]
  have e := dom_get h
  unfold dom at e
  obtain ⟨hl, e2⟩ := List.getElem?_eq_some_iff.mp e
  apply List.ext_getElem?
  intro i
  by_cases hi : j = i
  · subst hi
    rw [List.getElem?_set_self hl, e]
  · rw [List.getElem?_set_ne hi]
section
variable {K : PySem.W.Frag} {F F' H H' : Hp} {M M' : Mem}
theorem Sat.at_ {j : Nat} {a : Addr} {d : D} (S : Sat K F M H) (h : M[j]? = some (a, d)) : F a = none ∧ Cell K F H a d := S.cell j a d h
theorem Sat.ne {i j : Nat} {a b : Addr} {d e : D} (S : Sat K F M H) (hi : M[i]? = some (a, d)) (hj : M[j]? = some (b, e)) (n : i ≠ j) : a ≠ b := fun q => by
  subst q
  exact n (L2.nd_ix S.nd (dom_get hi) (dom_get hj))
theorem Sat.fnone (S : Sat K F M H) {p : Addr} (hp : H p = none) : F p = none := by
  cases q : F p with
  | none => rfl
  | some o => rw [S.sub _ _ q] at hp; cases hp
theorem Sat.nodom (S : Sat K F M H) {p : Addr} (hp : H p = none) : p ∉ dom M := fun hm => by
  obtain ⟨j, d, hj⟩ := mem_dom hm
  obtain ⟨o, e⟩ := cell_some (S.at_ hj).2
  rw [hp] at e; cases e
/-- a new object that will never change -/
theorem Sat.newF (S : Sat K F M H) {p : Addr} (hp : H p = none) (o : HO) : Sat K (upd F p o) M (upd H p o) ∧ Step F M H (upd F p o) M (upd H p o) := by
  have fp := S.fnone hp
  have e1 : Same F (upd F p o) := fun b u q => by rw [upd_ne (ne_of_none q fp)]; exact q
  refine ⟨⟨fun b u q => ?_, S.nd, fun j a d h => ?_⟩, ⟨e1, fun b u q n => ⟨?_, n, fun z => ?_⟩⟩⟩
  · by_cases hb : b = p
    · subst hb; rw [upd_same] at q; rw [upd_same]; exact q
    · rw [upd_ne hb] at q; rw [upd_ne hb]; exact S.sub _ _ q
  · obtain ⟨f0, c⟩ := S.at_ h
    obtain ⟨u, eu⟩ := cell_some c
    have na : a ≠ p := ne_of_none eu hp
    exact ⟨by rw [upd_ne na]; exact f0, cell_mono e1 (fun u q => by rw [upd_ne na]; exact q) c⟩
  · rw [upd_ne (ne_of_none q hp)]; exact q
  · rw [upd_ne (ne_of_none q hp)]; exact z
/-- a new object, a cell -/
theorem Sat.newC (S : Sat K F M H) {p : Addr} (hp : H p = none) {o : HO} {d : D} (c : Cell K F (upd H p o) p d) : Sat K F ((p, d) :: M) (upd H p o) ∧ Step F M H F ((p, d) :: M) (upd H p o) := by
  have fp := S.fnone hp
  refine ⟨⟨fun b u q => ?_, List.nodup_cons.mpr ⟨S.nodom hp, S.nd⟩, fun j a e h => ?_⟩, ⟨Same.refl F, fun b u q n => ⟨?_, ?_, fun z => z⟩⟩⟩
  · rw [upd_ne (ne_of_none q fp)]; exact S.sub _ _ q
  · cases j with
    | zero =>
      have h : some (p, d) = some (a, e) := h
      cases h
      exact ⟨fp, c⟩
    | succ j =>
      have h : M[j]? = some (a, e) := h
      obtain ⟨f0, c0⟩ := S.at_ h
      obtain ⟨u, eu⟩ := cell_some c0
      exact ⟨f0, cell_mono (Same.refl F) (fun u q => by rw [upd_ne (ne_of_none q hp)]; exact q) c0⟩
  · rw [upd_ne (ne_of_none q hp)]; exact q
  · intro hm
    rcases List.mem_cons.mp hm with z | z
    · exact ne_of_none q hp z
    · exact n z
/-- a cell is changed -/
theorem Sat.setC (S : Sat K F M H) {j : Nat} {p : Addr} {d0 d : D} (h : M[j]? = some (p, d0)) {o : HO} (c : Cell K F (upd H p o) p d) : Sat K F (M.set j (p, d)) (upd H p o) ∧ Step F M H F (M.set j (p, d)) (upd H p o) := by
  have fp := (S.at_ h).1
  have hl : j < M.length := (List.getElem?_eq_some_iff.mp h).1
  refine ⟨⟨fun b u q => ?_, by rw [dom_set h]; exact S.nd, fun i a e hi => ?_⟩, ⟨Same.refl F, fun b u q n => ⟨?_, by rw [dom_set h]; exact n, fun z => z⟩⟩⟩
  · rw [upd_ne (ne_of_none q fp)]; exact S.sub _ _ q
  · by_cases hij : j = i
    · subst hij
      rw [List.getElem?_set_self hl] at hi
      cases hi
      exact ⟨fp, c⟩
    · rw [List.getElem?_set_ne hij] at hi
      obtain ⟨f0, c0⟩ := S.at_ hi
      have na : a ≠ p := S.ne hi h (Ne.symm hij)
      exact ⟨f0, cell_mono (Same.refl F) (fun u q => by rw [upd_ne na]; exact q) c0⟩
  · rw [upd_ne (fun z => n (by rw [z]; exact dom_mem h))]; exact q
theorem dom_erase : ∀ (M : Mem) (j : Nat), dom (M.eraseIdx j) = (dom M).eraseIdx j
  | [], _ => rfl
  | _ :: _, 0 => rfl
  | x :: r, j + 1 => by
    show x.1 :: dom (r.eraseIdx j) = x.1 :: (dom r).eraseIdx j
    rw [dom_erase r j]
theorem nd_erase : ∀ {l : List Addr} {j : Nat} {a : Addr}, l.Nodup → l[j]? = some a → a ∉ l.eraseIdx j
  | [], _, _, _, h => by simp at h
  | x :: r, 0, a, n, h => by
    have e : x = a := Option.some.inj h
    subst e
    exact (List.nodup_cons.mp n).1
  | x :: r, j + 1, a, n, h => by
    have h : r[j]? = some a := h
    obtain ⟨n1, n2⟩ := List.nodup_cons.mp n
    intro hm
    rcases List.mem_cons.mp hm with z | z
    · subst z; exact n1 (List.mem_of_getElem? h)
    · exact nd_erase n2 h z
theorem nodup_erase : ∀ {l : List Addr} {j : Nat}, l.Nodup → (l.eraseIdx j).Nodup
  | [], _, n => n
  | x :: r, 0, n => (List.nodup_cons.mp n).2
  | x :: r, j + 1, n => by
    obtain ⟨n1, n2⟩ := List.nodup_cons.mp n
    exact List.nodup_cons.mpr ⟨fun hm => n1 (List.mem_of_mem_eraseIdx hm), nodup_erase n2⟩
theorem erase_get : ∀ {M : Mem} {j i : Nat} {p : Addr × D}, (M.eraseIdx j)[i]? = some p → ∃ k, k ≠ j ∧ M[k]? = some p
  | [], _, _, _, h => by simp at h
  | x :: r, 0, i, p, h => ⟨i + 1, Nat.succ_ne_zero i, h⟩
  | x :: r, j + 1, 0, p, h => ⟨0, (Nat.succ_ne_zero j).symm, h⟩
  | x :: r, j + 1, i + 1, p, h => by
    have h : (r.eraseIdx j)[i]? = some p := h
    obtain ⟨k, hk, e⟩ := erase_get h
    exact ⟨k + 1, fun q => hk (Nat.succ.inj q), e⟩
/-- a cell that will not change any more -/
theorem Sat.freeze (S : Sat K F M H) {j : Nat} {p : Addr} {d : D} (h : M[j]? = some (p, d)) : ∃ F', Sat K F' (M.eraseIdx j) H ∧ Step F M H F' (M.eraseIdx j) H ∧ Rp K F' (.ref p) d := by
  obtain ⟨fp, c⟩ := S.at_ h
  obtain ⟨o, ho⟩ := cell_some c
  have e1 : Same F (upd F p o) := fun b u q => by rw [upd_ne (ne_of_none q fp)]; exact q
  refine ⟨upd F p o, ⟨fun b u q => ?_, by rw [dom_erase]; exact nodup_erase S.nd, fun i a e hi => ?_⟩, ⟨e1, fun b u q n => ⟨q, fun hm => n ?_, fun z => ?_⟩⟩, ?_⟩
  · by_cases hb : b = p
    · subst hb; rw [upd_same] at q; cases q; exact ho
    · rw [upd_ne hb] at q; exact S.sub _ _ q
  · obtain ⟨k, hk, e2⟩ := erase_get hi
    obtain ⟨f0, c0⟩ := S.at_ e2
    have na : a ≠ p := S.ne e2 h hk
    exact ⟨by rw [upd_ne na]; exact f0, cell_mono e1 (fun _ q => q) c0⟩
  · rw [dom_erase] at hm; exact List.mem_of_mem_eraseIdx hm
  · rw [upd_ne (fun q2 => n (by rw [q2]; exact dom_mem h))]; exact z
  · cases d with
    | lst ds =>
      obtain ⟨vs, e, r⟩ := c
      rw [ho] at e; cases e
      exact .lst upd_same (Rps.mono e1 _ _ r)
    | obj c ks ds =>
      obtain ⟨dx, fv, e, ek, r⟩ := c
      rw [ho] at e; cases e
      exact .obj upd_same ek (Rps.mono e1 _ _ r)
    | dic ks ds =>
      obtain ⟨kv, e, ek, r⟩ := c
      rw [ho] at e; cases e
      exact .dic upd_same ek (Rps.mono e1 _ _ r)
    | _ => exact c.elim
end

/-! ### judgements -/
def EnvOk (K : PySem.W.Frag) (F : Hp) (σ : L2.St) (Γ : Gm) : Prop := σ.length = Γ.length ∧ ∀ (i : Nat) (d : D), Γ[i]? = some (some d) → ∃ v, σ[i]? = some (some v) ∧ Rp K F v d
theorem EnvOk.mono {K : PySem.W.Frag} {F F' : Hp} {σ : L2.St} {Γ : Gm} (e : Same F F') (h : EnvOk K F σ Γ) : EnvOk K F' σ Γ :=
  ⟨h.1, fun i d q => let ⟨v, a, b⟩ := h.2 i d q; ⟨v, a, Rp.mono e _ _ b⟩⟩
theorem EnvOk.set {K : PySem.W.Frag} {F : Hp} {σ : L2.St} {Γ : Gm} {v : V} {d : D} (h : EnvOk K F σ Γ) (i : Nat) (r : Rp K F v d) : EnvOk K F (σ.set i (some v)) (Γ.set i (some d)) := by
  refine ⟨by rw [List.length_set, List.length_set]; exact h.1, fun j e q => ?_⟩
  by_cases hij : i = j
  · subst hij
    by_cases hl : i < Γ.length
    · rw [List.getElem?_set_self hl] at q
      cases q
      exact ⟨v, by rw [List.getElem?_set_self (by rw [h.1]; exact hl)], r⟩
    · rw [List.set_eq_of_length_le (by omega)] at q
      rw [List.getElem?_eq_none (by omega)] at q
      cases q
  · rw [List.getElem?_set_ne hij] at q
    rw [List.getElem?_set_ne hij]
    exact h.2 j e q
section
variable (K : PySem.W.Frag)
def Acc (F : Hp) (M : Mem) (H : Hp) (Q : VK) (q : D → Mem → Prop) : Prop := ∀ v d F' M' H', Step F M H F' M' H' → Sat K F' M' H' → Rp K F' v d → q d M' → Q v H'
def AccB (F : Hp) (M : Mem) (H : Hp) (Q : Bool → Hp → Prop) (q : Bool → Mem → Prop) : Prop := ∀ b F' M' H', Step F M H F' M' H' → Sat K F' M' H' → q b M' → Q b H'
def AccA (F : Hp) (M : Mem) (H : Hp) (Q : List V → Hp → Prop) (q : List D → Mem → Prop) : Prop := ∀ vs ds F' M' H', Step F M H F' M' H' → Sat K F' M' H' → Rps K F' vs ds → q ds M' → Q vs H'
def EvD (te : TE) (Γ : Gm) (M : Mem) (q : D → Mem → Prop) : Prop := ∀ σ F H, Sat K F M H → EnvOk K F σ Γ → ∀ Q, Acc K F M H Q q → te σ H Q
def TtD (tt : TT) (Γ : Gm) (M : Mem) (q : Bool → Mem → Prop) : Prop := ∀ σ F H, Sat K F M H → EnvOk K F σ Γ → ∀ Q, AccB K F M H Q q → tt σ H Q
def EvA (ta : TA) (Γ : Gm) (M : Mem) (q : List D → Mem → Prop) : Prop := ∀ σ F H, Sat K F M H → EnvOk K F σ Γ → ∀ Q, AccA K F M H Q q → ta σ H Q
def OpD (r : R2) (x y : D) (M : Mem) (q : D → Mem → Prop) : Prop := ∀ F H v w, Sat K F M H → Rp K F v x → Rp K F w y → ∀ Q, Acc K F M H Q q → r v w H Q
def CbD (r : List V → Hp → VK → Prop) (ds : List D) (M : Mem) (q : D → Mem → Prop) : Prop := ∀ F H vs, Sat K F M H → Rps K F vs ds → ∀ Q, Acc K F M H Q q → r vs H Q
def BmD (r : V → List V → Hp → VK → Prop) (x : D) (ds : List D) (M : Mem) (q : D → Mem → Prop) : Prop := ∀ F H v vs, Sat K F M H → Rp K F v x → Rps K F vs ds → ∀ Q, Acc K F M H Q q → r v vs H Q
def TyD (T : String) (x : D) (M : Mem) : Prop := ∀ F H v, Sat K F M H → Rp K F v x → tyV K T v H
def SlD (r : V → Option Int → Option Int → Hp → VK → Prop) (x : D) (lo hi : Option Int) (M : Mem) (q : D → Mem → Prop) : Prop := ∀ F H v, Sat K F M H → Rp K F v x → ∀ Q, Acc K F M H Q q → r v lo hi H Q
def PoD (to : TO) (Γ : Gm) (M : Mem) (q : Option Int → Mem → Prop) : Prop := ∀ σ F H, Sat K F M H → EnvOk K F σ Γ → ∀ Q : Option Int → Hp → Prop, (∀ o F' M' H', Step F M H F' M' H' → Sat K F' M' H' → q o M' → Q o H') → to σ H Q
def FldD (f : Str) (x : D) (M : Mem) (q : D → Mem → Prop) : Prop := ∀ F H v, Sat K F M H → Rp K F v x → ∀ Q, Acc K F M H Q q → ∃ a C dx fs y, v = .ref a ∧ H a = some (.ins C dx fs) ∧ Cls K C ∧ NoAttr K C f ∧ fs.lookup f = some y ∧ Q y H
def RecD (c m : Str) (x : D) (M : Mem) : Prop := ∀ F H v, Sat K F M H → Rp K F v x → ∃ a dx fs, v = .ref a ∧ H a = some (.ins (He.ga K c) dx fs) ∧ fs.lookup m = none
abbrev SpR := List D → Mem → (D → Mem → Prop) → (Value → Mem → Prop) → Prop
def SpD (R : SpR) : Sp := fun vs H Q E => ∃ F M ds q ex, Sat K F M H ∧ Rps K F vs ds ∧ R ds M q ex ∧ Acc K F M H Q q ∧ ∀ cls F' M' H', Step F M H F' M' H' → Sat K F' M' H' → ex cls M' → E cls none H'
end
abbrev no_ex : Value → Mem → Prop := fun _ _ => False

section
variable {K : PySem.W.Frag} {F F1 H H1 : Hp} {M M1 : Mem} {Γ : Gm} {q : D → Mem → Prop} {ta tb te tc : TE} {tt tu : TT} {qb : Bool → Mem → Prop}
theorem Acc.step {Q : VK} (a : Acc K F M H Q q) (s : Step F M H F1 M1 H1) : Acc K F1 M1 H1 Q q := fun v d F' M' H' s' S' r h => a v d F' M' H' (s.trans s') S' r h
theorem AccB.step {Q : Bool → Hp → Prop} {q : Bool → Mem → Prop} (a : AccB K F M H Q q) (s : Step F M H F1 M1 H1) : AccB K F1 M1 H1 Q q := fun v F' M' H' s' S' h => a v F' M' H' (s.trans s') S' h
theorem AccA.step {Q : List V → Hp → Prop} {q : List D → Mem → Prop} (a : AccA K F M H Q q) (s : Step F M H F1 M1 H1) : AccA K F1 M1 H1 Q q := fun v d F' M' H' s' S' r h => a v d F' M' H' (s.trans s') S' r h
theorem Acc.here {Q : VK} {v : V} {d : D} (a : Acc K F M H Q q) (S : Sat K F M H) (r : Rp K F v d) (h : q d M) : Q v H := a v d F M H (Step.refl F M H) S r h
theorem AccB.here {Q : Bool → Hp → Prop} {q : Bool → Mem → Prop} {b : Bool} (a : AccB K F M H Q q) (S : Sat K F M H) (h : q b M) : Q b H := a b F M H (Step.refl F M H) S h

/-! ### weakening -/
theorem ev_mono {q' : D → Mem → Prop} (h : EvD K te Γ M q') (i : ∀ d M', q' d M' → q d M') : EvD K te Γ M q := fun σ F H S E Q A => h σ F H S E Q fun v d F' M' H' st S' r z => A v d F' M' H' st S' r (i d M' z)

/-! ### names, constants -/
theorem ev_var {i : Nat} {d : D} (h : Γ[i]? = some (some d)) (k : q d M) : EvD K (tVar i) Γ M q := fun σ F H S E Q A => by
  obtain ⟨v, e, r⟩ := E.2 i d h
  exact ⟨v, e, A.here S r k⟩
theorem ev_int {i : Int} (k : q (.int i) M) : EvD K (tC (.int i)) Γ M q := fun _ _ _ S _ _ A => A.here S (.int i) k
theorem ev_bl {b : Bool} (k : q (.bl b) M) : EvD K (tC (.bl b)) Γ M q := fun _ _ _ S _ _ A => A.here S (.bl b) k
theorem ev_non (k : q .non M) : EvD K (tC .non) Γ M q := fun _ _ _ S _ _ A => A.here S .non k
theorem ev_str {x : Str} (k : q (.str x) M) : EvD K (tC (.str x)) Γ M q := fun _ _ _ S _ _ A => A.here S (.str x) k
theorem ev_ty {n : String} (k : q (.ty n) M) : EvD K (tC (.ty n)) Γ M q := fun _ _ _ S _ _ A => A.here S (.ty n) k
theorem ev_refc {a : Addr} (k : q (.ref a) M) : EvD K (tC (.ref a)) Γ M q := fun _ _ _ S _ _ A => A.here S (.ref a) k
theorem ev_con {v : V} {d : D} (r : ∀ F, Rp K F v d) (k : q d M) : EvD K (tC v) Γ M q := fun _ F _ S _ _ A => A.here S (r F) k

/-! ### operators -/
theorem ev_op {r : R2} (h : EvD K ta Γ M fun x M1 => EvD K tb Γ M1 fun y M2 => OpD K r x y M2 q) : EvD K (tOp r ta tb) Γ M q := fun σ F H S E Q A => by
  refine h σ F H S E _ fun v x F1 M1 H1 s1 S1 r1 h1 => ?_
  refine h1 σ F1 H1 S1 (E.mono s1.ext) _ fun w y F2 M2 H2 s2 S2 r2 h2 => ?_
  exact h2 F2 H2 v w S2 (Rp.mono s2.ext _ _ r1) r2 Q (A.step (s1.trans s2))
theorem op_i0 {g : Int → Int → V} {i j : Int} {d : D} (r : ∀ F, Rp K F (g i j) d) (k : q d M) : OpD K (rI0 g) (.int i) (.int j) M q := fun F H v w S rx ry Q A => by
  cases rx; cases ry
  exact ⟨i, j, rfl, rfl, A.here S (r F) k⟩
theorem op_i {C : Int → Int → Prop} {g : Int → Int → V} {i j : Int} {d : D} (c : C i j) (r : ∀ F, Rp K F (g i j) d) (k : q d M) : OpD K (rI C g) (.int i) (.int j) M q := fun F H v w S rx ry Q A => by
  cases rx; cases ry
  exact ⟨i, j, rfl, rfl, c, A.here S (r F) k⟩
theorem op_l {r r' : R2} {x y : D} (h : OpD K r x y M q) : OpD K (fun x y H Q => r x y H Q ∨ r' x y H Q) x y M q := fun F H v w S rx ry Q A => .inl (h F H v w S rx ry Q A)
theorem op_r {r r' : R2} {x y : D} (h : OpD K r' x y M q) : OpD K (fun x y H Q => r x y H Q ∨ r' x y H Q) x y M q := fun F H v w S rx ry Q A => .inr (h F H v w S rx ry Q A)

/-! ### new objects -/
theorem new_lst {vs : List V} {ds : List D} {Q : VK} (S : Sat K F M H) (A : Acc K F M H Q q) (r : Rps K F vs ds) (k : q (.lst ds) M) : ∀ p, H p = none → Q (.ref p) (upd H p (.lst vs)) := fun p hp => by
  obtain ⟨S', st⟩ := S.newF hp (.lst vs)
  exact A _ _ _ _ _ st S' (.lst upd_same (Rps.mono st.ext _ _ r)) k
theorem new_lstC {vs : List V} {ds : List D} {Q : VK} (S : Sat K F M H) (A : Acc K F M H Q q) (r : Rps K F vs ds) (k : ∀ p, p ∉ dom M → q (.ref p) ((p, .lst ds) :: M)) : ∀ p, H p = none → Q (.ref p) (upd H p (.lst vs)) := fun p hp => by
  obtain ⟨S', st⟩ := S.newC (d := .lst ds) hp (o := .lst vs) ⟨vs, upd_same, r⟩
  exact A _ _ _ _ _ st S' (.ref p) (k p (S.nodom hp))
theorem new_tup {vs : List V} {ds : List D} {Q : VK} (S : Sat K F M H) (A : Acc K F M H Q q) (r : Rps K F vs ds) (k : q (.tup ds) M) : ∀ p, H p = none → Q (.ref p) (upd H p (.tup vs)) := fun p hp => by
  obtain ⟨S', st⟩ := S.newF hp (.tup vs)
  exact A _ _ _ _ _ st S' (.tup (SqT.of upd_same) (Rps.mono st.ext _ _ r)) k

/-! ### argument lists, displays -/
theorem ea_nil {q : List D → Mem → Prop} (k : q [] M) : EvA K tNil Γ M q := fun σ F H S E Q A => A [] [] F M H (Step.refl F M H) S .nil k
theorem ea_cons {t : TA} {q : List D → Mem → Prop} (h : EvD K te Γ M fun x M1 => EvA K t Γ M1 fun xs M2 => q (x :: xs) M2) : EvA K (tCons te t) Γ M q := fun σ F H S E Q A => by
  refine h σ F H S E _ fun v x F1 M1 H1 s1 S1 r1 h1 => ?_
  refine h1 σ F1 H1 S1 (E.mono s1.ext) _ fun vs xs F2 M2 H2 s2 S2 r2 h2 => ?_
  exact A (v :: vs) (x :: xs) F2 M2 H2 (s1.trans s2) S2 (.cons (Rp.mono s2.ext _ _ r1) r2) h2
theorem ev_tup {t : TA} (h : EvA K t Γ M fun ds M1 => ds.length ≤ sizeLine ∧ q (.tup ds) M1) : EvD K (tTup t) Γ M q := fun σ F H S E Q A =>
  h σ F H S E _ fun vs ds F1 M1 H1 s1 S1 r1 h1 => ⟨by rw [r1.length]; exact h1.1, new_tup S1 (A.step s1) r1 h1.2⟩
theorem ev_lst {t : TA} (h : EvA K t Γ M fun ds M1 => ds.length ≤ sizeLine ∧ q (.lst ds) M1) : EvD K (tLst t) Γ M q := fun σ F H S E Q A =>
  h σ F H S E _ fun vs ds F1 M1 H1 s1 S1 r1 h1 => ⟨by rw [r1.length]; exact h1.1, new_lst S1 (A.step s1) r1 h1.2⟩
/-- a list that will change -/
theorem ev_lstC {t : TA} (h : EvA K t Γ M fun ds M1 => ds.length ≤ sizeLine ∧ ∀ p, p ∉ dom M1 → q (.ref p) ((p, .lst ds) :: M1)) : EvD K (tLst t) Γ M q := fun σ F H S E Q A =>
  h σ F H S E _ fun vs ds F1 M1 H1 s1 S1 r1 h1 => ⟨by rw [r1.length]; exact h1.1, new_lstC S1 (A.step s1) r1 h1.2⟩
/-- a cell that will not change any more, as a value -/
theorem ev_frz (h : EvD K te Γ M fun d M1 => ∃ p j o, d = .ref p ∧ M1[j]? = some (p, o) ∧ q o (M1.eraseIdx j)) : EvD K te Γ M q := fun σ F H S E Q A =>
  h σ F H S E _ fun v d F1 M1 H1 s1 S1 r1 h1 => by
    obtain ⟨p, j, o, rfl, hj, k⟩ := h1
    cases r1
    obtain ⟨F2, S2, s2, r2⟩ := S1.freeze hj
    exact A _ _ _ _ _ (s1.trans s2) S2 r2 k

/-! ### tests -/
theorem tt_B (h : EvD K te Γ M fun d M1 => ∃ b, d = .bl b ∧ qb b M1) : TtD K (tB te) Γ M qb := fun σ F H S E Q A =>
  h σ F H S E _ fun v d F1 M1 H1 s1 S1 r1 h1 => by
    obtain ⟨b, rfl, k⟩ := h1
    cases r1
    exact ⟨b, rfl, A b F1 M1 H1 s1 S1 k⟩
theorem tt_T (h : EvD K te Γ M fun d M1 => ∃ b, d = .bl b ∧ qb b M1) : TtD K (tTest te) Γ M qb := tt_B h
theorem tt_and (h : TtD K tt Γ M fun b M1 => if b = true then TtD K tu Γ M1 qb else qb false M1) : TtD K (tAnd tt tu) Γ M qb := fun σ F H S E Q A =>
  h σ F H S E _ fun b F1 M1 H1 s1 S1 h1 => by
    cases b with
    | true => exact h1 σ F1 H1 S1 (E.mono s1.ext) Q (A.step s1)
    | false => exact A false F1 M1 H1 s1 S1 h1
theorem tt_or (h : TtD K tt Γ M fun b M1 => if b = true then qb true M1 else TtD K tu Γ M1 qb) : TtD K (tOr tt tu) Γ M qb := fun σ F H S E Q A =>
  h σ F H S E _ fun b F1 M1 H1 s1 S1 h1 => by
    cases b with
    | true => exact A true F1 M1 H1 s1 S1 h1
    | false => exact h1 σ F1 H1 S1 (E.mono s1.ext) Q (A.step s1)
theorem tt_not (h : TtD K tt Γ M fun b M1 => qb (!b) M1) : TtD K (tNot tt) Γ M qb := fun σ F H S E Q A =>
  h σ F H S E _ fun b F1 M1 H1 s1 S1 h1 => A (!b) F1 M1 H1 s1 S1 h1
theorem ev_andV (h : EvD K ta Γ M fun d M1 => ∃ b, d = .bl b ∧ if b = true then EvD K tb Γ M1 q else q (.bl false) M1) : EvD K (tAndV ta tb) Γ M q := fun σ F H S E Q A =>
  h σ F H S E _ fun v d F1 M1 H1 s1 S1 r1 h1 => by
    obtain ⟨b, rfl, k⟩ := h1
    cases r1
    refine ⟨b, rfl, ?_⟩
    cases b with
    | true => exact k σ F1 H1 S1 (E.mono s1.ext) Q (A.step s1)
    | false => exact (A.step s1).here S1 (.bl false) k
theorem ev_orV (h : EvD K ta Γ M fun d M1 => ∃ b, d = .bl b ∧ if b = true then q (.bl true) M1 else EvD K tb Γ M1 q) : EvD K (tOrV ta tb) Γ M q := fun σ F H S E Q A =>
  h σ F H S E _ fun v d F1 M1 H1 s1 S1 r1 h1 => by
    obtain ⟨b, rfl, k⟩ := h1
    cases r1
    refine ⟨b, rfl, ?_⟩
    cases b with
    | true => exact (A.step s1).here S1 (.bl true) k
    | false => exact k σ F1 H1 S1 (E.mono s1.ext) Q (A.step s1)
theorem ev_notV (h : EvD K ta Γ M fun d M1 => ∃ b, d = .bl b ∧ q (.bl (!b)) M1) : EvD K (tNotV ta) Γ M q := fun σ F H S E Q A =>
  h σ F H S E _ fun v d F1 M1 H1 s1 S1 r1 h1 => by
    obtain ⟨b, rfl, k⟩ := h1
    cases r1
    exact ⟨b, rfl, (A.step s1).here S1 (.bl (!b)) k⟩
theorem ev_if (h : TtD K tt Γ M fun b M1 => if b = true then EvD K ta Γ M1 q else EvD K tb Γ M1 q) : EvD K (tIf tt ta tb) Γ M q := fun σ F H S E Q A =>
  h σ F H S E _ fun b F1 M1 H1 s1 S1 h1 => by
    cases b with
    | true => exact h1 σ F1 H1 S1 (E.mono s1.ext) Q (A.step s1)
    | false => exact h1 σ F1 H1 S1 (E.mono s1.ext) Q (A.step s1)

/-! ### calls -/
theorem ev_call {R : SpR} {E0 : XK} {t : TA} (h : EvA K t Γ M fun ds M1 => R ds M1 q no_ex) : EvD K (tCall (SpD K R) [] E0 t) Γ M q := fun σ F H S E Q A =>
  h σ F H S E _ fun vs ds F1 M1 H1 s1 S1 r1 h1 => ⟨F1, M1, ds, q, no_ex, S1, by rw [List.append_nil]; exact r1, h1, A.step s1, fun _ _ _ _ _ _ z => z.elim⟩
theorem ev_meth {R : SpR} {E0 : XK} {t : TA} {c m : Str} (h : EvD K ta Γ M fun x M1 => RecD K c m x M1 ∧ EvA K t Γ M1 fun ds M2 => R (x :: ds) M2 q no_ex) : EvD K (tMeth (He.ga K c) m (SpD K R) [] E0 ta t) Γ M q := fun σ F H S E Q A =>
  h σ F H S E _ fun v x F1 M1 H1 s1 S1 r1 h1 => by
    obtain ⟨a, dx, fs, ev, ea, el⟩ := h1.1 F1 H1 v S1 r1
    refine ⟨a, dx, fs, ev, ea, el, ?_⟩
    refine h1.2 σ F1 H1 S1 (E.mono s1.ext) _ fun vs ds F2 M2 H2 s2 S2 r2 h2 => ?_
    exact ⟨F2, M2, x :: ds, q, no_ex, S2, by rw [List.append_nil]; exact .cons (Rp.mono s2.ext _ _ r1) r2, h2, A.step (s1.trans s2), fun _ _ _ _ _ _ z => z.elim⟩
/-- the heap behind a new instance -/
theorem Sat.made (S : Sat K F M H) {x dx : Addr} {c : Str} (hx : H x = none) (hd : H dx = none) (hn : dx ≠ x) :
    Sat K F ((x, .obj c [] []) :: M) (upd (upd H dx (.own x)) x (.ins (He.ga K c) dx [])) ∧ Step F M H F ((x, .obj c [] []) :: M) (upd (upd H dx (.own x)) x (.ins (He.ga K c) dx [])) := by
  have S1 : Sat K F M (upd H dx (.own x)) := by
    refine ⟨fun b u z => ?_, S.nd, fun j a d h => ?_⟩
    · rw [upd_ne (ne_of_none (S.sub _ _ z) hd)]; exact S.sub _ _ z
    · obtain ⟨f0, c0⟩ := S.at_ h
      exact ⟨f0, cell_mono (Same.refl F) (fun o z => by rw [upd_ne (ne_of_none z hd)]; exact z) c0⟩
  have hx1 : upd H dx (.own x) x = none := by rw [upd_ne (Ne.symm hn)]; exact hx
  obtain ⟨S2, st⟩ := S1.newC hx1 (o := .ins (He.ga K c) dx []) (d := .obj c [] []) ⟨dx, [], upd_same, rfl, .nil⟩
  refine ⟨S2, ⟨Same.refl F, fun b o z n => ?_⟩⟩
  have z1 : upd H dx (.own x) b = some o := by rw [upd_ne (ne_of_none z hd)]; exact z
  exact st.keep b o z1 n
theorem ev_make {R : SpR} {E0 : XK} {t : TA} {c : Str} (h : EvA K t Γ M fun ds M1 => ∀ p, p ∉ dom M1 → R (.ref p :: ds) ((p, .obj c [] []) :: M1) (fun d M2 => d = .non ∧ q (.ref p) M2) no_ex) :
    EvD K (tMake (He.ga K c) (SpD K R) [] E0 t) Γ M q := fun σ F H S E Q A =>
  h σ F H S E _ fun vs ds F1 M1 H1 s1 S1 r1 h1 => fun x dx hx hd hn => by
    obtain ⟨S2, s2⟩ := S1.made (c := c) hx hd hn
    refine ⟨F1, _, .ref x :: ds, _, no_ex, S2, by rw [List.append_nil]; exact .cons (.ref x) r1, h1 x (S1.nodom hx), fun v d F' M' H' st S' r z => ?_, fun _ _ _ _ _ _ z => z.elim⟩
    obtain ⟨rfl, z⟩ := z
    cases r
    exact ⟨rfl, A _ _ _ _ _ ((s1.trans s2).trans st) S' (.ref x) z⟩
/-- f(e, .., k = v, ..) -/
theorem ev_callK {R : SpR} {E0 : XK} {t tk : TA} {n m : Nat} {gV : List V → List V → List V} {gD : List D → List D → List D}
    (hg : ∀ {F : Hp} {vs zs : List V} {ds es : List D}, Rps K F vs ds → Rps K F zs es → Rps K F (gV vs zs) (gD ds es))
    (h : EvA K t Γ M fun ds M1 => EvA K tk Γ M1 fun es M2 => ds.length = n ∧ es.length = m ∧ R (gD ds es) M2 q no_ex) : EvD K (tCallN n m (SpD K R) gV E0 t tk) Γ M q := fun σ F H S E Q A =>
  h σ F H S E _ fun vs ds F1 M1 H1 s1 S1 r1 h1 => h1 σ F1 H1 S1 (E.mono s1.ext) _ fun zs es F2 M2 H2 s2 S2 r2 h2 =>
    ⟨r1.length.trans h2.1, r2.length.trans h2.2.1, F2, M2, gD ds es, q, no_ex, S2, hg (Rps.mono s2.ext _ _ r1) r2, h2.2.2, A.step (s1.trans s2), fun _ _ _ _ _ _ z => z.elim⟩
theorem ev_makeK {R : SpR} {E0 : XK} {t tk : TA} {n m : Nat} {c : Str} {gV : List V → List V → List V} {gD : List D → List D → List D}
    (hg : ∀ {F : Hp} {vs zs : List V} {ds es : List D}, Rps K F vs ds → Rps K F zs es → Rps K F (gV vs zs) (gD ds es))
    (h : EvA K t Γ M fun ds M1 => EvA K tk Γ M1 fun es M2 => ds.length = n ∧ es.length = m ∧ ∀ p, p ∉ dom M2 → R (gD (.ref p :: ds) es) ((p, .obj c [] []) :: M2) (fun d M3 => d = .non ∧ q (.ref p) M3) no_ex) :
    EvD K (tMakeK (He.ga K c) n m (SpD K R) gV E0 t tk) Γ M q := fun σ F H S E Q A =>
  h σ F H S E _ fun vs ds F1 M1 H1 s1 S1 r1 h1 => h1 σ F1 H1 S1 (E.mono s1.ext) _ fun zs es F2 M2 H2 s2 S2 r2 h2 => by
    refine ⟨r1.length.trans h2.1, r2.length.trans h2.2.1, fun x dx hx hd hn => ?_⟩
    obtain ⟨S3, s3⟩ := S2.made (c := c) hx hd hn
    refine ⟨F2, _, gD (.ref x :: ds) es, _, no_ex, S3, hg (.cons (.ref x) (Rps.mono s2.ext _ _ r1)) r2, h2.2.2 x (S2.nodom hx), fun v d F' M' H' st S' r z => ?_, fun _ _ _ _ _ _ z => z.elim⟩
    obtain ⟨rfl, z⟩ := z
    cases r
    exact ⟨rfl, A _ _ _ _ _ (((s1.trans s2).trans s3).trans st) S' (.ref x) z⟩
theorem ev_cb {r : List V → Hp → VK → Prop} {t : TA} (h : EvA K t Γ M fun ds M1 => CbD K r ds M1 q) : EvD K (tCB r t) Γ M q := fun σ F H S E Q A =>
  h σ F H S E _ fun vs ds F1 M1 H1 s1 S1 r1 h1 => h1 F1 H1 vs S1 r1 Q (A.step s1)
theorem ev_bm {r : V → List V → Hp → VK → Prop} {T : String} {t : TA} (h : EvD K ta Γ M fun x M1 => TyD K T x M1 ∧ EvA K t Γ M1 fun ds M2 => BmD K r x ds M2 q) : EvD K (tBM K T r ta t) Γ M q := fun σ F H S E Q A =>
  h σ F H S E _ fun v x F1 M1 H1 s1 S1 r1 h1 => ⟨h1.1 F1 H1 v S1 r1, h1.2 σ F1 H1 S1 (E.mono s1.ext) _ fun vs ds F2 M2 H2 s2 S2 r2 h2 => h2 F2 H2 v vs S2 (Rp.mono s2.ext _ _ r1) r2 Q (A.step (s1.trans s2))⟩
theorem ev_sl {r : V → Option Int → Option Int → Hp → VK → Prop} {tl th : TO} (h : EvD K ta Γ M fun x M1 => PoD K tl Γ M1 fun lo M2 => PoD K th Γ M2 fun hi M3 => SlD K r x lo hi M3 q) : EvD K (tSl r ta tl th) Γ M q := fun σ F H S E Q A =>
  h σ F H S E _ fun v x F1 M1 H1 s1 S1 r1 h1 => h1 σ F1 H1 S1 (E.mono s1.ext) _ fun lo F2 M2 H2 s2 S2 h2 => h2 σ F2 H2 S2 (E.mono (s1.trans s2).ext) _ fun hi F3 M3 H3 s3 S3 h3 =>
    h3 F3 H3 v S3 (Rp.mono (s2.trans s3).ext _ _ r1) Q (A.step ((s1.trans s2).trans s3))
theorem po_nil {q : Option Int → Mem → Prop} (k : q none M) : PoD K tNoPart Γ M q := fun _ F H S _ _ A => A none F M H (Step.refl F M H) S k
theorem po_val {q : Option Int → Mem → Prop} (h : EvD K te Γ M fun d M1 => ∃ i, d = .int i ∧ q (some i) M1) : PoD K (tPart te) Γ M q := fun σ F H S E Q A =>
  h σ F H S E _ fun v d F1 M1 H1 s1 S1 r1 h1 => by
    obtain ⟨i, rfl, k⟩ := h1
    cases r1
    exact ⟨i, rfl, A (some i) F1 M1 H1 s1 S1 k⟩
theorem ev_fld {f : Str} (h : EvD K ta Γ M fun x M1 => FldD K f x M1 q) : EvD K (tFld K ta f) Γ M q := fun σ F H S E Q A =>
  h σ F H S E _ fun v x F1 M1 H1 s1 S1 r1 h1 => h1 F1 H1 v S1 r1 Q (A.step s1)
end

/-! ### statements -/
structure DE where
  nx : Gm → Mem → Prop
  rt : D → Mem → Prop
  bk : Gm → Mem → Prop := fun _ _ => False
  ct : Gm → Mem → Prop := fun _ _ => False
  ex : Gm → Value → Mem → Prop := fun _ _ _ => False
def AccG (K : PySem.W.Frag) (F : Hp) (M : Mem) (H : Hp) (Q : L2.St → Hp → Prop) (k : Gm → Mem → Prop) : Prop := ∀ σ' Γ' F' M' H', Step F M H F' M' H' → Sat K F' M' H' → EnvOk K F' σ' Γ' → k Γ' M' → Q σ' H'
theorem AccG.step {K : PySem.W.Frag} {F F1 H H1 : Hp} {M M1 : Mem} {Q : L2.St → Hp → Prop} {k : Gm → Mem → Prop} (a : AccG K F M H Q k) (s : Step F M H F1 M1 H1) : AccG K F1 M1 H1 Q k := fun σ' Γ' F' M' H' s' S' e z => a σ' Γ' F' M' H' (s.trans s') S' e z
structure Ref (K : PySem.W.Frag) (W : WX) (E : Ends) (DD : DE) (F : Hp) (M : Mem) (H : Hp) : Prop where
  nx : AccG K F M H E.nx DD.nx
  rt : Acc K F M H E.rt DD.rt
  bk : AccG K F M H E.bk DD.bk
  ct : AccG K F M H E.ct DD.ct
  ex : ∀ σ' Γ' cls F' M' H', Step F M H F' M' H' → Sat K F' M' H' → EnvOk K F' σ' Γ' → DD.ex Γ' cls M' → W cls none σ' H'
theorem Ref.step {K : PySem.W.Frag} {W : WX} {E : Ends} {DD : DE} {F F1 H H1 : Hp} {M M1 : Mem} (r : Ref K W E DD F M H) (s : Step F M H F1 M1 H1) : Ref K W E DD F1 M1 H1 :=
  ⟨r.nx.step s, r.rt.step s, r.bk.step s, r.ct.step s, fun σ' Γ' cls F' M' H' s' S' e z => r.ex σ' Γ' cls F' M' H' (s.trans s') S' e z⟩
def StD (K : PySem.W.Frag) (W : WX) (t : TS) (Γ : Gm) (M : Mem) (DD : DE) : Prop := ∀ σ F H, Sat K F M H → EnvOk K F σ Γ → ∀ E : Ends, Ref K W E DD F M H → t E σ H
def GtD (K : PySem.W.Frag) (g : TG) (d : D) (Γ : Gm) (M : Mem) (k : Gm → Mem → Prop) : Prop := ∀ σ F H v, Sat K F M H → EnvOk K F σ Γ → Rp K F v d → ∀ Q, AccG K F M H Q k → g v σ H Q
def GtsD (K : PySem.W.Frag) (g : TGs) (ds : List D) (Γ : Gm) (M : Mem) (k : Gm → Mem → Prop) : Prop := ∀ σ F H vs, Sat K F M H → EnvOk K F σ Γ → Rps K F vs ds → ∀ Q, AccG K F M H Q k → g vs σ H Q
section
variable {K : PySem.W.Frag} {W : WX} {F F1 H H1 : Hp} {M M1 : Mem} {Γ : Gm} {DD : DE} {ta tb te tv : TE} {tt tc : TT} {t u tu : TS} {g : TG} {k : Gm → Mem → Prop}
theorem AccG.here {Q : L2.St → Hp → Prop} {σ : L2.St} (a : AccG K F M H Q k) (S : Sat K F M H) (E : EnvOk K F σ Γ) (h : k Γ M) : Q σ H := a σ Γ F M H (Step.refl F M H) S E h

theorem sd_mono {DD' : DE} (h : StD K W t Γ M DD') (hn : ∀ Γ' M', DD'.nx Γ' M' → DD.nx Γ' M') (hr : ∀ d M', DD'.rt d M' → DD.rt d M') (hb : ∀ Γ' M', DD'.bk Γ' M' → DD.bk Γ' M') (hc : ∀ Γ' M', DD'.ct Γ' M' → DD.ct Γ' M') (hx : ∀ Γ' c M', DD'.ex Γ' c M' → DD.ex Γ' c M') : StD K W t Γ M DD := fun σ F H S En E R =>
  h σ F H S En E ⟨fun σ' Γ' F' M' H' st S' e z => R.nx σ' Γ' F' M' H' st S' e (hn _ _ z), fun v d F' M' H' st S' e z => R.rt v d F' M' H' st S' e (hr _ _ z), fun σ' Γ' F' M' H' st S' e z => R.bk σ' Γ' F' M' H' st S' e (hb _ _ z),
    fun σ' Γ' F' M' H' st S' e z => R.ct σ' Γ' F' M' H' st S' e (hc _ _ z), fun σ' Γ' c F' M' H' st S' e z => R.ex σ' Γ' c F' M' H' st S' e (hx _ _ _ z)⟩
theorem sd_seq (h : StD K W t Γ M { DD with nx := fun Γ' M' => StD K W u Γ' M' DD }) : StD K W (tSeq t u) Γ M DD := fun σ F H S En E R =>
  h σ F H S En { E with nx := u E } ⟨fun σ' Γ' F' M' H' st S' e z => z σ' F' H' S' e E (R.step st), R.rt, R.bk, R.ct, R.ex⟩
theorem sd_next (h : DD.nx Γ M) : StD K W tNext Γ M DD := fun σ F H S En E R => R.nx.here S En h
theorem sd_brk (h : DD.bk Γ M) : StD K W tBreak Γ M DD := fun σ F H S En E R => R.bk.here S En h
theorem sd_cont (h : DD.ct Γ M) : StD K W tCont Γ M DD := fun σ F H S En E R => R.ct.here S En h
theorem sd_never (h : False) : StD K W tNever Γ M DD := h.elim
theorem sd_drop (h : EvD K te Γ M fun _ M1 => DD.nx Γ M1) : StD K W (tDrop te) Γ M DD := fun σ F H S En E R =>
  h σ F H S En _ fun v d F1 M1 H1 s1 S1 r1 h1 => (R.step s1).nx.here S1 (En.mono s1.ext) h1
theorem sd_ret (h : EvD K te Γ M DD.rt) : StD K W (tRet te) Γ M DD := fun σ F H S En E R => h σ F H S En _ R.rt
theorem sd_retN (h : DD.rt .non M) : StD K W tRetN Γ M DD := fun σ F H S En E R => R.rt.here S .non h
theorem sd_if (h : TtD K tt Γ M fun b M1 => if b = true then StD K W t Γ M1 DD else StD K W u Γ M1 DD) : StD K W (tIfS tt t u) Γ M DD := fun σ F H S En E R =>
  h σ F H S En _ fun b F1 M1 H1 s1 S1 h1 => by
    cases b with
    | true => exact h1 σ F1 H1 S1 (En.mono s1.ext) E (R.step s1)
    | false => exact h1 σ F1 H1 S1 (En.mono s1.ext) E (R.step s1)
theorem sd_asg (h : EvD K te Γ M fun d M1 => GtD K g d Γ M1 DD.nx) : StD K W (tAsg te g) Γ M DD := fun σ F H S En E R =>
  h σ F H S En _ fun v d F1 M1 H1 s1 S1 r1 h1 => h1 σ F1 H1 v S1 (En.mono s1.ext) r1 _ (R.step s1).nx
theorem gt_name {i : Nat} {d : D} (h : k (Γ.set i (some d)) M) : GtD K (gName i) d Γ M k := fun σ F H v S En r Q A => A.here S (En.set i r) h
theorem gt_tup {n : Nat} {t : TGs} {ds : List D} (hn : ds.length = n) (h : GtsD K t ds Γ M k) : GtD K (gTup K n t) (.tup ds) Γ M k := fun σ F H v S En r Q A => by
  cases r with
  | tup h1 h2 => exact ⟨_, _, rfl, seqT_mono S.sub h1, by rw [h2.length]; exact hn, h σ F H _ S En h2 Q A⟩
theorem gts_nil (h : k Γ M) : GtsD K gNil [] Γ M k := fun σ F H vs S En r Q A => by
  cases r
  exact ⟨rfl, A.here S En h⟩
theorem gts_cons {t : TG} {u : TGs} {d : D} {ds : List D} (h : GtD K t d Γ M fun Γ1 M1 => GtsD K u ds Γ1 M1 k) : GtsD K (gCons t u) (d :: ds) Γ M k := fun σ F H vs S En r Q A => by
  cases r with
  | cons r1 r2 => exact ⟨_, _, rfl, h σ F H _ S En r1 _ fun σ' Γ' F' M' H' st S' e z => z σ' F' H' _ S' e (Rps.mono st.ext _ _ r2) Q (A.step st)⟩
theorem sd_par {i j : Nat} {ta : TA} (h : EvA K ta Γ M fun ds M1 => ∃ d e, ds = [d, e] ∧ DD.nx ((Γ.set i (some d)).set j (some e)) M1) : StD K W (tPar i j ta) Γ M DD := fun σ F H S En E R =>
  h σ F H S En _ fun vs ds F1 M1 H1 s1 S1 r1 h1 => by
    obtain ⟨d, e, rfl, z⟩ := h1
    obtain ⟨v, w, rfl, rv, rw'⟩ := r1.two
    exact ⟨v, w, rfl, (R.step s1).nx.here S1 (((En.mono s1.ext).set i rv).set j rw') z⟩
theorem sd_par3 {i j l : Nat} {ta : TA} (h : EvA K ta Γ M fun ds M1 => ∃ d e f, ds = [d, e, f] ∧ DD.nx (((Γ.set i (some d)).set j (some e)).set l (some f)) M1) : StD K W (tPar3 i j l ta) Γ M DD := fun σ F H S En E R =>
  h σ F H S En _ fun vs ds F1 M1 H1 s1 S1 r1 h1 => by
    obtain ⟨d, e, f, rfl, z⟩ := h1
    cases r1 with
    | cons rv r1 =>
      obtain ⟨w, x, rfl, rw', rx⟩ := r1.two
      exact ⟨_, w, x, rfl, (R.step s1).nx.here S1 ((((En.mono s1.ext).set i rv).set j rw').set l rx) z⟩
theorem sd_aug {i : Nat} {ti : TIp} {d : D} (hi : Γ[i]? = some (some d)) (h : EvD K te Γ M fun e M1 => OpD K ti d e M1 fun z M2 => DD.nx (Γ.set i (some z)) M2) : StD K W (tAug i te ti) Γ M DD := fun σ F H S En E R => by
  obtain ⟨v, ev, rv⟩ := En.2 i d hi
  refine ⟨v, ev, h σ F H S En _ fun w e F1 M1 H1 s1 S1 r1 h1 => ?_⟩
  refine h1 F1 H1 v w S1 (Rp.mono s1.ext _ _ rv) r1 _ fun z dz F2 M2 H2 s2 S2 r2 h2 => ?_
  exact ((R.step s1).step s2).nx.here S2 ((En.mono (s1.trans s2).ext).set i r2) h2
/-- a slot's cell that will not change any more -/
theorem sd_frz {i j : Nat} {p : Addr} {o : D} (hi : Γ[i]? = some (some (.ref p))) (hj : M[j]? = some (p, o)) (h : StD K W t (Γ.set i (some o)) (M.eraseIdx j) DD) : StD K W t Γ M DD := fun σ F H S En E R => by
  obtain ⟨F1, S1, s1, r1⟩ := S.freeze hj
  obtain ⟨v, ev, rv⟩ := En.2 i _ hi
  cases rv
  have e1 := (En.mono s1.ext).set i r1
  have e2 : σ.set i (some (.ref p)) = σ := by
    apply List.ext_getElem?
    intro m
    by_cases hm : i = m
    · subst hm
      rw [List.getElem?_set_self (List.getElem?_eq_some_iff.mp ev).1, ev]
    · rw [List.getElem?_set_ne hm]
  rw [e2] at e1
  exact h σ F1 H S1 e1 E (R.step s1)
/-- what is known of a slot may be forgotten -/
theorem EnvOk.less {σ : L2.St} {Γ' : Gm} (h : EnvOk K F σ Γ) (hl : Γ'.length = Γ.length) (hs : ∀ (i : Nat) (d : D), Γ'[i]? = some (some d) → Γ[i]? = some (some d)) : EnvOk K F σ Γ' := ⟨h.1.trans hl.symm, fun i d e => h.2 i d (hs i d e)⟩

/-! ### attributes -/
def ixK : List Str → Str → Option Nat
  | [], _ => none
  | k :: r, f => if k = f then some 0 else (ixK r f).map (· + 1)
theorem lookup_ix : ∀ {fv : List (Str × V)} {f : Str} {i : Nat} {v : V}, ixK (fv.map (·.1)) f = some i → (fv.map (·.2))[i]? = some v → fv.lookup f = some v
  | [], _, _, _, h, _ => by cases h
  | (g, x) :: r, f, i, v, h, hv => by
    have h : (if g = f then some 0 else (ixK (r.map (·.1)) f).map (· + 1)) = some i := h
    by_cases hg : g = f
    · rw [if_pos hg] at h
      cases h
      have hv : some x = some v := hv
      cases hv
      subst hg
      simp [List.lookup]
    · rw [if_neg hg] at h
      obtain ⟨j, hj, rfl⟩ := Option.map_eq_some_iff.mp h
      have q : (f == g) = false := by simpa using fun z => hg z.symm
      show (match f == g with | true => some x | false => r.lookup f) = some v
      rw [q]
      exact lookup_ix hj hv
theorem lookup_no : ∀ {fv : List (Str × V)} {f : Str}, ixK (fv.map (·.1)) f = none → fv.lookup f = none
  | [], _, _ => rfl
  | (g, x) :: r, f, h => by
    have h : (if g = f then some 0 else (ixK (r.map (·.1)) f).map (· + 1)) = none := h
    by_cases hg : g = f
    · rw [if_pos hg] at h; cases h
    · rw [if_neg hg] at h
      have hj := Option.map_eq_none_iff.mp h
      have q : (f == g) = false := by simpa using fun z => hg z.symm
      show (match f == g with | true => some x | false => r.lookup f) = none
      rw [q]
      exact lookup_no hj
theorem put_old : ∀ {fv : List (Str × V)} {f : Str} {i : Nat} {v : V}, ixK (fv.map (·.1)) f = some i → (putF f v fv).map (·.1) = fv.map (·.1) ∧ (putF f v fv).map (·.2) = (fv.map (·.2)).set i v
  | [], _, _, _, h => by cases h
  | (g, x) :: r, f, i, v, h => by
    have h : (if g = f then some 0 else (ixK (r.map (·.1)) f).map (· + 1)) = some i := h
    by_cases hg : g = f
    · rw [if_pos hg] at h
      cases h
      have e : putF f v ((g, x) :: r) = (g, v) :: r := if_pos hg
      rw [e]
      exact ⟨rfl, rfl⟩
    · rw [if_neg hg] at h
      obtain ⟨j, hj, rfl⟩ := Option.map_eq_some_iff.mp h
      have e : putF f v ((g, x) :: r) = (g, x) :: putF f v r := if_neg hg
      obtain ⟨h1, h2⟩ := put_old (v := v) hj
      rw [e]
      exact ⟨congrArg (g :: ·) h1, congrArg (x :: ·) h2⟩
theorem put_new : ∀ {fv : List (Str × V)} {f : Str} {v : V}, ixK (fv.map (·.1)) f = none → putF f v fv = fv ++ [(f, v)]
  | [], _, _, _ => rfl
  | (g, x) :: r, f, v, h => by
    have h : (if g = f then some 0 else (ixK (r.map (·.1)) f).map (· + 1)) = none := h
    by_cases hg : g = f
    · rw [if_pos hg] at h; cases h
    · rw [if_neg hg] at h
      have hj := Option.map_eq_none_iff.mp h
      have e : putF f v ((g, x) :: r) = (g, x) :: putF f v r := if_neg hg
      rw [e, put_new hj]
      rfl
/-- the text's classes and the attributes that their instances bear -/
def attrs : List (Str × List Str) := [("Pattern", ["name", "before", "messages"]), ("SmallSuite", ["name", "key_size", "tag_size", "digest_size", "block_size"]), ("NumberedKey", ["_suite", "_key", "_number"]),
  ("Transcript", ["_suite", "_hash", "_chain", "_key", "_ended"]), ("Handshake", ["_suite", "_pattern", "_opener", "_secret", "_ephemeral", "_peer", "_peer_ephemeral", "_psk", "_index", "_transcript"])]
def isCl (c : Str) : Bool := (attrs.lookup c).isSome
def noAt (c f : Str) : Bool := ((attrs.lookup c).getD []).contains f
structure Tx (K : PySem.W.Frag) : Prop where
  cl : ∀ c, isCl c = true → Cls K (He.ga K c)
  na : ∀ c f, noAt c f = true → NoAttr K (He.ga K c) f
theorem isCl_of {c f : Str} (h : noAt c f = true) : isCl c = true := by
  unfold noAt at h
  unfold isCl
  cases e : attrs.lookup c with
  | none => rw [e] at h; cases h
  | some l => rfl
theorem fld_obj {q : D → Mem → Prop} {f c : Str} {ks : List Str} {ds : List D} {i : Nat} {d : D} (T : Tx K) (hn : noAt c f = true) (hi : ixK ks f = some i) (hd : ds[i]? = some d) (k : q d M) : FldD K f (.obj c ks ds) M q := fun F H v S r Q A => by
  cases r with
  | @obj a _ dx fv _ _ h1 h2 h3 =>
    obtain ⟨w, hw, rw'⟩ := h3.get hd
    exact ⟨a, _, dx, fv, w, rfl, S.sub _ _ h1, T.cl c (isCl_of hn), T.na c f hn, lookup_ix (by rw [h2]; exact hi) hw, A.here S rw' k⟩
theorem fld_cell {q : D → Mem → Prop} {f c : Str} {ks : List Str} {ds : List D} {i j : Nat} {d : D} {p : Addr} (T : Tx K) (hj : M[j]? = some (p, .obj c ks ds)) (hn : noAt c f = true) (hi : ixK ks f = some i) (hd : ds[i]? = some d) (k : q d M) :
    FldD K f (.ref p) M q := fun F H v S r Q A => by
  cases r
  obtain ⟨_, dx, fv, h1, h2, h3⟩ := S.at_ hj
  obtain ⟨w, hw, rw'⟩ := h3.get hd
  exact ⟨p, _, dx, fv, w, rfl, h1, T.cl c (isCl_of hn), T.na c f hn, lookup_ix (by rw [h2]; exact hi) hw, A.here S rw' k⟩
theorem rec_obj {c m : Str} {ks : List Str} {ds : List D} (hi : ixK ks m = none) : RecD K c m (.obj c ks ds) M := fun F H v S r => by
  cases r with
  | obj h1 h2 h3 => exact ⟨_, _, _, rfl, S.sub _ _ h1, lookup_no (by rw [h2]; exact hi)⟩
theorem rec_cell {c m : Str} {ks : List Str} {ds : List D} {j : Nat} {p : Addr} (hj : M[j]? = some (p, .obj c ks ds)) (hi : ixK ks m = none) : RecD K c m (.ref p) M := fun F H v S r => by
  cases r
  obtain ⟨_, dx, fv, h1, h2, h3⟩ := S.at_ hj
  exact ⟨p, dx, fv, rfl, h1, lookup_no (by rw [h2]; exact hi)⟩
/-- o.f = y -/
def SetD (K : PySem.W.Frag) (f : Str) (x y : D) (M : Mem) (k : Mem → Prop) : Prop := ∀ F H v w, Sat K F M H → Rp K F v x → Rp K F w y → ∀ Q : Hp → Prop, (∀ F' M' H', Step F M H F' M' H' → Sat K F' M' H' → k M' → Q H') →
  ∃ a C dx fs, v = .ref a ∧ H a = some (.ins C dx fs) ∧ Cls K C ∧ NoAttr K C f ∧ fs.length < 1000 ∧ Q (upd H a (.ins C dx (putF f w fs)))
theorem set_old {f c : Str} {ks : List Str} {ds : List D} {i j : Nat} {y : D} {p : Addr} {k : Mem → Prop} (T : Tx K) (hj : M[j]? = some (p, .obj c ks ds)) (hn : noAt c f = true) (hi : ixK ks f = some i) (hl : ks.length < 1000)
    (h : k (M.set j (p, .obj c ks (ds.set i y)))) : SetD K f (.ref p) y M k := fun F H v w S rv rw' Q A => by
  cases rv
  obtain ⟨_, dx, fv, h1, h2, h3⟩ := S.at_ hj
  obtain ⟨e1, e2⟩ := put_old (fv := fv) (v := w) (by rw [h2]; exact hi)
  have hz : fv.length < 1000 := by
    have z : (fv.map (·.1)).length = ks.length := by rw [h2]
    rw [List.length_map] at z; omega
  obtain ⟨S', st⟩ := S.setC hj (o := .ins (He.ga K c) dx (putF f w fv)) (d := .obj c ks (ds.set i y)) ⟨dx, _, upd_same, by rw [e1, h2], by rw [e2]; exact Rps.set rw' i h3⟩
  exact ⟨p, _, dx, fv, rfl, h1, T.cl c (isCl_of hn), T.na c f hn, hz, A _ _ _ st S' h⟩
theorem set_new {f c : Str} {ks : List Str} {ds : List D} {j : Nat} {y : D} {p : Addr} {k : Mem → Prop} (T : Tx K) (hj : M[j]? = some (p, .obj c ks ds)) (hn : noAt c f = true) (hi : ixK ks f = none) (hl : ks.length < 1000)
    (h : k (M.set j (p, .obj c (ks ++ [f]) (ds ++ [y])))) : SetD K f (.ref p) y M k := fun F H v w S rv rw' Q A => by
  cases rv
  obtain ⟨_, dx, fv, h1, h2, h3⟩ := S.at_ hj
  have e1 := put_new (fv := fv) (f := f) (v := w) (by rw [h2]; exact hi)
  have hz : fv.length < 1000 := by
    have z : (fv.map (·.1)).length = ks.length := by rw [h2]
    rw [List.length_map] at z; omega
  obtain ⟨S', st⟩ := S.setC hj (o := .ins (He.ga K c) dx (putF f w fv)) (d := .obj c (ks ++ [f]) (ds ++ [y])) ⟨dx, _, upd_same, by rw [e1, List.map_append, h2] <;> rfl, by rw [e1, List.map_append]; exact h3.app (.cons rw' .nil)⟩
  exact ⟨p, _, dx, fv, rfl, h1, T.cl c (isCl_of hn), T.na c f hn, hz, A _ _ _ st S' h⟩
theorem sd_fld {f : Str} (h : EvD K tv Γ M fun y M1 => EvD K ta Γ M1 fun x M2 => SetD K f x y M2 fun M3 => DD.nx Γ M3) : StD K W (sFld K ta tv f) Γ M DD := fun σ F H S En E R =>
  h σ F H S En _ fun w y F1 M1 H1 s1 S1 r1 h1 => h1 σ F1 H1 S1 (En.mono s1.ext) _ fun v x F2 M2 H2 s2 S2 r2 h2 => by
    obtain ⟨a, C, dx, fs, e1, e2, c1, c2, c3, z⟩ := h2 F2 H2 v w S2 r2 (Rp.mono s2.ext _ _ r1) (E.nx σ) fun F3 M3 H3 s3 S3 h3 => (R.step ((s1.trans s2).trans s3)).nx.here S3 (En.mono ((s1.trans s2).trans s3).ext) h3
    exact ⟨a, C, dx, fs, e1, e2, c1, c2, c3, z⟩
/-- (.., o.f, ..) = .. -/
def gFld (K : PySem.W.Frag) (ta : TE) (f : Str) : TG := fun v σ H Q => ta σ H fun x H1 => ∃ a C dx fs, x = .ref a ∧ H1 a = some (.ins C dx fs) ∧ Cls K C ∧ NoAttr K C f ∧ fs.length < 1000 ∧ Q σ (upd H1 a (.ins C dx (putF f v fs)))
theorem pg_fld {X : Cx} {o : Expr} {f : Str} {pos : Pos} (ho : PE X o ta) : PG X (.Attribute o f pos) (gFld X.K ta f) := by
  refine ⟨fun pins s σ H v u Q I r h => ?_⟩
  rw [PySem.assign_Attribute]
  refine wpAny_bind (wpAny_holding (thn (ho.run pins s σ H _ I h) fun ov s1 ⟨x, H1, I1, r1, a, C, dx, fs, ex, ea, c, n, l, q⟩ => ?_))
  subst ex
  obtain rfl : ov = Value.ref a := r1
  first
    | refine wpAny_bind (wpAny_standAt (wpAny_bind (wpAny_holding (setattr_ok I1 ea c n l r fun s2 I2 => ?_))))
    | refine wpAny_bind (wpAny_holding (setattr_ok I1 ea c n l r fun s2 I2 => ?_))
  exact wpAny_release ⟨σ, _, I2, q⟩
theorem gt_fld {f : Str} {y : D} (h : EvD K ta Γ M fun x M1 => SetD K f x y M1 fun M2 => k Γ M2) : GtD K (gFld K ta f) y Γ M k := fun σ F H w S En rw' Q A =>
  h σ F H S En _ fun v x F1 M1 H1 s1 S1 r1 h1 => h1 F1 H1 v w S1 r1 (Rp.mono s1.ext _ _ rw') (Q σ) fun F2 M2 H2 s2 S2 h2 => (A.step (s1.trans s2)).here S2 (En.mono (s1.trans s2).ext) h2
theorem sd_fldaug {f : Str} {rd : V → V → Hp → VK → Prop} {c : Str} {ks : List Str} {ds : List D} {i j : Nat} {p : Addr} {d : D} (T : Tx K) (hta : ∀ (q : D → Mem → Prop), q (.ref p) M → EvD K ta Γ M q) (hj : M[j]? = some (p, .obj c ks ds)) (hn : noAt c f = true) (hi : ixK ks f = some i)
    (hd : ds[i]? = some d) (hl : ks.length < 1000) (h : EvD K tv Γ M fun y M1 => M1 = M ∧ OpD K rd d y M fun z M2 => M2 = M ∧ DD.nx Γ (M.set j (p, .obj c ks (ds.set i z)))) : StD K W (sFldAug K ta tv rd f) Γ M DD := fun σ F H S En E R => by
  refine hta (fun x M1 => M1 = M ∧ x = .ref p) ⟨rfl, rfl⟩ σ F H S En _ fun v x F1 M1 H1 s1 S1 r1 h1 => ?_
  obtain ⟨rfl, rfl⟩ := h1
  cases r1
  obtain ⟨_, dx, fv, g1, g2, g3⟩ := S1.at_ hj
  obtain ⟨w, hw, rw'⟩ := g3.get hd
  refine ⟨p, _, dx, fv, w, rfl, g1, T.cl c (isCl_of hn), T.na c f hn, lookup_ix (by rw [g2]; exact hi) hw, ?_⟩
  refine h σ F1 H1 S1 (En.mono s1.ext) _ fun y dy F2 M2 H2 s2 S2 r2 h2 => ?_
  obtain ⟨rfl, h2⟩ := h2
  refine h2 F2 H2 w y S2 (Rp.mono s2.ext _ _ rw') r2 _ fun z dz F3 M3 H3 s3 S3 r3 h3 => ?_
  obtain ⟨rfl, h3⟩ := h3
  obtain ⟨_, dx', fv', k1, k2, k3⟩ := S3.at_ hj
  obtain ⟨e1, e2⟩ := put_old (fv := fv') (v := z) (by rw [k2]; exact hi)
  have hz : fv'.length < 1000 := by
    have z : (fv'.map (·.1)).length = ks.length := by rw [k2]
    rw [List.length_map] at z; omega
  obtain ⟨S', st⟩ := S3.setC hj (o := .ins (He.ga K c) dx' (putF f z fv')) (d := .obj c ks (ds.set i dz)) ⟨dx', _, upd_same, by rw [e1, k2], by rw [e2]; exact Rps.set r3 i k3⟩
  exact ⟨dx', fv', k1, hz, (R.step (((s1.trans s2).trans s3).trans st)).nx.here S' (En.mono (((s1.trans s2).trans s3).trans st).ext) h3⟩
end

/-! ### what is walked -/
/-- the iterator yields the data ds, one by one, wherever F0 stands -/
def ItOk (K : PySem.W.Frag) (J : It) (F0 : Hp) (ds : List D) : Prop := ∀ F M H, Sat K F M H → Same F0 F → ∀ i : Nat,
  (∀ d, ds[i]? = some d → J.go i H ∧ ∀ x H', J.yld i H x H' → ∃ F', Step F M H F' M H' ∧ Sat K F' M H' ∧ Rp K F' x d) ∧ (ds.length ≤ i → J.stop i H)
def ItD (K : PySem.W.Frag) (wi : TI) (Γ : Gm) (M : Mem) (q : List D → Mem → Prop) : Prop := ∀ σ F H, Sat K F M H → EnvOk K F σ Γ → ∀ R : It → Hp → Prop,
  (∀ J ds F' M' H', Step F M H F' M' H' → Sat K F' M' H' → ItOk K J F' ds → q ds M' → R J H') → wi σ H R
theorem ItOk.mono {K : PySem.W.Frag} {J : It} {F0 F1 : Hp} {ds : List D} (h : ItOk K J F0 ds) (e : Same F0 F1) : ItOk K J F1 ds := fun F M H S e2 i => h F M H S (e.trans e2) i
section
variable {K : PySem.W.Frag} {W : WX} {F F1 H H1 : Hp} {M M1 : Mem} {Γ : Gm} {DD : DE} {ta tb te tv : TE} {tt tc : TT} {t u tu : TS} {g : TG} {k : Gm → Mem → Prop} {wi : TI} {qi : List D → Mem → Prop}
theorem itok_list {a : Addr} {xs : List V} {ds : List D} (h : F a = some (.lst xs)) (r : Rps K F xs ds) : ItOk K (Itl K a) F ds := fun F2 M2 H2 S e i => by
  have hH : SqL K H2 a xs := SqL.of (S.sub _ _ (e _ _ h))
  refine ⟨fun d hd => ?_, fun hl => ⟨xs, hH, by rw [r.length]; exact hl⟩⟩
  obtain ⟨v, hv, rv⟩ := r.get hd
  refine ⟨⟨xs, v, hH, hv⟩, fun x H' y => ?_⟩
  obtain ⟨rfl, y⟩ := y
  have e2 := y xs hH
  rw [hv] at e2
  cases e2
  exact ⟨F2, Step.refl _ _ _, S, Rp.mono e _ _ rv⟩
theorem itok_tup {a : Addr} {xs : List V} {ds : List D} (h : SqT K F a xs) (r : Rps K F xs ds) : ItOk K (Itt K a) F ds := fun F2 M2 H2 S e i => by
  have hH : SqT K H2 a xs := seqT_mono S.sub (seqT_mono e h)
  refine ⟨fun d hd => ?_, fun hl => ⟨xs, hH, by rw [r.length]; exact hl⟩⟩
  obtain ⟨v, hv, rv⟩ := r.get hd
  refine ⟨⟨xs, v, hH, hv⟩, fun x H' y => ?_⟩
  obtain ⟨rfl, y⟩ := y
  have e2 := y xs hH
  rw [hv] at e2
  cases e2
  exact ⟨F2, Step.refl _ _ _, S, Rp.mono e _ _ rv⟩
/-- lo, lo + c, .. -/
def rngD (lo c : Int) (n : Nat) : List D := (List.range n).map fun i => D.int (lo + (i : Nat) * c)
theorem rngD_get {lo c : Int} {n i : Nat} {d : D} (h : (rngD lo c n)[i]? = some d) : i < n ∧ d = .int (lo + (i : Nat) * c) := by
  unfold rngD at h
  rw [List.getElem?_map] at h
  by_cases hi : i < n
  · rw [List.getElem?_range hi] at h
    exact ⟨hi, (Option.some.inj h).symm⟩
  · rw [List.getElem?_eq_none (by simpa using hi)] at h; cases h
theorem rngD_len {lo c : Int} {n : Nat} : (rngD lo c n).length = n := by simp [rngD]
theorem itok_rngC {lo c : Int} {n : Nat} : ItOk K (Itc lo c n) F (rngD lo c n) := fun F2 M2 H2 S e i => by
  refine ⟨fun d hd => ?_, fun hl => by rw [rngD_len] at hl; exact hl⟩
  obtain ⟨hi, rfl⟩ := rngD_get hd
  refine ⟨hi, fun x H' y => ?_⟩
  obtain ⟨rfl, rfl⟩ := y
  exact ⟨F2, Step.refl _ _ _, S, .int _⟩
theorem itok_rng {lo : Int} {n : Nat} : ItOk K (Itr lo n) F (rngD lo 1 n) := fun F2 M2 H2 S e i => by
  refine ⟨fun d hd => ?_, fun hl => by rw [rngD_len] at hl; exact hl⟩
  obtain ⟨hi, rfl⟩ := rngD_get hd
  refine ⟨hi, fun x H' y => ?_⟩
  obtain ⟨rfl, rfl⟩ := y
  rw [Int.mul_one]
  exact ⟨F2, Step.refl _ _ _, S, .int _⟩
/-- pairs -/
def zipD (xs ys : List D) : List D := List.zipWith (fun x y => D.tup [x, y]) xs ys
theorem zipD_get {xs ys : List D} {i : Nat} {d : D} (h : (zipD xs ys)[i]? = some d) : ∃ x y, xs[i]? = some x ∧ ys[i]? = some y ∧ d = .tup [x, y] := by
  unfold zipD at h
  rw [List.getElem?_zipWith] at h
  cases e1 : xs[i]? with
  | none => rw [e1] at h; cases h
  | some x =>
    cases e2 : ys[i]? with
    | none => rw [e1, e2] at h; cases h
    | some y =>
      rw [e1, e2] at h
      exact ⟨x, y, rfl, rfl, (Option.some.inj h).symm⟩
theorem zipD_len {xs ys : List D} : (zipD xs ys).length = min xs.length ys.length := by simp [zipD]
theorem itok_zip {a b : Addr} {xs ys : List V} {ds es : List D} (h : F a = some (.lst xs)) (r : Rps K F xs ds) (h' : F b = some (.lst ys)) (r' : Rps K F ys es) : ItOk K (Itz K a b) F (zipD ds es) := fun F2 M2 H2 S e i => by
  have hA : SqL K H2 a xs := SqL.of (S.sub _ _ (e _ _ h))
  have hB : SqL K H2 b ys := SqL.of (S.sub _ _ (e _ _ h'))
  refine ⟨fun d hd => ?_, fun hl => ⟨xs, ys, hA, hB, by rw [r.length, r'.length]; rw [zipD_len] at hl; omega⟩⟩
  obtain ⟨x, y, hx, hy, rfl⟩ := zipD_get hd
  obtain ⟨v, hv, rv⟩ := r.get hx
  obtain ⟨w, hw, rw'⟩ := r'.get hy
  refine ⟨⟨xs, ys, v, w, hA, hB, hv, hw⟩, fun z H' yy => ?_⟩
  obtain ⟨T, x1, y1, rfl, hT, rfl, f1, f2⟩ := yy
  have e1 := f1 xs hA
  have e2 := f2 ys hB
  rw [hv] at e1; rw [hw] at e2
  cases e1; cases e2
  obtain ⟨S', st⟩ := S.newF hT (.tup [v, w])
  exact ⟨_, st, S', .tup (SqT.of upd_same) (.cons (Rp.mono (e.trans st.ext) _ _ rv) (.cons (Rp.mono (e.trans st.ext) _ _ rw') .nil))⟩
theorem itok_zipT {a b : Addr} {xs ys : List V} {ds es : List D} (h : SqT K F a xs) (r : Rps K F xs ds) (h' : SqT K F b ys) (r' : Rps K F ys es) : ItOk K (RZ.ItzT K a b) F (zipD ds es) := fun F2 M2 H2 S e i => by
  have hA : SqT K H2 a xs := seqT_mono S.sub (seqT_mono e h)
  have hB : SqT K H2 b ys := seqT_mono S.sub (seqT_mono e h')
  refine ⟨fun d hd => ?_, fun hl => ⟨xs, ys, hA, hB, by rw [r.length, r'.length]; rw [zipD_len] at hl; omega⟩⟩
  obtain ⟨x, y, hx, hy, rfl⟩ := zipD_get hd
  obtain ⟨v, hv, rv⟩ := r.get hx
  obtain ⟨w, hw, rw'⟩ := r'.get hy
  refine ⟨⟨xs, ys, v, w, hA, hB, hv, hw⟩, fun z H' yy => ?_⟩
  obtain ⟨T, x1, y1, rfl, hT, rfl, f1, f2⟩ := yy
  have e1 := f1 xs hA
  have e2 := f2 ys hB
  rw [hv] at e1; rw [hw] at e2
  cases e1; cases e2
  obtain ⟨S', st⟩ := S.newF hT (.tup [v, w])
  exact ⟨_, st, S', .tup (SqT.of upd_same) (.cons (Rp.mono (e.trans st.ext) _ _ rv) (.cons (Rp.mono (e.trans st.ext) _ _ rw') .nil))⟩

/-- a list or a tuple -/
def iSeq (K : PySem.W.Frag) (tl : TE) : TI := fun σ H R => tl σ H fun x H1 => ∃ a, x = .ref a ∧ (((∃ xs, SqL K H1 a xs) ∧ R (Itl K a) H1) ∨ ((∃ xs, SqT K H1 a xs) ∧ R (Itt K a) H1))
theorem pi_seq {X : Cx} {tg : Expr} {l : Expr} {tl : TE} (hl : PE X l tl) : PI X tg l (iSeq X.K tl) := by
  refine ⟨fun pins s σ H R I h => ?_⟩
  refine thn (hl.run pins s σ H _ I h) fun v s1 ⟨x, H1, I1, r1, q1⟩ => ?_
  obtain ⟨a, e, q⟩ := q1
  subst e
  cases r1
  rcases q with ⟨⟨xs, hq⟩, q⟩ | ⟨⟨xs, hq⟩, q⟩
  · obtain ⟨its, rv, p, hz⟩ := I1.list hq
    refine wpAny_pyIter_list p.isList ?_
    refine ⟨s1.heap.objs.size, [s1.heap.objs.size], _, _, H1, rfl, I1.kept (t' := s1.toks) fun b o e => Heap.get?_push_of_some _ e, turn_list a _, ⟨_, Heap.get?_push_size _ rfl, rfl, rfl⟩, fun b hb => ?_, q⟩
    have e : b = s1.heap.objs.size := by simpa using hb
    subst e
    exact I1.fpOk (Nat.le_refl _) (I1.hok.fresh (Nat.le_refl _))
  · obtain ⟨its, rv, p, hz⟩ := I1.tuple hq
    refine wpAny_pyIter_tuple (show s1.heap.IsTuple a its.toArray from p) ?_
    refine ⟨s1.heap.objs.size, [s1.heap.objs.size], _, _, H1, rfl, I1.kept (t' := s1.toks) fun b o e => Heap.get?_push_of_some _ e, turn_tuple a _, ⟨_, Heap.get?_push_size _ rfl, rfl, rfl⟩, fun b hb => ?_, q⟩
    have e : b = s1.heap.objs.size := by simpa using hb
    subst e
    exact I1.fpOk (Nat.le_refl _) (I1.hok.fresh (Nat.le_refl _))
theorem it_seq (h : EvD K te Γ M fun d M1 => ∃ ds, (d = .lst ds ∨ d = .tup ds) ∧ qi ds M1) : ItD K (iSeq K te) Γ M qi := fun σ F H S En R A =>
  h σ F H S En _ fun v d F1 M1 H1 s1 S1 r1 h1 => by
    obtain ⟨ds, hd, z⟩ := h1
    rcases hd with rfl | rfl
    · cases r1 with
      | lst h1 h2 => exact ⟨_, rfl, .inl ⟨⟨_, SqL.of (S1.sub _ _ h1)⟩, A _ ds _ _ _ s1 S1 (itok_list h1 h2) z⟩⟩
    · cases r1 with
      | tup h1 h2 => exact ⟨_, rfl, .inr ⟨⟨_, seqT_mono S1.sub h1⟩, A _ ds _ _ _ s1 S1 (itok_tup h1 h2) z⟩⟩
theorem it_rng1 {ta : TA} (h : EvA K ta Γ M fun ds M1 => ∃ j : Int, ds = [.int j] ∧ -(2 ^ 62) ≤ j ∧ j < 2 ^ 62 ∧ qi (rngD 0 1 j.toNat) M1) : ItD K (iRng1 ta) Γ M qi := fun σ F H S En R A =>
  h σ F H S En _ fun vs ds F1 M1 H1 s1 S1 r1 h1 => by
    obtain ⟨j, rfl, b1, b2, z⟩ := h1
    obtain ⟨v, rfl, r⟩ := r1.one
    cases r
    exact ⟨j, rfl, b1, b2, A _ _ _ _ _ s1 S1 itok_rng z⟩
theorem it_rng3 {ta : TA} (h : EvA K ta Γ M fun ds M1 => ∃ (i j c : Int) (n : Nat), ds = [.int i, .int j, .int c] ∧ RgC i j c n ∧ qi (rngD i c n) M1) : ItD K (iRng3 ta) Γ M qi := fun σ F H S En R A =>
  h σ F H S En _ fun vs ds F1 M1 H1 s1 S1 r1 h1 => by
    obtain ⟨i, j, c, n, rfl, hr, z⟩ := h1
    cases r1 with
    | cons ri r1 =>
      obtain ⟨v, w, rfl, rj, rc⟩ := r1.two
      cases ri; cases rj; cases rc
      exact ⟨i, j, c, n, rfl, hr, A _ _ _ _ _ s1 S1 itok_rngC z⟩
theorem it_zip {ta : TA} (h : EvA K ta Γ M fun ds M1 => ∃ xs ys, (ds = [.lst xs, .lst ys] ∨ ds = [.tup xs, .tup ys]) ∧ qi (zipD xs ys) M1) : ItD K (RZ.iZipA K ta) Γ M qi := fun σ F H S En R A =>
  h σ F H S En _ fun vs ds F1 M1 H1 s1 S1 r1 h1 => by
    obtain ⟨xs, ys, hd, z⟩ := h1
    rcases hd with rfl | rfl
    · obtain ⟨v, w, rfl, ra, rb⟩ := r1.two
      cases ra with
      | lst a1 a2 =>
        cases rb with
        | lst b1 b2 => exact ⟨_, _, _, _, rfl, .inl ⟨SqL.of (S1.sub _ _ a1), SqL.of (S1.sub _ _ b1), A _ _ _ _ _ s1 S1 (itok_zip a1 a2 b1 b2) z⟩⟩
    · obtain ⟨v, w, rfl, ra, rb⟩ := r1.two
      cases ra with
      | tup a1 a2 =>
        cases rb with
        | tup b1 b2 => exact ⟨_, _, _, _, rfl, .inr ⟨seqT_mono S1.sub a1, seqT_mono S1.sub b1, A _ _ _ _ _ s1 S1 (itok_zipT a1 a2 b1 b2) z⟩⟩

/-! ### for -/
theorem sd_for (P : List D → Nat → Gm → Mem → Prop) (h : ItD K wi Γ M fun ds M1 => P ds 0 Γ M1 ∧ (∀ i d Γ' M', ds[i]? = some d → P ds i Γ' M' → GtD K g d Γ' M' fun Γ2 M2 => StD K W t Γ2 M2 { DD with nx := P ds (i + 1), ct := P ds (i + 1), bk := DD.nx }) ∧
    ∀ Γ' M', P ds ds.length Γ' M' → DD.nx Γ' M') : StD K W (tFor wi g t) Γ M DD := fun σ F H S En E R => by
  refine h σ F H S En _ fun J ds F1 M1 H1 s1 S1 ok h1 => ?_
  obtain ⟨h0, hs, hd⟩ := h1
  refine ⟨fun i m σ' H' => m = ds.length - i ∧ i ≤ ds.length ∧ ∃ Γ' F' M', Step F1 M1 H1 F' M' H' ∧ Sat K F' M' H' ∧ EnvOk K F' σ' Γ' ∧ P ds i Γ' M', ⟨_, rfl, Nat.zero_le _, Γ, F1, M1, Step.refl _ _ _, S1, En.mono s1.ext, h0⟩, ?_⟩
  rintro i m σ' H' ⟨rfl, hi, Γ', F', M', st, S', E', p⟩
  obtain ⟨o1, o2⟩ := ok F' M' H' S' st.ext i
  by_cases hlt : i < ds.length
  · refine .inr ?_
    obtain ⟨go, yl⟩ := o1 ds[i] (List.getElem?_eq_getElem hlt)
    refine ⟨go, fun σ2 H2 => ∃ Γ2 F2 M2, Step F1 M1 H1 F2 M2 H2 ∧ Sat K F2 M2 H2 ∧ EnvOk K F2 σ2 Γ2 ∧ P ds (i + 1) Γ2 M2, fun σ2 H2 z => ⟨ds.length - (i + 1), by omega, rfl, hlt, z⟩, fun x H2 y => ?_⟩
    obtain ⟨F2, s2, S2, rx⟩ := yl x H2 y
    refine hs i _ Γ' M' (List.getElem?_eq_getElem hlt) p σ' F2 H2 x S2 (E'.mono s2.ext) rx _ fun σ3 Γ3 F3 M3 H3 s3 S3 E3 z => ?_
    refine z σ3 F3 H3 S3 E3 _ ?_
    have sA : Step F1 M1 H1 F3 M3 H3 := (st.trans s2).trans s3
    have RR := R.step (s1.trans sA)
    exact ⟨fun σ4 Γ4 F4 M4 H4 s4 S4 E4 p4 => ⟨Γ4, F4, M4, sA.trans s4, S4, E4, p4⟩, RR.rt, RR.nx, fun σ4 Γ4 F4 M4 H4 s4 S4 E4 p4 => ⟨Γ4, F4, M4, sA.trans s4, S4, E4, p4⟩, RR.ex⟩
  · have e : i = ds.length := by omega
    subst e
    exact .inl ⟨o2 (Nat.le_refl _), (R.step (s1.trans st)).nx.here S' E' (hd _ _ p)⟩
/-! ### while -/
theorem sd_while (P : Nat → Gm → Mem → Prop) (m0 : Nat) (h0 : P m0 Γ M) (hs : ∀ m Γ' M', P m Γ' M' → TtD K tc Γ' M' fun b M1 => if b = true then StD K W t Γ' M1 { DD with nx := fun Γ2 M2 => ∃ m', m' < m ∧ P m' Γ2 M2, ct := fun Γ2 M2 => ∃ m', m' < m ∧ P m' Γ2 M2, bk := DD.nx } else DD.nx Γ' M1) :
    StD K W (tWhile tc t) Γ M DD := fun σ F H S En E R => by
  refine ⟨fun m σ' H' => ∃ Γ' F' M', Step F M H F' M' H' ∧ Sat K F' M' H' ∧ EnvOk K F' σ' Γ' ∧ P m Γ' M', ⟨m0, Γ, F, M, Step.refl _ _ _, S, En, h0⟩, ?_⟩
  rintro m σ' H' ⟨Γ', F', M', st, S', E', p⟩
  refine hs m Γ' M' p σ' F' H' S' E' _ fun b F1 M1 H1 s1 S1 h1 => ?_
  cases b with
  | true =>
    refine ⟨fun σ2 H2 => ∃ m', m' < m ∧ ∃ Γ2 F2 M2, Step F M H F2 M2 H2 ∧ Sat K F2 M2 H2 ∧ EnvOk K F2 σ2 Γ2 ∧ P m' Γ2 M2, fun σ2 H2 z => z, ?_⟩
    refine h1 σ' F1 H1 S1 (E'.mono s1.ext) _ ?_
    have sA := st.trans s1
    have RR := R.step sA
    exact ⟨fun σ4 Γ4 F4 M4 H4 s4 S4 E4 ⟨m', hm, p4⟩ => ⟨m', hm, Γ4, F4, M4, sA.trans s4, S4, E4, p4⟩, RR.rt, RR.nx, fun σ4 Γ4 F4 M4 H4 s4 S4 E4 ⟨m', hm, p4⟩ => ⟨m', hm, Γ4, F4, M4, sA.trans s4, S4, E4, p4⟩, RR.ex⟩
  | false => exact (R.step (st.trans s1)).nx.here S1 (E'.mono s1.ext) h1

/-! ### comprehensions -/
def wipeD (Γ : Gm) : List Nat → Gm
  | [] => Γ
  | v :: vs => (wipeD Γ vs).set v none
theorem wipeD_length (Γ : Gm) : ∀ vs : List Nat, (wipeD Γ vs).length = Γ.length
  | [] => rfl
  | v :: vs => by unfold wipeD; rw [List.length_set, wipeD_length Γ vs]
theorem EnvOk.unset {σ : L2.St} (h : EnvOk K F σ Γ) (i : Nat) : EnvOk K F (σ.set i none) (Γ.set i none) := by
  refine ⟨by rw [List.length_set, List.length_set]; exact h.1, fun j e q => ?_⟩
  by_cases hij : i = j
  · subst hij
    by_cases hl : i < Γ.length
    · rw [List.getElem?_set_self hl] at q; cases q
    · rw [List.getElem?_eq_none (by rw [List.length_set]; omega)] at q; cases q
  · rw [List.getElem?_set_ne hij] at q
    rw [List.getElem?_set_ne hij]
    exact h.2 j e q
theorem EnvOk.wiped {σ : L2.St} (h : EnvOk K F σ Γ) : ∀ vs : List Nat, EnvOk K F (wipe σ vs) (wipeD Γ vs)
  | [] => h
  | v :: vs => (EnvOk.wiped h vs).unset v
/-- the target stores the block's own names alone -/
def Own (g : TG) (vs : List Nat) : Prop := ∀ (v : V) (σ : L2.St) (H : Hp) (Q : L2.St → Hp → Prop), g v (wipe σ vs) H Q → g v (wipe σ vs) H fun σ2 H2 => wipe σ2 vs = wipe σ vs ∧ Q σ2 H2
theorem wipe_wipe (σ : L2.St) (vs : List Nat) : wipe (wipe σ vs) vs = wipe σ vs := by
  have key : ∀ (ws : List Nat) (τ : L2.St), (∀ i, i ∈ ws → i < τ.length → τ[i]? = some none) → wipe τ ws = τ := by
    intro ws
    induction ws with
    | nil => intro τ _; rfl
    | cons v r ih =>
      intro τ h
      unfold wipe
      rw [ih τ fun i hi hl => h i (List.mem_cons_of_mem _ hi) hl]
      apply List.ext_getElem?
      intro m
      by_cases hm : v = m
      · subst hm
        by_cases hl : v < τ.length
        · rw [List.getElem?_set_self hl, h v List.mem_cons_self hl]
        · rw [List.getElem?_eq_none (by rw [List.length_set]; omega), List.getElem?_eq_none (by omega)]
      · rw [List.getElem?_set_ne hm]
  refine key vs _ fun i hi hl => ?_
  cases e : (wipe σ vs)[i]? with
  | none => rw [List.getElem?_eq_none_iff] at e; omega
  | some o =>
    cases o with
    | none => rfl
    | some x => exact absurd hi (wipe_some e).2
theorem wipe_set {σ : L2.St} {i : Nat} {x : Option V} : ∀ {vs : List Nat}, i ∈ vs → wipe (σ.set i x) vs = wipe σ vs
  | [], h => by simp at h
  | v :: vs, h => by
    unfold wipe
    by_cases hv : i ∈ vs
    · rw [wipe_set hv]
    · have e : v = i := by
        rcases List.mem_cons.mp h with z | z
        · exact z.symm
        · exact absurd z hv
      subst e
      have q : ∀ (ws : List Nat) (τ : L2.St), v ∉ ws → wipe (τ.set v x) ws = (wipe τ ws).set v x := by
        intro ws
        induction ws with
        | nil => intro τ _; rfl
        | cons y r ih =>
          intro τ hn
          unfold wipe
          rw [ih τ fun z => hn (List.mem_cons_of_mem _ z), List.set_comm _ _ (fun z => hn (by rw [z]; exact List.mem_cons_self))]
      rw [q vs σ hv, List.set_set]
theorem own_name {i : Nat} {vs : List Nat} (h : i ∈ vs) : Own (gName i) vs := fun v σ H Q q => ⟨by rw [wipe_set h, wipe_wipe], q⟩
theorem own_two {i j n : Nat} {vs : List Nat} (hi : i ∈ vs) (hj : j ∈ vs) : Own (gTup K n (gCons (gName i) (gCons (gName j) gNil))) vs := fun v σ H Q q => by
  obtain ⟨a, xs, e, h1, h2, v1, r1, e1, v2, r2, e2, e3, q⟩ := q
  exact ⟨a, xs, e, h1, h2, v1, r1, e1, v2, r2, e2, e3, by rw [wipe_set hj, wipe_set hi, wipe_wipe], q⟩
theorem ev_lc {vs : List Nat} {q : D → Mem → Prop} (P : List D → Nat → List D → Mem → Prop) (ho : Own g vs)
    (h : ItD K wi Γ M fun ds M1 => ds.length < sizeLine ∧ P ds 0 [] M1 ∧ (∀ i d acc M', ds[i]? = some d → P ds i acc M' → GtD K g d (wipeD Γ vs) M' fun Γ2 M2 => TtD K tt Γ2 M2 fun b M3 => if b = true then EvD K te Γ2 M3 fun y M4 => P ds (i + 1) (acc ++ [y]) M4 else P ds (i + 1) acc M3) ∧
      ∀ acc M', P ds ds.length acc M' → q (.lst acc) M') : EvD K (tLc wi g tt te vs) Γ M q := fun σ F H S En Q A => by
  refine h σ F H S En _ fun J ds F1 M1 H1 s1 S1 ok h1 => ?_
  obtain ⟨hsz, h0, hs, hd⟩ := h1
  intro Dl hD
  obtain ⟨S0, s0⟩ := S1.newC hD (o := .lst []) (d := .lst []) ⟨[], upd_same, .nil⟩
  -- what holds between the turns
  let Inv1 : Nat → Hp → Prop := fun i H' => ∃ F' M' acc, Step F1 M1 H1 F' ((Dl, .lst acc) :: M') H' ∧ Sat K F' ((Dl, .lst acc) :: M') H' ∧ acc.length ≤ i ∧ P ds i acc M'
  refine ⟨fun i m H' => m = ds.length - i ∧ i ≤ ds.length ∧ Inv1 i H', ⟨_, rfl, Nat.zero_le _, F1, M1, [], s0, S0, Nat.le_refl _, h0⟩, ?_⟩
  rintro i m H' ⟨rfl, hi, F', M', acc, st, S', hl, p⟩
  -- the tail's state
  have tail : ∀ {F2 : Hp} {M2 : Mem} {H2 : Hp} {ac : List D}, Sat K F2 ((Dl, .lst ac) :: M2) H2 → Sat K F2 M2 H2 := fun {F2 M2 H2 ac} S2 => ⟨S2.sub, (List.nodup_cons.mp S2.nd).2, fun j a d hj => S2.cell (j + 1) a d hj⟩
  have lift : ∀ {F2 F3 : Hp} {M2 M3 : Mem} {H2 H3 : Hp} {ac : List D}, Sat K F2 ((Dl, .lst ac) :: M2) H2 → Step F2 M2 H2 F3 M3 H3 → Sat K F3 M3 H3 → Step F2 ((Dl, .lst ac) :: M2) H2 F3 ((Dl, .lst ac) :: M3) H3 ∧ Sat K F3 ((Dl, .lst ac) :: M3) H3 := fun {F2 F3 M2 M3 H2 H3 ac} S2 st2 S3 => by
    obtain ⟨f0, c0⟩ := S2.cell 0 Dl (.lst ac) rfl
    obtain ⟨o, eo⟩ := cell_some c0
    have nd : Dl ∉ dom M2 := (List.nodup_cons.mp S2.nd).1
    obtain ⟨k1, k2, k3⟩ := st2.keep Dl o eo nd
    refine ⟨⟨st2.ext, fun b ob hb hn => ?_⟩, ⟨S3.sub, List.nodup_cons.mpr ⟨k2, S3.nd⟩, fun j a d hj => ?_⟩⟩
    · have nb : b ∉ dom M2 := fun z => hn (List.mem_cons_of_mem _ z)
      obtain ⟨l1, l2, l3⟩ := st2.keep b ob hb nb
      refine ⟨l1, fun z => ?_, l3⟩
      rcases List.mem_cons.mp z with z | z
      · exact hn (by rw [z]; exact List.mem_cons_self)
      · exact l2 z
    · cases j with
      | zero =>
        have hj : some (Dl, D.lst ac) = some (a, d) := hj
        cases hj
        exact ⟨k3 f0, cell_mono st2.ext (fun o' z => by rw [eo] at z; cases z; exact k1) c0⟩
      | succ j => exact S3.cell j a d hj
  by_cases hlt : i < ds.length
  · refine .inr ?_
    have T' := tail S'
    obtain ⟨o1, o2⟩ := ok F' M' H' T' st.ext i
    obtain ⟨go, yl⟩ := o1 ds[i] (List.getElem?_eq_getElem hlt)
    refine ⟨go, Inv1 (i + 1), fun H2 z => ⟨ds.length - (i + 1), by omega, rfl, hlt, z⟩, fun x H2 y => ?_⟩
    obtain ⟨F2, s2, S2, rx⟩ := yl x H2 y
    obtain ⟨l2, L2'⟩ := lift S' s2 S2
    refine ho x σ H2 _ ?_
    have E2 : EnvOk K F2 (wipe σ vs) (wipeD Γ vs) := ((En.mono s1.ext).mono ((st.ext).trans s2.ext)).wiped vs
    refine hs i _ acc M' (List.getElem?_eq_getElem hlt) p (wipe σ vs) F2 H2 x S2 E2 rx _ fun σ3 Γ3 F3 M3 H3 s3 S3 E3 z3 => ?_
    obtain ⟨l3, L3'⟩ := lift L2' s3 S3
    refine z3 σ3 F3 H3 S3 E3 _ fun b F4 M4 H4 s4 S4 z4 => ?_
    obtain ⟨l4, L4'⟩ := lift L3' s4 S4
    cases b with
    | true =>
      refine z4 σ3 F4 H4 S4 (E3.mono s4.ext) _ fun w y F5 M5 H5 s5 S5 r5 z5 => ?_
      obtain ⟨l5, L5'⟩ := lift L4' s5 S5
      obtain ⟨vs5, e5, r6⟩ := (L5'.cell 0 Dl (.lst acc) rfl).2
      have hz : vs5.length < sizeLine := by rw [r6.length]; omega
      refine ⟨vs5, e5, hz, ?_⟩
      obtain ⟨S6, s6⟩ := L5'.setC (j := 0) (p := Dl) (d0 := .lst acc) rfl (o := .lst (vs5 ++ [w])) (d := .lst (acc ++ [y])) ⟨_, upd_same, r6.app (.cons r5 .nil)⟩
      exact ⟨F5, M5, acc ++ [y], ((((st.trans l2).trans l3).trans l4).trans l5).trans s6, S6, by rw [List.length_append]; show acc.length + 1 ≤ i + 1; omega, z5⟩
    | false => exact ⟨F4, M4, acc, ((st.trans l2).trans l3).trans l4, L4', Nat.le_succ_of_le hl, z4⟩
  · have e : i = ds.length := by omega
    subst e
    refine .inl ⟨(ok F' M' H' (tail S') st.ext _).2 (Nat.le_refl _), ?_⟩
    obtain ⟨F3, S3, s3, r3⟩ := S'.freeze (j := 0) (p := Dl) (d := .lst acc) rfl
    exact A _ _ _ _ _ ((s1.trans st).trans s3) S3 r3 (hd acc M' p)
end
end DL
set_option autoImplicit true
namespace DL
open PySem PySem.Spec PyProof.Rows L2

/-! ### data that == looks into -/
def toPy : Nat → D → PyData
  | _, .non => .none
  | _, .bl b => .bool b
  | _, .int i => .int i
  | _, .str x => .str x
  | n + 1, .lst xs => .list (xs.map (toPy n))
  | n + 1, .tup xs => .tuple (xs.map (toPy n))
  | _, _ => .none
def okPy : Nat → D → Bool
  | _, .non => true
  | _, .bl _ => true
  | _, .int _ => true
  | _, .str x => PyData.strOk x
  | n + 1, .lst xs => xs.all (okPy n)
  | n + 1, .tup xs => xs.all (okPy n)
  | _, _ => false
theorem canAll {f : D → PyData} : ∀ {xs : List D}, (∀ d ∈ xs, (f d).canLay0 = true) → PyData.canLayAll0 (xs.map f) = true
  | [], _ => rfl
  | x :: r, h => by
    show ((f x).canLay0 && PyData.canLayAll0 (r.map f)) = true
    rw [h x List.mem_cons_self, canAll fun d hd => h d (List.mem_cons_of_mem _ hd)] <;> rfl
theorem depAll {f : D → PyData} {n : Nat} : ∀ {xs : List D}, (∀ d ∈ xs, (f d).depth ≤ n) → PyData.depthAll (xs.map f) ≤ n
  | [], _ => Nat.zero_le _
  | x :: r, h => by
    show max (f x).depth (PyData.depthAll (r.map f)) ≤ n
    have h1 := h x List.mem_cons_self
    have h2 := depAll fun d hd => h d (List.mem_cons_of_mem x hd)
    omega
theorem okPy_lay : ∀ (n : Nat) (d : D), okPy n d = true → (toPy n d).canLay0 = true ∧ (toPy n d).depth ≤ n
  | 0, d, h => by
    cases d with
    | non => exact ⟨rfl, Nat.le_refl _⟩
    | bl b => exact ⟨rfl, Nat.le_refl _⟩
    | int b => exact ⟨rfl, Nat.le_refl _⟩
    | str x => exact ⟨h, Nat.le_refl _⟩
    | _ => cases h
  | n + 1, d, h => by
    cases d with
    | lst xs =>
      have h1 : xs.all (okPy n) = true := h
      have h2 := List.all_eq_true.mp h1
      refine ⟨canAll fun d hd => (okPy_lay n d (h2 d hd)).1, ?_⟩
      show PyData.depthAll (xs.map (toPy n)) + 1 ≤ n + 1
      have := depAll (f := toPy n) fun d hd => (okPy_lay n d (h2 d hd)).2
      omega
    | tup xs =>
      have h1 : xs.all (okPy n) = true := h
      have h2 := List.all_eq_true.mp h1
      refine ⟨canAll fun d hd => (okPy_lay n d (h2 d hd)).1, ?_⟩
      show PyData.depthAll (xs.map (toPy n)) + 1 ≤ n + 1
      have := depAll (f := toPy n) fun d hd => (okPy_lay n d (h2 d hd)).2
      omega
    | non => exact ⟨rfl, Nat.zero_le _⟩
    | bl b => exact ⟨rfl, Nat.zero_le _⟩
    | int b => exact ⟨rfl, Nat.zero_le _⟩
    | str x => exact ⟨h, Nat.zero_le _⟩
    | _ => cases h
theorem okPy_shaped {n : Nat} {d : D} (hn : n ≤ 64) (h : okPy n d = true) : SeqAt.shaped (toPy n d) = true := by
  obtain ⟨h1, h2⟩ := okPy_lay n d h
  unfold SeqAt.shaped
  rw [h1, Bool.true_and]
  exact decide_eq_true (by omega)
section
variable {K : PySem.W.Frag} {F H : Hp}
theorem dpAll {f : D → PyData} (hs : ∀ d v, Rp K F v d → okPy n d = true → Dp K H v (f d)) : ∀ {ds : List D} {vs : List V}, Rps K F vs ds → (∀ d ∈ ds, okPy n d = true) → DpAll K H vs (ds.map f)
  | _, _, .nil, _ => .nil
  | _, _, .cons r t, h => .cons (hs _ _ r (h _ List.mem_cons_self)) (dpAll hs t fun d hd => h d (List.mem_cons_of_mem _ hd))
theorem rp_dp (S : Same F H) : ∀ (n : Nat) (d : D) (v : V), Rp K F v d → okPy n d = true → Dp K H v (toPy n d)
  | 0, d, v, r, h => by
    cases r with
    | non => exact .non
    | bl b => exact .bl b
    | int i => exact .int i
    | str x => exact .str x
    | _ => cases h
  | n + 1, d, v, r, h => by
    cases r with
    | lst h1 h2 => exact .lst (SqL.of (S _ _ h1)) (dpAll (fun d v r h => rp_dp S n d v r h) h2 (List.all_eq_true.mp h))
    | tup h1 h2 => exact .tup (seqT_mono S h1) (dpAll (fun d v r h => rp_dp S n d v r h) h2 (List.all_eq_true.mp h))
    | non => exact .non
    | bl b => exact .bl b
    | int i => exact .int i
    | str x => exact .str x
    | _ => cases h
end
/-- == told by a function that tells the data apart -/
theorem eqvAll_map {α : Type} [DecidableEq α] {f : α → D} {n : Nat} (hf : ∀ a b, PyData.eqv (toPy n (f a)) (toPy n (f b)) = decide (a = b)) :
    ∀ xs ys : List α, PyData.eqvAll ((xs.map f).map (toPy n)) ((ys.map f).map (toPy n)) = decide (xs = ys)
  | [], [] => rfl
  | [], _ :: _ => rfl
  | _ :: _, [] => rfl
  | x :: xs, y :: ys => by
    show (PyData.eqv (toPy n (f x)) (toPy n (f y)) && PyData.eqvAll ((xs.map f).map (toPy n)) ((ys.map f).map (toPy n))) = decide (x :: xs = y :: ys)
    rw [hf, eqvAll_map hf xs ys]
    by_cases h1 : x = y
    · by_cases h2 : xs = ys
      · simp [h1, h2]
      · simp [h1, h2]
    · simp [h1]
theorem eqv_lst {α : Type} [DecidableEq α] {f : α → D} {n : Nat} (hf : ∀ a b, PyData.eqv (toPy n (f a)) (toPy n (f b)) = decide (a = b)) (xs ys : List α) : PyData.eqv (toPy (n + 1) (.lst (xs.map f))) (toPy (n + 1) (.lst (ys.map f))) = decide (xs = ys) := by
  show PyData.eqvAll ((xs.map f).map (toPy n)) ((ys.map f).map (toPy n)) = _
  exact eqvAll_map hf xs ys
theorem eqv_tup {α : Type} [DecidableEq α] {f : α → D} {n : Nat} (hf : ∀ a b, PyData.eqv (toPy n (f a)) (toPy n (f b)) = decide (a = b)) (xs ys : List α) : PyData.eqv (toPy (n + 1) (.tup (xs.map f))) (toPy (n + 1) (.tup (ys.map f))) = decide (xs = ys) := by
  show PyData.eqvAll ((xs.map f).map (toPy n)) ((ys.map f).map (toPy n)) = _
  exact eqvAll_map hf xs ys
theorem eqv_int (n : Nat) (a b : Int) : PyData.eqv (toPy n (.int a)) (toPy n (.int b)) = decide (a = b) := by
  cases n <;> (show (a == b) = decide (a = b); rw [Bool.beq_eq_decide_eq])
theorem eqv_str (n : Nat) (a b : Str) : PyData.eqv (toPy n (.str a)) (toPy n (.str b)) = decide (a = b) := by
  have e : ∀ a b : Str, (a == b) = decide (a = b) := fun a b => by
    rw [Bool.eq_iff_iff]; simp
  cases n <;> (show (a == b) = decide (a = b); exact e a b)
/-! the shapes of this text -/
abbrev bys (ns : List Int) : D := .lst (ns.map D.int)
abbrev strsT (xs : List Str) : D := .tup (xs.map D.str)
abbrev strsL (xs : List Str) : D := .lst (xs.map D.str)
theorem ok_bys (n : Nat) (ns : List Int) : okPy (n + 1) (bys ns) = true := by
  show (ns.map D.int).all (okPy n) = true
  rw [List.all_map]
  exact List.all_eq_true.mpr fun a _ => by cases n <;> rfl
theorem ok_strs {n : Nat} {xs : List Str} (h : ∀ x ∈ xs, PyData.strOk x = true) : (xs.map D.str).all (okPy n) = true := by
  rw [List.all_map]
  exact List.all_eq_true.mpr fun a ha => by cases n <;> exact h a ha
theorem eqv_bys (n : Nat) (a b : List Int) : PyData.eqv (toPy (n + 1) (bys a)) (toPy (n + 1) (bys b)) = decide (a = b) := eqv_lst (eqv_int n) a b
theorem eqv_strsT (n : Nat) (a b : List Str) : PyData.eqv (toPy (n + 1) (strsT a)) (toPy (n + 1) (strsT b)) = decide (a = b) := eqv_tup (eqv_str n) a b
theorem eqv_strsL (n : Nat) (a b : List Str) : PyData.eqv (toPy (n + 1) (strsL a)) (toPy (n + 1) (strsL b)) = decide (a = b) := eqv_lst (eqv_str n) a b

/-! ### operators of all kinds -/
section
variable {X : Cx}
def rAddS : R2 := fun x y H Q => ∃ i j, x = .str i ∧ y = .str j ∧ i.length + j.length ≤ sizeLine ∧ Q (.str (i ++ j)) H
def rAddU (K : PySem.W.Frag) : R2 := fun x y H Q => rI0 (fun i j => .int (i + j)) x y H Q ∨ rAddS x y H Q ∨ rCat x y H Q ∨ rCatA K x y H Q
theorem opAddU : OpR X (binaryOp .Add) (rAddU X.K) := op_add.or (OpR.or (r := rAddS) op_add_str (op_cat.or op_catA))
def rMulU : R2 := fun x y H Q => rI CMulW (fun i j => .int (i * j)) x y H Q ∨ rRep x y H Q
theorem opMulU : OpR X (binaryOp .Mult) rMulU := op_mulW.or op_rep
def rEqU (K : PySem.W.Frag) : R2 := fun x y H Q => rEq x y H Q ∨ rEqD K x y H Q
def rNeU (K : PySem.W.Frag) : R2 := fun x y H Q => rNe x y H Q ∨ rNeD K x y H Q
theorem opEqU (hu : X.A.units + 64 < cLine) : OpR X (compareOp .Eq) (rEqU X.K) := op_eq.or (op_eqD hu)
theorem opNeU (hu : X.A.units + 64 < cLine) : OpR X (compareOp .NotEq) (rNeU X.K) := op_ne.or (op_neD hu)
def rInDT (K : PySem.W.Frag) : R2 := fun x y H Q => ∃ d ds, Dp K H x d ∧ Dp K H y (.tuple ds) ∧ SeqAt.shaped d = true ∧ SeqAt.shaped (.tuple ds) = true ∧ Q (.bl (ds.any fun z => PyData.eqv z d)) H
def rNotInDT (K : PySem.W.Frag) : R2 := fun x y H Q => ∃ d ds, Dp K H x d ∧ Dp K H y (.tuple ds) ∧ SeqAt.shaped d = true ∧ SeqAt.shaped (.tuple ds) = true ∧ Q (.bl (!ds.any fun z => PyData.eqv z d)) H
theorem op_inDT (hu : X.A.units + 65 < cLine) : OpR X (compareOp .In) (rInDT X.K) := by
  intro pins s σ H x y v u Q I rx ry h
  obtain ⟨d, ds, hd, he, sd, se, q⟩ := h
  obtain ⟨as, r1⟩ := Dp.reads I d x v hd rx
  obtain ⟨bs, r2⟩ := Dp.reads I (.tuple ds) y u he ry
  exact SeqAt.in_tuple_reads r2 r1 (SeqAt.canLay_of_shaped se) (SeqAt.canLay_of_shaped sd) (room_in_shaped sd hu) ⟨.bl _, H, I, rfl, q⟩
theorem op_notInDT (hu : X.A.units + 65 < cLine) : OpR X (compareOp .NotIn) (rNotInDT X.K) := by
  intro pins s σ H x y v u Q I rx ry h
  obtain ⟨d, ds, hd, he, sd, se, q⟩ := h
  obtain ⟨as, r1⟩ := Dp.reads I d x v hd rx
  obtain ⟨bs, r2⟩ := Dp.reads I (.tuple ds) y u he ry
  exact SeqAt.notIn_tuple_reads r2 r1 (SeqAt.canLay_of_shaped se) (SeqAt.canLay_of_shaped sd) (room_in_shaped sd hu) ⟨.bl _, H, I, rfl, q⟩
def rInU (K : PySem.W.Frag) : R2 := fun x y H Q => rInD K x y H Q ∨ rInDT K x y H Q
def rNotInU (K : PySem.W.Frag) : R2 := fun x y H Q => rNotInD K x y H Q ∨ rNotInDT K x y H Q
theorem opInU (hu : X.A.units + 65 < cLine) : OpR X (compareOp .In) (rInU X.K) := (op_inD hu).or (op_inDT hu)
theorem opNotInU (hu : X.A.units + 65 < cLine) : OpR X (compareOp .NotIn) (rNotInU X.K) := (op_notInD hu).or (op_notInDT hu)
def rIsU : R2 := fun x y H Q => (y = .non ∧ Q (.bl (decide (x = .non))) H) ∨ rIsB x y H Q
def rIsNotU : R2 := fun x y H Q => (y = .non ∧ Q (.bl (!decide (x = .non))) H) ∨ rNotB x y H Q
theorem opIsU : OpR X (compareOp .Is) rIsU := OpR.or (r := fun x y H Q => y = .non ∧ Q (.bl (decide (x = .non))) H) op_isN op_isBl
theorem opIsNotU : OpR X (compareOp .IsNot) rIsNotU := OpR.or (r := fun x y H Q => y = .non ∧ Q (.bl (!decide (x = .non))) H) op_notN op_notBl
end
section
variable {K : PySem.W.Frag} {M : Mem} {q : D → Mem → Prop}
theorem addU_int {i j : Int} (k : q (.int (i + j)) M) : OpD K (rAddU K) (.int i) (.int j) M q := fun F H v w S rx ry Q A => .inl (op_i0 (fun _ => .int _) k F H v w S rx ry Q A)
theorem addU_str {x y : Str} (hl : x.length + y.length ≤ sizeLine) (k : q (.str (x ++ y)) M) : OpD K (rAddU K) (.str x) (.str y) M q := fun F H v w S rx ry Q A => by
  cases rx; cases ry
  exact .inr (.inl ⟨x, y, rfl, rfl, hl, A.here S (.str _) k⟩)
theorem addU_lst {xs ys : List D} (hl : xs.length + ys.length ≤ sizeLine) (k : q (.lst (xs ++ ys)) M) : OpD K (rAddU K) (.lst xs) (.lst ys) M q := fun F H v w S rx ry Q A => by
  cases rx with
  | lst a1 a2 =>
    cases ry with
    | lst b1 b2 => exact .inr (.inr (.inl ⟨_, _, _, _, rfl, rfl, S.sub _ _ a1, S.sub _ _ b1, by rw [a2.length, b2.length]; exact hl, new_lst S A (a2.app b2) k⟩))
theorem addU_tup {xs ys : List D} (hl : xs.length + ys.length ≤ sizeLine) (k : q (.tup (xs ++ ys)) M) : OpD K (rAddU K) (.tup xs) (.tup ys) M q := fun F H v w S rx ry Q A => by
  cases rx with
  | tup a1 a2 =>
    cases ry with
    | tup b1 b2 =>
      refine .inr (.inr (.inr ⟨_, _, _, _, rfl, rfl, seqT_mono S.sub a1, seqT_mono S.sub b1, by rw [a2.length, b2.length]; exact hl, fun e => ?_, fun _ e => ?_, fun _ _ => new_tup S A (a2.app b2) k⟩))
      · subst e
        cases a2
        exact A.here S (.tup b1 b2) k
      · subst e
        cases b2
        rw [List.append_nil] at k
        exact A.here S (.tup a1 a2) k
theorem mulU_int {i j : Int} (c : CMulW i j) (k : q (.int (i * j)) M) : OpD K rMulU (.int i) (.int j) M q := fun F H v w S rx ry Q A => .inl (op_i c (fun _ => .int _) k F H v w S rx ry Q A)
theorem mulU_rep {xs : List D} {n : Int} (h1 : -(2 ^ 63) ≤ n) (h2 : n < 2 ^ 63) (hl : xs.length * n.toNat ≤ sizeLine) (k : q (.lst (List.replicate n.toNat xs).flatten) M) : OpD K rMulU (.lst xs) (.int n) M q := fun F H v w S rx ry Q A => by
  cases ry
  cases rx with
  | lst a1 a2 =>
    refine .inr ⟨_, n, _, rfl, rfl, S.sub _ _ a1, h1, h2, by rw [a2.length]; exact hl, new_lst S A ?_ k⟩
    have rep : ∀ m : Nat, Rps K F (List.replicate m _).flatten (List.replicate m xs).flatten := fun m => by
      induction m with
      | zero => exact .nil
      | succ m ih => rw [List.replicate_succ, List.replicate_succ, List.flatten_cons, List.flatten_cons]; exact a2.app ih
    exact rep n.toNat
theorem eqU_int {i j : Int} (k : q (.bl (decide (i = j))) M) : OpD K (rEqU K) (.int i) (.int j) M q := fun F H v w S rx ry Q A => by
  cases rx; cases ry
  refine .inl ⟨rfl, ?_⟩
  rw [dec_int, Bool.beq_eq_decide_eq]
  exact A.here S (.bl _) k
theorem eqU_bl {i j : Bool} (k : q (.bl (decide (i = j))) M) : OpD K (rEqU K) (.bl i) (.bl j) M q := fun F H v w S rx ry Q A => by
  cases rx; cases ry
  refine .inl ⟨rfl, ?_⟩
  rw [dec_bl, Bool.beq_eq_decide_eq]
  exact A.here S (.bl _) k
theorem eqU_str {i j : Str} (k : q (.bl (decide (i = j))) M) : OpD K (rEqU K) (.str i) (.str j) M q := fun F H v w S rx ry Q A => by
  cases rx; cases ry
  refine .inl ⟨rfl, ?_⟩
  have e : decide (V.str i = V.str j) = decide (i = j) := by
    by_cases h : i = j
    · rw [h]; simp
    · rw [decide_eq_false h]; exact decide_eq_false fun z => h (V.str.inj z)
  rw [e]
  exact A.here S (.bl _) k
theorem neU_int {i j : Int} (k : q (.bl (!decide (i = j))) M) : OpD K (rNeU K) (.int i) (.int j) M q := fun F H v w S rx ry Q A => by
  cases rx; cases ry
  refine .inl ⟨rfl, ?_⟩
  rw [dec_int, Bool.beq_eq_decide_eq]
  exact A.here S (.bl _) k
theorem neU_str {i j : Str} (k : q (.bl (!decide (i = j))) M) : OpD K (rNeU K) (.str i) (.str j) M q := fun F H v w S rx ry Q A => by
  cases rx; cases ry
  refine .inl ⟨rfl, ?_⟩
  have e : decide (V.str i = V.str j) = decide (i = j) := by
    by_cases h : i = j
    · rw [h]; simp
    · rw [decide_eq_false h]; exact decide_eq_false fun z => h (V.str.inj z)
  rw [e]
  exact A.here S (.bl _) k
theorem neU_non (k : q (.bl false) M) : OpD K (rNeU K) .non .non M q := fun F H v w S rx ry Q A => by
  cases rx; cases ry
  exact .inl ⟨rfl, A.here S (.bl _) (by simpa using k)⟩
theorem eqU_deep {x y : D} (n : Nat) (hn : n ≤ 64) (hx : okPy n x = true) (hy : okPy n y = true) (k : q (.bl (PyData.eqv (toPy n x) (toPy n y))) M) : OpD K (rEqU K) x y M q := fun F H v w S rx ry Q A =>
  .inr ⟨_, _, rp_dp S.sub n x v rx hx, rp_dp S.sub n y w ry hy, okPy_shaped hn hx, okPy_shaped hn hy, A.here S (.bl _) k⟩
theorem neU_deep {x y : D} (n : Nat) (hn : n ≤ 64) (hx : okPy n x = true) (hy : okPy n y = true) (k : q (.bl (!PyData.eqv (toPy n x) (toPy n y))) M) : OpD K (rNeU K) x y M q := fun F H v w S rx ry Q A =>
  .inr ⟨_, _, rp_dp S.sub n x v rx hx, rp_dp S.sub n y w ry hy, okPy_shaped hn hx, okPy_shaped hn hy, A.here S (.bl _) k⟩
theorem eqU_bys {a b : List Int} (k : q (.bl (decide (a = b))) M) : OpD K (rEqU K) (bys a) (bys b) M q := eqU_deep 1 (by decide) (ok_bys 0 a) (ok_bys 0 b) (by rw [eqv_bys]; exact k)
theorem neU_bys {a b : List Int} (k : q (.bl (!decide (a = b))) M) : OpD K (rNeU K) (bys a) (bys b) M q := neU_deep 1 (by decide) (ok_bys 0 a) (ok_bys 0 b) (by rw [eqv_bys]; exact k)
theorem eqU_strsL {a b : List Str} (ha : ∀ x ∈ a, PyData.strOk x = true) (hb : ∀ x ∈ b, PyData.strOk x = true) (k : q (.bl (decide (a = b))) M) : OpD K (rEqU K) (strsL a) (strsL b) M q := eqU_deep 1 (by decide) (ok_strs ha) (ok_strs hb) (by rw [eqv_strsL]; exact k)
theorem neU_strsL {a b : List Str} (ha : ∀ x ∈ a, PyData.strOk x = true) (hb : ∀ x ∈ b, PyData.strOk x = true) (k : q (.bl (!decide (a = b))) M) : OpD K (rNeU K) (strsL a) (strsL b) M q := neU_deep 1 (by decide) (ok_strs ha) (ok_strs hb) (by rw [eqv_strsL]; exact k)
/-- membership, by a function that tells the data apart -/
theorem any_eqv {α : Type} [DecidableEq α] {f : α → D} {n : Nat} (hf : ∀ a b, PyData.eqv (toPy n (f a)) (toPy n (f b)) = decide (a = b)) (x : α) : ∀ xs : List α, (((xs.map f).map (toPy n)).any fun z => PyData.eqv z (toPy n (f x))) = decide (x ∈ xs)
  | [] => by simp
  | y :: r => by
    show (PyData.eqv (toPy n (f y)) (toPy n (f x)) || ((r.map f).map (toPy n)).any fun z => PyData.eqv z (toPy n (f x))) = decide (x ∈ y :: r)
    rw [hf, any_eqv hf x r]
    by_cases h1 : y = x
    · simp [h1]
    · by_cases h2 : x ∈ r
      · simp [h1, h2]
      · have h3 : ¬ x = y := fun z => h1 z.symm
        simp [h1, h2, h3]
theorem okPy_succ : ∀ (n : Nat) (d : D), okPy n d = true → okPy (n + 1) d = true
  | 0, d, h => by cases d <;> first | exact h | cases h
  | n + 1, d, h => by
    cases d with
    | lst xs =>
      have h1 := List.all_eq_true.mp (show xs.all (okPy n) = true from h)
      exact List.all_eq_true.mpr fun d hd => okPy_succ n d (h1 d hd)
    | tup xs =>
      have h1 := List.all_eq_true.mp (show xs.all (okPy n) = true from h)
      exact List.all_eq_true.mpr fun d hd => okPy_succ n d (h1 d hd)
    | _ => first | exact h | cases h
theorem inU_of {α : Type} [DecidableEq α] {f : α → D} {n : Nat} {x : α} {xs : List α} {y : D} (hy : y = .lst (xs.map f) ∨ y = .tup (xs.map f)) (hn : n + 1 ≤ 64) (hf : ∀ a b, PyData.eqv (toPy n (f a)) (toPy n (f b)) = decide (a = b)) (hx : okPy n (f x) = true)
    (hxs : ∀ a ∈ xs, okPy n (f a) = true) (k : q (.bl (decide (x ∈ xs))) M) : OpD K (rInU K) (f x) y M q := fun F H v w S rx ry Q A => by
  have e := any_eqv hf x xs
  have ok : (xs.map f).all (okPy n) = true := by rw [List.all_map]; exact List.all_eq_true.mpr fun a ha => hxs a ha
  rcases hy with rfl | rfl
  · refine .inl ⟨_, _, rp_dp S.sub n _ v rx hx, rp_dp S.sub (n + 1) _ w ry ok, okPy_shaped (by omega) hx, okPy_shaped hn (d := .lst (xs.map f)) ok, ?_⟩
    rw [e]; exact A.here S (.bl _) k
  · refine .inr ⟨_, _, rp_dp S.sub n _ v rx hx, rp_dp S.sub (n + 1) _ w ry ok, okPy_shaped (by omega) hx, okPy_shaped hn (d := .tup (xs.map f)) ok, ?_⟩
    rw [e]; exact A.here S (.bl _) k
theorem notInU_of {α : Type} [DecidableEq α] {f : α → D} {n : Nat} {x : α} {xs : List α} {y : D} (hy : y = .lst (xs.map f) ∨ y = .tup (xs.map f)) (hn : n + 1 ≤ 64) (hf : ∀ a b, PyData.eqv (toPy n (f a)) (toPy n (f b)) = decide (a = b)) (hx : okPy n (f x) = true)
    (hxs : ∀ a ∈ xs, okPy n (f a) = true) (k : q (.bl (!decide (x ∈ xs))) M) : OpD K (rNotInU K) (f x) y M q := fun F H v w S rx ry Q A => by
  have e := any_eqv hf x xs
  have ok : (xs.map f).all (okPy n) = true := by rw [List.all_map]; exact List.all_eq_true.mpr fun a ha => hxs a ha
  rcases hy with rfl | rfl
  · refine .inl ⟨_, _, rp_dp S.sub n _ v rx hx, rp_dp S.sub (n + 1) _ w ry ok, okPy_shaped (by omega) hx, okPy_shaped hn (d := .lst (xs.map f)) ok, ?_⟩
    rw [e]; exact A.here S (.bl _) k
  · refine .inr ⟨_, _, rp_dp S.sub n _ v rx hx, rp_dp S.sub (n + 1) _ w ry ok, okPy_shaped (by omega) hx, okPy_shaped hn (d := .tup (xs.map f)) ok, ?_⟩
    rw [e]; exact A.here S (.bl _) k
theorem inU_strT {x : Str} {xs : List Str} (hx : PyData.strOk x = true) (hxs : ∀ a ∈ xs, PyData.strOk a = true) (k : q (.bl (decide (x ∈ xs))) M) : OpD K (rInU K) (.str x) (strsT xs) M q := inU_of (n := 0) (f := D.str) (.inr rfl) (by decide) (eqv_str 0) hx hxs k
theorem inU_strL {x : Str} {xs : List Str} (hx : PyData.strOk x = true) (hxs : ∀ a ∈ xs, PyData.strOk a = true) (k : q (.bl (decide (x ∈ xs))) M) : OpD K (rInU K) (.str x) (strsL xs) M q := inU_of (n := 0) (f := D.str) (.inl rfl) (by decide) (eqv_str 0) hx hxs k
theorem notInU_strT {x : Str} {xs : List Str} (hx : PyData.strOk x = true) (hxs : ∀ a ∈ xs, PyData.strOk a = true) (k : q (.bl (!decide (x ∈ xs))) M) : OpD K (rNotInU K) (.str x) (strsT xs) M q := notInU_of (n := 0) (f := D.str) (.inr rfl) (by decide) (eqv_str 0) hx hxs k
theorem notInU_strL {x : Str} {xs : List Str} (hx : PyData.strOk x = true) (hxs : ∀ a ∈ xs, PyData.strOk a = true) (k : q (.bl (!decide (x ∈ xs))) M) : OpD K (rNotInU K) (.str x) (strsL xs) M q := notInU_of (n := 0) (f := D.str) (.inl rfl) (by decide) (eqv_str 0) hx hxs k
theorem isU_non (k : q (.bl true) M) : OpD K rIsU .non .non M q := fun F H v w S rx ry Q A => by
  cases rx; cases ry
  exact .inl ⟨rfl, A.here S (.bl _) (by simpa using k)⟩
theorem isU_some {x : D} (hx : ∀ F, ¬ Rp K F .non x) (k : q (.bl false) M) : OpD K rIsU x .non M q := fun F H v w S rx ry Q A => by
  cases ry
  refine .inl ⟨rfl, A.here S (.bl _) ?_⟩
  have e : decide (v = V.non) = false := decide_eq_false fun z => hx F (by rw [← z]; exact rx)
  rw [e]; exact k
theorem isU_bl {a b : Bool} (k : q (.bl (decide (a = b))) M) : OpD K rIsU (.bl a) (.bl b) M q := fun F H v w S rx ry Q A => by
  cases rx; cases ry
  exact .inr ⟨a, b, rfl, rfl, A.here S (.bl _) k⟩
theorem isNotU_non (k : q (.bl false) M) : OpD K rIsNotU .non .non M q := fun F H v w S rx ry Q A => by
  cases rx; cases ry
  exact .inl ⟨rfl, A.here S (.bl _) (by simpa using k)⟩
theorem isNotU_some {x : D} (hx : ∀ F, ¬ Rp K F .non x) (k : q (.bl true) M) : OpD K rIsNotU x .non M q := fun F H v w S rx ry Q A => by
  cases ry
  refine .inl ⟨rfl, A.here S (.bl _) ?_⟩
  have e : (!decide (v = V.non)) = true := by rw [decide_eq_false (show ¬ v = V.non from fun z => hx F (by rw [← z]; exact rx))] <;> rfl
  rw [e]; exact k
theorem isNotU_bl {a b : Bool} (k : q (.bl (!decide (a = b))) M) : OpD K rIsNotU (.bl a) (.bl b) M q := fun F H v w S rx ry Q A => by
  cases rx; cases ry
  exact .inr ⟨a, b, rfl, rfl, A.here S (.bl _) k⟩
theorem not_non_lst {ds : List D} : ∀ F, ¬ Rp K F .non (.lst ds) := fun F h => by cases h
end
end DL
/-! list(reversed(a list)); enumerate(a tuple) -/
namespace DL
open PySem PySem.Spec PyProof.Rows L2 RT
open Sem (wp)
section
variable {prog : Program} {w : World} {A : Around} {E : Value → Shared → Prop} {s : Shared}
theorem extend_rev {R : Result → Shared → Prop} {it l : Addr} {items : Array Value} (hh : A.handled = none) (hit : s.heap.IsRevIter it l ((items.size : Int) - 1)) (hl : s.heap.IsList l items) (hne : l ≠ it) (hn : items.size ≤ sizeLine)
    (S : Addr) (res : Value) (c0 : Nat) (hSi : S ≠ it) (hSl : S ≠ l) (hS : s.heap.get? S = some { cls := .type "list", data := .seq #[] c0 })
    (hR : ∀ h' tk acc' c', (∀ b o, b ≠ S → b ≠ it → s.heap.get? b = some o → h'.get? b = some o) → h'.get? S = some { cls := .type "list", dict := none, data := .seq acc' c', slots := #[] } →
      ItemsOf (fun i v => items[items.size - 1 - i]? = some v) acc' items.size → R (.ok (.ret res)) { s with heap := h', toks := tk }) :
    wpAny (model prog w) A.in1 (Builtin.List.listExtendWith (.ref S) (.ref it) res)
      (fun fin s' => match fin with | .done f => R (.ok f) s' | .again c' => c'.quiet = true ∧ codeAny (model prog w) A c' R s') (fun e s' => R (.error e) s') s := by
  have W := (Walks.listRev (prog := prog) (w := w) (A := A.in1) hh it l hne items).toS
  have hSf : S ∉ [it, l] := by simp only [List.mem_cons, List.not_mem_nil, or_false, not_or]; exact ⟨hSi, hSl⟩
  have hT : s.TypeIs (.ref it) "list_reverseiterator" := Heap.IsRevIter.typeIs hit
  have h1 : Builtin.List.listSameRef (.ref S) (.ref it) = false := by simp [Builtin.List.listSameRef, hSi]
  unfold Builtin.List.listExtendWith
  refine wpAny_bind (wpAny_typeOf hT ?_)
  rw [if_neg (by rw [h1]; decide)]
  refine wpAny_bind (wpAny_pyIter_revIter hit ?_)
  refine wpAny_bind (wpAny_holding ?_)
  unfold Builtin.List.listLengthHint
  refine wpAny_bind (wpAny_specialOf hT nolen_lri ?_)
  show wpAny _ A.in1 (specialOf (Value.ref it) (Str.ofString "__length_hint__") >>= _) _ _ _
  refine wpAny_bind (wpAny_specialOf hT hint_lri ?_)
  generalize hid : ("list_reverseiterator.__length_hint__" : String) = id0
  wp_delta
  rw [show splitId id0 = some ("list_reverseiterator", "__length_hint__") from by subst hid; decide +kernel]
  subst hid
  refine wpAny_bind (wpAny_isInstance (b := true) hT (by rw [isSubtype_type]; kernel_rfl) ?_)
  refine wpAny_pure ?_
  rw [if_neg (by decide)]
  have e0 : ((items.size : Nat) : Int) - 1 - ((0 : Nat) : Int) = (items.size : Int) - 1 := by omega
  refine wpAny_pure ⟨plainId_quiet F.plain_extend_loop _, codeAny_extend_loopS W hn _ hSf _ items.size 0 _ _ _ rfl (Nat.zero_le _) ⟨Nat.zero_le _, by rw [e0]; exact hit, hl⟩ hS (ItemsOf.nil _) fun s' acc' c' hm hS' hacc => ?_⟩
  rw [Moved.eq_with hm]
  refine hR s'.heap s'.toks acc' c' (fun b ob hb hi e => hm.heap b ob (fun hmem => ?_) e) hS' hacc
  rcases List.mem_cons.mp hmem with e' | hmem
  · exact hb e'
  · exact hi (List.mem_singleton.mp hmem)
theorem call_list_rev {it l : Addr} {items : Array Value} {Q : Value → Shared → Prop} (hh : A.handled = none) (hit : s.heap.IsRevIter it l ((items.size : Int) - 1)) (hl : s.heap.IsList l items) (hne : l ≠ it) (hn : items.size ≤ sizeLine)
    (hQ : ∀ h' tk acc' c', (∀ b o, b ≠ it → s.heap.get? b = some o → h'.get? b = some o) →
      h'.get? s.heap.objs.size = some { cls := .type "list", dict := none, data := .seq acc' c', slots := #[] } → ItemsOf (fun i v => items[items.size - 1 - i]? = some v) acc' items.size → Q (.ref s.heap.objs.size) { s with heap := h', toks := tk }) :
    wpAny (model prog w) A (call (.type "list") [.ref it]) Q E s := by
  obtain ⟨oi, hoi, _⟩ := id hit
  obtain ⟨ol, hol, _⟩ := id hl
  have hSi : s.heap.objs.size ≠ it := Nat.ne_of_gt (Heap.lt_size hoi)
  have hSl : s.heap.objs.size ≠ l := Nat.ne_of_gt (Heap.lt_size hol)
  refine callType_codes (Q₁ := fun obj s1 => obj = .ref s.heap.objs.size ∧ s1 = { s with heap := s.heap.push { cls := .type "list", data := .seq #[] } }) F.called_list (F.typeCall_list_1 _) F.entry_list_init
    (code_list_new _ ⟨rfl, rfl⟩) fun obj s1 h1 => ?_
  obtain ⟨rfl, rfl⟩ := h1
  have hS : (s.heap.push { cls := .type "list", data := .seq #[] }).get? s.heap.objs.size = some { cls := .type "list", data := .seq #[] } := Heap.get?_push_size _ rfl
  have hit1 : (s.heap.push { cls := .type "list", data := .seq #[] }).IsRevIter it l ((items.size : Int) - 1) := hit.at fun o e => Heap.get?_push_of_some _ e
  have hl1 : (s.heap.push { cls := .type "list", data := .seq #[] }).IsList l items := hl.push _
  refine ⟨⟨_, hS, rfl⟩, F.args_list_init_2 _ _, ?_⟩
  show wpAny _ _ (do let old ← Builtin.List.listItems (.ref s.heap.objs.size); Builtin.List.listUpdate (.ref s.heap.objs.size) (fun _ => #[]); letGo old.toList.reverse; Builtin.List.listExtendWith (.ref s.heap.objs.size) (.ref it) .none) _ _ _
  refine wpAny_bind ?_
  unfold Builtin.List.listItems
  refine wpAny_bind (wpAny_seqItems hS rfl (wpAny_pure ?_))
  show wpAny _ _ (updateSeq s.heap.objs.size (fun _ => #[]) >>= fun _ => letGo (#[] : Array Value).toList.reverse >>= fun _ => Builtin.List.listExtendWith (.ref s.heap.objs.size) (.ref it) .none) _ _ _
  refine wpAny_bind (wpAny_updateSeq hS rfl ?_)
  have hS2 := Heap.get?_update_self (Obj.mapSeq (fun _ => (#[] : Array Value))) hS rfl
  have oth : ∀ b o, b ≠ s.heap.objs.size → (s.heap.push { cls := .type "list", data := .seq #[] }).get? b = some o → ((s.heap.push { cls := .type "list", data := .seq #[] }).update s.heap.objs.size (Obj.mapSeq (fun _ => (#[] : Array Value)))).get? b = some o :=
    fun b o hb e => (Heap.get?_update_other _ _ (Ne.symm hb)).trans e
  refine wpAny_bind (wpAny_letGo ?_)
  refine extend_rev (A := A.in1) hh (hit1.at fun o e => oth it o (Ne.symm hSi) e) (let ⟨o, e, r⟩ := hl1; ⟨o, oth l o (Ne.symm hSl) e, r⟩) hne hn _ .none _ hSi hSl hS2 fun h' tk acc' c' hk hS' hacc => ?_
  exact ⟨rfl, hQ h' tk acc' c' (fun b o hi e => hk b o (Nat.ne_of_lt (Heap.lt_size e)) hi (oth b o (Nat.ne_of_lt (Heap.lt_size e)) (Heap.get?_push_of_some _ e))) hS' hacc⟩
end
def tLstRev (K : PySem.W.Frag) (te : TE) : TE := fun σ H Q => te σ H fun v H1 => ∃ (a : Addr) (xs : List V), v = .ref a ∧ SqL K H1 a xs ∧ ∀ q, H1 q = none → Q (.ref q) (upd H1 q (.lst xs.reverse))
section
variable {X : Cx}
theorem pe_lstRev {e : Expr} {te : TE} {p p2 pos pos2 : Pos} (hc : X.calm = true) (hg : Gl X "list") (hm : X.mg "list" = none) (hg2 : Gl X "reversed") (hm2 : X.mg "reversed" = none) (he : PE X e te)
    (hs : starEach [e] X.env = (false, eval e X.env) :: starEach [] X.env := by rfl)
    (hs2 : starEach [.Call (.Name "reversed" p2) [e] [] pos2] X.env = (false, eval (.Call (.Name "reversed" p2) [e] [] pos2) X.env) :: starEach [] X.env := by rfl) :
    PE X (.Call (.Name "list" p) [.Call (.Name "reversed" p2) [e] [] pos2] [] pos) (tLstRev X.K te) := by
  refine ⟨fun pins s σ H Q I h => ?_⟩
  refine Call_ (ld_blt I hg hm boot_list (PyProof.Rows.callWith_type1 (args_cons (Call_ (ld_blt I hg2 hm2 PyProof.Rows.boot_reversed (PyProof.Rows.callWith_type1 (args_cons (thn (he.run pins s σ H _ I h) fun u s1 ⟨v, H1, I1, r1, q1⟩ => args_nil ?_) hs) hs rfl))) hs2) hs2 rfl))
  obtain ⟨a, xs, ev, hq, q⟩ := q1
  subst ev
  obtain rfl : u = Value.ref a := r1
  obtain ⟨its, rv, p', hz⟩ := I1.list hq
  refine call_reversed_list p'.isList (args_nil ?_)
  have k0 : ∀ b o, s1.heap.get? b = some o → (s1.heap.push (revObj a ((its.toArray.size : Int) - 1))).get? b = some o := fun b o e => Heap.get?_push_of_some _ e
  have I2 : Inv X pins σ H1 { s1 with heap := s1.heap.push (revObj a ((its.toArray.size : Int) - 1)) } := I1.kept (t' := s1.toks) k0
  obtain ⟨f0, f1, f2, f3, f4, f5⟩ := I1.fpOk (H' := H1) (b := s1.heap.objs.size) (Nat.le_refl _) (I1.hok.fresh (Nat.le_refl _))
  have hl := p'.isList
  obtain ⟨ol, hol, _⟩ := id hl
  have hne : a ≠ s1.heap.objs.size := Nat.ne_of_lt (Heap.lt_size hol)
  have hn : its.toArray.size ≤ sizeLine := by rw [List.size_toArray, ← rv.length]; exact hz
  refine call_list_rev (s := { s1 with heap := s1.heap.push (revObj a ((its.toArray.size : Int) - 1)) }) (I1.ok.hd hc) ⟨_, Heap.get?_push_size _ rfl, rfl, rfl⟩ (hl.push _) hne hn fun h' tk acc c' hk hS hi => ?_
  have hfr : H1 (s1.heap.push (revObj a ((its.toArray.size : Int) - 1))).objs.size = none := I2.hok.fresh (Nat.le_refl _)
  generalize hg0 : s1.heap.push (revObj a ((its.toArray.size : Int) - 1)) = g0 at *
  have hsz : s1.heap.objs.size < g0.objs.size := by rw [← hg0, Heap.size_push]; exact Nat.lt_succ_self _
  have I3 : Inv X pins σ (upd H1 g0.objs.size (.lst xs.reverse)) { s1 with heap := g0.push { cls := .type "list", data := .seq acc c' }, toks := tk } :=
    I2.laid (t' := tk) (fun c o e => Heap.get?_push_of_some _ e) (Nat.le_refl _) (show ObjOk X.prog X.w _ _ _ (.lst xs.reverse) from ⟨by rw [List.length_reverse]; exact hz, acc.toList, c', vals_rev rv hi, by rw [Array.toArray_toList]; exact Heap.get?_push_size _ rfl⟩)
  have I4 : Inv X pins σ (upd H1 g0.objs.size (.lst xs.reverse)) { s1 with heap := h', toks := tk } := by
    refine Inv.turned (s := { s1 with heap := g0.push { cls := .type "list", data := .seq acc c' }, toks := tk }) (t' := tk) (it := s1.heap.objs.size) I3 (fun b o hb e => ?_) (by rw [upd_ne (Nat.ne_of_lt hsz)]; exact f0) f1 f3 f4 f5
    rcases Heap.get?_push_cases e with ⟨rfl, rfl⟩ | e
    · exact hS
    · exact hk b o hb e
  exact ⟨.ref g0.objs.size, _, I4, rfl, q _ hfr⟩
end
end DL
/-! enumerate(a tuple) -/
namespace DL
open PySem PySem.Spec PyProof.Rows L2
open Sem (wp)
theorem meets_enumB1 {v : Value} {o : Obj} {H : Heap → Prop} (B : Begins v o H) :
    Meets (Builtin.«enumerate.__new__» ⟨[.type "enumerate", v], []⟩) (fun _ R s => H s.heap ∧
      R (.ok (.ret (.ref (s.heap.push o).objs.size))) { s with heap := (s.heap.push o).push { cls := .type "enumerate", data := .fields #[.none, .bool false, .ref s.heap.objs.size, rawInt 0, .none, .none] } }) :=
  .of_wp fun prog w A R s h => by
    obtain ⟨hp, g, d, tk, os⟩ := s; obtain ⟨h1, h⟩ := h
    have hsub := sub_enumerate
    have q1 : ∀ {A' : Around} {E : Value → Shared → Prop} {Q : Value → Shared → Prop}, Q (.ref hp.objs.size) ⟨hp.push o, g, d, tk, os⟩ → wpAny (model prog w) A' (pyIter v) Q E ⟨hp, g, d, tk, os⟩ :=
      fun q => B.iter prog w _ _ ⟨hp, g, d, tk, os⟩ _ h1 q
    wp_walk using q1
    refine wpAny_stack_any fun st => wpAny_pure ?_
    split
    · rename_i c _ _ _ _ _
      cases (c == Value.type "enumerate")
      · wp_walk using q1
        exact ⟨_, rfl, h⟩
      · wp_walk using q1
        exact ⟨_, rfl, h⟩
    · wp_walk using q1
      exact ⟨_, rfl, h⟩
theorem enum_begins1 {prog : Program} {w : World} {A : Around} {E : Value → Shared → Prop} {s : Shared} {v : Value} {o : Obj} {H : Heap → Prop} {Q : Value → Shared → Prop} (B : Begins v o H) (h1 : H s.heap)
    (h : ∀ h', IsEnum h' (s.heap.objs.size + 1) s.heap.objs.size 0 .none → h'.get? s.heap.objs.size = some o → h'.objs.size = s.heap.objs.size + 2 →
      (∀ b o, s.heap.get? b = some o → h'.get? b = some o) → Q (.ref (s.heap.objs.size + 1)) { s with heap := h' }) :
    wpAny (model prog w) A (call (.type "enumerate") [v]) Q E s := by
  refine callType_new F.called_enumerate (by decide) (F.typeCall_enumerate_1 _) (F.newCall_enumerate_1 _) (fun obj => F.args_object_init_2 obj _) F.entry_enumerate_new
    (meets_enumB1 B) ⟨h1, ?_⟩
  have hz : (s.heap.push o).objs.size = s.heap.objs.size + 1 := Heap.size_push ..
  show _ ∧ _
  rw [hz]
  have he : IsEnum ((s.heap.push o).push { cls := .type "enumerate", data := .fields #[.none, .bool false, .ref s.heap.objs.size, rawInt 0, .none, .none] }) (s.heap.objs.size + 1) s.heap.objs.size 0 .none := by
    have := Heap.get?_push_size (s.heap.push o) (o := { cls := .type "enumerate", data := .fields #[.none, .bool false, .ref s.heap.objs.size, rawInt 0, .none, .none] }) rfl
    rw [hz] at this; exact this
  refine ⟨⟨_, he, rfl⟩, h _ he (Heap.get?_push_of_some _ (Heap.get?_push_size _ B.free)) (by rw [Heap.size_push, hz]) fun b o x => Heap.get?_push_of_some _ (Heap.get?_push_of_some _ x)⟩
/-- the tuple at a, each item in a new pair -/
def IteT (K : PySem.W.Frag) (a : Addr) : It :=
  ⟨fun i H => ∃ (xs : List V) (x : V), SqT K H a xs ∧ xs[i]? = some x, fun i H v H' => ∃ T x, v = .ref T ∧ H T = none ∧ H' = upd H T (.tup [.int (i : Nat), x]) ∧ ∀ xs, SqT K H a xs → xs[i]? = some x, fun i H => ∃ xs : List V, SqT K H a xs ∧ xs.length ≤ i⟩
theorem turn_enumT {P : Program} {w : World} {K : PySem.W.Frag} {elts : List Expr} {kk : Nat} {tpos : Pos} (a e it : Addr) (hea : e ≠ a) (hai : a ≠ it) :
    Turn P w K (.Tuple elts kk tpos) (IteT K a) [e, it] e (fun i h => (∃ old, IsEnum h e it ((i : Nat) : Int) old) ∧ h.IsTupleIter it a i ∧ e ≠ it) where
  mem := by simp
  obj := fun i h st b hb => by
    obtain ⟨⟨old, he⟩, ⟨o, ho, hc, hd⟩, _⟩ := st
    have e' : b = e ∨ b = it := by simpa using hb
    rcases e' with z | z
    · rw [z]; exact ⟨_, he, fun v q => nomatch q⟩
    · rw [z]; exact ⟨o, ho, fun v q => by rw [hd] at q; cases q⟩
  keep := fun i h h' st k => let ⟨⟨old, he⟩, hi, hne⟩ := st; ⟨⟨old, k e (by simp) _ he⟩, hi.at fun o q => k it (by simp) o q, hne⟩
  item := by
    intro X hP hw hK hc i pins s σ H E I hf st hg
    subst hP hw hK
    obtain ⟨⟨old, he⟩, hit, hne⟩ := st
    obtain ⟨xs, x, hq, hx⟩ := hg
    obtain ⟨its, rv, p, hz⟩ := I.tuple hq
    obtain ⟨u, hu, ru⟩ := rv.get hx
    have hel : e < s.heap.objs.size := Heap.lt_size he
    have hil : it < s.heap.objs.size := by obtain ⟨_, q, _⟩ := hit; exact Heap.lt_size q
    have pt : s.heap.IsTuple a its.toArray := p
    have hlt : i < its.toArray.size := by
      have := (List.getElem?_eq_some_iff.mp hu).1
      simpa using this
    refine wpAny_pyNext_enum_itemD (A := X.A) (Draws.tuple (prog := X.prog) (w := X.w) (A := X.A.in1) (I.ok.hd hc) it a hai its.toArray) he ⟨hit, pt⟩ hlt hne (by simp [hne, hea]) fun x' h' tk hP ho hst' hT hsz hk => ?_
    have ex : x' = u := by
      have hP : its.toArray[i]? = some x' := hP
      have hu' : its.toArray[i]? = some u := by simpa using hu
      rw [hu'] at hP
      exact (Option.some.inj hP).symm
    subst ex
    obtain ⟨hit', _⟩ := hst'
    refine ⟨_, rfl, wpAny_letOwnedTupleGo_enum (s := { s with heap := h', toks := tk + 1 }) ho fun h'' he' sb => ?_⟩
    have hT2 : h''.get? s.heap.objs.size = some { cls := .type "tuple", data := .seq #[.int i tk, x'] } := (sb.2 _ (Nat.ne_of_gt hel)).trans hT
    have new : ObjOk X.prog X.w (upd H s.heap.objs.size (.tup [.int (i : Nat), x])) h'' s.heap.objs.size (.tup [.int (i : Nat), x]) :=
      ⟨by show 2 ≤ sizeLine; decide, [.int i tk, x'], .cons ⟨_, rfl⟩ (.cons ru .nil), ⟨_, hT2, rfl, _, rfl⟩⟩
    have I1 : Inv X pins σ (upd H s.heap.objs.size (.tup [.int (i : Nat), x])) { s with heap := h'', toks := tk + 1 } :=
      I.turnedNew (ch := [e, it]) (fun b ob hb q => (sb.2 b (fun z => hb (by simp [z]))).trans (hk b ob (fun z => hb (by simp [z])) (fun z => hb (by simp [z])) q)) hf (Nat.le_refl _) new
    refine ⟨.ref s.heap.objs.size, _, I1, rfl, ⟨_, x, rfl, I.hok.fresh (Nat.le_refl _), rfl, fun ys hy => by rw [I.tuple_inj hy hq]; exact hx⟩, ⟨⟨x', ?_⟩, hit'.at fun o q => (sb.2 it (Ne.symm hne)).trans q, hne⟩, fun b hb => ?_⟩
    · have e1 : ((i + 1 : Nat) : Int) = (i : Int) + 1 := by omega
      rw [e1]; exact he'
    · have hb' : b < s.heap.objs.size := by
        have e' : b = e ∨ b = it := by simpa using hb
        rcases e' with z | z
        · rw [z]; exact hel
        · rw [z]; exact hil
      rw [upd_ne (Nat.ne_of_lt hb')]
      exact (hf b hb).1
  done := by
    intro X hP hw hK hc i pins s σ H E I hf st hg
    subst hP hw hK
    obtain ⟨⟨old, he⟩, hit, hne⟩ := st
    obtain ⟨xs, hq, hx⟩ := hg
    obtain ⟨its, rv, p, hz⟩ := I.tuple hq
    obtain ⟨f0, f1, f2, f3, f4, f5⟩ := hf it (by simp)
    have hl := rv.length
    have pt : s.heap.IsTuple a its.toArray := p
    have hT : s.TypeIs (.ref e) "enumerate" := ⟨_, he, rfl⟩
    unfold pyNext
    refine wpAny_bind (wpAny_attempt (wpAny_callSpecial?_slot (name := Str.ofString "__next__") hT F.slot_enumerate_next
      (wpAny_call_entry F.slot_enumerate_next hT F.entry_enumerate_next ?_ (F.args_enumerate_next_1 _))))
    show wpAny _ _ (field (.ref e) 2 >>= _) _ _ _
    refine wpAny_bind (wpAny_field he rfl (x := .ref it) rfl ?_)
    refine wpAny_bind (wpAny_nextOf_tuple_end (I.ok.hd hc) hit pt (by simp; omega) fun h' x he' hx' => ?_)
    obtain ⟨o, ho, hcl⟩ := hx'
    refine wpAny_bind (wpAny_isInstance (T := "StopIteration") (b := true) ⟨o, ho, hcl⟩ isSubtype_stop ?_)
    exact wpAny_pure ⟨rfl, I.turned (t' := s.toks) (fun b o hb q => he' b o hb q) f0 f1 f3 f4 f5⟩
  self := fun A i s Q E st h => let ⟨⟨_, he⟩, _⟩ := st; wpAny_pyIter_enum he h
def iEnumT (K : PySem.W.Frag) (ta : TA) : TI := fun σ H R => ta σ H fun vs H1 => ∃ a xs, vs = [.ref a] ∧ SqT K H1 a xs ∧ R (IteT K a) H1
theorem pi_enumT {X : Cx} {e : Expr} {ta : TA} {p pos tpos : Pos} {elts : List Expr} {kk : Nat} (hg : Gl X "enumerate") (hm : X.mg "enumerate" = none) (ha : PA X [e] ta) (hs : starEach [e] X.env = [(false, eval e X.env)] := by rfl) :
    PI X (.Tuple elts kk tpos) (.Call (.Name "enumerate" p) [e] [] pos) (iEnumT X.K ta) := by
  refine ⟨fun pins s σ H R I h => ?_⟩
  refine Call_ (ld_blt I hg hm boot_enumerate (PyProof.Rows.callWith_type1 (thn (ha.run pos pins s σ H _ I h) fun us s1 ⟨vs, H1, I1, r1, q1⟩ => ?_) hs rfl))
  obtain ⟨a, xs, ex, hq, q⟩ := q1
  subst ex
  cases r1 with
  | cons r rr =>
    cases rr
    cases r
    obtain ⟨its, rv, p', hz⟩ := I1.tuple hq
    have pt : s1.heap.IsTuple a its.toArray := p'
    have hal : a < s1.heap.objs.size := by obtain ⟨o, ho, _⟩ := p'; exact Heap.lt_size ho
    refine enum_begins1 (begins_tuple a its.toArray) pt fun h' he hit hsz hk => wpAny_pyIter_enum he ?_
    have I2 : Inv X pins σ H1 { s1 with heap := h' } := I1.kept (t' := s1.toks) hk
    refine ⟨s1.heap.objs.size + 1, [s1.heap.objs.size + 1, s1.heap.objs.size], _, _, H1, rfl, I2, turn_enumT a (s1.heap.objs.size + 1) s1.heap.objs.size (Nat.ne_of_gt (Nat.lt_succ_of_lt hal)) (Nat.ne_of_lt hal), ⟨⟨.none, he⟩, ⟨_, hit, rfl, rfl⟩, Nat.succ_ne_self _⟩, fun b hb => ?_, q⟩
    have e' : b = s1.heap.objs.size + 1 ∨ b = s1.heap.objs.size := by simpa using hb
    have hle : s1.heap.objs.size ≤ b := by
      rcases e' with z | z
      · rw [z]; exact Nat.le_add_right _ _
      · rw [z]; exact Nat.le_refl _
    exact I1.fpOk hle (I1.hok.fresh hle)
/-! the same, over data -/
def enumD (xs : List D) : List D := List.zipWith (fun i x => D.tup [.int ((i : Nat) : Int), x]) (List.range xs.length) xs
theorem enumD_len (xs : List D) : (enumD xs).length = xs.length := by simp [enumD]
theorem enumD_get {xs : List D} {i : Nat} {d : D} (h : (enumD xs)[i]? = some d) : ∃ x, xs[i]? = some x ∧ d = .tup [.int (i : Nat), x] := by
  unfold enumD at h
  rw [List.getElem?_zipWith] at h
  cases e2 : xs[i]? with
  | none =>
    rw [e2] at h
    cases e1 : (List.range xs.length)[i]? <;> rw [e1] at h <;> cases h
  | some x =>
    have hi : i < xs.length := (List.getElem?_eq_some_iff.mp e2).1
    rw [e2, List.getElem?_range hi] at h
    exact ⟨x, rfl, (Option.some.inj h).symm⟩
section
variable {K : PySem.W.Frag} {F : Hp} {M : Mem} {Γ : Gm} {qi : List D → Mem → Prop}
theorem itok_enumT {a : Addr} {xs : List V} {ds : List D} (h : SqT K F a xs) (r : Rps K F xs ds) : ItOk K (IteT K a) F (enumD ds) := fun F2 M2 H2 S e i => by
  have hA : SqT K H2 a xs := seqT_mono S.sub (seqT_mono e h)
  refine ⟨fun d hd => ?_, fun hl => ⟨xs, hA, by rw [r.length]; rw [enumD_len] at hl; exact hl⟩⟩
  obtain ⟨x, hx, rfl⟩ := enumD_get hd
  obtain ⟨v, hv, rv⟩ := r.get hx
  refine ⟨⟨xs, v, hA, hv⟩, fun z H' yy => ?_⟩
  obtain ⟨T, x1, rfl, hT, rfl, f1⟩ := yy
  have e1 := f1 xs hA
  rw [hv] at e1
  cases e1
  obtain ⟨S', st⟩ := S.newF hT (.tup [.int (i : Nat), v])
  exact ⟨_, st, S', .tup (SqT.of upd_same) (.cons (.int _) (.cons (Rp.mono (e.trans st.ext) _ _ rv) .nil))⟩
theorem it_enumT {ta : TA} (h : EvA K ta Γ M fun ds M1 => ∃ xs, ds = [.tup xs] ∧ qi (enumD xs) M1) : ItD K (iEnumT K ta) Γ M qi := fun σ F H S En R A =>
  h σ F H S En _ fun vs ds F1 M1 H1 s1 S1 r1 h1 => by
    obtain ⟨xs, rfl, z⟩ := h1
    obtain ⟨v, rfl, ra⟩ := r1.one
    cases ra with
    | tup a1 a2 => exact ⟨_, _, rfl, seqT_mono S1.sub a1, A _ _ _ _ _ s1 S1 (itok_enumT a1 a2) z⟩
end
section
variable {K : PySem.W.Frag} {W : WX} {F F1 H H1 : Hp} {M M1 : Mem} {Γ : Gm} {DD : DE} {ta tb te tv td ty : TE} {q : D → Mem → Prop} {k : Gm → Mem → Prop}
/-! ### plain lists of values -/
theorem rps_strs : ∀ {xs : List Str} {vs : List V}, Rps K F vs (xs.map D.str) → vs = xs.map V.str
  | [], _, h => by cases h; rfl
  | x :: r, _, h => by
    cases h with
    | cons h1 h2 => cases h1; rw [rps_strs h2] <;> rfl
theorem rps_ints : ∀ {xs : List Int} {vs : List V}, Rps K F vs (xs.map D.int) → vs = xs.map V.int
  | [], _, h => by cases h; rfl
  | x :: r, _, h => by
    cases h with
    | cons h1 h2 => cases h1; rw [rps_ints h2] <;> rfl
theorem strs_rps : ∀ xs : List Str, Rps K F (xs.map V.str) (xs.map D.str)
  | [] => .nil
  | x :: r => .cons (.str x) (strs_rps r)
theorem ints_rps : ∀ xs : List Int, Rps K F (xs.map V.int) (xs.map D.int)
  | [] => .nil
  | x :: r => .cons (.int x) (ints_rps r)
/-! ### subscripts -/
theorem atI_rps {vs : List V} {ds : List D} {i : Int} {d : D} (r : Rps K F vs ds) (h : atI ds i = some d) : ∃ v, atI vs i = some v ∧ Rp K F v d := by
  unfold atI at h ⊢
  rw [r.length]
  cases e : ixN ds.length i with
  | none => rw [e] at h; cases h
  | some j =>
    rw [e] at h
    have h : ds[j]? = some d := h
    exact r.get h
theorem ix_lstD {ds : List D} {i : Int} {d : D} (h : atI ds i = some d) (k : q d M) : OpD K (rIx K) (.lst ds) (.int i) M q := fun F H v w S rx ry Q A => by
  cases ry
  cases rx with
  | lst a1 a2 =>
    obtain ⟨u, hu, ru⟩ := atI_rps a2 h
    exact .inl ⟨_, _, i, u, rfl, rfl, SqL.of (S.sub _ _ a1), hu, A.here S ru k⟩
theorem ix_scrD {ds : List D} {i : Int} {d : D} (h : atI ds i = some d) (k : q d M) : OpD K (rIx K) (.scr ds) (.int i) M q := fun F H v w S rx ry Q A => by
  cases ry
  cases rx with
  | scr a1 a2 =>
    obtain ⟨u, hu, ru⟩ := atI_rps a2 h
    exact .inl ⟨_, _, i, u, rfl, rfl, S.sub.seq a1, hu, A.here S ru k⟩
theorem ix_tupD {ds : List D} {i : Int} {d : D} (h : atI ds i = some d) (k : q d M) : OpD K (rIx K) (.tup ds) (.int i) M q := fun F H v w S rx ry Q A => by
  cases ry
  cases rx with
  | tup a1 a2 =>
    obtain ⟨u, hu, ru⟩ := atI_rps a2 h
    exact .inr (.inl ⟨_, _, i, u, rfl, rfl, seqT_mono S.sub a1, hu, A.here S ru k⟩)
theorem ix_cellD {ds : List D} {i : Int} {d : D} {p : Addr} {j : Nat} (hj : M[j]? = some (p, .lst ds)) (h : atI ds i = some d) (k : q d M) : OpD K (rIx K) (.ref p) (.int i) M q := fun F H v w S rx ry Q A => by
  cases ry
  cases rx
  obtain ⟨vs, e, r⟩ := (S.at_ hj).2
  obtain ⟨u, hu, ru⟩ := atI_rps r h
  exact .inl ⟨_, _, i, u, rfl, rfl, SqL.of e, hu, A.here S ru k⟩
theorem ix_strD {z : Str} {i : Int} {c : Nat} (hz : z.length ≤ sizeLine) (h : atI z.cps.toList i = some c) (k : q (.str ⟨#[c]⟩) M) : OpD K (rIx K) (.str z) (.int i) M q := fun F H v w S rx ry Q A => by
  cases ry
  cases rx
  exact .inr (.inr ⟨z, i, c, rfl, rfl, hz, h, A.here S (.str _) k⟩)
theorem ixN_natD {n j : Nat} (h : j < n) : ixN n (j : Int) = some j := by
  unfold ixN
  rw [if_pos (by omega), if_pos (by omega)]
  simp
theorem atI_natD {ds : List D} {j : Nat} {d : D} (h : ds[j]? = some d) : atI ds (j : Int) = some d := atI_nat h
/-! ### slices -/
def rSlU (K : PySem.W.Frag) : V → Option Int → Option Int → Hp → VK → Prop := fun x lo hi H Q => rSlL K x lo hi H Q ∨ rSlA K x lo hi H Q ∨ C8.rSlX x lo hi H Q
theorem slU {X : Cx} : SlR X (rSlU X.K) := sl_list.or (sl_tupA.or C8.sl_txt)
def cutD (xs : List D) (lo hi : Option Int) : List D := (xs.drop (HT.sIx xs.length 0 lo)).take (HT.sIx xs.length xs.length hi - HT.sIx xs.length 0 lo)
theorem cut_rps {vs : List V} {ds : List D} (r : Rps K F vs ds) (lo hi : Option Int) : Rps K F (cutV vs lo hi) (cutD ds lo hi) := by
  unfold cutV cutD
  rw [r.length]
  exact (r.drop _).take _
theorem sl_lstD {ds : List D} {lo hi : Option Int} (k : q (.lst (cutD ds lo hi)) M) : SlD K (rSlU K) (.lst ds) lo hi M q := fun F H v S rx Q A => by
  cases rx with
  | lst a1 a2 => exact .inl ⟨_, _, rfl, SqL.of (S.sub _ _ a1), new_lst S A (cut_rps a2 lo hi) k⟩
theorem cutD_whole {ds : List D} {lo hi : Option Int} (h : HT.sIx ds.length 0 lo = 0 ∧ HT.sIx ds.length ds.length hi = ds.length) : cutD ds lo hi = ds := by
  unfold cutD
  rw [h.1, h.2]
  simp
theorem sl_tupD {ds : List D} {lo hi : Option Int} (k : q (.tup (cutD ds lo hi)) M) : SlD K (rSlU K) (.tup ds) lo hi M q := fun F H v S rx Q A => by
  cases rx with
  | tup a1 a2 =>
    refine .inr (.inl ⟨_, _, rfl, seqT_mono S.sub a1, fun hw => ?_, fun _ => new_tup S A (cut_rps a2 lo hi) k⟩)
    rw [a2.length] at hw
    rw [cutD_whole hw] at k
    exact A.here S (.tup a1 a2) k
theorem sl_strD {z : Str} {lo hi : Option Int} (hz : z.length ≤ sizeLine) (k : q (.str (Txt.slice z lo hi)) M) : SlD K (rSlU K) (.str z) lo hi M q := fun F H v S rx Q A => by
  cases rx
  exact .inr (.inr ⟨z, rfl, hz, A.here S (.str _) k⟩)
/-! ### stores into a list -/
def StoD (K : PySem.W.Frag) (ts : TSet) (o i d : D) (M : Mem) (k : Mem → Prop) : Prop := ∀ F H v w u, Sat K F M H → Rp K F v o → Rp K F w i → Rp K F u d → ∀ Q : Hp → Prop, (∀ F' M' H', Step F M H F' M' H' → Sat K F' M' H' → k M' → Q H') → ts v w u H Q
theorem gt_sub {to ti : TE} {ts : TSet} {d : D} (h : EvD K to Γ M fun o M1 => EvD K ti Γ M1 fun i M2 => StoD K ts o i d M2 fun M3 => k Γ M3) : GtD K (gSub to ti ts) d Γ M k := fun σ F H u S En ru Q A =>
  h σ F H S En _ fun v o F1 M1 H1 s1 S1 r1 h1 => h1 σ F1 H1 S1 (En.mono s1.ext) _ fun w i F2 M2 H2 s2 S2 r2 h2 =>
    h2 F2 H2 v w u S2 (Rp.mono s2.ext _ _ r1) r2 (Rp.mono (s1.trans s2).ext _ _ ru) (Q σ) fun F3 M3 H3 s3 S3 h3 => (A.step ((s1.trans s2).trans s3)).here S3 (En.mono ((s1.trans s2).trans s3).ext) h3
theorem sto_list {p : Addr} {ds : List D} {i : Int} {j n : Nat} {d : D} {k : Mem → Prop} (hj : M[j]? = some (p, .lst ds)) (hn : ixN ds.length i = some n) (h : k (M.set j (p, .lst (ds.set n d)))) : StoD K rSetL (.ref p) (.int i) d M k := fun F H v w u S rv rw' ru Q A => by
  cases rv; cases rw'
  obtain ⟨vs, e, r⟩ := (S.at_ hj).2
  obtain ⟨S', st⟩ := S.setC hj (o := .lst (vs.set n u)) (d := .lst (ds.set n d)) ⟨_, upd_same, Rps.set ru n r⟩
  exact ⟨p, vs, i, n, rfl, rfl, e, by rw [r.length]; exact hn, A _ _ _ st S' h⟩
/-! ### methods of lists and texts -/
theorem ty_lst {ds : List D} : TyD K "list" (.lst ds) M := fun F H v S r => by
  cases r with
  | lst a1 a2 => exact .inl ⟨rfl, _, SqL.of (S.sub _ _ a1)⟩
theorem ty_cell {p : Addr} {ds : List D} {j : Nat} (hj : M[j]? = some (p, .lst ds)) : TyD K "list" (.ref p) M := fun F H v S r => by
  cases r
  obtain ⟨vs, e, r⟩ := (S.at_ hj).2
  exact .inl ⟨rfl, _, SqL.of e⟩
theorem ty_str {x : Str} : TyD K "str" (.str x) M := fun F H v S r => by
  cases r
  exact rfl
theorem bm_append {p : Addr} {ds : List D} {j : Nat} {d : D} (hj : M[j]? = some (p, .lst ds)) (hl : ds.length < sizeLine) (k : q .non (M.set j (p, .lst (ds ++ [d])))) : BmD K rAppend (.ref p) [d] M q := fun F H v vs S rv rd Q A => by
  cases rv
  obtain ⟨u, rfl, ru⟩ := rd.one
  obtain ⟨ws, e, r⟩ := (S.at_ hj).2
  obtain ⟨S', st⟩ := S.setC hj (o := .lst (ws ++ [u])) (d := .lst (ds ++ [d])) ⟨_, upd_same, r.app (.cons ru .nil)⟩
  exact ⟨p, ws, u, rfl, rfl, e, by rw [r.length]; exact hl, A _ _ _ _ _ st S' .non k⟩
theorem bm_extend {p : Addr} {ds es : List D} {j : Nat} (hj : M[j]? = some (p, .lst ds)) (hl : ds.length + es.length ≤ sizeLine) (k : q .non (M.set j (p, .lst (ds ++ es)))) : BmD K rExtend (.ref p) [.lst es] M q := fun F H v vs S rv rd Q A => by
  cases rv
  obtain ⟨u, rfl, ru⟩ := rd.one
  cases ru with
  | lst b1 b2 =>
    obtain ⟨ws, e, r⟩ := (S.at_ hj).2
    obtain ⟨S', st⟩ := S.setC hj (o := .lst (ws ++ _)) (d := .lst (ds ++ es)) ⟨_, upd_same, r.app b2⟩
    exact ⟨p, _, ws, _, rfl, rfl, e, S.sub _ _ b1, by rw [r.length, b2.length]; exact hl, A _ _ _ _ _ st S' .non k⟩
theorem bm_index {xs : List Str} {x : Str} {j : Nat} (hj : xs[j]? = some x) (hf : ∀ m, m < j → xs[m]? ≠ some x) (k : q (.int (j : Nat)) M) : BmD K (rIndex K) (strsL xs) [.str x] M q := fun F H v vs S rv rd Q A => by
  obtain ⟨u, rfl, ru⟩ := rd.one
  cases ru
  cases rv with
  | lst a1 a2 =>
    have e := rps_strs a2
    subst e
    refine ⟨_, xs.map V.str, .str x, j, .str x, rfl, rfl, SqL.of (S.sub _ _ a1), rfl, ?_, by rw [List.getElem?_map, hj]; rfl, ?_, fun m z' hm hz => ?_, A.here S (.int _) k⟩
    · rw [List.all_map]; exact List.all_eq_true.mpr fun a _ => rfl
    · show (x == x) = true
      simp
    · rw [List.getElem?_map] at hz
      cases e2 : xs[m]? with
      | none => rw [e2] at hz; cases hz
      | some y =>
        rw [e2] at hz
        have hz : V.str y = z' := Option.some.inj hz
        subst hz
        show (y == x) = false
        have ne : y ≠ x := fun z => hf m hm (by rw [e2, z])
        simpa using ne
theorem bm_split {x y : Str} (hy : (y.length == 0) = false) (hx : x.length + 2 ≤ sizeLine) (k : q (strsL (Txt.split x y)) M) :
    BmD K (fun x xs H Q => ∃ a b, x = .str a ∧ xs = [.str b] ∧ (b.length == 0) = false ∧ a.length + 2 ≤ sizeLine ∧ rNewStrs (Txt.split a b) H Q) (.str x) [.str y] M q := fun F H v vs S rv rd Q A => by
  obtain ⟨u, rfl, ru⟩ := rd.one
  cases ru; cases rv
  exact ⟨x, y, rfl, rfl, hy, hx, new_lst S A (strs_rps _) k⟩
theorem bm_join {x : Str} {ys : List Str} {d : D} (hd : d = strsL ys ∨ d = strsT ys) (hz : (ys.map (·.length)).sum + ys.length * x.length ≤ 16777216) (k : q (.str (Txt.join x ys)) M) :
    BmD K (fun x xs H Q => ∃ a p, ∃ ys : List Str, x = .str a ∧ xs = [.ref p] ∧ (SqL K H p (ys.map V.str) ∨ SqT K H p (ys.map V.str)) ∧ (ys.map (·.length)).sum + ys.length * a.length ≤ 16777216 ∧ Q (.str (Txt.join a ys)) H) (.str x) [d] M q := fun F H v vs S rv rd Q A => by
  obtain ⟨u, rfl, ru⟩ := rd.one
  cases rv
  rcases hd with rfl | rfl
  · cases ru with
    | lst a1 a2 =>
      have e := rps_strs a2
      subst e
      exact ⟨x, _, ys, rfl, rfl, .inl (SqL.of (S.sub _ _ a1)), hz, A.here S (.str _) k⟩
  · cases ru with
    | tup a1 a2 =>
      have e := rps_strs a2
      subst e
      exact ⟨x, _, ys, rfl, rfl, .inr (seqT_mono S.sub a1), hz, A.here S (.str _) k⟩
/-! ### built-in functions -/
theorem cb_len {x : D} {n : Nat} (h : ∀ F H v, Sat K F M H → Rp K F v x → LenV K v H n) (k : q (.int (n : Nat)) M) : CbD K (fun xs H Q => ∃ x n, xs = [x] ∧ LenV K x H n ∧ Q (.int (n : Nat)) H) [x] M q := fun F H vs S r Q A => by
  obtain ⟨v, rfl, rv⟩ := r.one
  exact ⟨v, n, rfl, h F H v S rv, A.here S (.int _) k⟩
theorem len_lst {ds : List D} : ∀ F H v, Sat K F M H → Rp K F v (.lst ds) → LenV K v H ds.length := fun F H v S r => by
  cases r with
  | lst a1 a2 => exact .inl ⟨_, SqL.of (S.sub _ _ a1), a2.length.symm⟩
theorem len_scr {ds : List D} : ∀ F H v, Sat K F M H → Rp K F v (.scr ds) → LenV K v H ds.length := fun F H v S r => by
  cases r with
  | scr a1 a2 => exact .inl ⟨_, S.sub.seq a1, a2.length.symm⟩
theorem len_tup {ds : List D} : ∀ F H v, Sat K F M H → Rp K F v (.tup ds) → LenV K v H ds.length := fun F H v S r => by
  cases r with
  | tup a1 a2 => exact .inr ⟨_, seqT_mono S.sub a1, a2.length.symm⟩
theorem len_cell {ds : List D} {p : Addr} {j : Nat} (hj : M[j]? = some (p, .lst ds)) : ∀ F H v, Sat K F M H → Rp K F v (.ref p) → LenV K v H ds.length := fun F H v S r => by
  cases r
  obtain ⟨vs, e, r⟩ := (S.at_ hj).2
  exact .inl ⟨_, SqL.of e, r.length.symm⟩
theorem cb_abs {i : Int} (k : q (.int (if i < 0 then -i else i)) M) : CbD K (fun xs H Q => ∃ i, xs = [.int i] ∧ Q (.int (if i < 0 then -i else i)) H) [.int i] M q := fun F H vs S r Q A => by
  obtain ⟨v, rfl, rv⟩ := r.one
  cases rv
  exact ⟨i, rfl, A.here S (.int _) k⟩
theorem cb_int {b : Bool} (k : q (.int (if b then 1 else 0)) M) : CbD K (fun xs H Q => (∃ i, xs = [.int i] ∧ Q (.int i) H) ∨ ∃ k, xs = [.bl k] ∧ Q (.int (if k then 1 else 0)) H) [.bl b] M q := fun F H vs S r Q A => by
  obtain ⟨v, rfl, rv⟩ := r.one
  cases rv
  exact .inr ⟨b, rfl, A.here S (.int _) k⟩
theorem cb_ord {x : Str} (hx : x.length = 1) (k : q (.int (x.cps.getD 0 0 : Nat)) M) : CbD K (fun xs H Q => ∃ x, xs = [.str x] ∧ x.length = 1 ∧ Q (.int (x.cps.getD 0 0 : Nat)) H) [.str x] M q := fun F H vs S r Q A => by
  obtain ⟨v, rfl, rv⟩ := r.one
  cases rv
  exact ⟨x, rfl, hx, A.here S (.int _) k⟩
theorem cb_list {x : D} {ds : List D} (hx : x = .lst ds ∨ x = .tup ds) (k : q (.lst ds) M) : CbD K (fun xs H Q => ∃ p ys, xs = [.ref p] ∧ (SqL K H p ys ∨ SqT K H p ys) ∧ ∀ l, H l = none → Q (.ref l) (upd H l (.lst ys))) [x] M q := fun F H vs S r Q A => by
  obtain ⟨v, rfl, rv⟩ := r.one
  rcases hx with rfl | rfl
  · cases rv with
    | lst a1 a2 => exact ⟨_, _, rfl, .inl (SqL.of (S.sub _ _ a1)), new_lst S A a2 k⟩
  · cases rv with
    | tup a1 a2 => exact ⟨_, _, rfl, .inr (seqT_mono S.sub a1), new_lst S A a2 k⟩
theorem cb_tuple {ds : List D} (k : q (.tup ds) M) : CbD K (fun xs H Q => ∃ p ys, xs = [.ref p] ∧ ((SqL K H p ys ∧ ∀ l, H l = none → Q (.ref l) (upd H l (.tup ys))) ∨ (SqT K H p ys ∧ Q (.ref p) H))) [.lst ds] M q := fun F H vs S r Q A => by
  obtain ⟨v, rfl, rv⟩ := r.one
  cases rv with
  | lst a1 a2 => exact ⟨_, _, rfl, .inl ⟨SqL.of (S.sub _ _ a1), new_tup S A a2 k⟩⟩
theorem cb_isList {ds : List D} (k : q (.bl true) M) : CbD K (rIsi K) [.lst ds, .ty "list"] M q := fun F H vs S r Q A => by
  obtain ⟨v, w, rfl, rv, rw'⟩ := r.two
  cases rw'
  cases rv with
  | lst a1 a2 => exact ⟨_, .ty "list", .type "list", .type "list", true, rfl, .ty "list", .base (.lst (S.sub _ _ a1)), kit_ty (by decide +kernel), A.here S (.bl _) k⟩
theorem ev_lstRev (h : EvD K te Γ M fun d M1 => ∃ ds, d = .lst ds ∧ q (.lst ds.reverse) M1) : EvD K (tLstRev K te) Γ M q := fun σ F H S En Q A =>
  h σ F H S En _ fun v d F1 M1 H1 s1 S1 r1 h1 => by
    obtain ⟨ds, rfl, z⟩ := h1
    cases r1 with
    | lst a1 a2 => exact ⟨_, _, rfl, SqL.of (S1.sub _ _ a1), new_lst S1 (A.step s1) a2.rev z⟩
/-! ### dicts with text keys -/
theorem val_ix : ∀ {kv : List (Key × V)} {ks : List Str} {f : Str} {i : Nat} {v : V}, kv.map (·.1) = ks.map Sum.inr → ixK ks f = some i → (kv.map (·.2))[i]? = some v → valV kv (Sum.inr f) = some v
  | [], [], _, _, _, _, h, _ => by cases h
  | [], _ :: _, _, _, _, e, _, _ => by cases e
  | _ :: _, [], _, _, _, e, _, _ => by cases e
  | (g, x) :: r, y :: ks, f, i, v, e, h, hv => by
    have e1 : g = Sum.inr y ∧ r.map (·.1) = ks.map Sum.inr := by
      have e' : g :: r.map (·.1) = Sum.inr y :: ks.map Sum.inr := e
      injection e' with a b
      exact ⟨a, b⟩
    obtain ⟨rfl, e2⟩ := e1
    have h : (if y = f then some 0 else (ixK ks f).map (· + 1)) = some i := h
    by_cases hg : y = f
    · rw [if_pos hg] at h
      cases h
      have hv : some x = some v := hv
      cases hv
      subst hg
      exact valV_pos (p := (Sum.inr y, x)) rfl
    · rw [if_neg hg] at h
      obtain ⟨j, hj, rfl⟩ := Option.map_eq_some_iff.mp h
      rw [valV_neg (p := (Sum.inr y, x)) (fun z => hg (Sum.inr.inj z))]
      exact val_ix e2 hj hv
theorem val_no : ∀ {kv : List (Key × V)} {ks : List Str} {f : Str}, kv.map (·.1) = ks.map Sum.inr → ixK ks f = none → valV kv (Sum.inr f) = none
  | [], _, _, _, _ => rfl
  | _ :: _, [], _, e, _ => by cases e
  | (g, x) :: r, y :: ks, f, e, h => by
    have e1 : g = Sum.inr y ∧ r.map (·.1) = ks.map Sum.inr := by
      have e' : g :: r.map (·.1) = Sum.inr y :: ks.map Sum.inr := e
      injection e' with a b
      exact ⟨a, b⟩
    obtain ⟨rfl, e2⟩ := e1
    have h : (if y = f then some 0 else (ixK ks f).map (· + 1)) = none := h
    by_cases hg : y = f
    · rw [if_pos hg] at h; cases h
    · rw [if_neg hg] at h
      rw [valV_neg (p := (Sum.inr y, x)) (fun z => hg (Sum.inr.inj z))]
      exact val_no e2 (Option.map_eq_none_iff.mp h)
theorem map_none : ∀ {kv : List (Key × V)} {ks : List Str} {f : Str} {v : V}, kv.map (·.1) = ks.map Sum.inr → f ∉ ks → kv.map (fun p => if p.1 = Sum.inr f then (p.1, v) else p) = kv
  | [], _, _, _, _, _ => rfl
  | _ :: _, [], _, _, e, _ => by cases e
  | (g, x) :: r, y :: ks, f, v, e, h => by
    have e1 : g = Sum.inr y ∧ r.map (·.1) = ks.map Sum.inr := by
      have e' : g :: r.map (·.1) = Sum.inr y :: ks.map Sum.inr := e
      injection e' with a b
      exact ⟨a, b⟩
    obtain ⟨rfl, e2⟩ := e1
    have n1 : ¬ (Sum.inr y : Key) = Sum.inr f := fun z => h (by rw [← Sum.inr.inj z]; exact List.mem_cons_self)
    rw [List.map_cons, map_none e2 fun z => h (List.mem_cons_of_mem _ z)]
    dsimp only
    rw [if_neg n1]
theorem map_set : ∀ {kv : List (Key × V)} {ks : List Str} {f : Str} {i : Nat} {v : V}, kv.map (·.1) = ks.map Sum.inr → ks.Nodup → ixK ks f = some i →
    (kv.map (fun p => if p.1 = Sum.inr f then (p.1, v) else p)).map (·.1) = ks.map Sum.inr ∧ (kv.map (fun p => if p.1 = Sum.inr f then (p.1, v) else p)).map (·.2) = (kv.map (·.2)).set i v
  | [], [], _, _, _, _, _, h => by cases h
  | [], _ :: _, _, _, _, e, _, _ => by cases e
  | _ :: _, [], _, _, _, e, _, _ => by cases e
  | (g, x) :: r, y :: ks, f, i, v, e, n, h => by
    have e1 : g = Sum.inr y ∧ r.map (·.1) = ks.map Sum.inr := by
      have e' : g :: r.map (·.1) = Sum.inr y :: ks.map Sum.inr := e
      injection e' with a b
      exact ⟨a, b⟩
    obtain ⟨rfl, e2⟩ := e1
    obtain ⟨n1, n2⟩ := List.nodup_cons.mp n
    have h : (if y = f then some 0 else (ixK ks f).map (· + 1)) = some i := h
    by_cases hg : y = f
    · rw [if_pos hg] at h
      cases h
      subst hg
      rw [List.map_cons, map_none e2 n1]
      dsimp only
      rw [if_pos rfl]
      exact ⟨congrArg (Sum.inr y :: ·) e2, rfl⟩
    · rw [if_neg hg] at h
      obtain ⟨j, hj, rfl⟩ := Option.map_eq_some_iff.mp h
      obtain ⟨g1, g2⟩ := map_set (v := v) e2 n2 hj
      rw [List.map_cons]
      dsimp only
      rw [if_neg (fun z => hg (Sum.inr.inj z))]
      exact ⟨congrArg (Sum.inr y :: ·) g1, congrArg (x :: ·) g2⟩
def DgD (K : PySem.W.Frag) (x y : D) (M : Mem) (q : D → Mem → Prop) : Prop := ∀ F H v w, Sat K F M H → Rp K F v x → Rp K F w y → ∀ Q, Acc K F M H Q q → ∃ a u, v = .ref a ∧ DGet H a w (some u) ∧ Q u H
theorem ev_dget (h : EvD K td Γ M fun x M1 => EvD K ty Γ M1 fun y M2 => DgD K x y M2 q) : EvD K (tDGet td ty) Γ M q := fun σ F H S En Q A =>
  h σ F H S En _ fun v x F1 M1 H1 s1 S1 r1 h1 => h1 σ F1 H1 S1 (En.mono s1.ext) _ fun w y F2 M2 H2 s2 S2 r2 h2 => h2 F2 H2 v w S2 (Rp.mono s2.ext _ _ r1) r2 Q (A.step (s1.trans s2))
theorem dg_dic {ks : List Str} {ds : List D} {f : Str} {i : Nat} {d : D} (hi : ixK ks f = some i) (hd : ds[i]? = some d) (k : q d M) : DgD K (.dic ks ds) (.str f) M q := fun F H v w S rx ry Q A => by
  cases ry
  cases rx with
  | dic a1 a2 a3 =>
    obtain ⟨u, hu, ru⟩ := a3.get hd
    refine ⟨_, u, rfl, ?_, A.here S ru k⟩
    rw [← val_ix a2 hi hu]
    exact DGet.k (k := Sum.inr f) (S.sub _ _ a1)
theorem dg_cell {p : Addr} {j : Nat} {ks : List Str} {ds : List D} {f : Str} {i : Nat} {d : D} (hj : M[j]? = some (p, .dic ks ds)) (hi : ixK ks f = some i) (hd : ds[i]? = some d) (k : q d M) : DgD K (.ref p) (.str f) M q := fun F H v w S rx ry Q A => by
  cases ry
  cases rx
  obtain ⟨kv, a1, a2, a3⟩ := (S.at_ hj).2
  obtain ⟨u, hu, ru⟩ := a3.get hd
  refine ⟨_, u, rfl, ?_, A.here S ru k⟩
  rw [← val_ix a2 hi hu]
  exact DGet.k (k := Sum.inr f) a1
def DpD (K : PySem.W.Frag) (x y d : D) (M : Mem) (k : Mem → Prop) : Prop := ∀ F H v w u, Sat K F M H → Rp K F v x → Rp K F w y → Rp K F u d → ∀ Q : Hp → Prop, (∀ F' M' H', Step F M H F' M' H' → Sat K F' M' H' → k M' → Q H') → ∃ a H4, v = .ref a ∧ DPut H a w u H4 ∧ Q H4
theorem sd_dput (h : EvD K tv Γ M fun d M1 => EvD K td Γ M1 fun x M2 => EvD K ty Γ M2 fun y M3 => DpD K x y d M3 fun M4 => DD.nx Γ M4) : StD K W (sDPut td ty tv) Γ M DD := fun σ F H S En E R =>
  h σ F H S En _ fun u d F1 M1 H1 s1 S1 r1 h1 => h1 σ F1 H1 S1 (En.mono s1.ext) _ fun v x F2 M2 H2 s2 S2 r2 h2 => h2 σ F2 H2 S2 (En.mono (s1.trans s2).ext) _ fun w y F3 M3 H3 s3 S3 r3 h3 =>
    h3 F3 H3 v w u S3 (Rp.mono s3.ext _ _ r2) r3 (Rp.mono (s2.trans s3).ext _ _ r1) (E.nx σ) fun F4 M4 H4 s4 S4 h4 => (R.step (((s1.trans s2).trans s3).trans s4)).nx.here S4 (En.mono (((s1.trans s2).trans s3).trans s4).ext) h4
theorem dp_old {p : Addr} {j : Nat} {ks : List Str} {ds : List D} {f : Str} {i : Nat} {d : D} {k : Mem → Prop} (hj : M[j]? = some (p, .dic ks ds)) (hn : ks.Nodup) (hi : ixK ks f = some i) (hl : ks.length < sizeLine) (h : k (M.set j (p, .dic ks (ds.set i d)))) : DpD K (.ref p) (.str f) d M k := fun F H v w u S rx ry ru Q A => by
  cases ry; cases rx
  obtain ⟨kv, a1, a2, a3⟩ := (S.at_ hj).2
  have hk : kv.length = ks.length := by have := congrArg List.length a2; simpa using this
  have e : putK kv (Sum.inr f) u = kv.map (fun p => if p.1 = Sum.inr f then (p.1, u) else p) := by
    obtain ⟨g1, g2⟩ := map_set (v := u) a2 hn hi
    have hlt : i < (kv.map (·.2)).length := by
      have : ∀ {ks : List Str} {i : Nat}, ixK ks f = some i → i < ks.length := by
        intro ks
        induction ks with
        | nil => intro i h; cases h
        | cons y r ih =>
          intro i h
          have h : (if y = f then some 0 else (ixK r f).map (· + 1)) = some i := h
          by_cases hg : y = f
          · rw [if_pos hg] at h; cases h; exact Nat.succ_pos _
          · rw [if_neg hg] at h
            obtain ⟨j, hj, rfl⟩ := Option.map_eq_some_iff.mp h
            exact Nat.succ_lt_succ (ih hj)
      rw [List.length_map, hk]
      exact this hi
    have hv := val_ix a2 hi (List.getElem?_eq_getElem hlt)
    unfold putK
    rw [valV_any, hv]
    exact if_pos rfl
  obtain ⟨g1, g2⟩ := map_set (v := u) a2 hn hi
  obtain ⟨S', st⟩ := S.setC hj (o := .dK (putK kv (Sum.inr f) u)) (d := .dic ks (ds.set i d)) ⟨_, upd_same, by rw [e]; exact g1, by rw [e, g2]; exact Rps.set ru i a3⟩
  exact ⟨p, _, rfl, DPut.k (k := Sum.inr f) a1 (by omega), A _ _ _ st S' h⟩
theorem dp_new {p : Addr} {j : Nat} {ks : List Str} {ds : List D} {f : Str} {d : D} {k : Mem → Prop} (hj : M[j]? = some (p, .dic ks ds)) (hi : ixK ks f = none) (hl : ks.length < sizeLine) (h : k (M.set j (p, .dic (ks ++ [f]) (ds ++ [d])))) : DpD K (.ref p) (.str f) d M k := fun F H v w u S rx ry ru Q A => by
  cases ry; cases rx
  obtain ⟨kv, a1, a2, a3⟩ := (S.at_ hj).2
  have hk : kv.length = ks.length := by have := congrArg List.length a2; simpa using this
  have e : putK kv (Sum.inr f) u = kv ++ [(Sum.inr f, u)] := putK_new u (val_no a2 hi)
  obtain ⟨S', st⟩ := S.setC hj (o := .dK (putK kv (Sum.inr f) u)) (d := .dic (ks ++ [f]) (ds ++ [d])) ⟨_, upd_same, by rw [e, List.map_append, List.map_append, a2] <;> rfl, by rw [e, List.map_append]; exact a3.app (.cons ru .nil)⟩
  exact ⟨p, _, rfl, DPut.k (k := Sum.inr f) a1 (by omega), A _ _ _ st S' h⟩
/-! {'a': x, ..}: each value in turn, the dict empty meanwhile -/
def EvP (K : PySem.W.Frag) (trs : List (TE × TE)) (Γ : Gm) (M : Mem) (q : List Str → List D → Mem → Prop) : Prop := ∀ σ F H, Sat K F M H → EnvOk K F σ Γ → ∀ Q : List (V × V) → Hp → Prop,
  (∀ (kv : List (Key × V)) ks ds F' M' H', Step F M H F' M' H' → Sat K F' M' H' → kv.map (·.1) = ks.map Sum.inr → Rps K F' (kv.map (·.2)) ds → q ks ds M' → Q (kv.map fun p => (kV p.1, p.2)) H') → tPairs trs σ H Q
theorem ep_nil {q : List Str → List D → Mem → Prop} (k : q [] [] M) : EvP K [] Γ M q := fun σ F H S En Q A => A [] [] [] F M H (Step.refl F M H) S rfl .nil k
theorem ep_cons {f : Str} {r : List (TE × TE)} {q : List Str → List D → Mem → Prop} (h : EvD K tv Γ M fun d M1 => EvP K r Γ M1 fun ks ds M2 => q (f :: ks) (d :: ds) M2) : EvP K ((tC (.str f), tv) :: r) Γ M q := fun σ F H S En Q A =>
  h σ F H S En _ fun v d F1 M1 H1 s1 S1 r1 h1 => h1 σ F1 H1 S1 (En.mono s1.ext) _ fun kv ks ds F2 M2 H2 s2 S2 e2 r2 h2 =>
    A ((Sum.inr f, v) :: kv) (f :: ks) (d :: ds) F2 M2 H2 (s1.trans s2) S2 (congrArg (Sum.inr f :: ·) e2) (.cons (Rp.mono s2.ext _ _ r1) r2) h2
theorem merge_self : ∀ (kv acc : List (Key × V)), (∀ p ∈ kv, p.1 ∉ acc.map (·.1)) → (kv.map (·.1)).Nodup → mergeK acc kv = acc ++ kv
  | [], acc, _, _ => by show acc = acc ++ []; rw [List.append_nil]
  | p :: r, acc, h, n => by
    show mergeK (putK acc p.1 p.2) r = acc ++ p :: r
    obtain ⟨n1, n2⟩ := List.nodup_cons.mp n
    have e : putK acc p.1 p.2 = acc ++ [p] := by
      have hv : valV acc p.1 = none := by
        cases q : valV acc p.1 with
        | none => rfl
        | some v => exact absurd (valV_in q) (h p List.mem_cons_self)
      rw [putK_new p.2 hv]
    rw [e, merge_self r (acc ++ [p]) (fun x hx hm => ?_) n2, List.append_assoc] <;> try rfl
    rw [List.map_append] at hm
    rcases List.mem_append.mp hm with z | z
    · exact h x (List.mem_cons_of_mem _ hx) z
    · have z : x.1 = p.1 := by simpa using z
      exact n1 (List.mem_map.mpr ⟨x, hx, z⟩)
theorem ev_disp {trs : List (TE × TE)} (h : ∀ p, p ∉ dom M → EvP K trs Γ ((p, .dic [] []) :: M) fun ks ds M1 => ks.Nodup ∧ ks.length ≤ 15 ∧ ∃ j, M1[j]? = some (p, .dic [] []) ∧ q (.ref p) (M1.set j (p, .dic ks ds))) : EvD K (tDisp trs) Γ M q := fun σ F H S En Q A p hp => by
  obtain ⟨S0, s0⟩ := S.newC hp (o := .dK []) (d := .dic [] []) ⟨[], upd_same, rfl, .nil⟩
  refine h p (S.nodom hp) σ F _ S0 En _ fun kv ks ds F1 M1 H1 s1 S1 e1 r1 h1 => ?_
  obtain ⟨hn, hl, j, hj, k⟩ := h1
  obtain ⟨kv0, c1, c2, c3⟩ := (S1.at_ hj).2
  have z : kv0 = [] := by simpa using c2
  subst z
  have hk : kv.length = ks.length := by have := congrArg List.length e1; simpa using this
  have nk : (kv.map (·.1)).Nodup := by
    rw [e1]
    have : ∀ {l : List Str}, l.Nodup → (l.map (Sum.inr : Str → Key)).Nodup := by
      intro l
      induction l with
      | nil => intro _; exact List.nodup_nil
      | cons y r ih =>
        intro n
        obtain ⟨n1, n2⟩ := List.nodup_cons.mp n
        refine List.nodup_cons.mpr ⟨fun hm => ?_, ih n2⟩
        obtain ⟨w, hw, e⟩ := List.mem_map.mp hm
        exact n1 (by rw [← Sum.inr.inj e]; exact hw)
    exact this hn
  have em : mergeK [] kv = kv := by rw [merge_self kv [] (fun _ _ hm => by cases hm) nk, List.nil_append]
  refine ⟨c1, kv, rfl, by omega, ?_⟩
  rw [em]
  obtain ⟨S2, s2⟩ := S1.setC hj (o := .dK kv) (d := .dic ks ds) ⟨kv, upd_same, e1, r1⟩
  exact A _ _ _ _ _ ((s0.trans s1).trans s2) S2 (.ref p) k
/-! ### f-texts -/
def EvJ (K : PySem.W.Frag) (ts : List TE) (acc : Str) (Γ : Gm) (M : Mem) (q : Str → Mem → Prop) : Prop := ∀ σ F H, Sat K F M H → EnvOk K F σ Γ → ∀ Q : Str → Hp → Prop, (∀ x F' M' H', Step F M H F' M' H' → Sat K F' M' H' → q x M' → Q x H') → tJs ts acc σ H Q
theorem ej_nil {acc : Str} {q : Str → Mem → Prop} (k : q acc M) : EvJ K [] acc Γ M q := fun σ F H S En Q A => A acc F M H (Step.refl F M H) S k
theorem ej_cons {acc : Str} {ts : List TE} {q : Str → Mem → Prop} (h : EvD K te Γ M fun d M1 => ∃ y, d = .str y ∧ (acc ++ y).length ≤ sizeLine ∧ EvJ K ts (acc ++ y) Γ M1 q) : EvJ K (te :: ts) acc Γ M q := fun σ F H S En Q A =>
  h σ F H S En _ fun v d F1 M1 H1 s1 S1 r1 h1 => by
    obtain ⟨y, rfl, hl, z⟩ := h1
    cases r1
    exact ⟨y, rfl, hl, z σ F1 H1 S1 (En.mono s1.ext) Q fun x F2 M2 H2 s2 S2 h2 => A x F2 M2 H2 (s1.trans s2) S2 h2⟩
theorem ev_js {ts : List TE} (h : EvJ K ts Str.empty Γ M fun x M1 => q (.str x) M1) : EvD K (fun σ H Q => tJs ts Str.empty σ H fun out H1 => Q (.str out) H1) Γ M q := fun σ F H S En Q A =>
  h σ F H S En _ fun x F1 M1 H1 s1 S1 h1 => A _ _ _ _ _ s1 S1 (.str x) h1
theorem ev_fmt (h : EvD K te Γ M fun d M1 => ∃ y, d = .str y ∧ y.length ≤ sizeLine ∧ q (.str y) M1) : EvD K (tFmt te) Γ M q := fun σ F H S En Q A =>
  h σ F H S En _ fun v d F1 M1 H1 s1 S1 r1 h1 => by
    obtain ⟨y, rfl, hl, z⟩ := h1
    cases r1
    exact .inl ⟨y, rfl, hl, (A.step s1).here S1 (.str y) z⟩
end

/-! ### a def's body -/
def startD (N : List Str) (ds : List D) : Gm := ds.map some ++ List.replicate (N.length - ds.length) none
theorem env_start {K : PySem.W.Frag} {F : Hp} {N : List Str} {vs : List V} {ds : List D} (r : Rps K F vs ds) : EnvOk K F (L2.start N vs) (startD N ds) := by
  unfold L2.start startD
  have hl := r.length
  refine ⟨by simp [hl], fun i d h => ?_⟩
  by_cases hi : i < ds.length
  · rw [List.getElem?_append_left (by simpa using hi), List.getElem?_map] at h
    rw [List.getElem?_append_left (by simpa [hl] using hi), List.getElem?_map]
    cases e : ds[i]? with
    | none => rw [e] at h; cases h
    | some d' =>
      rw [e] at h
      have h : d' = d := Option.some.inj (Option.some.inj h)
      subst h
      obtain ⟨v, hv, rv⟩ := r.get e
      exact ⟨v, by rw [hv] <;> rfl, rv⟩
  · rw [List.getElem?_append_right (by simpa using hi)] at h
    rw [List.getElem?_replicate] at h
    split at h <;> cases h
abbrev W0 : WX := fun _ _ _ _ => False
section
variable {P : Program} {w : World} {K : PySem.W.Frag} {mg : Str → Option Value} {base : Heap} {x qual : Str} {params : Arguments} {body : List Stmt} {scope : Scope} {dvs : List V} {kws : List (Str × V)} {f : Addr} {fd : FuncData} {N ps : List Str} {k : Nat} {R : SpR}
/-- a def that no exception leaves -/
theorem body0 (F : FunD K x qual params body scope dvs kws f fd) (S : FnScope N ps scope) (len : ∀ ds M q ex, R ds M q ex → ds.length = ps.length)
    (h : ∀ (cdv : Value) (A : Around) (outer : List Env) (s : Shared) (H : Hp) (E : XK), Room k (A.deeper (envOfC qual scope s.heap.objs.size f cdv)) →
      ∃ t, PSs (cxOf CX0 P w K mg base N qual scope f cdv A outer s H E).nox body t ∧ ∀ ds M q ex, R ds M q ex → StD K W0 t (startD N ds) M { nx := fun _ M' => q .non M', rt := q }) : FnOk P w K mg base CX0 (k + 1) f fd ps (SpD K R) := by
  refine F.ok S (fun vs H Q E hs => ?_) fun cdv A outer s H vs Q E hr hs => ?_
  · obtain ⟨F0, M, ds, q, ex, _, r, hR, _⟩ := hs
    rw [r.length]; exact len _ _ _ _ hR
  · obtain ⟨t, ht, hd⟩ := h cdv A outer s H E hr
    refine ⟨t, ht.nox, ?_⟩
    obtain ⟨F0, M, ds, q, ex, S0, r, hR, Aq, _⟩ := hs
    refine hd ds M q ex hR _ F0 H S0 (env_start r) _ ⟨fun σ' Γ' F' M' H' st S' e z => Aq _ _ _ _ _ st S' .non z, Aq, fun _ _ _ _ _ _ _ _ z => z.elim, fun _ _ _ _ _ _ _ _ z => z.elim, fun _ _ _ _ _ _ _ _ _ z => z.elim⟩
/-- a def that may raise -/
theorem bodyX (F : FunD K x qual params body scope dvs kws f fd) (S : FnScope N ps scope) (len : ∀ ds M q ex, R ds M q ex → ds.length = ps.length)
    (h : ∀ (cdv : Value) (A : Around) (outer : List Env) (s : Shared) (H : Hp) (E : XK), Room k (A.deeper (envOfC qual scope s.heap.objs.size f cdv)) →
      ∃ t, PSs (cxOf (L2.CX P w) P w K mg base N qual scope f cdv A outer s H E) body t ∧ ∀ ds M q ex, R ds M q ex → StD K (fun cls d _ H' => E cls d H') t (startD N ds) M { nx := fun _ M' => q .non M', rt := q, ex := fun _ c M' => ex c M' }) : FnOk P w K mg base (L2.CX P w) (k + 1) f fd ps (SpD K R) := by
  refine F.ok S (fun vs H Q E hs => ?_) fun cdv A outer s H vs Q E hr hs => ?_
  · obtain ⟨F0, M, ds, q, ex, _, r, hR, _⟩ := hs
    rw [r.length]; exact len _ _ _ _ hR
  · obtain ⟨t, ht, hd⟩ := h cdv A outer s H E hr
    refine ⟨t, ht, ?_⟩
    obtain ⟨F0, M, ds, q, ex, S0, r, hR, Aq, Ax⟩ := hs
    refine hd ds M q ex hR _ F0 H S0 (env_start r) _ ⟨fun σ' Γ' F' M' H' st S' e z => Aq _ _ _ _ _ st S' .non z, Aq, fun _ _ _ _ _ _ _ _ z => z.elim, fun _ _ _ _ _ _ _ _ z => z.elim, fun _ _ cls F' M' H' st S' _ z => Ax cls F' M' H' st S' z⟩
end

/-! ### what stands behind the top: a def, a method, a class that is made -/
section
variable (P : Program) (w : World) (K : PySem.W.Frag) (mg : Str → Option Value) (base : Heap)
structure Fn (C : CXT) (x : Str) (k : Nat) (ps : List Str) (R : SpR) : Prop where
  ok : ∃ fd, FnOk P w K mg base C k (He.ga K x) fd ps (SpD K R) ∧ Binds K fd ps []
  kp : PySem.W.keepIn K (.ref (He.ga K x)) = true
  gl : mg x = some (.ref (He.ga K x))
structure Me (C : CXT) (c m : Str) (k : Nat) (ps : List Str) (R : SpR) : Prop where
  ok : ∃ fd, FnOk P w K mg base C k (He.ma K (He.ga K c) m) fd ps (SpD K R) ∧ Binds K fd ps []
  me : Meth K (He.ga K c) m (He.ma K (He.ga K c) m)
  cl : Cls K (He.ga K c)
structure Ma (C : CXT) (c : Str) (k : Nat) (ps : List Str) (R : SpR) : Prop where
  ok : ∃ fd, FnOk P w K mg base C k (He.ma K (He.ga K c) "__init__") fd ps (SpD K R) ∧ Binds K fd ps []
  mkr : Mk K (He.ga K c) (He.ma K (He.ga K c) "__init__")
  gl : mg c = some (.ref (He.ga K c))
/-- f(a, .., k = v) with the keyword-only parameters ks, all given -/
structure Fk (C : CXT) (x : Str) (k n : Nat) (ps ks : List Str) (R : SpR) : Prop where
  ok : ∃ fd, FnOk P w K mg base C k (He.ga K x) fd ps (SpD K R) ∧ KBn K fd ps n ks (fun us ws => us ++ ws) (fun vs zs => vs ++ zs)
  kp : PySem.W.keepIn K (.ref (He.ga K x)) = true
  gl : mg x = some (.ref (He.ga K x))
end
theorem rps_cat {K : PySem.W.Frag} {F : Hp} {vs zs : List V} {ds es : List D} (a : Rps K F vs ds) (b : Rps K F zs es) : Rps K F (vs ++ zs) (ds ++ es) := a.app b
section
variable {X : Cx} {k j n : Nat} {ps ks : List Str} {R : SpR} {x c m : Str} {p pos apos : Pos} {e o : Expr} {es : List Expr} {kws : List Keyword} {ta : TE} {t tk : TA}
theorem pe_fn (h : Fn X.prog X.w X.K X.mg X.base CX0 x k ps R) (hr : Room j X.A) (hk : k ≤ j) (hg : Gl X x) (ha : PA X (e :: es) t)
    (hdb : (x == ("__debug__" : Str)) = false := by decide) (he : starEach (e :: es) X.env = (false, eval e X.env) :: starEach es X.env := by rfl) (hpl : (backTo pos (starEach es X.env)).any (·.1) = false := by rfl) :
    PE X (.Call (.Name x p) (e :: es) [] pos) (tCall (SpD X.K R) [] E0 t) := by
  obtain ⟨⟨fd, F, b⟩, kp, gl⟩ := h
  exact pe_call F (hr.mono hk) hg gl kp b .nil pass0 ha hdb he hpl
theorem pe_fk (h : Fk X.prog X.w X.K X.mg X.base CX0 x k n ps ks R) (hr : Room j X.A) (hk : k ≤ j) (hg : Gl X x) (ha : PA X (e :: es) t) (hkw : PK X kws tk)
    (hall : (backToKw pos (keywordEach kws X.env)).all (·.1.isSome) = true := by rfl) (hks : (backToKw pos (keywordEach kws X.env)).filterMap (·.1) = ks := by rfl)
    (hdb : (x == ("__debug__" : Str)) = false := by decide) (he : starEach (e :: es) X.env = (false, eval e X.env) :: starEach es X.env := by rfl)
    (hpl : ((backTo pos (starEach (e :: es) X.env)).any (·.1) || (backToKw pos (keywordEach kws X.env)).any (·.1.isNone)) = false := by rfl) :
    PE X (.Call (.Name x p) (e :: es) kws pos) (tCallN n ks.length (SpD X.K R) (fun vs zs => vs ++ zs) E0 t tk) := by
  obtain ⟨⟨fd, F, b⟩, kp, gl⟩ := h
  exact pe_callN F (hr.mono hk) hg gl kp b pass0 ha hkw hall hks hdb he hpl
theorem pe_me {pl : Sem Bool} (h : Me X.prog X.w X.K X.mg X.base CX0 c m k ps R) (hr : Room j X.A) (hk : k ≤ j) (he : PE X o ta) (ha : PA X (e :: es) t)
    (hst : starEach (e :: es) X.env = (false, eval e X.env) :: starEach es X.env := by rfl) (hpl : (backTo pos (starEach es X.env)).any (·.1) = false := by rfl)
    (ht : eval (.Call (.Attribute o m apos) (e :: es) [] pos) X.env = (do
      let ov ← eval o X.env
      standAt apos.atName
      let (f, first) ← holding [ov] (getMethod ov m pl)
      callWith pos f first (backTo pos (starEach (e :: es) X.env)) (backToKw pos (keywordEach [] X.env))) := by rfl) :
    PE X (.Call (.Attribute o m apos) (e :: es) [] pos) (tMeth (He.ga X.K c) m (SpD X.K R) [] E0 ta t) := by
  obtain ⟨⟨fd, F, b⟩, me, cl⟩ := h
  exact pe_meth he cl me F (hr.mono hk) b .nil pass0 ha hst hpl ht
theorem pe_me0 {pl : Sem Bool} (h : Me X.prog X.w X.K X.mg X.base CX0 c m k ps R) (hr : Room j X.A) (hk : k ≤ j) (he : PE X o ta)
    (ht : eval (.Call (.Attribute o m apos) [] [] pos) X.env = (do
      let ov ← eval o X.env
      standAt apos.atName
      let (f, first) ← holding [ov] (getMethod ov m pl)
      callWith pos f first (backTo pos (starEach [] X.env)) (backToKw pos (keywordEach [] X.env))) := by rfl) :
    PE X (.Call (.Attribute o m apos) [] [] pos) (tMeth (He.ga X.K c) m (SpD X.K R) [] E0 ta tNil) := by
  obtain ⟨⟨fd, F, b⟩, me, cl⟩ := h
  exact pe_meth0 he cl me F (hr.mono hk) b .nil pass0 ht
theorem pe_ma (h : Ma X.prog X.w X.K X.mg X.base CX0 c k ps R) (hr : Room j X.A) (hk : k + 1 ≤ j) (hg : Gl X c) (ha : PA X (e :: es) t)
    (hdb : (c == ("__debug__" : Str)) = false := by decide) (he : starEach (e :: es) X.env = (false, eval e X.env) :: starEach es X.env := by rfl) (hpl : (backTo pos (starEach es X.env)).any (·.1) = false := by rfl) :
    PE X (.Call (.Name c p) (e :: es) [] pos) (tMake (He.ga X.K c) (SpD X.K R) [] E0 t) := by
  obtain ⟨⟨fd, F, b⟩, mk, gl⟩ := h
  exact pe_make mk F (hr.mono hk) hg gl b .nil pass0 ha hdb he hpl
theorem pe_ma0 (h : Ma X.prog X.w X.K X.mg X.base CX0 c k ps R) (hr : Room j X.A) (hk : k + 1 ≤ j) (hg : Gl X c) (hdb : (c == ("__debug__" : Str)) = false := by decide) :
    PE X (.Call (.Name c p) [] [] pos) (tMake (He.ga X.K c) (SpD X.K R) [] E0 tNil) := by
  obtain ⟨⟨fd, F, b⟩, mk, gl⟩ := h
  exact pe_make0 mk F (hr.mono hk) hg gl b .nil pass0 hdb
end
/-! ### the text by places -/
def top (i : Nat) : Stmt := PySem.Challenge.pw_hushlink_k85_whole_any_pattern_agrees.main.body.getD i (.Pass ⟨0, 0, 0, 0⟩)
abbrev s_Pattern___init__ : Stmt := inClass (top 13) 0
abbrev N_Pattern___init__ : List Str := ["self", "name", "before", "messages"]
def d_Pattern___init__ : He.DefD := { at_ := ("Pattern", some "__init__"), name := "__init__", qual := "Pattern.__init__", params := defArgs s_Pattern___init__, body := defBody s_Pattern___init__, scope := defScope s_Pattern___init__ }
abbrev s_parse_line : Stmt := top 14
abbrev N_parse_line : List Str := ["line", "sender", "tokens", "token"]
def d_parse_line : He.DefD := { at_ := ("parse_line", none), name := "parse_line", qual := "parse_line", params := defArgs s_parse_line, body := defBody s_parse_line, scope := defScope s_parse_line }
abbrev s_parse_before : Stmt := top 15
abbrev N_parse_before : List Str := ["lines", "opener", "answerer", "seen", "line", "sender", "tokens"]
def d_parse_before : He.DefD := { at_ := ("parse_before", none), name := "parse_before", qual := "parse_before", params := defArgs s_parse_before, body := defBody s_parse_before, scope := defScope s_parse_before }
abbrev s_parse_messages : Stmt := top 16
abbrev N_parse_messages : List Str := ["lines", "messages", "last", "sender", "tokens", "line"]
def d_parse_messages : He.DefD := { at_ := ("parse_messages", none), name := "parse_messages", qual := "parse_messages", params := defArgs s_parse_messages, body := defBody s_parse_messages, scope := defScope s_parse_messages }
abbrev s_parse_pattern : Stmt := top 17
abbrev N_parse_pattern : List Str := ["text", "lines", "before", "at"]
def d_parse_pattern : He.DefD := { at_ := ("parse_pattern", none), name := "parse_pattern", qual := "parse_pattern", params := defArgs s_parse_pattern, body := defBody s_parse_pattern, scope := defScope s_parse_pattern }
abbrev s_transport_senders : Stmt := top 20
abbrev N_transport_senders : List Str := ["pattern"]
def d_transport_senders : He.DefD := { at_ := ("transport_senders", none), name := "transport_senders", qual := "transport_senders", params := defArgs s_transport_senders, body := defBody s_transport_senders, scope := defScope s_transport_senders }
abbrev s_pattern_steps : Stmt := top 21
abbrev N_pattern_steps : List Str := ["pattern", "steps", "end", "tokens", "token", "mixed"]
def d_pattern_steps : He.DefD := { at_ := ("pattern_steps", none), name := "pattern_steps", qual := "pattern_steps", params := defArgs s_pattern_steps, body := defBody s_pattern_steps, scope := defScope s_pattern_steps }
abbrev s_repeats_key : Stmt := top 22
abbrev N_repeats_key : List Str := ["steps", "seen", "kind", "end", "token"]
def d_repeats_key : He.DefD := { at_ := ("repeats_key", none), name := "repeats_key", qual := "repeats_key", params := defArgs s_repeats_key, body := defBody s_repeats_key, scope := defScope s_repeats_key }
abbrev s_repeats_secret : Stmt := top 23
abbrev N_repeats_secret : List Str := ["steps", "seen", "kind", "_", "token"]
def d_repeats_secret : He.DefD := { at_ := ("repeats_secret", none), name := "repeats_secret", qual := "repeats_secret", params := defArgs s_repeats_secret, body := defBody s_repeats_secret, scope := defScope s_repeats_secret }
abbrev s_misses_key : Stmt := top 24
abbrev N_misses_key : List Str := ["steps", "sent", "kind", "end", "token"]
def d_misses_key : He.DefD := { at_ := ("misses_key", none), name := "misses_key", qual := "misses_key", params := defArgs s_misses_key, body := defBody s_misses_key, scope := defScope s_misses_key }
abbrev s_misses_ephemeral : Stmt := top 25
abbrev N_misses_ephemeral : List Str := ["steps", "mixed", "kind", "end", "token", "own", "both"]
def d_misses_ephemeral : He.DefD := { at_ := ("misses_ephemeral", none), name := "misses_ephemeral", qual := "misses_ephemeral", params := defArgs s_misses_ephemeral, body := defBody s_misses_ephemeral, scope := defScope s_misses_ephemeral }
abbrev s_misplaces_psk : Stmt := top 26
abbrev N_misplaces_psk : List Str := ["pattern", "at", "_", "tokens", "inner"]
def d_misplaces_psk : He.DefD := { at_ := ("misplaces_psk", none), name := "misplaces_psk", qual := "misplaces_psk", params := defArgs s_misplaces_psk, body := defBody s_misplaces_psk, scope := defScope s_misplaces_psk }
abbrev s_psk_without_key : Stmt := top 27
abbrev N_psk_without_key : List Str := ["steps", "sent", "psk", "kind", "end", "token"]
def d_psk_without_key : He.DefD := { at_ := ("psk_without_key", none), name := "psk_without_key", qual := "psk_without_key", params := defArgs s_psk_without_key, body := defBody s_psk_without_key, scope := defScope s_psk_without_key }
abbrev s_broken_rule : Stmt := top 28
abbrev N_broken_rule : List Str := ["pattern", "steps"]
def d_broken_rule : He.DefD := { at_ := ("broken_rule", none), name := "broken_rule", qual := "broken_rule", params := defArgs s_broken_rule, body := defBody s_broken_rule, scope := defScope s_broken_rule }
abbrev s_sends_secret : Stmt := top 29
abbrev N_sends_secret : List Str := ["pattern", "opener", "end", "sender", "tokens"]
def d_sends_secret : He.DefD := { at_ := ("sends_secret", none), name := "sends_secret", qual := "sends_secret", params := defArgs s_sends_secret, body := defBody s_sends_secret, scope := defScope s_sends_secret }
abbrev s_needs_secret : Stmt := top 30
abbrev N_needs_secret : List Str := ["pattern", "opener", "before"]
def d_needs_secret : He.DefD := { at_ := ("needs_secret", none), name := "needs_secret", qual := "needs_secret", params := defArgs s_needs_secret, body := defBody s_needs_secret, scope := defScope s_needs_secret }
abbrev s_needs_peer : Stmt := top 31
abbrev N_needs_peer : List Str := ["pattern", "opener", "before"]
def d_needs_peer : He.DefD := { at_ := ("needs_peer", none), name := "needs_peer", qual := "needs_peer", params := defArgs s_needs_peer, body := defBody s_needs_peer, scope := defScope s_needs_peer }
abbrev s_uses_psk : Stmt := top 32
abbrev N_uses_psk : List Str := ["pattern", "_", "tokens"]
def d_uses_psk : He.DefD := { at_ := ("uses_psk", none), name := "uses_psk", qual := "uses_psk", params := defArgs s_uses_psk, body := defBody s_uses_psk, scope := defScope s_uses_psk }
abbrev s_to_little : Stmt := top 34
abbrev N_to_little : List Str := ["number", "size", "data", "_"]
def d_to_little : He.DefD := { at_ := ("to_little", none), name := "to_little", qual := "to_little", params := defArgs s_to_little, body := defBody s_to_little, scope := defScope s_to_little }
abbrev s_to_big : Stmt := top 35
abbrev N_to_big : List Str := ["number", "size"]
def d_to_big : He.DefD := { at_ := ("to_big", none), name := "to_big", qual := "to_big", params := defArgs s_to_big, body := defBody s_to_big, scope := defScope s_to_big }
abbrev s_from_big : Stmt := top 36
abbrev N_from_big : List Str := ["data", "number", "byte"]
def d_from_big : He.DefD := { at_ := ("from_big", none), name := "from_big", qual := "from_big", params := defArgs s_from_big, body := defBody s_from_big, scope := defScope s_from_big }
abbrev s_from_little : Stmt := top 37
abbrev N_from_little : List Str := ["data"]
def d_from_little : He.DefD := { at_ := ("from_little", none), name := "from_little", qual := "from_little", params := defArgs s_from_little, body := defBody s_from_little, scope := defScope s_from_little }
abbrev s_cut : Stmt := top 38
abbrev N_cut : List Str := ["data", "size", "at"]
def d_cut : He.DefD := { at_ := ("cut", none), name := "cut", qual := "cut", params := defArgs s_cut, body := defBody s_cut, scope := defScope s_cut }
abbrev s_combine : Stmt := top 39
abbrev N_combine : List Str := ["first", "second", "one", "other"]
def d_combine : He.DefD := { at_ := ("combine", none), name := "combine", qual := "combine", params := defArgs s_combine, body := defBody s_combine, scope := defScope s_combine }
abbrev s_small_power : Stmt := top 50
abbrev N_small_power : List Str := ["base", "exponent", "result"]
def d_small_power : He.DefD := { at_ := ("small_power", none), name := "small_power", qual := "small_power", params := defArgs s_small_power, body := defBody s_small_power, scope := defScope s_small_power }
abbrev s_small_exponent : Stmt := top 51
abbrev N_small_exponent : List Str := ["secret"]
def d_small_exponent : He.DefD := { at_ := ("small_exponent", none), name := "small_exponent", qual := "small_exponent", params := defArgs s_small_exponent, body := defBody s_small_exponent, scope := defScope s_small_exponent }
abbrev s_small_mix : Stmt := top 52
abbrev N_small_mix : List Str := ["pair", "number", "x", "y"]
def d_small_mix : He.DefD := { at_ := ("small_mix", none), name := "small_mix", qual := "small_mix", params := defArgs s_small_mix, body := defBody s_small_mix, scope := defScope s_small_mix }
abbrev s_small_pair : Stmt := top 53
abbrev N_small_pair : List Str := ["data", "pair", "piece", "_"]
def d_small_pair : He.DefD := { at_ := ("small_pair", none), name := "small_pair", qual := "small_pair", params := defArgs s_small_pair, body := defBody s_small_pair, scope := defScope s_small_pair }
abbrev s_small_digest : Stmt := top 54
abbrev N_small_digest : List Str := ["data", "x", "y"]
def d_small_digest : He.DefD := { at_ := ("small_digest", none), name := "small_digest", qual := "small_digest", params := defArgs s_small_digest, body := defBody s_small_digest, scope := defScope s_small_digest }
abbrev s_small_stream : Stmt := top 55
abbrev N_small_stream : List Str := ["key", "number", "size", "x", "y", "data"]
def d_small_stream : He.DefD := { at_ := ("small_stream", none), name := "small_stream", qual := "small_stream", params := defArgs s_small_stream, body := defBody s_small_stream, scope := defScope s_small_stream }
abbrev s_check_key : Stmt := top 59
abbrev N_check_key : List Str := ["suite", "key"]
def d_check_key : He.DefD := { at_ := ("check_key", none), name := "check_key", qual := "check_key", params := defArgs s_check_key, body := defBody s_check_key, scope := defScope s_check_key }
abbrev s_check_keyed : Stmt := top 60
abbrev N_check_keyed : List Str := ["key", "data"]
def d_check_keyed : He.DefD := { at_ := ("check_keyed", none), name := "check_keyed", qual := "check_keyed", params := defArgs s_check_keyed, body := defBody s_check_keyed, scope := defScope s_check_keyed }
abbrev s_check_sealing : Stmt := top 61
abbrev N_check_sealing : List Str := ["suite", "key", "number", "data", "size"]
def d_check_sealing : He.DefD := { at_ := ("check_sealing", none), name := "check_sealing", qual := "check_sealing", params := defArgs s_check_sealing, body := defBody s_check_sealing, scope := defScope s_check_sealing }
abbrev s_SmallSuite___init__ : Stmt := inClass (top 62) 0
abbrev N_SmallSuite___init__ : List Str := ["self"]
def d_SmallSuite___init__ : He.DefD := { at_ := ("SmallSuite", some "__init__"), name := "__init__", qual := "SmallSuite.__init__", params := defArgs s_SmallSuite___init__, body := defBody s_SmallSuite___init__, scope := defScope s_SmallSuite___init__ }
abbrev s_SmallSuite_public : Stmt := inClass (top 62) 1
abbrev N_SmallSuite_public : List Str := ["self", "secret"]
def d_SmallSuite_public : He.DefD := { at_ := ("SmallSuite", some "public"), name := "public", qual := "SmallSuite.public", params := defArgs s_SmallSuite_public, body := defBody s_SmallSuite_public, scope := defScope s_SmallSuite_public }
abbrev s_SmallSuite_is_weak : Stmt := inClass (top 62) 2
abbrev N_SmallSuite_is_weak : List Str := ["self", "public", "number"]
def d_SmallSuite_is_weak : He.DefD := { at_ := ("SmallSuite", some "is_weak"), name := "is_weak", qual := "SmallSuite.is_weak", params := defArgs s_SmallSuite_is_weak, body := defBody s_SmallSuite_is_weak, scope := defScope s_SmallSuite_is_weak }
abbrev s_SmallSuite_exchange : Stmt := inClass (top 62) 3
abbrev N_SmallSuite_exchange : List Str := ["self", "secret", "public"]
def d_SmallSuite_exchange : He.DefD := { at_ := ("SmallSuite", some "exchange"), name := "exchange", qual := "SmallSuite.exchange", params := defArgs s_SmallSuite_exchange, body := defBody s_SmallSuite_exchange, scope := defScope s_SmallSuite_exchange }
abbrev s_SmallSuite_digest : Stmt := inClass (top 62) 4
abbrev N_SmallSuite_digest : List Str := ["self", "data"]
def d_SmallSuite_digest : He.DefD := { at_ := ("SmallSuite", some "digest"), name := "digest", qual := "SmallSuite.digest", params := defArgs s_SmallSuite_digest, body := defBody s_SmallSuite_digest, scope := defScope s_SmallSuite_digest }
abbrev s_SmallSuite_keyed : Stmt := inClass (top 62) 5
abbrev N_SmallSuite_keyed : List Str := ["self", "key", "data"]
def d_SmallSuite_keyed : He.DefD := { at_ := ("SmallSuite", some "keyed"), name := "keyed", qual := "SmallSuite.keyed", params := defArgs s_SmallSuite_keyed, body := defBody s_SmallSuite_keyed, scope := defScope s_SmallSuite_keyed }
abbrev s_SmallSuite_tag : Stmt := inClass (top 62) 6
abbrev N_SmallSuite_tag : List Str := ["self", "key", "number", "data", "combined", "head"]
def d_SmallSuite_tag : He.DefD := { at_ := ("SmallSuite", some "tag"), name := "tag", qual := "SmallSuite.tag", params := defArgs s_SmallSuite_tag, body := defBody s_SmallSuite_tag, scope := defScope s_SmallSuite_tag }
abbrev s_SmallSuite_seal : Stmt := inClass (top 62) 7
abbrev N_SmallSuite_seal : List Str := ["self", "key", "number", "data", "text", "combined"]
def d_SmallSuite_seal : He.DefD := { at_ := ("SmallSuite", some "seal"), name := "seal", qual := "SmallSuite.seal", params := defArgs s_SmallSuite_seal, body := defBody s_SmallSuite_seal, scope := defScope s_SmallSuite_seal }
abbrev s_SmallSuite_open_sealed : Stmt := inClass (top 62) 8
abbrev N_SmallSuite_open_sealed : List Str := ["self", "key", "number", "data", "sealed", "size", "combined"]
def d_SmallSuite_open_sealed : He.DefD := { at_ := ("SmallSuite", some "open_sealed"), name := "open_sealed", qual := "SmallSuite.open_sealed", params := defArgs s_SmallSuite_open_sealed, body := defBody s_SmallSuite_open_sealed, scope := defScope s_SmallSuite_open_sealed }
abbrev s_two_values : Stmt := top 64
abbrev N_two_values : List Str := ["suite", "chain", "data", "key", "first", "second"]
def d_two_values : He.DefD := { at_ := ("two_values", none), name := "two_values", qual := "two_values", params := defArgs s_two_values, body := defBody s_two_values, scope := defScope s_two_values }
abbrev s_three_values : Stmt := top 65
abbrev N_three_values : List Str := ["suite", "chain", "data", "key", "first", "second", "third"]
def d_three_values : He.DefD := { at_ := ("three_values", none), name := "three_values", qual := "three_values", params := defArgs s_three_values, body := defBody s_three_values, scope := defScope s_three_values }
abbrev s_NumberedKey___init__ : Stmt := inClass (top 66) 0
abbrev N_NumberedKey___init__ : List Str := ["self", "suite", "key"]
def d_NumberedKey___init__ : He.DefD := { at_ := ("NumberedKey", some "__init__"), name := "__init__", qual := "NumberedKey.__init__", params := defArgs s_NumberedKey___init__, body := defBody s_NumberedKey___init__, scope := defScope s_NumberedKey___init__ }
abbrev s_NumberedKey_seal : Stmt := inClass (top 66) 1
abbrev N_NumberedKey_seal : List Str := ["self", "data", "text", "sealed"]
def d_NumberedKey_seal : He.DefD := { at_ := ("NumberedKey", some "seal"), name := "seal", qual := "NumberedKey.seal", params := defArgs s_NumberedKey_seal, body := defBody s_NumberedKey_seal, scope := defScope s_NumberedKey_seal }
abbrev s_NumberedKey_open_sealed : Stmt := inClass (top 66) 2
abbrev N_NumberedKey_open_sealed : List Str := ["self", "data", "sealed", "text"]
def d_NumberedKey_open_sealed : He.DefD := { at_ := ("NumberedKey", some "open_sealed"), name := "open_sealed", qual := "NumberedKey.open_sealed", params := defArgs s_NumberedKey_open_sealed, body := defBody s_NumberedKey_open_sealed, scope := defScope s_NumberedKey_open_sealed }
abbrev s_NumberedKey_has_key : Stmt := inClass (top 66) 3
abbrev N_NumberedKey_has_key : List Str := ["self"]
def d_NumberedKey_has_key : He.DefD := { at_ := ("NumberedKey", some "has_key"), name := "has_key", qual := "NumberedKey.has_key", params := defArgs s_NumberedKey_has_key, body := defBody s_NumberedKey_has_key, scope := defScope s_NumberedKey_has_key }
abbrev s_NumberedKey_twin : Stmt := inClass (top 66) 5
abbrev N_NumberedKey_twin : List Str := ["self", "copied"]
def d_NumberedKey_twin : He.DefD := { at_ := ("NumberedKey", some "twin"), name := "twin", qual := "NumberedKey.twin", params := defArgs s_NumberedKey_twin, body := defBody s_NumberedKey_twin, scope := defScope s_NumberedKey_twin }
abbrev s_Transcript___init__ : Stmt := inClass (top 68) 0
abbrev N_Transcript___init__ : List Str := ["self", "suite", "label", "codes", "sign"]
def d_Transcript___init__ : He.DefD := { at_ := ("Transcript", some "__init__"), name := "__init__", qual := "Transcript.__init__", params := defArgs s_Transcript___init__, body := defBody s_Transcript___init__, scope := defScope s_Transcript___init__ }
abbrev s_Transcript_check_open : Stmt := inClass (top 68) 1
abbrev N_Transcript_check_open : List Str := ["self"]
def d_Transcript_check_open : He.DefD := { at_ := ("Transcript", some "check_open"), name := "check_open", qual := "Transcript.check_open", params := defArgs s_Transcript_check_open, body := defBody s_Transcript_check_open, scope := defScope s_Transcript_check_open }
abbrev s_Transcript_set_key : Stmt := inClass (top 68) 2
abbrev N_Transcript_set_key : List Str := ["self", "value"]
def d_Transcript_set_key : He.DefD := { at_ := ("Transcript", some "set_key"), name := "set_key", qual := "Transcript.set_key", params := defArgs s_Transcript_set_key, body := defBody s_Transcript_set_key, scope := defScope s_Transcript_set_key }
abbrev s_Transcript_mix_data : Stmt := inClass (top 68) 3
abbrev N_Transcript_mix_data : List Str := ["self", "data"]
def d_Transcript_mix_data : He.DefD := { at_ := ("Transcript", some "mix_data"), name := "mix_data", qual := "Transcript.mix_data", params := defArgs s_Transcript_mix_data, body := defBody s_Transcript_mix_data, scope := defScope s_Transcript_mix_data }
abbrev s_Transcript_mix_key : Stmt := inClass (top 68) 4
abbrev N_Transcript_mix_key : List Str := ["self", "data", "value"]
def d_Transcript_mix_key : He.DefD := { at_ := ("Transcript", some "mix_key"), name := "mix_key", qual := "Transcript.mix_key", params := defArgs s_Transcript_mix_key, body := defBody s_Transcript_mix_key, scope := defScope s_Transcript_mix_key }
abbrev s_Transcript_mix_both : Stmt := inClass (top 68) 5
abbrev N_Transcript_mix_both : List Str := ["self", "data", "mixed", "value"]
def d_Transcript_mix_both : He.DefD := { at_ := ("Transcript", some "mix_both"), name := "mix_both", qual := "Transcript.mix_both", params := defArgs s_Transcript_mix_both, body := defBody s_Transcript_mix_both, scope := defScope s_Transcript_mix_both }
abbrev s_Transcript_seal : Stmt := inClass (top 68) 6
abbrev N_Transcript_seal : List Str := ["self", "text", "key", "sealed"]
def d_Transcript_seal : He.DefD := { at_ := ("Transcript", some "seal"), name := "seal", qual := "Transcript.seal", params := defArgs s_Transcript_seal, body := defBody s_Transcript_seal, scope := defScope s_Transcript_seal }
abbrev s_Transcript_open_sealed : Stmt := inClass (top 68) 7
abbrev N_Transcript_open_sealed : List Str := ["self", "sealed", "key", "text"]
def d_Transcript_open_sealed : He.DefD := { at_ := ("Transcript", some "open_sealed"), name := "open_sealed", qual := "Transcript.open_sealed", params := defArgs s_Transcript_open_sealed, body := defBody s_Transcript_open_sealed, scope := defScope s_Transcript_open_sealed }
abbrev s_Transcript_hash : Stmt := inClass (top 68) 8
abbrev N_Transcript_hash : List Str := ["self"]
def d_Transcript_hash : He.DefD := { at_ := ("Transcript", some "hash"), name := "hash", qual := "Transcript.hash", params := defArgs s_Transcript_hash, body := defBody s_Transcript_hash, scope := defScope s_Transcript_hash }
abbrev s_Transcript_has_key : Stmt := inClass (top 68) 9
abbrev N_Transcript_has_key : List Str := ["self"]
def d_Transcript_has_key : He.DefD := { at_ := ("Transcript", some "has_key"), name := "has_key", qual := "Transcript.has_key", params := defArgs s_Transcript_has_key, body := defBody s_Transcript_has_key, scope := defScope s_Transcript_has_key }
abbrev s_Transcript_split : Stmt := inClass (top 68) 10
abbrev N_Transcript_split : List Str := ["self", "first", "second", "size"]
def d_Transcript_split : He.DefD := { at_ := ("Transcript", some "split"), name := "split", qual := "Transcript.split", params := defArgs s_Transcript_split, body := defBody s_Transcript_split, scope := defScope s_Transcript_split }
abbrev s_Transcript_twin : Stmt := inClass (top 68) 11
abbrev N_Transcript_twin : List Str := ["self", "copied"]
def d_Transcript_twin : He.DefD := { at_ := ("Transcript", some "twin"), name := "twin", qual := "Transcript.twin", params := defArgs s_Transcript_twin, body := defBody s_Transcript_twin, scope := defScope s_Transcript_twin }
abbrev s_needs_ephemeral : Stmt := top 73
abbrev N_needs_ephemeral : List Str := ["pattern", "opener", "own", "sender", "tokens"]
def d_needs_ephemeral : He.DefD := { at_ := ("needs_ephemeral", none), name := "needs_ephemeral", qual := "needs_ephemeral", params := defArgs s_needs_ephemeral, body := defBody s_needs_ephemeral, scope := defScope s_needs_ephemeral }
abbrev s_needs_peer_ephemeral : Stmt := top 74
abbrev N_needs_peer_ephemeral : List Str := ["pattern", "opener"]
def d_needs_peer_ephemeral : He.DefD := { at_ := ("needs_peer_ephemeral", none), name := "needs_peer_ephemeral", qual := "needs_peer_ephemeral", params := defArgs s_needs_peer_ephemeral, body := defBody s_needs_peer_ephemeral, scope := defScope s_needs_peer_ephemeral }
abbrev s_check_part : Stmt := top 75
abbrev N_check_part : List Str := ["value", "needed", "size"]
def d_check_part : He.DefD := { at_ := ("check_part", none), name := "check_part", qual := "check_part", params := defArgs s_check_part, body := defBody s_check_part, scope := defScope s_check_part }
abbrev s_needed_parts : Stmt := top 76
abbrev N_needed_parts : List Str := ["pattern", "opener", "keys", "needed", "key", "wanted"]
def d_needed_parts : He.DefD := { at_ := ("needed_parts", none), name := "needed_parts", qual := "needed_parts", params := defArgs s_needed_parts, body := defBody s_needed_parts, scope := defScope s_needed_parts }
abbrev s_Handshake___init__ : Stmt := inClass (top 77) 0
abbrev N_Handshake___init__ : List Str := ["self", "suite", "pattern", "opener", "prologue", "secret", "ephemeral", "peer", "peer_ephemeral", "psk", "needed", "size", "key"]
/-- the default of prologue -/
def hsPro (K : PySem.W.Frag) : Addr := match K.lookup (He.fAd K ("Handshake", some "__init__")) with
  | some ⟨_, _, .func fd, _⟩ => (match fd.kwdefaults with
    | .ref T => (match PySem.W.nsIn K T "prologue" with
      | some (some (.ref a)) => a
      | _ => 0)
    | _ => 0)
  | _ => 0
def d_Handshake___init__ : He.DefD := { at_ := ("Handshake", some "__init__"), name := "__init__", qual := "Handshake.__init__", params := defArgs s_Handshake___init__, body := defBody s_Handshake___init__, scope := defScope s_Handshake___init__, kwd := [("prologue", .adr hsPro), ("secret", .non), ("ephemeral", .non), ("peer", .non), ("peer_ephemeral", .non), ("psk", .non)] }
abbrev s_Handshake_mix_before : Stmt := inClass (top 77) 1
abbrev N_Handshake_mix_before : List Str := ["self", "before", "at", "tokens", "own", "token", "key"]
def d_Handshake_mix_before : He.DefD := { at_ := ("Handshake", some "mix_before"), name := "mix_before", qual := "Handshake.mix_before", params := defArgs s_Handshake_mix_before, body := defBody s_Handshake_mix_before, scope := defScope s_Handshake_mix_before }
abbrev s_Handshake_mix_ephemeral : Stmt := inClass (top 77) 2
abbrev N_Handshake_mix_ephemeral : List Str := ["self", "token", "key"]
def d_Handshake_mix_ephemeral : He.DefD := { at_ := ("Handshake", some "mix_ephemeral"), name := "mix_ephemeral", qual := "Handshake.mix_ephemeral", params := defArgs s_Handshake_mix_ephemeral, body := defBody s_Handshake_mix_ephemeral, scope := defScope s_Handshake_mix_ephemeral }
abbrev s_Handshake_own_public : Stmt := inClass (top 77) 3
abbrev N_Handshake_own_public : List Str := ["self", "token"]
def d_Handshake_own_public : He.DefD := { at_ := ("Handshake", some "own_public"), name := "own_public", qual := "Handshake.own_public", params := defArgs s_Handshake_own_public, body := defBody s_Handshake_own_public, scope := defScope s_Handshake_own_public }
abbrev s_Handshake_peer_public : Stmt := inClass (top 77) 4
abbrev N_Handshake_peer_public : List Str := ["self", "token"]
def d_Handshake_peer_public : He.DefD := { at_ := ("Handshake", some "peer_public"), name := "peer_public", qual := "Handshake.peer_public", params := defArgs s_Handshake_peer_public, body := defBody s_Handshake_peer_public, scope := defScope s_Handshake_peer_public }
abbrev s_Handshake_mix_token : Stmt := inClass (top 77) 5
abbrev N_Handshake_mix_token : List Str := ["self", "token", "own", "other", "secret"]
def d_Handshake_mix_token : He.DefD := { at_ := ("Handshake", some "mix_token"), name := "mix_token", qual := "Handshake.mix_token", params := defArgs s_Handshake_mix_token, body := defBody s_Handshake_mix_token, scope := defScope s_Handshake_mix_token }
abbrev s_Handshake_is_done : Stmt := inClass (top 77) 6
abbrev N_Handshake_is_done : List Str := ["self"]
def d_Handshake_is_done : He.DefD := { at_ := ("Handshake", some "is_done"), name := "is_done", qual := "Handshake.is_done", params := defArgs s_Handshake_is_done, body := defBody s_Handshake_is_done, scope := defScope s_Handshake_is_done }
abbrev s_Handshake_writes_next : Stmt := inClass (top 77) 7
abbrev N_Handshake_writes_next : List Str := ["self"]
def d_Handshake_writes_next : He.DefD := { at_ := ("Handshake", some "writes_next"), name := "writes_next", qual := "Handshake.writes_next", params := defArgs s_Handshake_writes_next, body := defBody s_Handshake_writes_next, scope := defScope s_Handshake_writes_next }
abbrev s_Handshake_overhead : Stmt := inClass (top 77) 8
abbrev N_Handshake_overhead : List Str := ["self", "size", "sealed", "token"]
def d_Handshake_overhead : He.DefD := { at_ := ("Handshake", some "overhead"), name := "overhead", qual := "Handshake.overhead", params := defArgs s_Handshake_overhead, body := defBody s_Handshake_overhead, scope := defScope s_Handshake_overhead }
abbrev s_Handshake_write : Stmt := inClass (top 77) 9
abbrev N_Handshake_write : List Str := ["self", "payload", "message", "token", "key"]
def d_Handshake_write : He.DefD := { at_ := ("Handshake", some "write"), name := "write", qual := "Handshake.write", params := defArgs s_Handshake_write, body := defBody s_Handshake_write, scope := defScope s_Handshake_write }
abbrev s_Handshake_read : Stmt := inClass (top 77) 10
abbrev N_Handshake_read : List Str := ["self", "message", "transcript", "peer", "peer_ephemeral", "rest", "token", "payload"]
def d_Handshake_read : He.DefD := { at_ := ("Handshake", some "read"), name := "read", qual := "Handshake.read", params := defArgs s_Handshake_read, body := defBody s_Handshake_read, scope := defScope s_Handshake_read }
abbrev s_Handshake_read_token : Stmt := inClass (top 77) 11
abbrev N_Handshake_read_token : List Str := ["self", "token", "rest", "size", "key"]
def d_Handshake_read_token : He.DefD := { at_ := ("Handshake", some "read_token"), name := "read_token", qual := "Handshake.read_token", params := defArgs s_Handshake_read_token, body := defBody s_Handshake_read_token, scope := defScope s_Handshake_read_token }
abbrev s_Handshake_hash : Stmt := inClass (top 77) 12
abbrev N_Handshake_hash : List Str := ["self"]
def d_Handshake_hash : He.DefD := { at_ := ("Handshake", some "hash"), name := "hash", qual := "Handshake.hash", params := defArgs s_Handshake_hash, body := defBody s_Handshake_hash, scope := defScope s_Handshake_hash }
abbrev s_Handshake_peer : Stmt := inClass (top 77) 13
abbrev N_Handshake_peer : List Str := ["self"]
def d_Handshake_peer : He.DefD := { at_ := ("Handshake", some "peer"), name := "peer", qual := "Handshake.peer", params := defArgs s_Handshake_peer, body := defBody s_Handshake_peer, scope := defScope s_Handshake_peer }
abbrev s_Handshake_split : Stmt := inClass (top 77) 14
abbrev N_Handshake_split : List Str := ["self"]
def d_Handshake_split : He.DefD := { at_ := ("Handshake", some "split"), name := "split", qual := "Handshake.split", params := defArgs s_Handshake_split, body := defBody s_Handshake_split, scope := defScope s_Handshake_split }
abbrev s__law_cell : Stmt := top 79
abbrev N__law_cell : List Str := ["_law_script", "_law_k"]
def d__law_cell : He.DefD := { at_ := ("_law_cell", none), name := "_law_cell", qual := "_law_cell", params := defArgs s__law_cell, body := defBody s__law_cell, scope := defScope s__law_cell }
abbrev s__law_pick : Stmt := top 80
abbrev N__law_pick : List Str := ["_law_state_here", "_law_many"]
def d__law_pick : He.DefD := { at_ := ("_law_pick", none), name := "_law_pick", qual := "_law_pick", params := defArgs s__law_pick, body := defBody s__law_pick, scope := defScope s__law_pick }
abbrev s__law_digit : Stmt := top 81
abbrev N__law_digit : List Str := ["_law_state_here", "_law_many", "_law_digit_here"]
def d__law_digit : He.DefD := { at_ := ("_law_digit", none), name := "_law_digit", qual := "_law_digit", params := defArgs s__law_digit, body := defBody s__law_digit, scope := defScope s__law_digit }
abbrev s__law_state : Stmt := top 82
abbrev N__law_state : List Str := ["_law_cell_here", "_law_salt", "_law_rest"]
def d__law_state : He.DefD := { at_ := ("_law_state", none), name := "_law_state", qual := "_law_state", params := defArgs s__law_state, body := defBody s__law_state, scope := defScope s__law_state }
abbrev s__law_before : Stmt := top 83
abbrev N__law_before : List Str := ["_law_state_here"]
def d__law_before : He.DefD := { at_ := ("_law_before", none), name := "_law_before", qual := "_law_before", params := defArgs s__law_before, body := defBody s__law_before, scope := defScope s__law_before }
abbrev s__law_tokens : Stmt := top 84
abbrev N__law_tokens : List Str := ["_law_state_here", "_law_names", "_law_k"]
def d__law_tokens : He.DefD := { at_ := ("_law_tokens", none), name := "_law_tokens", qual := "_law_tokens", params := defArgs s__law_tokens, body := defBody s__law_tokens, scope := defScope s__law_tokens }
abbrev s__law_messages : Stmt := top 85
abbrev N__law_messages : List Str := ["_law_state_here", "_law_sender", "_law_messages_here", "_law_k"]
def d__law_messages : He.DefD := { at_ := ("_law_messages", none), name := "_law_messages", qual := "_law_messages", params := defArgs s__law_messages, body := defBody s__law_messages, scope := defScope s__law_messages }
abbrev s__law_base : Stmt := top 86
abbrev N__law_base : List Str := ["_law_number", "_law_bases"]
def d__law_base : He.DefD := { at_ := ("_law_base", none), name := "_law_base", qual := "_law_base", params := defArgs s__law_base, body := defBody s__law_base, scope := defScope s__law_base }
abbrev s__law_edit : Stmt := top 87
abbrev N__law_edit : List Str := ["_law_state_here", "_law_messages_here", "_law_names", "_law_at", "_law_sender", "_law_tokens_here", "_law_place", "_law_kind", "_law_name", "_law_other"]
def d__law_edit : He.DefD := { at_ := ("_law_edit", none), name := "_law_edit", qual := "_law_edit", params := defArgs s__law_edit, body := defBody s__law_edit, scope := defScope s__law_edit }
abbrev s__law_drawn : Stmt := top 88
abbrev N__law_drawn : List Str := ["_law_cell_here", "_law_salt", "_law_state_here", "_law_kind", "_law_before_here", "_law_messages_here", "_law_k"]
def d__law_drawn : He.DefD := { at_ := ("_law_drawn", none), name := "_law_drawn", qual := "_law_drawn", params := defArgs s__law_drawn, body := defBody s__law_drawn, scope := defScope s__law_drawn }
abbrev s__law_flat : Stmt := top 89
abbrev N__law_flat : List Str := ["_law_messages_here", "_law_flat_here", "_law_sender", "_law_tokens_here", "_law_k"]
def d__law_flat : He.DefD := { at_ := ("_law_flat", none), name := "_law_flat", qual := "_law_flat", params := defArgs s__law_flat, body := defBody s__law_flat, scope := defScope s__law_flat }
abbrev s__law_sent : Stmt := top 90
abbrev N__law_sent : List Str := ["_law_before_here", "_law_flat_here", "_law_side", "_law_letter", "_law_sender", "_law_place"]
def d__law_sent : He.DefD := { at_ := ("_law_sent", none), name := "_law_sent", qual := "_law_sent", params := defArgs s__law_sent, body := defBody s__law_sent, scope := defScope s__law_sent }
abbrev s__law_mixed : Stmt := top 91
abbrev N__law_mixed : List Str := ["_law_flat_here", "_law_place"]
def d__law_mixed : He.DefD := { at_ := ("_law_mixed", none), name := "_law_mixed", qual := "_law_mixed", params := defArgs s__law_mixed, body := defBody s__law_mixed, scope := defScope s__law_mixed }
abbrev s__law_encryptions : Stmt := top 92
abbrev N__law_encryptions : List Str := ["_law_messages_here", "_law_flat_here", "_law_places", "_law_k"]
def d__law_encryptions : He.DefD := { at_ := ("_law_encryptions", none), name := "_law_encryptions", qual := "_law_encryptions", params := defArgs s__law_encryptions, body := defBody s__law_encryptions, scope := defScope s__law_encryptions }
abbrev s__law_breaks_counts : Stmt := top 93
abbrev N__law_breaks_counts : List Str := ["_law_before_here", "_law_flat_here", "_law_rule", "_law_side", "_law_letter", "_law_token", "_law_many", "_law_place"]
def d__law_breaks_counts : He.DefD := { at_ := ("_law_breaks_counts", none), name := "_law_breaks_counts", qual := "_law_breaks_counts", params := defArgs s__law_breaks_counts, body := defBody s__law_breaks_counts, scope := defScope s__law_breaks_counts }
abbrev s__law_breaks_keys : Stmt := top 94
abbrev N__law_breaks_keys : List Str := ["_law_before_here", "_law_flat_here", "_law_k", "_law_token", "_law_known"]
def d__law_breaks_keys : He.DefD := { at_ := ("_law_breaks_keys", none), name := "_law_breaks_keys", qual := "_law_breaks_keys", params := defArgs s__law_breaks_keys, body := defBody s__law_breaks_keys, scope := defScope s__law_breaks_keys }
abbrev s__law_breaks_encryption : Stmt := top 95
abbrev N__law_breaks_encryption : List Str := ["_law_before_here", "_law_messages_here", "_law_rule", "_law_flat_here", "_law_k", "_law_sender", "_law_mixed_here", "_law_side", "_law_lone"]
def d__law_breaks_encryption : He.DefD := { at_ := ("_law_breaks_encryption", none), name := "_law_breaks_encryption", qual := "_law_breaks_encryption", params := defArgs s__law_breaks_encryption, body := defBody s__law_breaks_encryption, scope := defScope s__law_breaks_encryption }
abbrev s__law_breaks_psk : Stmt := top 96
abbrev N__law_breaks_psk : List Str := ["_law_messages_here", "_law_at", "_law_tokens_here", "_law_k"]
def d__law_breaks_psk : He.DefD := { at_ := ("_law_breaks_psk", none), name := "_law_breaks_psk", qual := "_law_breaks_psk", params := defArgs s__law_breaks_psk, body := defBody s__law_breaks_psk, scope := defScope s__law_breaks_psk }
abbrev s__law_broken : Stmt := top 97
abbrev N__law_broken : List Str := ["_law_before_here", "_law_messages_here", "_law_flat_here", "_law_rule"]
def d__law_broken : He.DefD := { at_ := ("_law_broken", none), name := "_law_broken", qual := "_law_broken", params := defArgs s__law_broken, body := defBody s__law_broken, scope := defScope s__law_broken }
abbrev s__law_pattern_name : Stmt := top 98
abbrev N__law_pattern_name : List Str := ["_law_cell_here", "_law_names"]
def d__law_pattern_name : He.DefD := { at_ := ("_law_pattern_name", none), name := "_law_pattern_name", qual := "_law_pattern_name", params := defArgs s__law_pattern_name, body := defBody s__law_pattern_name, scope := defScope s__law_pattern_name }
abbrev s__law_text : Stmt := top 99
abbrev N__law_text : List Str := ["_law_before_here", "_law_messages_here", "_law_lines", "_law_arrow", "_law_tokens_here", "_law_sender"]
def d__law_text : He.DefD := { at_ := ("_law_text", none), name := "_law_text", qual := "_law_text", params := defArgs s__law_text, body := defBody s__law_text, scope := defScope s__law_text }
abbrev s__law_bytes : Stmt := top 100
abbrev N__law_bytes : List Str := ["_law_state_here", "_law_count", "_law_k"]
def d__law_bytes : He.DefD := { at_ := ("_law_bytes", none), name := "_law_bytes", qual := "_law_bytes", params := defArgs s__law_bytes, body := defBody s__law_bytes, scope := defScope s__law_bytes }
abbrev s__law_shows : Stmt := top 101
abbrev N__law_shows : List Str := ["_law_before_here", "_law_messages_here", "_law_side", "_law_beforehand", "_law_message_here"]
def d__law_shows : He.DefD := { at_ := ("_law_shows", none), name := "_law_shows", qual := "_law_shows", params := defArgs s__law_shows, body := defBody s__law_shows, scope := defScope s__law_shows }
abbrev s__law_end : Stmt := top 102
abbrev N__law_end : List Str := ["_law_suite", "_law_pattern", "_law_parts", "_law_side", "_law_keys_here", "_law_without", "_law_before_here", "_law_messages_here", "_law_given", "_law_message_here"]
def d__law_end : He.DefD := { at_ := ("_law_end", none), name := "_law_end", qual := "_law_end", params := defArgs s__law_end, body := defBody s__law_end, scope := defScope s__law_end }
abbrev s__law_refused : Stmt := top 103
abbrev N__law_refused : List Str := ["_law_suite", "_law_pattern", "_law_keys_here", "_law_refused_here", "_law_side", "e"]
def d__law_refused : He.DefD := { at_ := ("_law_refused", none), name := "_law_refused", qual := "_law_refused", params := defArgs s__law_refused, body := defBody s__law_refused, scope := defScope s__law_refused }
abbrev s__law_lacks : Stmt := top 104
abbrev N__law_lacks : List Str := ["_law_suite", "_law_pattern", "_law_parts", "_law_keys_here", "_law_side", "_law_refused_here", "e"]
def d__law_lacks : He.DefD := { at_ := ("_law_lacks", none), name := "_law_lacks", qual := "_law_lacks", params := defArgs s__law_lacks, body := defBody s__law_lacks, scope := defScope s__law_lacks }
abbrev s__law_out_of_order : Stmt := top 105
abbrev N__law_out_of_order : List Str := ["_law_end_here", "_law_which", "e", "_law_k"]
def d__law_out_of_order : He.DefD := { at_ := ("_law_out_of_order", none), name := "_law_out_of_order", qual := "_law_out_of_order", params := defArgs s__law_out_of_order, body := defBody s__law_out_of_order, scope := defScope s__law_out_of_order }
abbrev s__law_mix : Stmt := top 106
abbrev N__law_mix : List Str := ["_law_suite", "_law_line_here", "_law_data"]
def d__law_mix : He.DefD := { at_ := ("_law_mix", none), name := "_law_mix", qual := "_law_mix", params := defArgs s__law_mix, body := defBody s__law_mix, scope := defScope s__law_mix }
abbrev s__law_mix_key : Stmt := top 107
abbrev N__law_mix_key : List Str := ["_law_suite", "_law_line_here", "_law_data", "_law_both", "_law_root", "_law_first", "_law_second"]
def d__law_mix_key : He.DefD := { at_ := ("_law_mix_key", none), name := "_law_mix_key", qual := "_law_mix_key", params := defArgs s__law_mix_key, body := defBody s__law_mix_key, scope := defScope s__law_mix_key }
abbrev s__law_public : Stmt := top 108
abbrev N__law_public : List Str := ["_law_suite", "_law_line_here", "_law_public_here"]
def d__law_public : He.DefD := { at_ := ("_law_public", none), name := "_law_public", qual := "_law_public", params := defArgs s__law_public, body := defBody s__law_public, scope := defScope s__law_public }
abbrev s__law_line : Stmt := top 109
abbrev N__law_line : List Str := ["_law_suite", "_law_name", "_law_parts", "_law_keys_here", "_law_codes", "_law_line_here", "_law_side", "_law_token", "_law_sign", "_law_k", "_law_message_here"]
def d__law_line : He.DefD := { at_ := ("_law_line", none), name := "_law_line", qual := "_law_line", params := defArgs s__law_line, body := defBody s__law_line, scope := defScope s__law_line }
abbrev s__law_seal : Stmt := top 110
abbrev N__law_seal : List Str := ["_law_suite", "_law_line_here", "_law_text_here", "_law_sealed"]
def d__law_seal : He.DefD := { at_ := ("_law_seal", none), name := "_law_seal", qual := "_law_seal", params := defArgs s__law_seal, body := defBody s__law_seal, scope := defScope s__law_seal }
abbrev s__law_message : Stmt := top 111
abbrev N__law_message : List Str := ["_law_suite", "_law_line_here", "_law_message_here", "_law_payload", "_law_keys_here", "_law_side", "_law_data", "_law_token", "_law_first", "_law_second"]
def d__law_message : He.DefD := { at_ := ("_law_message", none), name := "_law_message", qual := "_law_message", params := defArgs s__law_message, body := defBody s__law_message, scope := defScope s__law_message }
abbrev s__law_turn : Stmt := top 112
abbrev N__law_turn : List Str := ["_law_suite", "_law_line_here", "_law_ends", "_law_message_here", "_law_payload", "_law_keys_here", "_law_side", "_law_writer", "_law_reader", "_law_extra", "_law_written", "_law_told"]
def d__law_turn : He.DefD := { at_ := ("_law_turn", none), name := "_law_turn", qual := "_law_turn", params := defArgs s__law_turn, body := defBody s__law_turn, scope := defScope s__law_turn }
abbrev s__law_agree : Stmt := top 113
abbrev N__law_agree : List Str := ["_law_suite", "_law_line_here", "_law_ends", "_law_parts", "_law_keys_here", "_law_root", "_law_first", "_law_side", "_law_end_here", "_law_expected"]
def d__law_agree : He.DefD := { at_ := ("_law_agree", none), name := "_law_agree", qual := "_law_agree", params := defArgs s__law_agree, body := defBody s__law_agree, scope := defScope s__law_agree }
abbrev s__law_keys : Stmt := top 114
abbrev N__law_keys : List Str := ["_law_suite", "_law_cell_here", "_law_state_here", "_law_secrets", "_law_keys_here", "_law_k", "_law_secret"]
def d__law_keys : He.DefD := { at_ := ("_law_keys", none), name := "_law_keys", qual := "_law_keys", params := defArgs s__law_keys, body := defBody s__law_keys, scope := defScope s__law_keys }
abbrev s_law : Stmt := top 115
abbrev N_law : List Str := ["_law_script", "_law_parts", "_law_suite", "_law_name", "_law_pattern", "_law_keys_here", "_law_ends", "_law_line_here", "_law_k", "_law_payload", "_law_side"]
def d_law : He.DefD := { at_ := ("law", none), name := "law", qual := "law", params := defArgs s_law, body := defBody s_law, scope := defScope s_law }
def fn0 : List He.DefD := [d_Pattern___init__, d_parse_line, d_parse_before, d_parse_messages, d_parse_pattern, d_transport_senders, d_pattern_steps, d_repeats_key, d_repeats_secret, d_misses_key, d_misses_ephemeral, d_misplaces_psk, d_psk_without_key, d_broken_rule, d_sends_secret, d_needs_secret, d_needs_peer, d_uses_psk, d_to_little, d_to_big]
def fn1 : List He.DefD := [d_from_big, d_from_little, d_cut, d_combine, d_small_power, d_small_exponent, d_small_mix, d_small_pair, d_small_digest, d_small_stream, d_check_key, d_check_keyed, d_check_sealing, d_SmallSuite___init__, d_SmallSuite_public, d_SmallSuite_is_weak, d_SmallSuite_exchange, d_SmallSuite_digest, d_SmallSuite_keyed, d_SmallSuite_tag]
def fn2 : List He.DefD := [d_SmallSuite_seal, d_SmallSuite_open_sealed, d_two_values, d_three_values, d_NumberedKey___init__, d_NumberedKey_seal, d_NumberedKey_open_sealed, d_NumberedKey_has_key, d_NumberedKey_twin, d_Transcript___init__, d_Transcript_check_open, d_Transcript_set_key, d_Transcript_mix_data, d_Transcript_mix_key, d_Transcript_mix_both, d_Transcript_seal, d_Transcript_open_sealed, d_Transcript_hash, d_Transcript_has_key, d_Transcript_split]
def fn3 : List He.DefD := [d_Transcript_twin, d_needs_ephemeral, d_needs_peer_ephemeral, d_check_part, d_needed_parts, d_Handshake___init__, d_Handshake_mix_before, d_Handshake_mix_ephemeral, d_Handshake_own_public, d_Handshake_peer_public, d_Handshake_mix_token, d_Handshake_is_done, d_Handshake_writes_next, d_Handshake_overhead, d_Handshake_write, d_Handshake_read, d_Handshake_read_token, d_Handshake_hash, d_Handshake_peer, d_Handshake_split]
def fn4 : List He.DefD := [d__law_cell, d__law_pick, d__law_digit, d__law_state, d__law_before, d__law_tokens, d__law_messages, d__law_base, d__law_edit, d__law_drawn, d__law_flat, d__law_sent, d__law_mixed, d__law_encryptions, d__law_breaks_counts, d__law_breaks_keys, d__law_breaks_encryption, d__law_breaks_psk, d__law_broken, d__law_pattern_name]
def fn5 : List He.DefD := [d__law_text, d__law_bytes, d__law_shows, d__law_end, d__law_refused, d__law_lacks, d__law_out_of_order, d__law_mix, d__law_mix_key, d__law_public, d__law_line, d__law_seal, d__law_message, d__law_turn, d__law_agree, d__law_keys, d_law]
def fn : List He.DefD := fn0 ++ (fn1 ++ (fn2 ++ (fn3 ++ (fn4 ++ (fn5)))))
def frees0 : List Str := ["len", "abs", "ord", "isinstance", "list", "tuple", "int", "range", "zip", "enumerate", "reversed"]
def frees : List Str := frees0
def glos0 : List Str := ["parse_line", "parse_before", "parse_messages", "parse_pattern", "transport_senders", "pattern_steps", "repeats_key", "repeats_secret", "misses_key", "misses_ephemeral", "misplaces_psk", "psk_without_key", "broken_rule", "sends_secret", "needs_secret", "needs_peer", "uses_psk", "to_little", "to_big", "from_big"]
def glos1 : List Str := ["from_little", "cut", "combine", "small_power", "small_exponent", "small_mix", "small_pair", "small_digest", "small_stream", "check_key", "check_keyed", "check_sealing", "two_values", "three_values", "needs_ephemeral", "needs_peer_ephemeral", "check_part", "needed_parts", "_law_cell", "_law_pick"]
def glos2 : List Str := ["_law_digit", "_law_state", "_law_before", "_law_tokens", "_law_messages", "_law_base", "_law_edit", "_law_drawn", "_law_flat", "_law_sent", "_law_mixed", "_law_encryptions", "_law_breaks_counts", "_law_breaks_keys", "_law_breaks_encryption", "_law_breaks_psk", "_law_broken", "_law_pattern_name", "_law_text", "_law_bytes"]
def glos3 : List Str := ["_law_shows", "_law_end", "_law_refused", "_law_lacks", "_law_out_of_order", "_law_mix", "_law_mix_key", "_law_public", "_law_line", "_law_seal", "_law_message", "_law_turn", "_law_agree", "_law_keys", "law", "Pattern", "SmallSuite", "NumberedKey", "Transcript", "Handshake"]
def glos4 : List Str := ["HushError", "OutOfRange", "Malformed", "NotAuthentic", "Exhausted", "OutOfOrder", "Refused", "TOKENS", "BEFORE", "SECRETS"]
def glos : List Str := glos0 ++ (glos1 ++ (glos2 ++ (glos3 ++ (glos4))))
def gints : List (Str × Int) := [("MESSAGE_LIMIT", 1048576), ("KEYED_LIMIT", 1048512), ("GROUP", 170141183460469231731687303715884105727), ("HALF_GROUP", 85070591730234615865843651857942052863), ("BASE", 43), ("MODULUS", 2305843009213693951), ("SECRET_BITS", 124), ("STREAM_BITS", 56), ("KEY_LIMIT", 1024), ("LAST_NUMBER", 18446744073709551615), ("MESSAGE_SIZE", 65535), ("PROLOGUE_SIZE", 1024), ("PSK_SIZE", 32)]
def strs0 : List (Str × Str) := [("OPENER", "->"), ("ANSWERER", "<-")]
def clss : List Str := ["Pattern", "SmallSuite", "NumberedKey", "Transcript", "Handshake"]
def excs : List Str := ["HushError", "OutOfRange", "Malformed", "NotAuthentic", "Exhausted", "OutOfOrder", "Refused"]
def meths0 : List (Str × Str) := [("SmallSuite", "public"), ("SmallSuite", "is_weak"), ("SmallSuite", "exchange"), ("SmallSuite", "digest"), ("SmallSuite", "keyed"), ("SmallSuite", "tag"), ("SmallSuite", "seal"), ("SmallSuite", "open_sealed"), ("NumberedKey", "seal"), ("NumberedKey", "open_sealed"), ("NumberedKey", "has_key"), ("NumberedKey", "twin"), ("Transcript", "check_open"), ("Transcript", "set_key"), ("Transcript", "mix_data"), ("Transcript", "mix_key")]
def meths1 : List (Str × Str) := [("Transcript", "mix_both"), ("Transcript", "seal"), ("Transcript", "open_sealed"), ("Transcript", "hash"), ("Transcript", "has_key"), ("Transcript", "split"), ("Transcript", "twin"), ("Handshake", "mix_before"), ("Handshake", "mix_ephemeral"), ("Handshake", "own_public"), ("Handshake", "peer_public"), ("Handshake", "mix_token"), ("Handshake", "is_done"), ("Handshake", "writes_next"), ("Handshake", "overhead"), ("Handshake", "write")]
def meths2 : List (Str × Str) := [("Handshake", "read"), ("Handshake", "read_token"), ("Handshake", "hash"), ("Handshake", "peer"), ("Handshake", "split")]
def meths : List (Str × Str) := meths0 ++ (meths1 ++ (meths2))
def fa : List He.Fa := frees.map .free ++ (glos.map .glo ++ (gints.map (fun p => .int p.1 p.2) ++ (strs0.map (fun p => .str p.1 p.2) ++ (clss.map .cls ++ (attrs.flatMap (fun p => p.2.map fun f => .noat p.1 f) ++
  (meths.map (fun p => .meth p.1 p.2) ++ (clss.map .mkr ++ (excs.map .exc ++ [.exm "Refused" "HushError" true, .exm "OutOfOrder" "HushError" true]))))))))
/-! ### what else is asked of the written part -/
/-- the i-th item of the module's tuple x -/
def itAt (x : Str) (i : Nat) (K : PySem.W.Frag) : Addr := match K.lookup (He.ga K x) with
  | some ⟨_, _, .seq its _, _⟩ => (match its.toList[i]? with
    | some (.ref a) => a
    | _ => 0)
  | _ => 0
def tupAt (K : PySem.W.Frag) (a : Addr) (vs : List V) : Bool := match K.lookup a with
  | some ⟨.type c, _, .seq its _, _⟩ => decide (c = "tuple") && (decide (its.size ≤ sizeLine) && He.relAll vs its.toList)
  | _ => false
theorem tupAt_ok {K : PySem.W.Frag} {a : Addr} {vs : List V} (h : tupAt K a vs = true) (H : Hp) : SqT K H a vs := by
  unfold tupAt at h
  cases q : K.lookup a with
  | none =>
    rw [q] at h
    cases h
  | some o =>
    obtain ⟨oc, od, dt, osl⟩ := o
    rw [q] at h
    cases oc with
    | type c =>
      cases dt with
      | seq its n =>
        obtain ⟨h1, h2⟩ := He.ba (show (decide (c = "tuple") && (decide (its.size ≤ sizeLine) && He.relAll vs its.toList)) = true from h)
        obtain ⟨h3, h4⟩ := He.ba h2
        exact .inr ⟨_, its, n, q, congrArg Value.type (of_decide_eq_true h1), rfl, of_decide_eq_true h3, He.relAll_ok h4⟩
      | _ => cases h
    | _ => cases dt <;> cases h
def excB (K : PySem.W.Frag) (x : Str) : Bool := decide (PySem.W.findIn K (.ref (He.ga K x)) "__getattribute__" = some (some (.builtin "BaseException.__getattribute__"))) &&
  (decide (PySem.W.findIn K (.ref (He.ga K x)) "__getattr__" = some none) && (decide (PySem.W.subIn K (.ref (He.ga K x)) (.type "BaseException") = some true) && (PySem.W.hasDictIn K (He.ga K x) &&
  (decide (PySem.W.findIn K (.ref (He.ga K x)) "__class__" = some (some (.builtin "object.__class__"))) && (decide (PySem.W.specialIn K (.builtin "object.__class__") "__get__" = some (some (.builtin "getset_descriptor.__get__"))) &&
  (decide (PySem.W.takesIn K (.builtin "object.__class__") = some true) && decide (PySem.W.mroIn K (He.ga K x) (.type "object") = some true)))))))
theorem excB_ok {K : PySem.W.Frag} {x : Str} (h : excB K x = true) : ExcC K (He.ga K x) := by
  obtain ⟨h1, h⟩ := He.ba h
  obtain ⟨h2, h⟩ := He.ba h
  obtain ⟨h3, h⟩ := He.ba h
  obtain ⟨h4, h⟩ := He.ba h
  obtain ⟨h5, h⟩ := He.ba h
  obtain ⟨h6, h⟩ := He.ba h
  obtain ⟨h7, h8⟩ := He.ba h
  exact ⟨of_decide_eq_true h1, of_decide_eq_true h2, of_decide_eq_true h3, h4, of_decide_eq_true h5, of_decide_eq_true h6, of_decide_eq_true h7, of_decide_eq_true h8⟩
def kitB (K : PySem.W.Frag) (x y : Str) (b : Bool) : Bool := decide (PySem.W.kitOne K (.ref (He.ga K x)) (.ref (He.ga K y)) = some b)
def sv (l : List Str) : List V := l.map V.str
def moreB (K : PySem.W.Frag) : Bool := tupAt K (He.ga K "TOKENS") (sv ["e", "s", "ee", "es", "se", "ss", "psk"]) && (tupAt K (He.ga K "SECRETS") (sv ["ee", "es", "se", "ss"]) &&
  (tupAt K (He.ga K "BEFORE") [.ref (itAt "BEFORE" 0 K), .ref (itAt "BEFORE" 1 K), .ref (itAt "BEFORE" 2 K)] && (tupAt K (itAt "BEFORE" 0 K) (sv ["e"]) && (tupAt K (itAt "BEFORE" 1 K) (sv ["s"]) && (tupAt K (itAt "BEFORE" 2 K) (sv ["e", "s"]) &&
  (excB K "Refused" && (excB K "OutOfOrder" && (kitB K "Refused" "Refused" true && (kitB K "Refused" "OutOfOrder" false && (kitB K "OutOfOrder" "OutOfOrder" true && kitB K "OutOfOrder" "Refused" false))))))))))
/-- all that the walk leans on -/
structure Cxt (K : PySem.W.Frag) (mg : Str → Option Value) : Prop where
  says : He.SaysD fa fn K
  more : moreB K = true
  env : ∃ h : Heap, K.In h ∧ h.Ns mainGlobals mg
theorem saysAll {fa : List He.Fa} {fn : List He.DefD} {K : PySem.W.Frag} (c : He.SaysD fa fn K) : ∀ f ∈ fa, f.ok K = true := by
  have c1 := (He.ba (show ((fa.all fun f => f.ok K) && fn.all fun d => d.ok K) = true from congrArg (fun z : He.AlD => z.1) c)).1
  exact List.all_eq_true.mp c1
theorem has_of {l : List Str} {x : Str} (h : l.contains x = true) : x ∈ l := by simpa using h
section
variable {K : PySem.W.Frag} {mg : Str → Option Value}
theorem Cxt.free (C : Cxt K mg) (x : Str) (h : frees.contains x = true := by decide +kernel) : mg x = none := by
  obtain ⟨hp, X, G⟩ := C.env
  refine He.free_ok X G (saysAll C.says (.free x) ?_)
  unfold fa
  exact List.mem_append_left _ (List.mem_map.mpr ⟨x, has_of h, rfl⟩)
theorem Cxt.glo (C : Cxt K mg) (x : Str) (h : glos.contains x = true := by decide +kernel) : mg x = some (.ref (He.ga K x)) := by
  obtain ⟨hp, X, G⟩ := C.env
  refine He.glo_ok X G (saysAll C.says (.glo x) ?_)
  unfold fa
  exact List.mem_append_right _ (List.mem_append_left _ (List.mem_map.mpr ⟨x, has_of h, rfl⟩))
theorem Cxt.int (C : Cxt K mg) (x : Str) (i : Int) (h : (x, i) ∈ gints := by decide +kernel) : ∃ t, mg x = some (.int i t) := by
  obtain ⟨hp, X, G⟩ := C.env
  refine He.int_ok X G (saysAll C.says (.int x i) ?_)
  unfold fa
  exact List.mem_append_right _ (List.mem_append_right _ (List.mem_append_left _ (List.mem_map.mpr ⟨(x, i), h, rfl⟩)))
theorem Cxt.str (C : Cxt K mg) (x z : Str) (h : (x, z) ∈ strs0 := by decide +kernel) : ∃ t, mg x = some (.str z t) := by
  obtain ⟨hp, X, G⟩ := C.env
  refine He.str_ok X G (saysAll C.says (.str x z) ?_)
  unfold fa
  exact List.mem_append_right _ (List.mem_append_right _ (List.mem_append_right _ (List.mem_append_left _ (List.mem_map.mpr ⟨(x, z), h, rfl⟩))))
theorem Cxt.cls (C : Cxt K mg) (x : Str) (h : clss.contains x = true := by decide +kernel) : Cls K (He.ga K x) := by
  refine He.cls_ok (saysAll C.says (.cls x) ?_)
  unfold fa
  exact List.mem_append_right _ (List.mem_append_right _ (List.mem_append_right _ (List.mem_append_right _ (List.mem_append_left _ (List.mem_map.mpr ⟨x, has_of h, rfl⟩)))))
theorem Cxt.noat (C : Cxt K mg) (x f : Str) (h : noAt x f = true) : NoAttr K (He.ga K x) f := by
  refine He.noat_ok (saysAll C.says (.noat x f) ?_)
  unfold fa
  refine List.mem_append_right _ (List.mem_append_right _ (List.mem_append_right _ (List.mem_append_right _ (List.mem_append_right _ (List.mem_append_left _ ?_)))))
  unfold noAt at h
  cases e : attrs.lookup x with
  | none => rw [e] at h; cases h
  | some l =>
    rw [e] at h
    have h : l.contains f = true := h
    have hm : (x, l) ∈ attrs := by
      have : ∀ {L : List (Str × List Str)}, L.lookup x = some l → (x, l) ∈ L := by
        intro L
        induction L with
        | nil => intro h; cases h
        | cons p r ih =>
          intro h
          obtain ⟨a, b⟩ := p
          have h2 : (match x == a with | true => some b | false => r.lookup x) = some l := h
          cases q : (x == a) with
          | true =>
            rw [q] at h2
            cases h2
            rw [eq_of_beq q]
            exact List.mem_cons_self
          | false =>
            rw [q] at h2
            exact List.mem_cons_of_mem _ (ih h2)
      exact this e
    exact List.mem_flatMap.mpr ⟨(x, l), hm, List.mem_map.mpr ⟨f, has_of h, rfl⟩⟩
theorem Cxt.meth (C : Cxt K mg) (x m : Str) (h : (x, m) ∈ meths := by decide +kernel) : Meth K (He.ga K x) m (He.ma K (He.ga K x) m) := by
  refine He.meth_ok (saysAll C.says (.meth x m) ?_)
  unfold fa
  exact List.mem_append_right _ (List.mem_append_right _ (List.mem_append_right _ (List.mem_append_right _ (List.mem_append_right _ (List.mem_append_right _ (List.mem_append_left _ (List.mem_map.mpr ⟨(x, m), h, rfl⟩)))))))
theorem Cxt.mkr (C : Cxt K mg) (x : Str) (h : clss.contains x = true := by decide +kernel) : Mk K (He.ga K x) (He.ma K (He.ga K x) "__init__") := by
  refine He.mkr_ok (saysAll C.says (.mkr x) ?_)
  unfold fa
  exact List.mem_append_right _ (List.mem_append_right _ (List.mem_append_right _ (List.mem_append_right _ (List.mem_append_right _ (List.mem_append_right _ (List.mem_append_right _ (List.mem_append_left _ (List.mem_map.mpr ⟨x, has_of h, rfl⟩))))))))
theorem Cxt.ex4 (C : Cxt K mg) (x : Str) (h : excs.contains x = true) : PySem.W.excIn K (He.ga K x) He.veBase "ValueError.__new__" = true ∧ PySem.W.keepIn K (.ref (He.ga K x)) = true ∧ PySem.W.subIn K (.ref (He.ga K x)) (.type "BaseException") = some true ∧
    PySem.W.typeIn K (.ref (He.ga K x)) = some (.type "type") := by
  refine He.exc_ok (saysAll C.says (.exc x) ?_)
  unfold fa
  exact List.mem_append_right _ (List.mem_append_right _ (List.mem_append_right _ (List.mem_append_right _ (List.mem_append_right _ (List.mem_append_right _ (List.mem_append_right _ (List.mem_append_right _ (List.mem_append_left _ (List.mem_map.mpr ⟨x, has_of h, rfl⟩)))))))))
theorem Cxt.exX (C : Cxt K mg) (x : Str) (h : excs.contains x = true := by decide +kernel) : PySem.W.excIn K (He.ga K x) [.type "ValueError", .type "Exception", .type "BaseException", .type "object"] "ValueError.__new__" = true := (C.ex4 x h).1
theorem Cxt.exK (C : Cxt K mg) (x : Str) (h : excs.contains x = true := by decide +kernel) : PySem.W.keepIn K (.ref (He.ga K x)) = true := (C.ex4 x h).2.1
theorem Cxt.exB (C : Cxt K mg) (x : Str) (h : excs.contains x = true := by decide +kernel) : PySem.W.subIn K (.ref (He.ga K x)) (.type "BaseException") = some true := (C.ex4 x h).2.2.1
theorem Cxt.exT (C : Cxt K mg) (x : Str) (h : excs.contains x = true := by decide +kernel) : PySem.W.typeIn K (.ref (He.ga K x)) = some (.type "type") := (C.ex4 x h).2.2.2
theorem Cxt.exm (C : Cxt K mg) (x : Str) (h : x = "Refused" ∨ x = "OutOfOrder") : PySem.W.exmOne K (.ref (He.ga K x)) (.ref (He.ga K "HushError")) = some true := by
  refine He.exm_ok (saysAll C.says (.exm x "HushError" true) ?_)
  unfold fa
  refine List.mem_append_right _ (List.mem_append_right _ (List.mem_append_right _ (List.mem_append_right _ (List.mem_append_right _ (List.mem_append_right _ (List.mem_append_right _ (List.mem_append_right _ (List.mem_append_right _ ?_))))))))
  rcases h with rfl | rfl
  · exact List.mem_cons_self
  · exact List.mem_cons_of_mem _ List.mem_cons_self
theorem Cxt.tx (C : Cxt K mg) : Tx K := ⟨fun c h => C.cls c (by
    unfold isCl at h
    cases e : attrs.lookup c with
    | none => rw [e] at h; cases h
    | some l =>
      have : ∀ {L : List (Str × List Str)}, L.lookup c = some l → c ∈ L.map (·.1) := by
        intro L
        induction L with
        | nil => intro h; cases h
        | cons p r ih =>
          intro h
          obtain ⟨a, b⟩ := p
          have h2 : (match c == a with | true => some b | false => r.lookup c) = some l := h
          cases q : (c == a) with
          | true => rw [eq_of_beq q]; exact List.mem_cons_self
          | false =>
            rw [q] at h2
            exact List.mem_cons_of_mem _ (ih h2)
      have hm := this e
      have e2 : attrs.map (·.1) = clss := by decide +kernel
      rw [e2] at hm
      simpa using hm), C.noat⟩
theorem Cxt.tokens (C : Cxt K mg) (F : Hp) : Rp K F (.ref (He.ga K "TOKENS")) (strsT ["e", "s", "ee", "es", "se", "ss", "psk"]) := .tup (tupAt_ok (He.ba C.more).1 F) (strs_rps _)
theorem Cxt.secrets (C : Cxt K mg) (F : Hp) : Rp K F (.ref (He.ga K "SECRETS")) (strsT ["ee", "es", "se", "ss"]) := .tup (tupAt_ok (He.ba (He.ba C.more).2).1 F) (strs_rps _)
theorem Cxt.before (C : Cxt K mg) (F : Hp) : Rp K F (.ref (He.ga K "BEFORE")) (.tup [strsT ["e"], strsT ["s"], strsT ["e", "s"]]) := by
  obtain ⟨h1, h⟩ := He.ba (He.ba (He.ba C.more).2).2
  obtain ⟨h2, h⟩ := He.ba h
  obtain ⟨h3, h⟩ := He.ba h
  obtain ⟨h4, h⟩ := He.ba h
  exact .tup (tupAt_ok h1 F) (.cons (.tup (tupAt_ok h2 F) (strs_rps _)) (.cons (.tup (tupAt_ok h3 F) (strs_rps _)) (.cons (.tup (tupAt_ok h4 F) (strs_rps _)) .nil)))
theorem Cxt.isi (C : Cxt K mg) : ExcC K (He.ga K "Refused") ∧ ExcC K (He.ga K "OutOfOrder") ∧ PySem.W.kitOne K (.ref (He.ga K "Refused")) (.ref (He.ga K "Refused")) = some true ∧ PySem.W.kitOne K (.ref (He.ga K "Refused")) (.ref (He.ga K "OutOfOrder")) = some false ∧
    PySem.W.kitOne K (.ref (He.ga K "OutOfOrder")) (.ref (He.ga K "OutOfOrder")) = some true ∧ PySem.W.kitOne K (.ref (He.ga K "OutOfOrder")) (.ref (He.ga K "Refused")) = some false := by
  obtain ⟨_, h⟩ := He.ba C.more
  obtain ⟨_, h⟩ := He.ba h
  obtain ⟨_, h⟩ := He.ba h
  obtain ⟨_, h⟩ := He.ba h
  obtain ⟨_, h⟩ := He.ba h
  obtain ⟨_, h⟩ := He.ba h
  obtain ⟨h1, h⟩ := He.ba h
  obtain ⟨h2, h⟩ := He.ba h
  obtain ⟨h3, h⟩ := He.ba h
  obtain ⟨h4, h⟩ := He.ba h
  obtain ⟨h5, h6⟩ := He.ba h
  exact ⟨excB_ok h1, excB_ok h2, of_decide_eq_true h3, of_decide_eq_true h4, of_decide_eq_true h5, of_decide_eq_true h6⟩
end
/-! ### a def of the text keeps its promise -/
theorem u65 {k : Nat} {A : Around} (r : Room k A) : A.units + 65 < cLine := by have := r.un; omega
section
variable {X : Cx} {x : Str} {pos : Pos}
theorem pe_gint {i : Int} (hg : Gl X x) (h : ∃ t, X.mg x = some (.int i t)) (hd : (x == ("__debug__" : Str)) = false := by decide) : PE X (.Name x pos) (tC (.int i)) := by
  obtain ⟨t, e⟩ := h
  exact pe_glob hg e ⟨t, rfl⟩ hd
theorem pe_gstr {z : Str} (hg : Gl X x) (h : ∃ t, X.mg x = some (.str z t)) (hd : (x == ("__debug__" : Str)) = false := by decide) : PE X (.Name x pos) (tC (.str z)) := by
  obtain ⟨t, e⟩ := h
  exact pe_glob hg e ⟨t, rfl⟩ hd
theorem pe_gref {a : Addr} (hg : Gl X x) (h : X.mg x = some (.ref a)) (hd : (x == ("__debug__" : Str)) = false := by decide) : PE X (.Name x pos) (tC (.ref a)) := pe_glob hg h rfl hd
end
section
variable {P : Program} {w : World} {K : PySem.W.Frag} {mg : Str → Option Value} {base : Heap} {N ps : List Str} {k : Nat} {R : SpR}
theorem Fn.of (C : Cxt K mg) {x : Str} (i : Nat) (d : He.DefD) (hd : fn[i]? = some d) (hat : d.at_ = (x, none)) (hf : d.dfl = []) (hk : d.kwd = []) (hg : glos.contains x = true) (S : FnScope N ps d.scope)
    (hb : ∀ (kV doc pm : Value) (an : Option Addr) (cdv ct : Value) (us : List Value), us.length = ps.length → bindArgs (PySem.W.fnOf d.name d.qual d.params d.body d.scope .none kV doc pm an cdv ct) ⟨us, []⟩ = pure (ps.zip us))
    (len : ∀ ds M q ex, R ds M q ex → ds.length = ps.length)
    (h : ∀ (cdv : Value) (A : Around) (outer : List Env) (s : Shared) (H : Hp) (E : XK), Room k (A.deeper (envOfC d.qual d.scope s.heap.objs.size (He.ga K x) cdv)) →
      ∃ t, PSs (cxOf CX0 P w K mg base N d.qual d.scope (He.ga K x) cdv A outer s H E).nox d.body t ∧ ∀ ds M q ex, R ds M q ex → StD K W0 t (startD N ds) M { nx := fun _ M' => q .non M', rt := q }) : Fn P w K mg base CX0 x (k + 1) ps R := by
  obtain ⟨fd, F⟩ := C.says.def_ i hd
  have ea : He.fAd K d.at_ = He.ga K x := by rw [hat] <;> rfl
  have e1 : d.dvs K = [] := by unfold He.DefD.dvs; rw [hf] <;> rfl
  rw [ea, e1] at F
  exact ⟨⟨fd, body0 F S len h, FunD.bindsN F hb⟩, F.kp, C.glo x hg⟩
theorem Me.of (C : Cxt K mg) {c m : Str} (i : Nat) (d : He.DefD) (hd : fn[i]? = some d) (hat : d.at_ = (c, some m)) (hf : d.dfl = []) (hk : d.kwd = []) (hm : (c, m) ∈ meths) (hc : clss.contains c = true) (S : FnScope N ps d.scope)
    (hb : ∀ (kV doc pm : Value) (an : Option Addr) (cdv ct : Value) (us : List Value), us.length = ps.length → bindArgs (PySem.W.fnOf d.name d.qual d.params d.body d.scope .none kV doc pm an cdv ct) ⟨us, []⟩ = pure (ps.zip us))
    (len : ∀ ds M q ex, R ds M q ex → ds.length = ps.length)
    (h : ∀ (cdv : Value) (A : Around) (outer : List Env) (s : Shared) (H : Hp) (E : XK), Room k (A.deeper (envOfC d.qual d.scope s.heap.objs.size (He.ma K (He.ga K c) m) cdv)) →
      ∃ t, PSs (cxOf CX0 P w K mg base N d.qual d.scope (He.ma K (He.ga K c) m) cdv A outer s H E).nox d.body t ∧ ∀ ds M q ex, R ds M q ex → StD K W0 t (startD N ds) M { nx := fun _ M' => q .non M', rt := q }) : Me P w K mg base CX0 c m (k + 1) ps R := by
  obtain ⟨fd, F⟩ := C.says.def_ i hd
  have ea : He.fAd K d.at_ = He.ma K (He.ga K c) m := by rw [hat] <;> rfl
  have e1 : d.dvs K = [] := by unfold He.DefD.dvs; rw [hf] <;> rfl
  rw [ea, e1] at F
  exact ⟨⟨fd, body0 F S len h, FunD.bindsN F hb⟩, C.meth c m hm, C.cls c hc⟩
theorem Ma.of (C : Cxt K mg) {c : Str} (i : Nat) (d : He.DefD) (hd : fn[i]? = some d) (hat : d.at_ = (c, some ("__init__" : Str))) (hf : d.dfl = []) (hk : d.kwd = []) (hc : clss.contains c = true) (hg : glos.contains c = true) (S : FnScope N ps d.scope)
    (hb : ∀ (kV doc pm : Value) (an : Option Addr) (cdv ct : Value) (us : List Value), us.length = ps.length → bindArgs (PySem.W.fnOf d.name d.qual d.params d.body d.scope .none kV doc pm an cdv ct) ⟨us, []⟩ = pure (ps.zip us))
    (len : ∀ ds M q ex, R ds M q ex → ds.length = ps.length)
    (h : ∀ (cdv : Value) (A : Around) (outer : List Env) (s : Shared) (H : Hp) (E : XK), Room k (A.deeper (envOfC d.qual d.scope s.heap.objs.size (He.ma K (He.ga K c) "__init__") cdv)) →
      ∃ t, PSs (cxOf CX0 P w K mg base N d.qual d.scope (He.ma K (He.ga K c) "__init__") cdv A outer s H E).nox d.body t ∧ ∀ ds M q ex, R ds M q ex → StD K W0 t (startD N ds) M { nx := fun _ M' => q .non M', rt := q }) : Ma P w K mg base CX0 c (k + 1) ps R := by
  obtain ⟨fd, F⟩ := C.says.def_ i hd
  have ea : He.fAd K d.at_ = He.ma K (He.ga K c) "__init__" := by rw [hat] <;> rfl
  have e1 : d.dvs K = [] := by unfold He.DefD.dvs; rw [hf] <;> rfl
  rw [ea, e1] at F
  exact ⟨⟨fd, body0 F S len h, FunD.bindsN F hb⟩, C.mkr c hc, C.glo c hg⟩
/-- with keyword-only parameters, all of them to be given -/
theorem Fk.of (C : Cxt K mg) {x : Str} {n : Nat} {ks : List Str} (i : Nat) (d : He.DefD) (hd : fn[i]? = some d) (hat : d.at_ = (x, none)) (hf : d.dfl = []) (hk : d.kwd = []) (hg : glos.contains x = true) (S : FnScope N ps d.scope)
    (hb : ∀ (kV doc pm : Value) (an : Option Addr) (cdv ct : Value) (us ws : List Value), us.length = n → ws.length = ks.length → bindArgs (PySem.W.fnOf d.name d.qual d.params d.body d.scope .none kV doc pm an cdv ct) ⟨us, ks.zip ws⟩ = pure (ps.zip (us ++ ws)))
    (len : ∀ ds M q ex, R ds M q ex → ds.length = ps.length)
    (h : ∀ (cdv : Value) (A : Around) (outer : List Env) (s : Shared) (H : Hp) (E : XK), Room k (A.deeper (envOfC d.qual d.scope s.heap.objs.size (He.ga K x) cdv)) →
      ∃ t, PSs (cxOf CX0 P w K mg base N d.qual d.scope (He.ga K x) cdv A outer s H E).nox d.body t ∧ ∀ ds M q ex, R ds M q ex → StD K W0 t (startD N ds) M { nx := fun _ M' => q .non M', rt := q }) : Fk P w K mg base CX0 x (k + 1) n ps ks R := by
  obtain ⟨fd, F⟩ := C.says.def_ i hd
  have ea : He.fAd K d.at_ = He.ga K x := by rw [hat] <;> rfl
  have e1 : d.dvs K = [] := by unfold He.DefD.dvs; rw [hf] <;> rfl
  rw [ea, e1] at F
  refine ⟨⟨fd, body0 F S len h, ?_⟩, F.kp, C.glo x hg⟩
  obtain ⟨oc, od, dV, kV, doc, pm, an, cdv, ct, osl, rfl, lk, hcd, hD, hK⟩ := F.ex
  have z : dV = .none := by
    rcases hD with ⟨_, e⟩ | ⟨e, _⟩
    · exact e
    · exact absurd rfl e
  subst z
  exact ⟨fun s us ws _ l1 l2 => .of_eq (hb kV doc pm an cdv ct us ws l1 l2), fun r1 r2 => r1.append r2⟩
end
section
/-! ### the head: facts by names, the run -/
/-- what an object leads to, no class's bases -/
def refsX (o : Obj) : List Addr := match o.data with
  | .seq its _ => its.toList.flatMap He.refV
  | .dict es _ => es.toList.flatMap fun e => He.refV e.val
  | .func fd => He.refV fd.code ++ He.refV fd.kwdefaults
  | .cls cd => [cd.ns]
  | _ => []
def nextX (g : Addr → Option Obj) (as : List Addr) : List Addr := as.flatMap fun a => match g a with
  | some o => refsX o
  | none => []
def asX (g : Addr → Option Obj) : Nat → List Addr → List Addr
  | 0, l => l
  | n + 1, l => l ++ asX g n (nextX g l)
def fragX (g : Addr → Option Obj) : PySem.W.Frag := He.frG g (asX g 5 [mainGlobals])
abbrev RR : PySem.W.OpenRow := PySem.W.OpenLaw.row PySem.Challenge.rw_hushlink_k85_whole_any_pattern_agrees
noncomputable abbrev runOf (w : World) (os : OsState) : Option PySem.W.SharedT := HandSHeadRun.endF (HandSHeadRun.stepQ (HandSHeadRun.denQ HandSHeadRun.tabQ) RR.prog w) 20000 RR.prog w os
def nm0 : List Str := ["HushError", "OutOfRange", "Malformed", "NotAuthentic", "Exhausted", "OutOfOrder", "Refused", "TOKENS", "BEFORE", "OPENER", "ANSWERER", "Pattern", "parse_line", "parse_before", "parse_messages", "parse_pattern", "SECRETS", "transport_senders", "pattern_steps", "repeats_key", "repeats_secret", "misses_key", "misses_ephemeral", "misplaces_psk"]
def nm1 : List Str := ["psk_without_key", "broken_rule", "sends_secret", "needs_secret", "needs_peer", "uses_psk", "to_little", "to_big", "from_big", "from_little", "cut", "combine", "BLOCK_SIZE", "MESSAGE_LIMIT", "KEYED_LIMIT", "GROUP", "HALF_GROUP", "BASE", "MODULUS", "SECRET_BITS", "STREAM_BITS", "small_power", "small_exponent", "small_mix"]
def nm2 : List Str := ["small_pair", "small_digest", "small_stream", "KEY_LIMIT", "LAST_NUMBER", "check_key", "check_keyed", "check_sealing", "SmallSuite", "two_values", "three_values", "NumberedKey", "Transcript", "MESSAGE_SIZE", "PROLOGUE_SIZE", "PSK_SIZE", "needs_ephemeral", "needs_peer_ephemeral", "check_part", "needed_parts", "Handshake", "_law_cell", "_law_pick", "_law_digit"]
def nm3 : List Str := ["_law_state", "_law_before", "_law_tokens", "_law_messages", "_law_base", "_law_edit", "_law_drawn", "_law_flat", "_law_sent", "_law_mixed", "_law_encryptions", "_law_breaks_counts", "_law_breaks_keys", "_law_breaks_encryption", "_law_breaks_psk", "_law_broken", "_law_pattern_name", "_law_text", "_law_bytes", "_law_shows", "_law_end", "_law_refused", "_law_lacks", "_law_out_of_order"]
def nm4 : List Str := ["_law_mix", "_law_mix_key", "_law_public", "_law_line", "_law_seal", "_law_message", "_law_turn", "_law_agree", "_law_keys"]
def names : List Str := nm0 ++ (nm1 ++ (nm2 ++ (nm3 ++ (nm4))))
def obsX (K : PySem.W.Frag) : He.AlD × Bool := (He.obsD fa fn K, moreB K)
def hkX : PySem.W.Hook where
  α := He.AlD × Bool
  obs := fun s => obsX (fragX s.heap.get?)
  val := fun _ => (He.valD fn, true)
  says := fun _ h => ∃ K : PySem.W.Frag, K.In h ∧ He.SaysD fa fn K ∧ moreB K = true
  of := fun _ _ e => ⟨_, He.frG_in, congrArg Prod.fst e, congrArg Prod.snd e⟩
  keeps := fun _ _ _ ⟨K, hK, c⟩ k => ⟨K, PySem.W.Frag.In.keeps hK k, c⟩
def obX (s : PySem.W.SharedT) : hkX.α := obsX (fragX (HandSHeadRun.getT s))
theorem obX_eq (s : PySem.W.SharedT) : obX s = hkX.obs s.abs := by
  have e : HandSHeadRun.getT s = s.abs.heap.get? := funext (HandSHeadRun.getT_eq s)
  unfold obX
  rw [e] <;> rfl
abbrev viewX : Program := PySem.W.view RR.prog [115]
noncomputable abbrev looksX (w : World) (s : PySem.W.SharedT) := HandSHeadRun.looksF RR.prog (PySem.W.boot_heap w.params) s.abs
noncomputable abbrev seenX (s : PySem.W.SharedT) := HandSHeadRun.seenQ viewX names (PySem.importedModules RR.prog.main.body) (fun s => PySem.W.xlAt viewX [] s && PySem.W.recOk RR.toRowW.records s) s.abs
theorem run_seen (w : World) (os : OsState) : (runOf w os).map (fun s => (looksX w s, seenX s)) = some (true, PySem.W.openGood viewX names) := by
  kernel_rfl
theorem run_fn (w : World) (os : OsState) : (runOf w os).map (fun s => fn.map fun d => He.fnW (fragX (HandSHeadRun.getT s)) d.at_) = some (fn.map He.DefD.val) := by
  kernel_rfl
theorem run_fo (w : World) (os : OsState) : (runOf w os).map (fun s => fn.all fun d => d.ok (fragX (HandSHeadRun.getT s))) = some true := by
  kernel_rfl
theorem run_fa (w : World) (os : OsState) : (runOf w os).map (fun s => (fa.all fun d => d.ok (fragX (HandSHeadRun.getT s))) && moreB (fragX (HandSHeadRun.getT s))) = some true := by
  kernel_rfl
theorem runX (w : World) : HandSHeadRun.RunEq RR viewX hkX obX 20000 names w := by
  intro os
  show (runOf w os).map _ = _
  have h1 := run_seen w os
  have h2 := run_fn w os
  have h3 := run_fo w os
  have h4 := run_fa w os
  cases e : runOf w os with
  | none => rw [e] at h1; cases h1
  | some s =>
    rw [e] at h1 h2 h3 h4
    have e1 := Option.some.inj h1
    have e2 := Option.some.inj h2
    have e3 := Option.some.inj h3
    have e4 := He.ba (Option.some.inj h4)
    have e5 : obX s = hkX.val w := by
      show ((((fa.all fun d => d.ok (fragX (HandSHeadRun.getT s))) && fn.all fun d => d.ok (fragX (HandSHeadRun.getT s))), fn.map fun d => He.fnW (fragX (HandSHeadRun.getT s)) d.at_), moreB (fragX (HandSHeadRun.getT s))) = ((true, fn.map He.DefD.val), true)
      have e3 : (fn.all fun d => d.ok (fragX (HandSHeadRun.getT s))) = true := e3
      have e2 : (fn.map fun d => He.fnW (fragX (HandSHeadRun.getT s)) d.at_) = fn.map He.DefD.val := e2
      rw [e4.1, e4.2, e3, e2]
      rfl
    have a := Prod.mk.inj (show (looksX w s, seenX s) = (true, PySem.W.openGood viewX names) from e1)
    show some (looksX w s, seenX s, obX s) = some (true, PySem.W.openGood viewX names, hkX.val w)
    rw [a.1, a.2, e5]
end
section
section
open PySem PySem.W PySem.Calls PyProof.Rows
set_option maxHeartbeats 0 in
theorem head_law (hc : WalkO viewX names (XL viewX []) hkX.says (OpenLaw.row PySem.Challenge.rw_hushlink_k85_whole_any_pattern_agrees).toRowW (HandSHeadRun.topDef (OpenLaw.row PySem.Challenge.rw_hushlink_k85_whole_any_pattern_agrees).prog 115) [] fun f vs => PySem.call f vs) : PySem.Challenge.rw_hushlink_k85_whole_any_pattern_agrees.Holds := by
  w_on; o_law
  refine HandSHeadRun.head_any (r := OpenLaw.row PySem.Challenge.rw_hushlink_k85_whole_any_pattern_agrees) (q := viewX) (H := hkX) (ob := obX) (M := 20000) (loose := names) (d := HandSHeadRun.topDef (OpenLaw.row PySem.Challenge.rw_hushlink_k85_whole_any_pattern_agrees).prog 115) (kwd := []) obX_eq
    (by kernel_rfl) (fun s => by kernel_rfl) runX (by kernel_rfl) (by kernel_rfl) (by kernel_rfl) (by rfl) (by first | assumption | decide +kernel) (by decide +kernel) ⟨rfl, rfl, rfl, rfl, rfl, by decide +kernel⟩ ?hw hc
  case hw => w_witness2
end
end
theorem ex_bl {c : Bool} {P : Bool → Prop} (h : P c) : ∃ b, D.bl c = D.bl b ∧ P b := ⟨c, rfl, h⟩
theorem ex_int {c : Int} {P : Int → Prop} (h : P c) : ∃ b, D.int c = D.int b ∧ P b := ⟨c, rfl, h⟩
theorem ex_str {c : Str} {P : Str → Prop} (h : P c) : ∃ b, D.str c = D.str b ∧ P b := ⟨c, rfl, h⟩
theorem ex_lst {c : List D} {P : List D → Prop} (h : P c) : ∃ b, D.lst c = D.lst b ∧ P b := ⟨c, rfl, h⟩
theorem ex_one {c : Int} {P : Int → Prop} (h : P c) : ∃ b, [D.int c] = [D.int b] ∧ P b := ⟨c, rfl, h⟩
theorem ex_tup1 {c : List D} {P : List D → Prop} (h : P c) : ∃ b, [D.tup c] = [D.tup b] ∧ P b := ⟨c, rfl, h⟩
theorem ex_par {a b : D} {P : D → D → Prop} (h : P a b) : ∃ c d, [a, b] = [c, d] ∧ P c d := ⟨a, b, rfl, h⟩
theorem ex_par3 {a b c : D} {P : D → D → D → Prop} (h : P a b c) : ∃ x y z, [a, b, c] = [x, y, z] ∧ P x y z := ⟨a, b, c, rfl, h⟩
theorem ite_no {c p q : Prop} [Decidable c] (hc : ¬c) (h : q) : if c then p else q := by rw [if_neg hc]; exact h
theorem ite_yes {c p q : Prop} [Decidable c] (hc : c) (h : p) : if c then p else q := by rw [if_pos hc]; exact h
theorem cxOf_K {CX : CXT} {P : Program} {w : World} {K : PySem.W.Frag} {mg : Str → Option Value} {base : Heap} {N : List Str} {qual : Str} {scope : Scope} {f : Addr} {cd : Value} {A : Around} {outer : List Env} {s : Shared} {H : Hp} {E : XK} : (cxOf CX P w K mg base N qual scope f cd A outer s H E).K = K := rfl
section
variable {K : PySem.W.Frag} {W : WX} {M M1 : Mem} {Γ : Gm} {DD : DE} {ta tb te tv td ty : TE} {tt tc : TT} {t u tu : TS} {g : TG} {wi : TI} {nx bk ct : Gm → Mem → Prop} {rt : D → Mem → Prop} {ex : Gm → Value → Mem → Prop}
/-! the statements' rules, the ends spelled out -/
theorem xs_seq (h : StD K W t Γ M ⟨fun Γ' M' => StD K W u Γ' M' ⟨nx, rt, bk, ct, ex⟩, rt, bk, ct, ex⟩) : StD K W (tSeq t u) Γ M ⟨nx, rt, bk, ct, ex⟩ := sd_seq h
theorem xs_next (h : nx Γ M) : StD K W tNext Γ M ⟨nx, rt, bk, ct, ex⟩ := sd_next h
theorem xs_brk (h : bk Γ M) : StD K W tBreak Γ M ⟨nx, rt, bk, ct, ex⟩ := sd_brk h
theorem xs_cont (h : ct Γ M) : StD K W tCont Γ M ⟨nx, rt, bk, ct, ex⟩ := sd_cont h
theorem xs_drop (h : EvD K te Γ M fun _ M1 => nx Γ M1) : StD K W (tDrop te) Γ M ⟨nx, rt, bk, ct, ex⟩ := sd_drop h
theorem xs_ret (h : EvD K te Γ M rt) : StD K W (tRet te) Γ M ⟨nx, rt, bk, ct, ex⟩ := sd_ret h
theorem xs_retN (h : rt .non M) : StD K W tRetN Γ M ⟨nx, rt, bk, ct, ex⟩ := sd_retN h
theorem xs_asg (h : EvD K te Γ M fun d M1 => GtD K g d Γ M1 nx) : StD K W (tAsg te g) Γ M ⟨nx, rt, bk, ct, ex⟩ := sd_asg h
theorem xs_par {i j : Nat} {ta : TA} (h : EvA K ta Γ M fun ds M1 => ∃ d e, ds = [d, e] ∧ nx ((Γ.set i (some d)).set j (some e)) M1) : StD K W (tPar i j ta) Γ M ⟨nx, rt, bk, ct, ex⟩ := sd_par h
theorem xs_par3 {i j l : Nat} {ta : TA} (h : EvA K ta Γ M fun ds M1 => ∃ d e f, ds = [d, e, f] ∧ nx (((Γ.set i (some d)).set j (some e)).set l (some f)) M1) : StD K W (tPar3 i j l ta) Γ M ⟨nx, rt, bk, ct, ex⟩ := sd_par3 h
theorem xs_aug {i : Nat} {ti : TIp} {d : D} (hi : Γ[i]? = some (some d)) (h : EvD K te Γ M fun e M1 => OpD K ti d e M1 fun z M2 => nx (Γ.set i (some z)) M2) : StD K W (tAug i te ti) Γ M ⟨nx, rt, bk, ct, ex⟩ := sd_aug hi h
theorem xs_fld {f : Str} (h : EvD K tv Γ M fun y M1 => EvD K ta Γ M1 fun x M2 => SetD K f x y M2 fun M3 => nx Γ M3) : StD K W (sFld K ta tv f) Γ M ⟨nx, rt, bk, ct, ex⟩ := sd_fld h
theorem xs_dput (h : EvD K tv Γ M fun d M1 => EvD K td Γ M1 fun x M2 => EvD K ty Γ M2 fun y M3 => DpD K x y d M3 fun M4 => nx Γ M4) : StD K W (sDPut td ty tv) Γ M ⟨nx, rt, bk, ct, ex⟩ := sd_dput h
theorem xs_for (P : List D → Nat → Gm → Mem → Prop) (h : ItD K wi Γ M fun ds M1 => P ds 0 Γ M1 ∧ (∀ i d Γ' M', ds[i]? = some d → P ds i Γ' M' → GtD K g d Γ' M' fun Γ2 M2 => StD K W t Γ2 M2 ⟨P ds (i + 1), rt, nx, P ds (i + 1), ex⟩) ∧
    ∀ Γ' M', P ds ds.length Γ' M' → nx Γ' M') : StD K W (tFor wi g t) Γ M ⟨nx, rt, bk, ct, ex⟩ := sd_for P h
theorem xs_while (P : Nat → Gm → Mem → Prop) (m0 : Nat) (h0 : P m0 Γ M) (hs : ∀ m Γ' M', P m Γ' M' → TtD K tc Γ' M' fun b M1 => if b = true then StD K W t Γ' M1 ⟨fun Γ2 M2 => ∃ m', m' < m ∧ P m' Γ2 M2, rt, nx, fun Γ2 M2 => ∃ m', m' < m ∧ P m' Γ2 M2, ex⟩ else nx Γ' M1) :
    StD K W (tWhile tc t) Γ M ⟨nx, rt, bk, ct, ex⟩ := sd_while P m0 h0 hs
/-- for over the shown data; what remains of the run is told by run, the state by b -/
theorem xs_forR {α β γ : Type} (xs : List α) (f : α → D) (run : β → List α → γ) (b0 : β) (G : Nat → β → Gm → Mem → Prop) (h : ItD K wi Γ M fun ds M1 => ds = xs.map f ∧ G 0 b0 Γ M1 ∧
    (∀ (i : Nat) (x : α) (b : β) Γ' M', xs[i]? = some x → run b (x :: xs.drop (i + 1)) = run b0 xs → G i b Γ' M' → GtD K g (f x) Γ' M' fun Γ2 M2 => StD K W t Γ2 M2 ⟨fun Γ3 M3 => ∃ b', run b' (xs.drop (i + 1)) = run b0 xs ∧ G (i + 1) b' Γ3 M3, rt, nx, fun Γ3 M3 => ∃ b', run b' (xs.drop (i + 1)) = run b0 xs ∧ G (i + 1) b' Γ3 M3, ex⟩) ∧
    ∀ b Γ' M', run b [] = run b0 xs → G xs.length b Γ' M' → nx Γ' M') : StD K W (tFor wi g t) Γ M ⟨nx, rt, bk, ct, ex⟩ := by
  refine xs_for (fun ds i Γ' M' => ds = xs.map f → ∃ b, run b (xs.drop i) = run b0 xs ∧ G i b Γ' M') ?_
  intro σ F H S E R A
  refine h σ F H S E R fun J ds F' M' H' st S' ok z => ?_
  obtain ⟨rfl, z0, z1, z2⟩ := z
  refine A J _ F' M' H' st S' ok ⟨fun _ => ⟨b0, rfl, z0⟩, fun i d Γ' M' hd p => ?_, fun Γ' M' p => ?_⟩
  · obtain ⟨b, hb, p⟩ := p rfl
    rw [List.getElem?_map] at hd
    obtain ⟨x, hx, rfl⟩ := Option.map_eq_some_iff.mp hd
    have e : xs.drop i = x :: xs.drop (i + 1) := by
      obtain ⟨hl, ex⟩ := List.getElem?_eq_some_iff.mp hx
      rw [← ex]; exact List.drop_eq_getElem_cons hl
    rw [e] at hb
    intro σ2 F2 H2 v S2 E2 r2 Q2 A2
    refine z1 i x b Γ' M' hx hb p σ2 F2 H2 v S2 E2 r2 Q2 fun σ3 Γ3 F3 M3 H3 s3 S3 E3 z3 => A2 σ3 Γ3 F3 M3 H3 s3 S3 E3 ?_
    exact sd_mono z3 (fun _ _ q _ => q) (fun _ _ q => q) (fun _ _ q => q) (fun _ _ q _ => q) (fun _ _ _ q => q)
  · obtain ⟨b, hb, p⟩ := p rfl
    rw [List.length_map] at hb p
    rw [List.drop_length] at hb
    exact z2 b Γ' M' hb p
theorem tt_yes {qb : Bool → Mem → Prop} (h : qb true M) : TtD K tYes Γ M qb := fun σ F H S E Q A => A true F M H (Step.refl F M H) S h
/-- [e for x in xs], no state changed -/
theorem ev_lcM {α : Type} {vs : List Nat} {q : D → Mem → Prop} (xs : List α) (f : α → D) (y : α → D) (ho : Own g vs)
    (h : ItD K wi Γ M fun ds M1 => ds = xs.map f ∧ xs.length < sizeLine ∧ (∀ (i : Nat) (x : α), xs[i]? = some x → GtD K g (f x) (wipeD Γ vs) M1 fun Γ2 M2 => TtD K tt Γ2 M2 fun b M3 => b = true ∧ EvD K te Γ2 M3 fun z M4 => z = y x ∧ M4 = M1) ∧ q (.lst (xs.map y)) M1) : EvD K (tLc wi g tt te vs) Γ M q := by
  refine ev_lc (fun ds i acc M' => ∃ M1, ds = xs.map f ∧ M' = M1 ∧ acc = (xs.take i).map y ∧ (∀ (i : Nat) (x : α), xs[i]? = some x → GtD K g (f x) (wipeD Γ vs) M1 fun Γ2 M2 => TtD K tt Γ2 M2 fun b M3 => b = true ∧ EvD K te Γ2 M3 fun z M4 => z = y x ∧ M4 = M1) ∧ q (.lst (xs.map y)) M1) ho ?_
  intro σ F H S E R A
  refine h σ F H S E R fun J ds F' M' H' st S' ok z => ?_
  obtain ⟨rfl, zl, z1, z2⟩ := z
  refine A J _ F' M' H' st S' ok ⟨by rw [List.length_map]; exact zl, ⟨M', rfl, rfl, by simp, z1, z2⟩, fun i d acc M2 hd p => ?_, fun acc M2 p => ?_⟩
  · obtain ⟨M3, _, rfl, rfl, p1, p2⟩ := p
    rw [List.getElem?_map] at hd
    obtain ⟨x, hx, rfl⟩ := Option.map_eq_some_iff.mp hd
    intro σ2 F2 H2 v S2 E2 r2 Q2 A2
    refine p1 i x hx σ2 F2 H2 v S2 E2 r2 Q2 fun σ3 Γ3 F3 M3 H3 s3 S3 E3 z3 => A2 σ3 Γ3 F3 M3 H3 s3 S3 E3 ?_
    intro σ4 F4 H4 S4 E4 Q4 A4
    refine z3 σ4 F4 H4 S4 E4 Q4 fun b F5 M5 H5 s5 S5 z5 => A4 b F5 M5 H5 s5 S5 ?_
    obtain ⟨rfl, z5⟩ := z5
    rw [if_pos rfl]
    refine ev_mono z5 fun d M6 e => ?_
    obtain ⟨rfl, rfl⟩ := e
    refine ⟨_, rfl, rfl, ?_, p1, p2⟩
    rw [List.take_succ, hx]; simp
  · obtain ⟨M3, _, rfl, rfl, p1, p2⟩ := p
    rw [List.length_map, List.take_length]
    exact p2
/-- [e for x in xs if c] -/
theorem ev_lcF {α : Type} {vs : List Nat} {q : D → Mem → Prop} (xs : List α) (f : α → D) (c : α → Bool) (y : α → D) (ho : Own g vs)
    (h : ItD K wi Γ M fun ds M1 => ds = xs.map f ∧ xs.length < sizeLine ∧ (∀ (i : Nat) (x : α), xs[i]? = some x → GtD K g (f x) (wipeD Γ vs) M1 fun Γ2 M2 => TtD K tt Γ2 M2 fun b M3 => b = c x ∧ M3 = M1 ∧ (b = true → EvD K te Γ2 M1 fun z M4 => z = y x ∧ M4 = M1)) ∧ q (.lst ((xs.filter c).map y)) M1) : EvD K (tLc wi g tt te vs) Γ M q := by
  refine ev_lc (fun ds i acc M' => ∃ M1, ds = xs.map f ∧ M' = M1 ∧ acc = ((xs.take i).filter c).map y ∧ (∀ (i : Nat) (x : α), xs[i]? = some x → GtD K g (f x) (wipeD Γ vs) M1 fun Γ2 M2 => TtD K tt Γ2 M2 fun b M3 => b = c x ∧ M3 = M1 ∧ (b = true → EvD K te Γ2 M1 fun z M4 => z = y x ∧ M4 = M1)) ∧ q (.lst ((xs.filter c).map y)) M1) ho ?_
  intro σ F H S E R A
  refine h σ F H S E R fun J ds F' M' H' st S' ok z => ?_
  obtain ⟨rfl, zl, z1, z2⟩ := z
  refine A J _ F' M' H' st S' ok ⟨by rw [List.length_map]; exact zl, ⟨M', rfl, rfl, by simp, z1, z2⟩, fun i d acc M2 hd p => ?_, fun acc M2 p => ?_⟩
  · obtain ⟨M3, _, rfl, rfl, p1, p2⟩ := p
    rw [List.getElem?_map] at hd
    obtain ⟨x, hx, rfl⟩ := Option.map_eq_some_iff.mp hd
    intro σ2 F2 H2 v S2 E2 r2 Q2 A2
    refine p1 i x hx σ2 F2 H2 v S2 E2 r2 Q2 fun σ3 Γ3 F3 M3 H3 s3 S3 E3 z3 => A2 σ3 Γ3 F3 M3 H3 s3 S3 E3 ?_
    intro σ4 F4 H4 S4 E4 Q4 A4
    refine z3 σ4 F4 H4 S4 E4 Q4 fun b F5 M5 H5 s5 S5 z5 => A4 b F5 M5 H5 s5 S5 ?_
    obtain ⟨rfl, rfl, z5⟩ := z5
    cases hb : c x with
    | true =>
      rw [if_pos rfl]
      refine ev_mono (z5 hb) fun d M6 e => ?_
      obtain ⟨rfl, rfl⟩ := e
      refine ⟨_, rfl, rfl, ?_, p1, p2⟩
      rw [List.take_succ, hx]; simp [hb]
    | false =>
      rw [if_neg (by decide)]
      refine ⟨_, rfl, rfl, ?_, p1, p2⟩
      rw [List.take_succ, hx]; simp [hb]
  · obtain ⟨M3, _, rfl, rfl, p1, p2⟩ := p
    rw [List.length_map, List.take_length]
    exact p2
end
/-! inside a block: the readings speak of K itself -/
section
variable {X : Cx} {K : PySem.W.Frag}
theorem opAddUK (h : X.K = K) : OpR X (binaryOp .Add) (rAddU K) := by subst h; exact opAddU
theorem opEqUK (h : X.K = K) (hu : X.A.units + 64 < cLine) : OpR X (compareOp .Eq) (rEqU K) := by subst h; exact opEqU hu
theorem opNeUK (h : X.K = K) (hu : X.A.units + 64 < cLine) : OpR X (compareOp .NotEq) (rNeU K) := by subst h; exact opNeU hu
theorem opInUK (h : X.K = K) (hu : X.A.units + 65 < cLine) : OpR X (compareOp .In) (rInU K) := by subst h; exact opInU hu
theorem opNotInUK (h : X.K = K) (hu : X.A.units + 65 < cLine) : OpR X (compareOp .NotIn) (rNotInU K) := by subst h; exact opNotInU hu
theorem slUK (h : X.K = K) : SlR X (rSlU K) := by subst h; exact slU
theorem ix_seqK (h : X.K = K) : IxR X (rIx K) := by subst h; exact ix_seq
theorem call_list_ofK (h : X.K = K) : CallR X (.type "list") (fun xs H Q => ∃ p ys, xs = [.ref p] ∧ (SqL K H p ys ∨ SqT K H p ys) ∧ ∀ l, H l = none → Q (.ref l) (upd H l (.lst ys))) := by subst h; exact call_list_of
theorem pg_tupK {pos : Pos} {es : List Expr} {k : Nat} {t : TGs} {n : Nat} (hK : X.K = K) (hc : X.calm = true) (h : PGs X es t)
    (hn : (assignEach es X.env).length = n := by rfl) (hst : (assignEach es X.env).findIdx? (·.1) = none := by rfl) : PG X (.Tuple es k pos) (gTup K n t) := by subst hK; exact pg_tup hc h hn hst
variable {k j n : Nat} {ps ks : List Str} {R : SpR} {x c m : Str} {p pos apos : Pos} {e o : Expr} {es : List Expr} {kws : List Keyword} {ta : TE} {t tk : TA}
theorem pe_fnK (hK : X.K = K) (h : Fn X.prog X.w K X.mg X.base CX0 x k ps R) (hr : Room j X.A) (hk : k ≤ j) (hg : Gl X x) (ha : PA X (e :: es) t)
    (hdb : (x == ("__debug__" : Str)) = false := by decide) (he : starEach (e :: es) X.env = (false, eval e X.env) :: starEach es X.env := by rfl) (hpl : (backTo pos (starEach es X.env)).any (·.1) = false := by rfl) :
    PE X (.Call (.Name x p) (e :: es) [] pos) (tCall (SpD K R) [] E0 t) := by subst hK; exact pe_fn h hr hk hg ha hdb he hpl
theorem pe_meK {pl : Sem Bool} (hK : X.K = K) (h : Me X.prog X.w K X.mg X.base CX0 c m k ps R) (hr : Room j X.A) (hk : k ≤ j) (he : PE X o ta) (ha : PA X (e :: es) t)
    (hst : starEach (e :: es) X.env = (false, eval e X.env) :: starEach es X.env := by rfl) (hpl : (backTo pos (starEach es X.env)).any (·.1) = false := by rfl)
    (ht : eval (.Call (.Attribute o m apos) (e :: es) [] pos) X.env = (do
      let ov ← eval o X.env
      standAt apos.atName
      let (f, first) ← holding [ov] (getMethod ov m pl)
      callWith pos f first (backTo pos (starEach (e :: es) X.env)) (backToKw pos (keywordEach [] X.env))) := by rfl) :
    PE X (.Call (.Attribute o m apos) (e :: es) [] pos) (tMeth (He.ga K c) m (SpD K R) [] E0 ta t) := by subst hK; exact pe_me h hr hk he ha hst hpl ht
end
section
variable {K : PySem.W.Frag} {mg : Str → Option Value} {W : WX} {M M1 : Mem} {Γ : Gm} {ta tb te tv td ty : TE} {q : D → Mem → Prop}
theorem addU_bys {a b : List Int} (hl : a.length + b.length ≤ sizeLine) (k : q (bys (a ++ b)) M) : OpD K (rAddU K) (bys a) (bys b) M q := addU_lst (by rw [List.length_map, List.length_map]; exact hl) (by rw [← List.map_append]; exact k)
theorem ev_lstI {i : Int} (k : q (bys [i]) M) : EvD K (tLst (tCons (tC (.int i)) tNil)) Γ M q := ev_lst (ea_cons (ev_int (ea_nil ⟨(show 1 ≤ sizeLine by decide), k⟩)))
theorem fld_objC {f c : Str} {ks : List Str} {ds : List D} {i : Nat} {d : D} (C : Cxt K mg) (hn : noAt c f = true) (hi : ixK ks f = some i) (hd : ds[i]? = some d) (k : q d M) : FldD K f (.obj c ks ds) M q := fld_obj C.tx hn hi hd k
theorem fld_cellC {f c : Str} {ks : List Str} {ds : List D} {i : Nat} (j : Nat) {d : D} {p : Addr} (C : Cxt K mg) (hj : M[j]? = some (p, .obj c ks ds)) (hn : noAt c f = true) (hi : ixK ks f = some i) (hd : ds[i]? = some d) (k : q d M) : FldD K f (.ref p) M q := fld_cell C.tx hj hn hi hd k
end
section
variable {K : PySem.W.Frag} {mg : Str → Option Value} {W : WX} {F F1 H H1 : Hp} {M M' M1 : Mem} {Γ : Gm} {DD : DE} {ta tb te tv td ty : TE} {t : TS} {q : D → Mem → Prop}
theorem set_newC {f c : Str} {ks : List Str} {ds : List D} (j : Nat) {y : D} {p : Addr} {k : Mem → Prop} (C : Cxt K mg) (hj : M[j]? = some (p, .obj c ks ds)) (hn : noAt c f = true) (hi : ixK ks f = none) (hl : ks.length < 1000)
    (h : k (M.set j (p, .obj c (ks ++ [f]) (ds ++ [y])))) : SetD K f (.ref p) y M k := set_new C.tx hj hn hi hl h
theorem set_oldC {f c : Str} {ks : List Str} {ds : List D} {i : Nat} (j : Nat) {y : D} {p : Addr} {k : Mem → Prop} (C : Cxt K mg) (hj : M[j]? = some (p, .obj c ks ds)) (hn : noAt c f = true) (hi : ixK ks f = some i) (hl : ks.length < 1000)
    (h : k (M.set j (p, .obj c ks (ds.set i y)))) : SetD K f (.ref p) y M k := set_old C.tx hj hn hi hl h
/-! the order of the cells does not matter -/
theorem dom_perm (hp : M.Perm M') : (dom M).Perm (dom M') := List.Perm.map _ hp
theorem Sat.perm (hp : M.Perm M') (S : Sat K F M H) : Sat K F M' H :=
  ⟨S.sub, (dom_perm hp).nodup_iff.mp S.nd, fun j a d hj => by
    obtain ⟨i, hi⟩ := List.mem_iff_getElem?.mp (hp.mem_iff.mpr (List.mem_of_getElem? hj))
    exact S.cell i a d hi⟩
theorem Step.perm (hp : M.Perm M') (s : Step F M' H F1 M1 H1) : Step F M H F1 M1 H1 :=
  ⟨s.ext, fun b o hb hn => s.keep b o hb fun z => hn ((dom_perm hp).mem_iff.mpr z)⟩
theorem sd_perm (M' : Mem) (hp : M.Perm M') (h : StD K W t Γ M' DD) : StD K W t Γ M DD := fun σ F H S En E R =>
  h σ F H (S.perm hp) En E ⟨fun σ' Γ' F' M1 H' st S' e z => R.nx σ' Γ' F' M1 H' (st.perm hp) S' e z, fun v d F' M1 H' st S' e z => R.rt v d F' M1 H' (st.perm hp) S' e z, fun σ' Γ' F' M1 H' st S' e z => R.bk σ' Γ' F' M1 H' (st.perm hp) S' e z,
    fun σ' Γ' F' M1 H' st S' e z => R.ct σ' Γ' F' M1 H' (st.perm hp) S' e z, fun σ' Γ' cls F' M1 H' st S' e z => R.ex σ' Γ' cls F' M1 H' (st.perm hp) S' e z⟩
theorem ev_perm (M' : Mem) (hp : M.Perm M') (h : EvD K te Γ M' q) : EvD K te Γ M q := fun σ F H S En Q A =>
  h σ F H (S.perm hp) En Q fun v d F' M1 H' st S' r z => A v d F' M1 H' (st.perm hp) S' r z
end
section
variable {K : PySem.W.Frag} {W : WX} {M : Mem} {Γ : Gm} {DD : DE} {t : TS}
/-- a cell that is needed no more -/
theorem sd_forget (j : Nat) {p : Addr} {o : D} (hj : M[j]? = some (p, o)) (h : StD K W t Γ (M.eraseIdx j) DD) : StD K W t Γ M DD := fun σ F H S En E R => by
  obtain ⟨F1, S1, s1, r1⟩ := S.freeze hj
  exact h σ F1 H S1 (En.mono s1.ext) E (R.step s1)
end

/-! ### callees that may raise -/
section
variable {X : Cx} {k j n : Nat} {ps ks : List Str} {R : SpR} {x c m : Str} {p pos apos : Pos} {e o : Expr} {es : List Expr} {kws : List Keyword} {ta : TE} {t tk : TA} {K : PySem.W.Frag}
/-! .. here they do not -/
theorem pe_fnL (h : Fn X.prog X.w X.K X.mg X.base (L2.CX X.prog X.w) x k ps R) (hr : Room j X.A) (hk : k ≤ j) (hg : Gl X x) (ha : PA X (e :: es) t)
    (hdb : (x == ("__debug__" : Str)) = false := by decide) (he : starEach (e :: es) X.env = (false, eval e X.env) :: starEach es X.env := by rfl) (hpl : (backTo pos (starEach es X.env)).any (·.1) = false := by rfl) :
    PE X (.Call (.Name x p) (e :: es) [] pos) (tCall (SpD X.K R) [] E0 t) := by
  obtain ⟨⟨fd, F, b⟩, kp, gl⟩ := h
  exact pe_call F (hr.mono hk) hg gl kp b .nil passL ha hdb he hpl
theorem pe_fnLK (hK : X.K = K) (h : Fn X.prog X.w K X.mg X.base (L2.CX X.prog X.w) x k ps R) (hr : Room j X.A) (hk : k ≤ j) (hg : Gl X x) (ha : PA X (e :: es) t)
    (hdb : (x == ("__debug__" : Str)) = false := by decide) (he : starEach (e :: es) X.env = (false, eval e X.env) :: starEach es X.env := by rfl) (hpl : (backTo pos (starEach es X.env)).any (·.1) = false := by rfl) :
    PE X (.Call (.Name x p) (e :: es) [] pos) (tCall (SpD K R) [] E0 t) := by subst hK; exact pe_fnL h hr hk hg ha hdb he hpl
theorem pe_meL {pl : Sem Bool} (h : Me X.prog X.w X.K X.mg X.base (L2.CX X.prog X.w) c m k ps R) (hr : Room j X.A) (hk : k ≤ j) (he : PE X o ta) (ha : PA X (e :: es) t)
    (hst : starEach (e :: es) X.env = (false, eval e X.env) :: starEach es X.env := by rfl) (hpl : (backTo pos (starEach es X.env)).any (·.1) = false := by rfl)
    (ht : eval (.Call (.Attribute o m apos) (e :: es) [] pos) X.env = (do
      let ov ← eval o X.env
      standAt apos.atName
      let (f, first) ← holding [ov] (getMethod ov m pl)
      callWith pos f first (backTo pos (starEach (e :: es) X.env)) (backToKw pos (keywordEach [] X.env))) := by rfl) :
    PE X (.Call (.Attribute o m apos) (e :: es) [] pos) (tMeth (He.ga X.K c) m (SpD X.K R) [] E0 ta t) := by
  obtain ⟨⟨fd, F, b⟩, me, cl⟩ := h
  exact pe_meth he cl me F (hr.mono hk) b .nil passL ha hst hpl ht
theorem pe_meL0 {pl : Sem Bool} (h : Me X.prog X.w X.K X.mg X.base (L2.CX X.prog X.w) c m k ps R) (hr : Room j X.A) (hk : k ≤ j) (he : PE X o ta)
    (ht : eval (.Call (.Attribute o m apos) [] [] pos) X.env = (do
      let ov ← eval o X.env
      standAt apos.atName
      let (f, first) ← holding [ov] (getMethod ov m pl)
      callWith pos f first (backTo pos (starEach [] X.env)) (backToKw pos (keywordEach [] X.env))) := by rfl) :
    PE X (.Call (.Attribute o m apos) [] [] pos) (tMeth (He.ga X.K c) m (SpD X.K R) [] E0 ta tNil) := by
  obtain ⟨⟨fd, F, b⟩, me, cl⟩ := h
  exact pe_meth0 he cl me F (hr.mono hk) b .nil passL ht
/-! .. what they let out is taken: W's wish -/
variable {W : WX}
theorem pe_fnX (h : Fn X.prog X.w X.K X.mg X.base (L2.CX X.prog X.w) x k ps R) (hr : Room j X.A) (hk : k ≤ j) (hg : Gl X x) (tk : Takes X W) (ha : PA X (e :: es) t)
    (hdb : (x == ("__debug__" : Str)) = false := by decide) (he : starEach (e :: es) X.env = (false, eval e X.env) :: starEach es X.env := by rfl) (hpl : (backTo pos (starEach es X.env)).any (·.1) = false := by rfl) :
    PE X (.Call (.Name x p) (e :: es) [] pos) (tCallS (SpD X.K R) (WE W) t) := by
  obtain ⟨⟨fd, F, b⟩, kp, gl⟩ := h
  exact pe_callS F (hr.mono hk) hg gl kp b (passAt tk) ha hdb he hpl
def tMethS (C : Addr) (m : Str) (sp : Sp) (E : L2.St → XK) (ta : TE) (t : TA) : TE := fun σ H Q => ta σ H fun x H1 => ∃ a dx fs, x = .ref a ∧ H1 a = some (.ins C dx fs) ∧ fs.lookup m = none ∧
  t σ H1 fun vs H2 => sp (x :: vs) H2 Q (E σ)
theorem pe_meX {pl : Sem Bool} (h : Me X.prog X.w X.K X.mg X.base (L2.CX X.prog X.w) c m k ps R) (hr : Room j X.A) (hk : k ≤ j) (tk : Takes X W) (he : PE X o ta) (ha : PA X (e :: es) t)
    (hst : starEach (e :: es) X.env = (false, eval e X.env) :: starEach es X.env := by rfl) (hpl : (backTo pos (starEach es X.env)).any (·.1) = false := by rfl)
    (ht : eval (.Call (.Attribute o m apos) (e :: es) [] pos) X.env = (do
      let ov ← eval o X.env
      standAt apos.atName
      let (f, first) ← holding [ov] (getMethod ov m pl)
      callWith pos f first (backTo pos (starEach (e :: es) X.env)) (backToKw pos (keywordEach [] X.env))) := by rfl) :
    PE X (.Call (.Attribute o m apos) (e :: es) [] pos) (tMethS (He.ga X.K c) m (SpD X.K R) (WE W) ta t) := by
  obtain ⟨⟨fd, F, b⟩, me, cl⟩ := h
  refine ⟨fun pins s σ H Q I h => ?_⟩
  refine PySem.W.methodCall_KW (pl := pl) (thn (he.run pins s σ H _ I h) fun u s1 ⟨x, H1, I1, rx, a, dx, fs, ex, ea, l, q⟩ => ?_) ht
  subst ex
  obtain rfl : u = Value.ref a := rx
  refine getmeth_ok I1 ea cl me l ?_
  refine PySem.W.callWith_K (first := [.ref a]) (h₀ := X.base) I.ok.mod.kin me.kp (thn (ha.run pos pins s1 σ H1 _ I1 q) fun us s2 ⟨vs, H2, I2, r, q2⟩ => ⟨I2.kIn, ?_⟩) hst hpl
  exact run_fnS (us := .ref a :: us) (vs := .ref a :: vs) F (hr.mono hk) b (passAt tk _) I2 (.cons rfl r) q2
theorem pe_meX0 {pl : Sem Bool} (h : Me X.prog X.w X.K X.mg X.base (L2.CX X.prog X.w) c m k ps R) (hr : Room j X.A) (hk : k ≤ j) (tk : Takes X W) (he : PE X o ta)
    (ht : eval (.Call (.Attribute o m apos) [] [] pos) X.env = (do
      let ov ← eval o X.env
      standAt apos.atName
      let (f, first) ← holding [ov] (getMethod ov m pl)
      callWith pos f first (backTo pos (starEach [] X.env)) (backToKw pos (keywordEach [] X.env))) := by rfl) :
    PE X (.Call (.Attribute o m apos) [] [] pos) (tMethS (He.ga X.K c) m (SpD X.K R) (WE W) ta tNil) := by
  obtain ⟨⟨fd, F, b⟩, me, cl⟩ := h
  refine ⟨fun pins s σ H Q I h => ?_⟩
  refine PySem.W.methodCall_KW (pl := pl) (thn (he.run pins s σ H _ I h) fun u s1 ⟨x, H1, I1, rx, a, dx, fs, ex, ea, l, q⟩ => ?_) ht
  subst ex
  obtain rfl : u = Value.ref a := rx
  refine getmeth_ok I1 ea cl me l ?_
  refine PySem.W.callWith_K0 (first := [.ref a]) I1.kIn me.kp ?_
  exact run_fnS (us := [.ref a]) (vs := [.ref a]) F (hr.mono hk) b (passAt tk _) I1 (.cons rfl .nil) q
end
section
variable {X : Cx} {k j n : Nat} {f C : Addr} {fd : FuncData} {ps ks : List Str} {sp : Sp} {E : L2.St → XK} {CX : CXT} {R : SpR} {x c m : Str} {p pos apos : Pos} {e o : Expr} {es : List Expr} {kws : List Keyword} {ta : TE} {t tk : TA} {K : PySem.W.Frag} {W : WX} {g : List Value → List Value → List Value} {gV : List V → List V → List V}
theorem run_makeKS {pins : List (Addr × Obj)} {σ : L2.St} {H : Hp} {s : Shared} {Q : VK} {us ws : List Value} {vs zs : List V} (M : Mk X.K C f) (F : FnOk X.prog X.w X.K X.mg X.base CX k f fd ps sp) (hr : Room (k + 1) X.A) (hb : KBn X.K fd ps (n + 1) ks g gV) (hx : PassesAt CX X σ (E σ))
    (I : Inv X pins σ H s) (r : Vals vs us) (rz : Vals zs ws) (l1 : vs.length = n) (l2 : zs.length = ks.length)
    (h : ∀ x dx, H x = none → H dx = none → dx ≠ x → sp (gV (.ref x :: vs) zs) (upd (upd H dx (.own x)) x (.ins C dx [])) (fun v H2 => v = .non ∧ Q (.ref x) H2) (E σ)) :
    wpAny (model X.prog X.w) X.A (call (.ref C) us (ks.zip ws)) (EP X pins σ Q) X.xe s := by
  have hq := h (s.heap.objs.size + 1) s.heap.objs.size (I.hok.fresh (Nat.le_succ _)) (I.hok.fresh (Nat.le_refl _)) (Nat.ne_of_lt (Nat.lt_succ_self _))
  have I2 := Inv.made (C := C) I
  have r1 : Vals (V.ref (s.heap.objs.size + 1) :: vs) (Value.ref (s.heap.objs.size + 1) :: us) := .cons rfl r
  have r2 := hb.rel r1 rz
  have n1 : (Value.ref (s.heap.objs.size + 1) :: us).length = n + 1 := by
    rw [List.length_cons, ← r.length, l1]
  refine wpAny_call (make_map (f := f) I.kIn M.makes M.init (beq_iff_eq.mp M.fn) (codeAny_mono (F.run _ X.stack _ _ ⟨Value.ref (s.heap.objs.size + 1) :: us, ks.zip ws⟩ (g (Value.ref (s.heap.objs.size + 1) :: us) ws) _ _ (E σ) (hr.make C us (ks.zip ws))
    (I2.env0.make C us (ks.zip ws)) (hb.to _ (Value.ref (s.heap.objs.size + 1) :: us) ws I2.kIn n1 (rz.length.symm.trans l2)) r2 hq) fun r s' hq' => ?_))
  cases r with
  | error e => exact hx pins _ _ e s' I2 hq'
  | ok fl =>
    cases fl with
    | ret u =>
      obtain ⟨v, H', I3, rv, ev, q3⟩ := I2.after hq'
      subst ev
      exact ⟨rv, ⟨V.ref (s.heap.objs.size + 1), H', I3, rfl, q3⟩⟩
    | next => exact False.elim hq'
    | brk => exact False.elim hq'
    | cont => exact False.elim hq'
def tMakeKS (C : Addr) (n m : Nat) (sp : Sp) (gV : List V → List V → List V) (E : L2.St → XK) (t tk : TA) : TE := fun σ H Q => tMakeK C n m sp gV (E σ) t tk σ H Q
theorem pe_makeKS (M : Mk X.K C f) (F : FnOk X.prog X.w X.K X.mg X.base CX k f fd ps sp) (hr : Room (k + 1) X.A) (hg : Gl X x) (hm : X.mg x = some (.ref C)) (hb : KBn X.K fd ps (n + 1) ks g gV) (hx : ∀ σ, PassesAt CX X σ (E σ)) (ha : PA X (e :: es) t) (hkw : PK X kws tk)
    (hall : (backToKw pos (keywordEach kws X.env)).all (·.1.isSome) = true := by rfl) (hks : (backToKw pos (keywordEach kws X.env)).filterMap (·.1) = ks := by rfl) (hdb : (x == ("__debug__" : Str)) = false := by decide)
    (he : starEach (e :: es) X.env = (false, eval e X.env) :: starEach es X.env := by rfl) (hpl : ((backTo pos (starEach (e :: es) X.env)).any (·.1) || (backToKw pos (keywordEach kws X.env)).any (·.1.isNone)) = false := by rfl) :
    PE X (.Call (.Name x p) (e :: es) kws pos) (tMakeKS C n ks.length sp gV E t tk) := by
  refine ⟨fun pins s σ H Q I h => ?_⟩
  refine wpAny_Call_Name_kw (ld_glob I hg hm ?_ hdb)
  refine PySem.W.callWith_KW (h₀ := X.base) I.ok.mod.kin M.kp hall (thn (ha.run pos pins s σ H _ I h) fun us s1 ⟨vs, H1, I1, r, q⟩ => ?_) hpl he
  refine thn (hkw.run pos pins s1 σ H1 _ I1 q) fun ws s2 ⟨zs, H2, I2, rz, l1, l2, q2⟩ => ⟨I2.kIn, ?_⟩
  rw [hks]
  exact run_makeKS M F hr hb (hx σ) I2 r rz l1 l2 q2
end
section
variable (P : Program) (w : World) (K : PySem.W.Frag) (mg : Str → Option Value) (base : Heap)
def g7 {α : Type} (us ws : List α) : List α := us ++ ws
def g6 {α : Type} (x : α) (us ws : List α) : List α := us ++ (ws.take 1 ++ (x :: ws.drop 1))
def hsPs : List Str := ["self", "suite", "pattern", "opener", "prologue", "secret", "ephemeral", "peer", "peer_ephemeral", "psk"]
def hsKs7 : List Str := ["opener", "prologue", "secret", "ephemeral", "peer", "peer_ephemeral", "psk"]
def hsKs6 : List Str := ["opener", "secret", "ephemeral", "peer", "peer_ephemeral", "psk"]
structure Mh (k : Nat) (R : SpR) : Prop where
  ok : ∃ fd, FnOk P w K mg base (L2.CX P w) k (He.ma K (He.ga K "Handshake") "__init__") fd hsPs (SpD K R) ∧ (∃ g, KBn K fd hsPs 3 hsKs7 g (fun vs zs => g7 vs zs)) ∧ (∃ g, KBn K fd hsPs 3 hsKs6 g (fun vs zs => g6 (.ref (hsPro K)) vs zs))
  mkr : Mk K (He.ga K "Handshake") (He.ma K (He.ga K "Handshake") "__init__")
  gl : mg "Handshake" = some (.ref (He.ga K "Handshake"))
end
section
variable {X : Cx} {k j n : Nat} {R : SpR} {p pos apos : Pos} {e o : Expr} {es : List Expr} {kws : List Keyword} {ta : TE} {t tk : TA} {K : PySem.W.Frag} {W : WX}
theorem pe_ma7 (h : Mh X.prog X.w X.K X.mg X.base k R) (hr : Room j X.A) (hk : k + 1 ≤ j) (hg : Gl X "Handshake") (tkW : Takes X W) (ha : PA X (e :: es) t) (hkw : PK X kws tk)
    (hall : (backToKw pos (keywordEach kws X.env)).all (·.1.isSome) = true := by rfl) (hks : (backToKw pos (keywordEach kws X.env)).filterMap (·.1) = hsKs7 := by rfl)
    (he : starEach (e :: es) X.env = (false, eval e X.env) :: starEach es X.env := by rfl) (hpl : ((backTo pos (starEach (e :: es) X.env)).any (·.1) || (backToKw pos (keywordEach kws X.env)).any (·.1.isNone)) = false := by rfl) :
    PE X (.Call (.Name "Handshake" p) (e :: es) kws pos) (tMakeKS (He.ga X.K "Handshake") 2 7 (SpD X.K R) (fun vs zs => g7 vs zs) (WE W) t tk) := by
  obtain ⟨⟨fd, F, ⟨g, b7⟩, _⟩, mk, gl⟩ := h
  exact pe_makeKS mk F (hr.mono hk) hg gl b7 (passAt tkW) ha hkw hall hks (by decide) he hpl
theorem pe_ma6 (h : Mh X.prog X.w X.K X.mg X.base k R) (hr : Room j X.A) (hk : k + 1 ≤ j) (hg : Gl X "Handshake") (tkW : Takes X W) (ha : PA X (e :: es) t) (hkw : PK X kws tk)
    (hall : (backToKw pos (keywordEach kws X.env)).all (·.1.isSome) = true := by rfl) (hks : (backToKw pos (keywordEach kws X.env)).filterMap (·.1) = hsKs6 := by rfl)
    (he : starEach (e :: es) X.env = (false, eval e X.env) :: starEach es X.env := by rfl) (hpl : ((backTo pos (starEach (e :: es) X.env)).any (·.1) || (backToKw pos (keywordEach kws X.env)).any (·.1.isNone)) = false := by rfl) :
    PE X (.Call (.Name "Handshake" p) (e :: es) kws pos) (tMakeKS (He.ga X.K "Handshake") 2 6 (SpD X.K R) (fun vs zs => g6 (.ref (hsPro X.K)) vs zs) (WE W) t tk) := by
  obtain ⟨⟨fd, F, _, ⟨g, b6⟩⟩, mk, gl⟩ := h
  exact pe_makeKS mk F (hr.mono hk) hg gl b6 (passAt tkW) ha hkw hall hks (by decide) he hpl
/-! isinstance in a handler: the class is known -/
def clsAd : Value → Addr
  | .ref a => a
  | _ => 0
def tWhenE (K : PySem.W.Frag) (cls : Value) (d : Option Addr) (t : TS) : TS := fun E σ H => (cls = .ref (clsAd cls) ∧ d = none ∧ ExcC K (clsAd cls)) ∧ t E σ H
theorem pss_when {ss : List Stmt} {K : PySem.W.Frag} {cls : Value} {d : Option Addr} {t : TS} (h : (cls = .ref (clsAd cls) ∧ d = none ∧ ExcC K (clsAd cls)) → PSs X ss t) : PSs X ss (tWhenE K cls d t) := ⟨fun pins s σ H D I hh => (h hh.1).run pins s σ H D I hh.2⟩
theorem zc_of {K : PySem.W.Frag} {cls : Value} {d : Option Addr} {oe : Obj} (h : cls = .ref (clsAd cls) ∧ d = none ∧ ExcC K (clsAd cls)) (z : Zc cls d oe) : Zc (.ref (clsAd cls)) none oe := by
  obtain ⟨h1, h2, _⟩ := h
  rw [← h1, ← h2]; exact z
end
/-! ### the rules -/
/-- the value of an expression that may raise -/
def EvX (K : PySem.W.Frag) (W : WX) (te : TE) (Γ : Gm) (M : Mem) (q : D → Mem → Prop) (ex : Value → Mem → Prop) : Prop := ∀ σ F H, Sat K F M H → EnvOk K F σ Γ → ∀ Q, Acc K F M H Q q →
  (∀ cls F' M' H', Step F M H F' M' H' → Sat K F' M' H' → ex cls M' → W cls none σ H') → te σ H Q
section
variable {K : PySem.W.Frag} {W : WX} {F F1 H H1 : Hp} {M M1 : Mem} {Γ : Gm} {ta tb te tv td ty : TE} {t u : TS} {g : TG} {q : D → Mem → Prop} {ex0 : Value → Mem → Prop} {nx bk ct : Gm → Mem → Prop} {rt : D → Mem → Prop} {ex : Gm → Value → Mem → Prop}
theorem evx_call {R : SpR} {t : TA} (h : EvA K t Γ M fun ds M1 => R ds M1 q ex0) : EvX K W (tCallS (SpD K R) (WE W) t) Γ M q ex0 := fun σ F H S En Q A X =>
  h σ F H S En _ fun vs ds F1 M1 H1 s1 S1 r1 h1 => ⟨F1, M1, ds, q, ex0, S1, r1, h1, A.step s1, fun cls F' M' H' s2 S2 z => X cls F' M' H' (s1.trans s2) S2 z⟩
theorem evx_meth {R : SpR} {t : TA} {c m : Str} (h : EvD K ta Γ M fun x M1 => RecD K c m x M1 ∧ EvA K t Γ M1 fun ds M2 => R (x :: ds) M2 q ex0) : EvX K W (tMethS (He.ga K c) m (SpD K R) (WE W) ta t) Γ M q ex0 := fun σ F H S E Q A X =>
  h σ F H S E _ fun v x F1 M1 H1 s1 S1 r1 h1 => by
    obtain ⟨a, dx, fs, ev, ea, el⟩ := h1.1 F1 H1 v S1 r1
    refine ⟨a, dx, fs, ev, ea, el, ?_⟩
    refine h1.2 σ F1 H1 S1 (E.mono s1.ext) _ fun vs ds F2 M2 H2 s2 S2 r2 h2 => ?_
    exact ⟨F2, M2, x :: ds, q, ex0, S2, .cons (Rp.mono s2.ext _ _ r1) r2, h2, A.step (s1.trans s2), fun cls F' M' H' s3 S3 z => X cls F' M' H' ((s1.trans s2).trans s3) S3 z⟩
theorem evx_make {R : SpR} {t tk : TA} {n m : Nat} {c : Str} {gV : List V → List V → List V} (gD : List D → List D → List D)
    (hg : ∀ {F : Hp} {vs zs : List V} {ds es : List D}, Rps K F vs ds → Rps K F zs es → Rps K F (gV vs zs) (gD ds es))
    (h : EvA K t Γ M fun ds M1 => EvA K tk Γ M1 fun es M2 => ds.length = n ∧ es.length = m ∧ ∀ p, p ∉ dom M2 → R (gD (.ref p :: ds) es) ((p, .obj c [] []) :: M2) (fun d M3 => d = .non ∧ q (.ref p) M3) ex0) :
    EvX K W (tMakeKS (He.ga K c) n m (SpD K R) gV (WE W) t tk) Γ M q ex0 := fun σ F H S E Q A X =>
  h σ F H S E _ fun vs ds F1 M1 H1 s1 S1 r1 h1 => h1 σ F1 H1 S1 (E.mono s1.ext) _ fun zs es F2 M2 H2 s2 S2 r2 h2 => by
    refine ⟨r1.length.trans h2.1, r2.length.trans h2.2.1, fun x dx hx hd hn => ?_⟩
    obtain ⟨S3, s3⟩ := S2.made (c := c) hx hd hn
    refine ⟨F2, _, gD (.ref x :: ds) es, _, ex0, S3, hg (.cons (.ref x) (Rps.mono s2.ext _ _ r1)) r2, h2.2.2 x (S2.nodom hx), fun v d F' M' H' st S' r z => ?_, fun cls F' M' H' st S' z => X cls F' M' H' (((s1.trans s2).trans s3).trans st) S' z⟩
    obtain ⟨rfl, z⟩ := z
    cases r
    exact ⟨rfl, A _ _ _ _ _ (((s1.trans s2).trans s3).trans st) S' (.ref x) z⟩
theorem xx_drop (h : EvX K W te Γ M (fun _ M1 => nx Γ M1) (fun c M1 => ex Γ c M1)) : StD K W (tDrop te) Γ M ⟨nx, rt, bk, ct, ex⟩ := fun σ F H S En E R =>
  h σ F H S En _ (fun v d F1 M1 H1 s1 S1 r1 h1 => (R.step s1).nx.here S1 (En.mono s1.ext) h1) fun cls F1 M1 H1 s1 S1 z => R.ex σ Γ cls F1 M1 H1 s1 S1 (En.mono s1.ext) z
theorem xx_ret (h : EvX K W te Γ M rt (fun c M1 => ex Γ c M1)) : StD K W (tRet te) Γ M ⟨nx, rt, bk, ct, ex⟩ := fun σ F H S En E R =>
  h σ F H S En _ R.rt fun cls F1 M1 H1 s1 S1 z => R.ex σ Γ cls F1 M1 H1 s1 S1 (En.mono s1.ext) z
theorem xx_asg (h : EvX K W te Γ M (fun d M1 => GtD K g d Γ M1 nx) (fun c M1 => ex Γ c M1)) : StD K W (tAsg te g) Γ M ⟨nx, rt, bk, ct, ex⟩ := fun σ F H S En E R =>
  h σ F H S En _ (fun v d F1 M1 H1 s1 S1 r1 h1 => h1 σ F1 H1 v S1 (En.mono s1.ext) r1 _ (R.step s1).nx) fun cls F1 M1 H1 s1 S1 z => R.ex σ Γ cls F1 M1 H1 s1 S1 (En.mono s1.ext) z
theorem xs_raise {C : Addr} (h : ex Γ (.ref C) M) : StD K W (fun _ σ H => W (.ref C) none σ H) Γ M ⟨nx, rt, bk, ct, ex⟩ := fun σ F H S En E R => R.ex σ Γ (.ref C) F M H (Step.refl F M H) S En h
theorem xs_when {cls : Value} {d : Option Addr} {DD : DE} (h1 : cls = .ref (clsAd cls) ∧ d = none ∧ ExcC K (clsAd cls)) (h : StD K W t Γ M DD) : StD K W (tWhenE K cls d t) Γ M DD := fun σ F H S En E R => ⟨h1, h σ F H S En E R⟩
theorem xs_try {tb : WX → TS} {c : Value} {i : Nat} {ts : Addr → Value → Option Addr → TS} {Wout : WX}
    (h : ∀ W', StD K W' (tb W') Γ M ⟨nx, rt, bk, ct, fun Γ' cls M' => PySem.W.exmOne K cls c = some true ∧ ∀ a, a ∉ dom M' → StD K W0 (ts a cls none) (Γ'.set i (some (.ref a))) M' ⟨fun Γ2 M2 => nx (Γ2.set i none) M2, rt, fun Γ2 M2 => bk (Γ2.set i none) M2, fun Γ2 M2 => ct (Γ2.set i none) M2, fun _ _ _ => False⟩⟩) :
    StD K Wout (fun D σ H => tb (wAs K c i ts Wout D) D σ H) Γ M ⟨nx, rt, bk, ct, ex⟩ := fun σ F H S En E R => by
  refine h (wAs K c i ts Wout E) σ F H S En E ⟨R.nx, R.rt, R.bk, R.ct, fun σ' Γ' cls F' M' H' st S' En' z => ?_⟩
  obtain ⟨z1, z2⟩ := z
  refine ⟨true, z1, fun _ a ha => ?_, fun z => nomatch z⟩
  have RR := R.step st
  refine z2 a (S'.nodom ha) _ F' H' S' (En'.set i (.ref a)) _ ⟨fun σ2 Γ2 F2 M2 H2 s2 S2 E2 k => RR.nx _ _ _ _ _ s2 S2 (E2.unset i) k, RR.rt, fun σ2 Γ2 F2 M2 H2 s2 S2 E2 k => RR.bk _ _ _ _ _ s2 S2 (E2.unset i) k, fun σ2 Γ2 F2 M2 H2 s2 S2 E2 k => RR.ct _ _ _ _ _ s2 S2 (E2.unset i) k, fun _ _ _ _ _ _ _ _ _ z => z.elim⟩
theorem cb_isE {D0 a : Addr} {cv : Value} {C2 : Addr} {b : Bool} (hk : PySem.W.kitOne K (.ref D0) (.ref C2) = some b) (k : q (.bl b) M) : CbD K (rIsE K D0 a) [.ref a, .ref C2] M q := fun F H vs S r Q A => by
  obtain ⟨v, w, rfl, rv, rw'⟩ := r.two
  cases rv; cases rw'
  exact ⟨.ref C2, .ref C2, b, rfl, fun u hu => by cases hu; rfl, hk, A.here S (.bl b) k⟩
end
section
variable {P : Program} {w : World} {K : PySem.W.Frag} {mg : Str → Option Value} {base : Heap} {N ps : List Str} {k : Nat} {R : SpR}
theorem Fn.ofX (C : Cxt K mg) {x : Str} (i : Nat) (d : He.DefD) (hd : fn[i]? = some d) (hat : d.at_ = (x, none)) (hf : d.dfl = []) (hk : d.kwd = []) (hg : glos.contains x = true) (S : FnScope N ps d.scope)
    (hb : ∀ (kV doc pm : Value) (an : Option Addr) (cdv ct : Value) (us : List Value), us.length = ps.length → bindArgs (PySem.W.fnOf d.name d.qual d.params d.body d.scope .none kV doc pm an cdv ct) ⟨us, []⟩ = pure (ps.zip us))
    (len : ∀ ds M q ex, R ds M q ex → ds.length = ps.length)
    (h : ∀ (cdv : Value) (A : Around) (outer : List Env) (s : Shared) (H : Hp) (E : XK), Room k (A.deeper (envOfC d.qual d.scope s.heap.objs.size (He.ga K x) cdv)) →
      ∃ t, PSs (cxOf (L2.CX P w) P w K mg base N d.qual d.scope (He.ga K x) cdv A outer s H E) d.body t ∧ ∀ ds M q ex, R ds M q ex → StD K (fun cls d _ H' => E cls d H') t (startD N ds) M { nx := fun _ M' => q .non M', rt := q, ex := fun _ c M' => ex c M' }) : Fn P w K mg base (L2.CX P w) x (k + 1) ps R := by
  obtain ⟨fd, F⟩ := C.says.def_ i hd
  have ea : He.fAd K d.at_ = He.ga K x := by rw [hat] <;> rfl
  have e1 : d.dvs K = [] := by unfold He.DefD.dvs; rw [hf] <;> rfl
  rw [ea, e1] at F
  exact ⟨⟨fd, bodyX F S len h, FunD.bindsN F hb⟩, F.kp, C.glo x hg⟩
theorem Me.ofX (C : Cxt K mg) {c m : Str} (i : Nat) (d : He.DefD) (hd : fn[i]? = some d) (hat : d.at_ = (c, some m)) (hf : d.dfl = []) (hk : d.kwd = []) (hm : (c, m) ∈ meths) (hc : clss.contains c = true) (S : FnScope N ps d.scope)
    (hb : ∀ (kV doc pm : Value) (an : Option Addr) (cdv ct : Value) (us : List Value), us.length = ps.length → bindArgs (PySem.W.fnOf d.name d.qual d.params d.body d.scope .none kV doc pm an cdv ct) ⟨us, []⟩ = pure (ps.zip us))
    (len : ∀ ds M q ex, R ds M q ex → ds.length = ps.length)
    (h : ∀ (cdv : Value) (A : Around) (outer : List Env) (s : Shared) (H : Hp) (E : XK), Room k (A.deeper (envOfC d.qual d.scope s.heap.objs.size (He.ma K (He.ga K c) m) cdv)) →
      ∃ t, PSs (cxOf (L2.CX P w) P w K mg base N d.qual d.scope (He.ma K (He.ga K c) m) cdv A outer s H E) d.body t ∧ ∀ ds M q ex, R ds M q ex → StD K (fun cls d _ H' => E cls d H') t (startD N ds) M { nx := fun _ M' => q .non M', rt := q, ex := fun _ c M' => ex c M' }) : Me P w K mg base (L2.CX P w) c m (k + 1) ps R := by
  obtain ⟨fd, F⟩ := C.says.def_ i hd
  have ea : He.fAd K d.at_ = He.ma K (He.ga K c) m := by rw [hat] <;> rfl
  have e1 : d.dvs K = [] := by unfold He.DefD.dvs; rw [hf] <;> rfl
  rw [ea, e1] at F
  exact ⟨⟨fd, bodyX F S len h, FunD.bindsN F hb⟩, C.meth c m hm, C.cls c hc⟩

theorem vals_take {vs : List V} {us : List Value} (h : Vals vs us) : Vals (vs.take 1) (us.take 1) := by
  cases h with
  | nil => exact .nil
  | cons a b => exact .cons a .nil
theorem vals_drop {vs : List V} {us : List Value} (h : Vals vs us) : Vals (vs.drop 1) (us.drop 1) := by
  cases h with
  | nil => exact .nil
  | cons a b => exact b
theorem Mh.of (C : Cxt K mg) (S : FnScope N hsPs d_Handshake___init__.scope)
    (len : ∀ ds M q ex, R ds M q ex → ds.length = hsPs.length)
    (h : ∀ (cdv : Value) (A : Around) (outer : List Env) (s : Shared) (H : Hp) (E : XK), Room k (A.deeper (envOfC d_Handshake___init__.qual d_Handshake___init__.scope s.heap.objs.size (He.ma K (He.ga K "Handshake") "__init__") cdv)) →
      ∃ t, PSs (cxOf (L2.CX P w) P w K mg base N d_Handshake___init__.qual d_Handshake___init__.scope (He.ma K (He.ga K "Handshake") "__init__") cdv A outer s H E) d_Handshake___init__.body t ∧ ∀ ds M q ex, R ds M q ex → StD K (fun cls d _ H' => E cls d H') t (startD N ds) M { nx := fun _ M' => q .non M', rt := q, ex := fun _ c M' => ex c M' }) : Mh P w K mg base (k + 1) R := by
  obtain ⟨fd, F⟩ := C.says.def_ 65 (show fn[65]? = some d_Handshake___init__ from rfl)
  have ea : He.fAd K d_Handshake___init__.at_ = He.ma K (He.ga K "Handshake") "__init__" := rfl
  have e1 : d_Handshake___init__.dvs K = [] := rfl
  rw [ea, e1] at F
  have hk : d_Handshake___init__.kws K ≠ [] := by intro z; cases z
  obtain ⟨_, b7⟩ := FunD.kbinds0 (ps := hsPs) F 3 hsKs7 [] (fun us _ ws => g7 us ws) hk (fun q hq => by cases hq) (fun a _ c => a.append c)
    (fun D doc pm an cdv ct us mv ws l1 l2 l3 => by
      match us, ws, l1, l3 with
      | [_, _, _], [_, _, _, _, _, _, _], _, _ => exact rfl)
  obtain ⟨mv, b6⟩ := FunD.kbinds0 (ps := hsPs) F 3 hsKs6 [(("prologue" : Str), V.ref (hsPro K))] (fun us mv ws => us ++ (ws.take 1 ++ (mv ++ ws.drop 1))) hk (by
      intro q hq
      have e : q = (("prologue" : Str), V.ref (hsPro K)) := List.mem_singleton.mp hq
      rw [e]; exact List.mem_cons_self) (fun a b c => a.append ((vals_take c).append (b.append (vals_drop c))))
    (fun D doc pm an cdv ct us mv ws l1 l2 l3 => by
      match us, mv, ws, l1, l2, l3 with
      | [_, _, _], [_], [_, _, _, _, _, _], _, _, _ => exact ⟨_, _, _, _, _, _, rfl, rfl, rfl⟩)
  refine ⟨⟨fd, bodyX F S len h, ⟨_, b7⟩, ⟨_, b6⟩⟩, C.mkr "Handshake" (by decide +kernel), C.glo "Handshake" (by decide +kernel)⟩
end
/-! ### the signs of a text, from the left -/
def chrs (x : Str) : List D := x.cps.toList.map fun c => D.str ⟨#[c]⟩
def codesM (x : Str) : List Int := x.cps.toList.map fun c => ((c : Nat) : Int)
section
variable {K : PySem.W.Frag} {M : Mem} {Γ : Gm} {te : TE} {qi : List D → Mem → Prop}
theorem itok_str {F0 : Hp} {x : Str} : ItOk K (Its x) F0 (chrs x) := fun F M H S e i => by
  have hl : (chrs x).length = x.cps.size := by simp [chrs]
  refine ⟨fun d hd => ?_, fun h => ?_⟩
  · have hi : i < x.cps.size := by rw [← hl]; exact (List.getElem?_eq_some_iff.mp hd).1
    refine ⟨hi, fun v H' y => ?_⟩
    obtain ⟨rfl, c, hc, rfl⟩ := y
    have e2 : d = .str ⟨#[c]⟩ := by
      unfold chrs at hd
      rw [List.getElem?_map, Array.getElem?_toList, hc] at hd
      exact (Option.some.inj hd).symm
    subst e2
    exact ⟨F, Step.refl F M _, S, .str _⟩
  · show x.cps.size ≤ i
    rw [← hl]; exact h
theorem it_str (h : EvD K te Γ M fun d M1 => ∃ x, d = .str x ∧ qi (chrs x) M1) : ItD K (iStr te) Γ M qi := fun σ F H S En R A =>
  h σ F H S En _ fun v d F1 M1 H1 s1 S1 r1 h1 => by
    obtain ⟨x, rfl, z⟩ := h1
    cases r1
    exact ⟨x, rfl, A _ _ _ _ _ s1 S1 itok_str z⟩
theorem mulU_zeros {n : Nat} {q : D → Mem → Prop} (hn : n ≤ 1000) (k : q (bys (List.replicate n 0)) M) : OpD K rMulU (bys [0]) (.int n) M q := by
  refine mulU_rep (by omega) (by omega) ?_ ?_
  · have hsz : sizeLine = 16777216 := rfl
    rw [Int.toNat_natCast]
    show 1 * n ≤ sizeLine
    omega
  · rw [Int.toNat_natCast]
    have e : ∀ m : Nat, (List.replicate m [D.int 0]).flatten = (List.replicate m (0 : Int)).map D.int := by
      intro m
      induction m with
      | zero => rfl
      | succ m ih => rw [List.replicate_succ, List.replicate_succ, List.flatten_cons, ih]; rfl
    show q (.lst (List.replicate n [D.int 0]).flatten) M
    rw [e]; exact k
end
theorem cutD_nat (xs : List D) (a b : Nat) : cutD xs (some (a : Int)) (some (b : Int)) = (xs.drop a).take (b - a) := by
  unfold cutD
  rw [HT.sIx_nat, HT.sIx_nat]
  apply List.ext_getElem?
  intro i
  rw [List.getElem?_take, List.getElem?_take, List.getElem?_drop, List.getElem?_drop]
  by_cases ha : a ≤ xs.length
  · rw [Nat.min_eq_left ha]
    by_cases h1 : i < b - a
    · rw [if_pos h1]
      by_cases h2 : i < min b xs.length - a
      · rw [if_pos h2]
      · rw [if_neg h2, List.getElem?_eq_none (by omega)]
    · rw [if_neg h1, if_neg (by omega)]
  · have e1 : min a xs.length = xs.length := by omega
    rw [e1, List.getElem?_eq_none (i := xs.length + i) (by omega), List.getElem?_eq_none (i := a + i) (by omega)]
    split <;> split <;> rfl
theorem cutD_to (xs : List D) (b : Nat) : cutD xs none (some (b : Int)) = xs.take b := by
  unfold cutD
  rw [HT.sIx_nat, HT.sIx_none, List.drop_zero, Nat.sub_zero]
  by_cases h : b ≤ xs.length
  · rw [Nat.min_eq_left h]
  · rw [Nat.min_eq_right (by omega), List.take_length, List.take_of_length_le (by omega)]
theorem cutD_from (xs : List D) (a : Nat) : cutD xs (some (a : Int)) none = xs.drop a := by
  unfold cutD
  rw [HT.sIx_nat, HT.sIx_none]
  by_cases h : a ≤ xs.length
  · rw [Nat.min_eq_left h, List.take_of_length_le (by rw [List.length_drop]; omega)]
  · rw [Nat.min_eq_right (by omega), List.drop_length, List.drop_eq_nil_of_le (by omega)]; simp
theorem no_not {p : Prop} {i : Decidable p} (h : p) : ¬ (!decide p) = true := by simp [h]
theorem yes_not {p : Prop} {i : Decidable p} (h : ¬p) : (!decide p) = true := by simp [h]
theorem no_dec {p : Prop} {i : Decidable p} (h : ¬p) : ¬ decide p = true := by simp [h]
theorem yes_dec {p : Prop} {i : Decidable p} (h : p) : decide p = true := by simp [h]
section
variable {K : PySem.W.Frag} {M : Mem} {Γ : Gm} {te : TE} {q : D → Mem → Prop}
theorem ev_neg {ta : TE} (h : EvD K ta Γ M fun d M1 => ∃ i, d = .int i ∧ q (.int (-i)) M1) : EvD K (tUn (rU fun i => .int (-i)) ta) Γ M q := fun σ F H S E Q A =>
  h σ F H S E _ fun v d F1 M1 H1 s1 S1 r1 h1 => by
    obtain ⟨i, rfl, k⟩ := h1
    cases r1
    exact ⟨i, rfl, (A.step s1).here S1 (.int _) k⟩
theorem op_ip {g : Int → Int → Int} {i j : Int} (k : q (.int (g i j)) M) : OpD K (ipI g) (.int i) (.int j) M q := fun F H v w S rx ry Q A => by
  cases rx; cases ry
  exact ⟨i, j, rfl, rfl, A.here S (.int _) k⟩
/-- whichever way, it is d0 -/
theorem ev_join (d0 : D) (h1 : EvD K te Γ M fun d M' => d = d0 ∧ M' = M) (h2 : q d0 M) : EvD K te Γ M q := ev_mono h1 fun d M' e => by
  obtain ⟨rfl, rfl⟩ := e
  exact h2
end
section
variable {K : PySem.W.Frag} {W : WX} {M : Mem} {Γ : Gm} {t : TS} {nx bk ct : Gm → Mem → Prop} {rt : D → Mem → Prop} {ex : Gm → Value → Mem → Prop}
/-- whichever way, the state behind is this -/
theorem xs_join (G0 : Gm) (M0 : Mem) (h1 : StD K W t Γ M ⟨fun Γ' M' => Γ' = G0 ∧ M' = M0, fun _ _ => False, fun _ _ => False, fun _ _ => False, fun _ _ _ => False⟩) (h2 : nx G0 M0) : StD K W t Γ M ⟨nx, rt, bk, ct, ex⟩ :=
  sd_mono h1 (fun Γ' M' e => by obtain ⟨rfl, rfl⟩ := e; exact h2) (fun _ _ z => z.elim) (fun _ _ z => z.elim) (fun _ _ z => z.elim) (fun _ _ _ z => z.elim)
end
section
variable {K : PySem.W.Frag} {W : WX} {M : Mem} {Γ : Gm} {t : TS} {te : TE} {q : D → Mem → Prop} {nx bk ct : Gm → Mem → Prop} {rt : D → Mem → Prop} {ex : Gm → Value → Mem → Prop}
theorem xs_joinP (P : Gm → Mem → Prop) (h1 : StD K W t Γ M ⟨P, fun _ _ => False, fun _ _ => False, fun _ _ => False, fun _ _ _ => False⟩) (h2 : ∀ Γ' M', P Γ' M' → nx Γ' M') : StD K W t Γ M ⟨nx, rt, bk, ct, ex⟩ :=
  sd_mono h1 h2 (fun _ _ z => z.elim) (fun _ _ z => z.elim) (fun _ _ z => z.elim) (fun _ _ _ z => z.elim)
/-- a cell that is needed no more behind the value -/
theorem ev_forget (h : EvD K te Γ M fun d M1 => ∃ (j : Nat) (p : Addr) (o : D), M1[j]? = some (p, o) ∧ q d (M1.eraseIdx j)) : EvD K te Γ M q := fun σ F H S E Q A =>
  h σ F H S E _ fun v d F1 M1 H1 s1 S1 r1 h1 => by
    obtain ⟨j, p, o, hj, k⟩ := h1
    obtain ⟨F2, S2, s2, r2⟩ := S1.freeze hj
    exact A _ _ _ _ _ (s1.trans s2) S2 (Rp.mono s2.ext _ _ r1) k
end
/-! ### in, on a list that changes -/
section
variable {K : PySem.W.Frag} {M : Mem} {q : D → Mem → Prop}
theorem inU_cell {α : Type} [DecidableEq α] {f : α → D} {n : Nat} {x : α} {xs : List α} {p : Addr} {j : Nat} (hj : M[j]? = some (p, .lst (xs.map f))) (hn : n + 1 ≤ 64) (hf : ∀ a b, PyData.eqv (toPy n (f a)) (toPy n (f b)) = decide (a = b)) (hx : okPy n (f x) = true)
    (hxs : ∀ a ∈ xs, okPy n (f a) = true) (k : q (.bl (decide (x ∈ xs))) M) : OpD K (rInU K) (f x) (.ref p) M q := fun F H v w S rx ry Q A => by
  have e := any_eqv hf x xs
  have ok : (xs.map f).all (okPy n) = true := by rw [List.all_map]; exact List.all_eq_true.mpr fun a ha => hxs a ha
  cases ry
  obtain ⟨F', S', st, r'⟩ := S.freeze hj
  refine .inl ⟨_, _, rp_dp S.sub n _ v rx hx, rp_dp S'.sub (n + 1) _ _ r' ok, okPy_shaped (by omega) hx, okPy_shaped hn (d := .lst (xs.map f)) ok, ?_⟩
  rw [e]; exact A.here S (.bl _) k
theorem notInU_cell {α : Type} [DecidableEq α] {f : α → D} {n : Nat} {x : α} {xs : List α} {p : Addr} {j : Nat} (hj : M[j]? = some (p, .lst (xs.map f))) (hn : n + 1 ≤ 64) (hf : ∀ a b, PyData.eqv (toPy n (f a)) (toPy n (f b)) = decide (a = b)) (hx : okPy n (f x) = true)
    (hxs : ∀ a ∈ xs, okPy n (f a) = true) (k : q (.bl (!decide (x ∈ xs))) M) : OpD K (rNotInU K) (f x) (.ref p) M q := fun F H v w S rx ry Q A => by
  have e := any_eqv hf x xs
  have ok : (xs.map f).all (okPy n) = true := by rw [List.all_map]; exact List.all_eq_true.mpr fun a ha => hxs a ha
  cases ry
  obtain ⟨F', S', st, r'⟩ := S.freeze hj
  refine .inl ⟨_, _, rp_dp S.sub n _ v rx hx, rp_dp S'.sub (n + 1) _ _ r' ok, okPy_shaped (by omega) hx, okPy_shaped hn (d := .lst (xs.map f)) ok, ?_⟩
  rw [e]; exact A.here S (.bl _) k
/-- append, on a list of shown data -/
theorem bm_app {α : Type} {f : α → D} {xs : List α} {x : α} {p : Addr} (j : Nat) (hj : M[j]? = some (p, .lst (xs.map f))) (hl : xs.length < sizeLine) (k : q .non (M.set j (p, .lst ((xs ++ [x]).map f)))) : BmD K rAppend (.ref p) [f x] M q :=
  bm_append hj (by rw [List.length_map]; exact hl) (by rw [List.map_append] at k; exact k)
end
/-! ### patterns -/
def arrow (b : Bool) : Str := if b = true then "<-" else "->"
abbrev Msg := Bool × List Str
abbrev msgD (m : Msg) : D := .tup [.str (arrow m.1), strsT m.2]
abbrev msgsD (ms : List Msg) : D := .tup (ms.map msgD)
abbrev Bef := List Str × List Str
abbrev befD (b : Bef) : D := .tup [strsT b.1, strsT b.2]
abbrev patD (n : Str) (b : Bef) (ms : List Msg) : D := .obj "Pattern" ["name", "before", "messages"] [.str n, befD b, msgsD ms]
def TOK : List Str := ["e", "s", "ee", "es", "se", "ss", "psk"]
def SEC : List Str := ["ee", "es", "se", "ss"]
def BEF : List (List Str) := [[], ["e"], ["s"], ["e", "s"]]
def alt : List Msg → Bool
  | a :: b :: r => a.1 != b.1 && alt (b :: r)
  | _ => true
structure okM (ms : List Msg) : Prop where
  ne : ms ≠ []
  le : ms.length ≤ 12
  tok : ∀ m ∈ ms, m.2 ≠ [] ∧ m.2.length ≤ 8 ∧ ∀ t ∈ m.2, t ∈ TOK
  al : alt ms = true
def okB (b : Bef) : Prop := b.1 ∈ BEF ∧ b.2 ∈ BEF
theorem arrow_inj {a b : Bool} : (arrow a = arrow b) ↔ (a = b) := by
  cases a <;> cases b <;> decide +kernel
theorem arrow_eq {a b : Bool} : decide (arrow a = arrow b) = (a == b) := by cases a <;> cases b <;> decide +kernel
theorem tok_ok : ∀ t ∈ TOK, PyData.strOk t = true := by
  have h : TOK.all PyData.strOk = true := by decide +kernel
  exact fun t ht => List.all_eq_true.mp h t ht
theorem arrow_ok (b : Bool) : PyData.strOk (arrow b) = true := by cases b <;> decide +kernel
theorem bef_tok : ∀ b ∈ BEF, b.length ≤ 2 ∧ ∀ t ∈ b, t ∈ TOK := by
  have h : (BEF.all fun b => decide (b.length ≤ 2) && b.all fun t => decide (t ∈ TOK)) = true := by decide +kernel
  intro b hb
  have := List.all_eq_true.mp h b hb
  rw [Bool.and_eq_true] at this
  exact ⟨of_decide_eq_true this.1, fun t ht => of_decide_eq_true (List.all_eq_true.mp this.2 t ht)⟩
/-! the text of a line -/
def tl (x : Str) : List Nat := x.cps.toList
def lineL (m : Msg) : List Nat := tl (arrow m.1) ++ ([32] ++ TL.joinL [44, 32] (m.2.map tl))
def lineS (m : Msg) : Str := SX.S (lineL m)
theorem tok_tl : ∀ t ∈ TOK, 44 ∉ tl t ∧ 10 ∉ tl t ∧ (tl t).length ≤ 3 := by
  have h : (TOK.all fun t => decide (44 ∉ tl t) && decide (10 ∉ tl t) && decide ((tl t).length ≤ 3)) = true := by decide +kernel
  intro t ht
  have := List.all_eq_true.mp h t ht
  rw [Bool.and_eq_true, Bool.and_eq_true] at this
  exact ⟨of_decide_eq_true this.1.1, of_decide_eq_true this.1.2, of_decide_eq_true this.2⟩
theorem joinL_mem {c : Nat} {sep : List Nat} : ∀ {ps : List (List Nat)}, c ∈ TL.joinL sep ps → c ∈ sep ∨ ∃ p ∈ ps, c ∈ p
  | [], h => by cases h
  | [p], h => .inr ⟨p, List.mem_cons_self, h⟩
  | p :: q :: r, h => by
    have h : c ∈ p ++ (sep ++ TL.joinL sep (q :: r)) := h
    rcases List.mem_append.mp h with h | h
    · exact .inr ⟨p, List.mem_cons_self, h⟩
    · rcases List.mem_append.mp h with h | h
      · exact .inl h
      · rcases joinL_mem h with h | ⟨x, hx, h⟩
        · exact .inl h
        · exact .inr ⟨x, List.mem_cons_of_mem _ hx, h⟩
theorem joinL_len {sep : List Nat} {k : Nat} : ∀ {ps : List (List Nat)}, (∀ p ∈ ps, p.length ≤ k) → (TL.joinL sep ps).length ≤ ps.length * (k + sep.length)
  | [], _ => Nat.zero_le _
  | [p], h => by
    have := h p List.mem_cons_self
    show p.length ≤ _
    simp only [List.length_cons, List.length_nil]
    omega
  | p :: q :: r, h => by
    have h1 := h p List.mem_cons_self
    have h2 := joinL_len (sep := sep) (k := k) (ps := q :: r) (fun x hx => h x (List.mem_cons_of_mem _ hx))
    show (p ++ (sep ++ TL.joinL sep (q :: r))).length ≤ _
    rw [List.length_append, List.length_append, List.length_cons, Nat.add_mul]
    omega
theorem map_tl (xs : List Str) : (xs.map tl).map SX.S = xs := by
  rw [List.map_map]
  have : (SX.S ∘ tl) = id := by funext x; exact SX.S_tl x
  rw [this, List.map_id]
structure okL (m : Msg) : Prop where
  ne : m.2 ≠ []
  le : m.2.length ≤ 8
  tok : ∀ t ∈ m.2, t ∈ TOK
theorem arrow_len (b : Bool) : (tl (arrow b)).length = 2 := by cases b <;> decide +kernel
theorem line_len {m : Msg} (o : okL m) : (lineL m).length ≤ 100 := by
  have h := joinL_len (sep := [44, 32]) (k := 3) (ps := m.2.map tl) (fun p hp => by
    obtain ⟨t, ht, rfl⟩ := List.mem_map.mp hp
    exact (tok_tl t (o.tok t ht)).2.2)
  have hl := o.le
  rw [List.length_map] at h
  unfold lineL
  rw [List.length_append, List.length_append, arrow_len]
  simp only [List.length_cons, List.length_nil] at h ⊢
  omega
theorem line_to (m : Msg) : Txt.slice (lineS m) none (some 2) = arrow m.1 := by
  have := SX.to_app (tl (arrow m.1)) ([32] ++ TL.joinL [44, 32] (m.2.map tl)) (i := 2) (by rw [arrow_len]; rfl)
  exact this.trans (SX.S_tl _)
theorem line_mid (m : Msg) : Txt.slice (lineS m) (some 2) (some 3) = (" " : Str) := by
  have hl : (lineL m).length ≥ 3 := by unfold lineL; rw [List.length_append, List.length_append, arrow_len]; simp only [List.length_cons, List.length_nil]; omega
  have e := beq_iff_eq.mp (PyProof.Rows.slice_closesL (x := lineS m) (i := 2) (j := 3) (by omega) (by omega) (by unfold lineS; rw [SX.S_len]; omega))
  rw [e]
  have e2 : ((lineS m).cps.toList.drop (2 : Int).toNat).take (3 - 2 : Int).toNat = [32] := by
    show ((lineL m).drop 2).take 1 = [32]
    unfold lineL
    rw [List.drop_append_of_le_length (by rw [arrow_len]; exact Nat.le_refl _), List.drop_eq_nil_of_le (by rw [arrow_len]; exact Nat.le_refl _)]
    rfl
  rw [e2]
  decide +kernel
theorem line_from (m : Msg) : Txt.slice (lineS m) (some 3) none = SX.S (TL.joinL [44, 32] (m.2.map tl)) := by
  have := SX.from_app (tl (arrow m.1) ++ [32]) (TL.joinL [44, 32] (m.2.map tl)) (i := 3) (by rw [List.length_append, arrow_len]; rfl)
  rw [List.append_assoc] at this
  exact this
theorem line_split {m : Msg} (o : okL m) : Txt.split (SX.S (TL.joinL [44, 32] (m.2.map tl))) (", " : Str) = m.2 := by
  have e : (", " : Str) = SX.S [44, 32] := by decide +kernel
  rw [e, SX.split_S (by decide) (by decide), SX.spl_join (by simpa using o.ne) (fun p hp => by
    obtain ⟨t, ht, rfl⟩ := List.mem_map.mp hp
    exact (tok_tl t (o.tok t ht)).1), map_tl]
/-! ### inside a try: the readings speak of K itself -/
section
variable {X : Cx} {K : PySem.W.Frag} {W : WX} {k j n : Nat} {ps ks : List Str} {R : SpR} {x c m : Str} {p pos apos : Pos} {e o : Expr} {es : List Expr} {kws : List Keyword} {ta : TE} {t tk : TA}
theorem pe_fnXK (hK : X.K = K) (h : Fn X.prog X.w K X.mg X.base (L2.CX X.prog X.w) x k ps R) (hr : Room j X.A) (hk : k ≤ j) (hg : Gl X x) (tk : Takes X W) (ha : PA X (e :: es) t)
    (hdb : (x == ("__debug__" : Str)) = false := by decide) (he : starEach (e :: es) X.env = (false, eval e X.env) :: starEach es X.env := by rfl) (hpl : (backTo pos (starEach es X.env)).any (·.1) = false := by rfl) :
    PE X (.Call (.Name x p) (e :: es) [] pos) (tCallS (SpD K R) (WE W) t) := by subst hK; exact pe_fnX h hr hk hg tk ha hdb he hpl
theorem pe_meXK {pl : Sem Bool} (hK : X.K = K) (h : Me X.prog X.w K X.mg X.base (L2.CX X.prog X.w) c m k ps R) (hr : Room j X.A) (hk : k ≤ j) (tk : Takes X W) (he : PE X o ta) (ha : PA X (e :: es) t)
    (hst : starEach (e :: es) X.env = (false, eval e X.env) :: starEach es X.env := by rfl) (hpl : (backTo pos (starEach es X.env)).any (·.1) = false := by rfl)
    (ht : eval (.Call (.Attribute o m apos) (e :: es) [] pos) X.env = (do
      let ov ← eval o X.env
      standAt apos.atName
      let (f, first) ← holding [ov] (getMethod ov m pl)
      callWith pos f first (backTo pos (starEach (e :: es) X.env)) (backToKw pos (keywordEach [] X.env))) := by rfl) :
    PE X (.Call (.Attribute o m apos) (e :: es) [] pos) (tMethS (He.ga K c) m (SpD K R) (WE W) ta t) := by subst hK; exact pe_meX h hr hk tk he ha hst hpl ht
theorem pe_meX0K {pl : Sem Bool} (hK : X.K = K) (h : Me X.prog X.w K X.mg X.base (L2.CX X.prog X.w) c m k ps R) (hr : Room j X.A) (hk : k ≤ j) (tk : Takes X W) (he : PE X o ta)
    (ht : eval (.Call (.Attribute o m apos) [] [] pos) X.env = (do
      let ov ← eval o X.env
      standAt apos.atName
      let (f, first) ← holding [ov] (getMethod ov m pl)
      callWith pos f first (backTo pos (starEach [] X.env)) (backToKw pos (keywordEach [] X.env))) := by rfl) :
    PE X (.Call (.Attribute o m apos) [] [] pos) (tMethS (He.ga K c) m (SpD K R) (WE W) ta tNil) := by subst hK; exact pe_meX0 h hr hk tk he ht
theorem pe_ma6K (hK : X.K = K) (h : Mh X.prog X.w K X.mg X.base k R) (hr : Room j X.A) (hk : k + 1 ≤ j) (hg : Gl X "Handshake") (tkW : Takes X W) (ha : PA X (e :: es) t) (hkw : PK X kws tk)
    (hall : (backToKw pos (keywordEach kws X.env)).all (·.1.isSome) = true := by rfl) (hks : (backToKw pos (keywordEach kws X.env)).filterMap (·.1) = hsKs6 := by rfl)
    (he : starEach (e :: es) X.env = (false, eval e X.env) :: starEach es X.env := by rfl) (hpl : ((backTo pos (starEach (e :: es) X.env)).any (·.1) || (backToKw pos (keywordEach kws X.env)).any (·.1.isNone)) = false := by rfl) :
    PE X (.Call (.Name "Handshake" p) (e :: es) kws pos) (tMakeKS (He.ga K "Handshake") 2 6 (SpD K R) (fun vs zs => g6 (.ref (hsPro K)) vs zs) (WE W) t tk) := by subst hK; exact pe_ma6 h hr hk hg tkW ha hkw hall hks he hpl
theorem call_isEK {a D : Addr} {oe : Obj} {pn : List (Addr × Obj)} (hK : X.K = K) (C : ExcC K D) (hz : Zc (.ref D) none oe) (hf : ∃ vs, oe.data = .fields vs) : CallR (X.suite a ((a, oe) :: pn)) (.builtin "isinstance") (rIsE K D a) := by subst hK; exact call_isE C hz hf
end
/-! ### try, named -/
def tTry (K : PySem.W.Frag) (c : Value) (i : Nat) (tb : WX → TS) (ts : Addr → Value → Option Addr → TS) (Wout : WX) : TS := fun D σ H => tb (wAs K c i ts Wout D) D σ H
section
variable {X : Cx} {K : PySem.W.Frag} {x n : Str} {c : Value} {i : Nat} {body suite : List Stmt} {b₀ : Stmt} {np pos pos' : Pos} {tb : WX → TS} {ts : Addr → Value → Option Addr → TS} {Wout : WX}
theorem ps_tryK (hK : X.K = K) (hs : X.stack = X.env :: X.outer) (hf : X.env.frame = some X.env.locals) (hN : X.N.Nodup) (hi : X.N[i]? = some n) (hln : X.env.kindOf n = some .local) (hc : Names X x c) (tk : Takes X Wout)
    (hb : ∀ (W : WX) (pn : List (Addr × Obj)) (xe : Value → Shared → Prop), Takes (X.tr pn xe) W → PassesOwn (model X.prog X.w) X.A X.env xe → PSs (X.tr pn xe) body (tb W))
    (hsu : ∀ (a : Addr) (oe : Obj) (cls : Value) (d : Option Addr) (pn : List (Addr × Obj)), Zc cls d oe → (∃ vs, oe.data = .fields vs) → PSs (X.suite a ((a, oe) :: pn)) (b₀ :: suite) (ts a cls d)) :
    PS X (.Try body [.ExceptHandler (some (.Name x np)) (some n) (b₀ :: suite) pos'] [] [] pos) (tTry K c i tb ts Wout) := by subst hK; exact ps_try_as hs hf hN hi hln hc tk hb hsu
variable {M : Mem} {Γ : Gm} {nx bk ct : Gm → Mem → Prop} {rt : D → Mem → Prop} {ex : Gm → Value → Mem → Prop}
theorem xs_tryT
    (h : ∀ W', StD K W' (tb W') Γ M ⟨nx, rt, bk, ct, fun Γ' cls M' => PySem.W.exmOne K cls c = some true ∧ ∀ a, a ∉ dom M' → StD K W0 (ts a cls none) (Γ'.set i (some (.ref a))) M' ⟨fun Γ2 M2 => nx (Γ2.set i none) M2, rt, fun Γ2 M2 => bk (Γ2.set i none) M2, fun Γ2 M2 => ct (Γ2.set i none) M2, fun _ _ _ => False⟩⟩) :
    StD K Wout (tTry K c i tb ts Wout) Γ M ⟨nx, rt, bk, ct, ex⟩ := xs_try h
end
section
variable {K : PySem.W.Frag} {W : WX} {M : Mem} {Γ : Gm} {te : TE} {q : D → Mem → Prop} {ex0 : Value → Mem → Prop}
theorem evx_forget (h : EvX K W te Γ M (fun d M1 => ∃ (j : Nat) (p : Addr) (o : D), M1[j]? = some (p, o) ∧ q d (M1.eraseIdx j)) ex0) : EvX K W te Γ M q ex0 := fun σ F H S E Q A X =>
  h σ F H S E _ (fun v d F1 M1 H1 s1 S1 r1 h1 => by
    obtain ⟨j, p, o, hj, k⟩ := h1
    obtain ⟨F2, S2, s2, r2⟩ := S1.freeze hj
    exact A _ _ _ _ _ (s1.trans s2) S2 (Rp.mono s2.ext _ _ r1) k) X
end
/-! ### calls that want the cells in another order -/
section
variable {K : PySem.W.Frag} {M : Mem} {Γ : Gm} {ta : TE} {q : D → Mem → Prop}
theorem ev_methP {R : SpR} {E0 : XK} {t : TA} {c m : Str} (h : EvD K ta Γ M fun x M1 => RecD K c m x M1 ∧ EvA K t Γ M1 fun ds M2 => ∃ M3, M2.Perm M3 ∧ R (x :: ds) M3 q no_ex) : EvD K (tMeth (He.ga K c) m (SpD K R) [] E0 ta t) Γ M q := fun σ F H S E Q A =>
  h σ F H S E _ fun v x F1 M1 H1 s1 S1 r1 h1 => by
    obtain ⟨a, dx, fs, ev, ea, el⟩ := h1.1 F1 H1 v S1 r1
    refine ⟨a, dx, fs, ev, ea, el, ?_⟩
    refine h1.2 σ F1 H1 S1 (E.mono s1.ext) _ fun vs ds F2 M2 H2 s2 S2 r2 h2 => ?_
    obtain ⟨M3, hp, h2⟩ := h2
    exact ⟨F2, M3, x :: ds, q, no_ex, S2.perm hp, by rw [List.append_nil]; exact .cons (Rp.mono s2.ext _ _ r1) r2, h2, fun v d F' M' H' st S' r z => A v d F' M' H' ((s1.trans s2).trans (st.perm hp)) S' r z, fun _ _ _ _ _ _ z => z.elim⟩
theorem ev_callP {R : SpR} {E0 : XK} {t : TA} (h : EvA K t Γ M fun ds M1 => ∃ M3, M1.Perm M3 ∧ R ds M3 q no_ex) : EvD K (tCall (SpD K R) [] E0 t) Γ M q := fun σ F H S E Q A =>
  h σ F H S E _ fun vs ds F1 M1 H1 s1 S1 r1 h1 => by
    obtain ⟨M3, hp, h1⟩ := h1
    exact ⟨F1, M3, ds, q, no_ex, S1.perm hp, by rw [List.append_nil]; exact r1, h1, fun v d F' M' H' st S' r z => A v d F' M' H' (s1.trans (st.perm hp)) S' r z, fun _ _ _ _ _ _ z => z.elim⟩
end
theorem perm_swap2 {α : Type} (a b c d : α) (r : List α) : (a :: b :: c :: d :: r).Perm (c :: d :: a :: b :: r) := by
  have h : ([a, b] ++ [c, d]).Perm ([c, d] ++ [a, b]) := List.perm_append_comm
  exact List.Perm.append_right r h
theorem perm_rev {α : Type} (a b c d e : α) (r : List α) : (e :: a :: b :: c :: d :: r).Perm (c :: d :: a :: b :: e :: r) := by
  have h1 : ([e] ++ ([a, b] ++ [c, d])).Perm (([a, b] ++ [c, d]) ++ [e]) := List.perm_append_comm
  have h2 : ([a, b] ++ [c, d]).Perm ([c, d] ++ [a, b]) := List.perm_append_comm
  exact List.Perm.append_right r (h1.trans (h2.append_right [e]))
theorem perm_last {α : Type} (a b c d e : α) (r : List α) : (a :: b :: c :: d :: e :: r).Perm (e :: a :: b :: c :: d :: r) := by
  have h : ([a, b, c, d] ++ [e]).Perm ([e] ++ [a, b, c, d]) := List.perm_append_comm
  exact List.Perm.append_right r h
local macro_rules | `(tactic| walk_at "d_c") => `(tactic| first | decide | (simp only [decide_eq_true_eq]; omega) | (simp; done) | (simp; omega) | ((have hsz : sizeLine = 16777216 := rfl); simp; omega) | (simp_all; done) | (simp_all; omega))
local macro_rules | `(tactic| walk_at "s") => `(tactic| try dsimp only [cxOf, L2.Cx.nox, L2.Cx.wish])
local macro_rules | `(tactic| walk_at "d") => `(tactic| first
  | with_reducible refine xs_seq ?_
  | with_reducible refine xs_asg ?_
  | with_reducible refine xs_retN ?_
  | with_reducible refine xs_drop ?_
  | with_reducible refine sd_if ?_
  | with_reducible refine xs_next ?_
  | ((with_reducible refine ev_var (d := ?_) ?_ ?_); case' refine_2 => exact rfl)
  | with_reducible refine ev_int ?_
  | with_reducible refine ev_str ?_
  | with_reducible refine ev_bl ?_
  | with_reducible refine ev_non ?_
  | with_reducible refine ev_ty ?_
  | with_reducible refine ev_op ?_
  | with_reducible refine ea_nil ?_
  | with_reducible refine ea_cons ?_
  | with_reducible refine ev_call ?_
  | with_reducible refine gt_name ?_
  | with_reducible refine gt_tup rfl ?_
  | with_reducible refine gts_cons ?_
  | with_reducible refine gts_nil ?_
  | with_reducible refine tt_B ?_
  | with_reducible refine tt_T ?_
  | with_reducible refine tt_not ?_
  | with_reducible refine tt_and ?_
  | with_reducible refine tt_or ?_
  | with_reducible refine tt_yes ?_
  | with_reducible refine ev_cb ?_
  | with_reducible refine ev_bm ?_
  | with_reducible refine ev_sl ?_
  | with_reducible refine po_nil ?_
  | with_reducible refine po_val ?_
  | with_reducible refine ev_tup ?_
  | with_reducible refine ev_andV ?_
  | with_reducible refine ev_orV ?_
  | with_reducible refine ev_notV ?_
  | with_reducible refine addU_int ?_
  | with_reducible refine eqU_int ?_
  | with_reducible refine neU_int ?_
  | with_reducible refine eqU_str ?_
  | with_reducible refine neU_str ?_
  | with_reducible refine eqU_bys ?_
  | with_reducible refine neU_bys ?_
  | with_reducible refine op_i0 (fun _ => .int _) ?_
  | with_reducible refine op_i0 (fun _ => .bl _) ?_
  | with_reducible refine cb_len len_lst ?_
  | with_reducible refine cb_len len_tup ?_
  | with_reducible refine cb_list (.inl rfl) ?_
  | with_reducible refine cb_list (.inr rfl) ?_
  | with_reducible refine ev_lstI ?_
  | ((with_reducible refine addU_bys ?_ ?_); case' refine_1 => walk_at "d_c")
  | ((with_reducible refine op_i ?_ (fun _ => .int _) ?_); case' refine_1 => decide)
  | with_reducible refine ev_fld ?_
  | ((with_reducible show FldD _ _ (D.obj _ _ _) _ _); refine fld_objC (by assumption) (by decide +kernel) rfl rfl ?_)
  | ((with_reducible show FldD _ _ (D.ref _) _ _); first | refine fld_cellC 0 (by assumption) rfl (by decide +kernel) rfl rfl ?_ | refine fld_cellC 1 (by assumption) rfl (by decide +kernel) rfl rfl ?_ | refine fld_cellC 2 (by assumption) rfl (by decide +kernel) rfl rfl ?_)
  | with_reducible refine ev_meth ?_
  | with_reducible refine xs_fld ?_
  | ((with_reducible show RecD _ _ _ _ _ ∧ _); first | refine ⟨rec_obj rfl, ?_⟩ | refine ⟨rec_cell (j := 0) rfl rfl, ?_⟩ | refine ⟨rec_cell (j := 1) rfl rfl, ?_⟩ | refine ⟨rec_cell (j := 2) rfl rfl, ?_⟩ | refine ⟨rec_cell (j := 3) rfl rfl, ?_⟩ | refine ⟨rec_cell (j := 4) rfl rfl, ?_⟩)
  | ((with_reducible show SetD _ _ _ _ _ _); first | refine set_oldC 0 (by assumption) rfl (by decide +kernel) rfl (by decide) ?_ | refine set_newC 0 (by assumption) rfl (by decide +kernel) rfl (by decide) ?_ | refine set_oldC 1 (by assumption) rfl (by decide +kernel) rfl (by decide) ?_ | refine set_newC 1 (by assumption) rfl (by decide +kernel) rfl (by decide) ?_)
  | ((with_reducible show _ ≤ sizeLine ∧ _); refine ⟨(show _ ≤ sizeLine from Nat.le_of_ble_eq_true rfl), ?_⟩)
  | with_reducible refine ev_dget ?_
  | with_reducible refine xs_dput ?_
  | ((with_reducible show DgD _ _ _ _ _); first | refine dg_dic rfl rfl ?_ | refine dg_cell (j := 0) rfl rfl rfl ?_ | refine dg_cell (j := 1) rfl rfl rfl ?_ | refine dg_cell (j := 4) rfl rfl rfl ?_)
  | ((with_reducible show DpD _ _ _ _ _ _); first | refine dp_old (j := 0) rfl (by decide +kernel) rfl (by decide) ?_ | refine dp_new (j := 0) rfl rfl (by decide) ?_)
  | with_reducible refine ex_bl ?_
  | with_reducible refine ex_int ?_
  | with_reducible refine ex_str ?_
  | with_reducible refine ex_lst ?_
  | with_reducible refine ex_one ?_
  | with_reducible refine ex_tup1 ?_
  | with_reducible refine ex_par ?_
  | with_reducible refine ex_par3 ?_
  | with_reducible refine xs_par ?_
  | with_reducible refine xs_par3 ?_
  | with_reducible refine xs_brk ?_
  | with_reducible refine xs_cont ?_
  | with_reducible refine neU_non ?_
  | with_reducible refine isU_bl ?_
  | with_reducible refine isNotU_bl ?_)
local macro_rules | `(tactic| walk_at "w") => `(tactic| repeat walk_at "d")
local macro_rules | `(tactic| walk_at "d_n") => `(tactic| (refine ite_no (by walk_at "d_c") ?_; walk_at "w"))
local macro_rules | `(tactic| walk_at "d_y") => `(tactic| (refine ite_yes (by walk_at "d_c") ?_; walk_at "w"))
local macro_rules | `(tactic| walk_at "r") => `(tactic| ((with_reducible refine xs_ret ?_); walk_at "w"))
local macro_rules | `(tactic| walk_at "rf") => `(tactic| (refine xs_ret (ev_frz ?_); walk_at "w"; refine ⟨_, 0, _, rfl, rfl, ?_⟩))
local macro_rules | `(tactic| walk_at "d_o") => `(tactic| first | omega | (dsimp only; omega) | (simp; omega) | (dsimp only at *; omega))
local macro_rules | `(tactic| walk_at "d_i") => `(tactic| ((with_reducible refine ev_if ?_); walk_at "w"))
local macro_rules | `(tactic| walk_at "p") => `(tactic| repeat ((fail_if_success (with_reducible refine ev_meth ?_)); (fail_if_success (with_reducible refine ev_call ?_)); walk_at "d"))
section
/-- the bytes -/
def isBy (ns : List Int) : Prop := ∀ x ∈ ns, 0 ≤ x ∧ x < 256
def fromBig (ns : List Int) : Int := ns.foldl (fun n b => n * 256 + b) 0
theorem fold_lt : ∀ (ns : List Int) (a : Int) (n : Nat), isBy ns → 0 ≤ a → a.natAbs < 2 ^ n → 0 ≤ ns.foldl (fun n b => n * 256 + b) a ∧ (ns.foldl (fun n b => n * 256 + b) a).natAbs < 2 ^ (n + 8 * ns.length) := by
  intro ns
  induction ns with
  | nil => intro a n _ h1 h2; exact ⟨h1, h2⟩
  | cons x r ih =>
    intro a n hb h1 h2
    obtain ⟨b1, b2⟩ := hb x List.mem_cons_self
    have e : n + 8 * (x :: r).length = (n + 8) + 8 * r.length := by rw [List.length_cons]; omega
    rw [e]
    refine ih (a * 256 + x) (n + 8) (fun y hy => hb y (List.mem_cons_of_mem _ hy)) (by omega) ?_
    rw [Nat.pow_add]
    omega
theorem fromBig_lt (ns : List Int) (h : isBy ns) : 0 ≤ fromBig ns ∧ (fromBig ns).natAbs < 2 ^ (8 * ns.length) := by
  have := fold_lt ns 0 0 h (by omega) (by decide)
  rwa [Nat.zero_add] at this
theorem isBy.take {ns : List Int} (h : isBy ns) (n : Nat) : isBy (ns.take n) := fun x hx => h x (List.mem_of_mem_take hx)
theorem isBy.drop {ns : List Int} (h : isBy ns) (n : Nat) : isBy (ns.drop n) := fun x hx => h x (List.mem_of_mem_drop hx)
theorem isBy.app {a b : List Int} (h : isBy a) (h' : isBy b) : isBy (a ++ b) := fun x hx => (List.mem_append.mp hx).elim (h x) (h' x)
theorem isBy.rev {a : List Int} (h : isBy a) : isBy a.reverse := fun x hx => h x (List.mem_reverse.mp hx)
theorem lt_wider {x n m : Nat} (h : x < 2 ^ n) (hm : n ≤ m) : x < 2 ^ m := Nat.lt_of_lt_of_le h (Nat.pow_le_pow_right (by decide) hm)
def R_from_big : SpR := fun ds M q _ => ∃ ns : List Int, ds = [bys ns] ∧ isBy ns ∧ ns.length ≤ 1000 ∧ q (.int (fromBig ns)) M
def toLittle : Nat → Int → List Int
  | 0, _ => []
  | k + 1, n => n % 256 :: toLittle k (n / 256)
@[simp] theorem toLittle_len : ∀ (k : Nat) (n : Int), (toLittle k n).length = k
  | 0, _ => rfl
  | k + 1, n => by unfold toLittle; rw [List.length_cons, toLittle_len k]
theorem toLittle_by : ∀ (k : Nat) (n : Int), isBy (toLittle k n)
  | 0, _ => fun x hx => by cases hx
  | k + 1, n => fun x hx => by
    unfold toLittle at hx
    rcases List.mem_cons.mp hx with rfl | hx
    · omega
    · exact toLittle_by k _ x hx
def R_to_little : SpR := fun ds M q _ => ∃ (n : Int) (k : Nat), ds = [.int n, .int k] ∧ 0 ≤ n ∧ k ≤ 1000 ∧ n.natAbs < 2 ^ (8 * k) ∧ q (bys (toLittle k n)) M
def toBig (k : Nat) (n : Int) : List Int := (toLittle k n).reverse
@[simp] theorem toBig_len (k : Nat) (n : Int) : (toBig k n).length = k := by unfold toBig; rw [List.length_reverse, toLittle_len]
theorem toBig_by (k : Nat) (n : Int) : isBy (toBig k n) := (toLittle_by k n).rev
def R_to_big : SpR := fun ds M q _ => ∃ (n : Int) (k : Nat), ds = [.int n, .int k] ∧ 0 ≤ n ∧ k ≤ 1000 ∧ n.natAbs < 2 ^ (8 * k) ∧ q (bys (toBig k n)) M
def fromLittle (ns : List Int) : Int := fromBig ns.reverse
theorem fromLittle_lt (ns : List Int) (h : isBy ns) : 0 ≤ fromLittle ns ∧ (fromLittle ns).natAbs < 2 ^ (8 * ns.length) := by
  have := fromBig_lt ns.reverse h.rev
  rwa [List.length_reverse] at this
def R_from_little : SpR := fun ds M q _ => ∃ ns : List Int, ds = [bys ns] ∧ isBy ns ∧ ns.length ≤ 1000 ∧ q (.int (fromLittle ns)) M
def rsz (len c : Nat) : Nat := (Builtin.Range.rangeSize 0 len c).toNat
theorem rsz_le (len c : Nat) : rsz len c ≤ len := by
  have := rangeSize_toNat_le 0 len c
  unfold rsz
  omega
theorem rgc {len c : Nat} (hc : 0 < c) (h : c < 1000) (hl : len < 2 ^ 40) : RgC 0 len c (rsz len c) := by
  refine ⟨by omega, by omega, ?_, rangeSize_toNat _ _ _⟩
  have h1 := rangeSize_toNat_le 0 len c
  have h2 := rangeSize_toNat 0 len c
  have f1 : ∀ x : Int, 0 ≤ x → x < 2 ^ 41 → Builtin.Range.rangeFitsLong x = true := fun x a b => by
    unfold Builtin.Range.rangeFitsLong
    rw [Bool.and_eq_true, decide_eq_true_eq, decide_eq_true_eq]
    omega
  unfold Builtin.Range.small
  rw [f1 0 (by decide) (by decide), f1 len (by omega) (by omega), f1 c (by omega) (by omega), f1 _ (by omega) (by omega), if_pos (by omega), f1 _ (by omega) (by omega), Bool.or_true]
  rfl
def pieces (c : Nat) (ns : List Int) : List (List Int) := (List.range (rsz ns.length c)).map fun i => (ns.drop (i * c)).take c
def R_cut : SpR := fun ds M q _ => ∃ (ns : List Int) (c : Nat), ds = [bys ns, .int c] ∧ 0 < c ∧ c < 1000 ∧ ns.length < 2 ^ 23 ∧ q (.lst ((pieces c ns).map bys)) M
def xorB (a b : List Int) : List Int := List.zipWith (fun x y => Builtin.bitXor x y) a b
def R_combine : SpR := fun ds M q _ => ∃ (a b : List Int), ds = [bys a, bys b] ∧ a.length = b.length ∧ a.length < 2 ^ 23 ∧ q (bys (xorB a b)) M
abbrev LL : Int := 170141183460469231731687303715884105727
def R_small_power : SpR := fun ds M q _ => ∃ (b e : Int), ds = [.int b, .int e] ∧ 0 ≤ e ∧ q (.int (b ^ e.toNat % LL)) M
theorem pow_emod {a n : Int} : ∀ {k : Nat}, (a % n) ^ k % n = a ^ k % n
  | 0 => by rw [Int.pow_zero, Int.pow_zero]
  | k + 1 => by rw [Int.pow_succ, Int.pow_succ, Int.mul_emod, pow_emod, Int.emod_emod, ← Int.mul_emod]
theorem pow_half {r b : Int} {e : Nat} (he : 0 < e) : (if e % 2 = 1 then (r * b % LL) else r) * (b * b % LL) ^ (e / 2) % LL = r * b ^ e % LL := by
  have h1 : b ^ e = b ^ (e % 2) * (b * b) ^ (e / 2) := by
    rw [← (show b ^ 2 = b * b by rw [Int.pow_succ, Int.pow_succ, Int.pow_zero, Int.one_mul]), ← Int.pow_mul, ← Int.pow_add]
    congr 1; omega
  rw [h1]
  by_cases h : e % 2 = 1
  · rw [if_pos h, h, Int.pow_one, ← Int.mul_assoc, Int.mul_emod, Int.emod_emod, Int.mul_emod (r * b), pow_emod]
  · rw [if_neg h, show e % 2 = 0 by omega, Int.pow_zero, Int.one_mul, Int.mul_emod, pow_emod, ← Int.mul_emod]
def expo (s : List Int) : Int := 2 * (fromLittle s % 2 ^ 124) + 3
def R_small_exponent : SpR := fun ds M q _ => ∃ ns : List Int, ds = [bys ns] ∧ isBy ns ∧ ns.length ≤ 1000 ∧ q (.int (expo ns)) M
abbrev MM : Int := 2305843009213693951
def mixM (p : Int × Int) (n : Int) : Int × Int := (((p.1 + n) * (p.1 + 1000000007) + p.2) % MM, ((p.2 + n) * (p.2 + 998244353) + ((p.1 + n) * (p.1 + 1000000007) + p.2) % MM) % MM)
def okP (p : Int × Int) : Prop := 0 ≤ p.1 ∧ p.1 < MM ∧ 0 ≤ p.2 ∧ p.2 < MM
theorem mix_ok (p : Int × Int) (n : Int) : okP (mixM p n) := ⟨Int.emod_nonneg _ (by decide), Int.emod_lt_of_pos _ (by decide), Int.emod_nonneg _ (by decide), Int.emod_lt_of_pos _ (by decide)⟩
abbrev pairD (p : Int × Int) : D := .tup [.int p.1, .int p.2]
def R_small_mix : SpR := fun ds M q _ => ∃ p n, ds = [pairD p, .int n] ∧ okP p ∧ n.natAbs < 2 ^ 100 ∧ q (pairD (mixM p n)) M
def pairM (ns : List Int) : Int × Int := (List.range 3).foldl (fun p _ => mixM p (ns.length : Nat)) ((pieces 7 ns).foldl (fun p c => mixM p (fromLittle (c ++ [1]))) (11, 17))
theorem pieces_mem {c : Nat} {ns x : List Int} (hb : isBy ns) (h : x ∈ pieces c ns) : isBy x ∧ x.length ≤ c := by
  unfold pieces at h
  obtain ⟨i, _, rfl⟩ := List.mem_map.mp h
  exact ⟨(hb.drop _).take _, by rw [List.length_take]; omega⟩
theorem pieces_len (c : Nat) (ns : List Int) : (pieces c ns).length ≤ ns.length := by
  unfold pieces
  rw [List.length_map, List.length_range]
  exact rsz_le _ _
def R_small_pair : SpR := fun ds M q _ => ∃ ns : List Int, ds = [bys ns] ∧ isBy ns ∧ ns.length < 2 ^ 22 ∧ q (pairD (pairM ns)) M
def digM (ns : List Int) : List Int := toLittle 8 (pairM ns).1 ++ toLittle 8 (pairM ns).2
@[simp] theorem digM_len (ns : List Int) : (digM ns).length = 16 := by unfold digM; simp
theorem digM_by (ns : List Int) : isBy (digM ns) := (toLittle_by _ _).app (toLittle_by _ _)
theorem pair_ok (ns : List Int) : okP (pairM ns) := mix_ok _ _
def R_small_digest : SpR := fun ds M q _ => ∃ ns : List Int, ds = [bys ns] ∧ isBy ns ∧ ns.length < 2 ^ 22 ∧ q (bys (digM ns)) M
def stp (p : Int × Int) : Int × Int := ((p.1 * 1442695040888963407 + p.2 + 1) % MM, (p.2 * 1181783497276652981 + (p.1 * 1442695040888963407 + p.2 + 1) % MM + 1) % MM)
theorem stp_ok (p : Int × Int) : okP (stp p) := ⟨Int.emod_nonneg _ (by decide), Int.emod_lt_of_pos _ (by decide), Int.emod_nonneg _ (by decide), Int.emod_lt_of_pos _ (by decide)⟩
def strm : Nat → Int × Int → List Int
  | 0, _ => []
  | n + 1, p => toLittle 7 ((stp p).1 % 2 ^ 56) ++ strm n (stp p)
theorem strm_len : ∀ (n : Nat) (p : Int × Int), (strm n p).length = 7 * n
  | 0, _ => rfl
  | n + 1, p => by unfold strm; rw [List.length_append, strm_len n, toLittle_len]; omega
theorem strm_by : ∀ (n : Nat) (p : Int × Int), isBy (strm n p)
  | 0, _ => fun _ h => by cases h
  | n + 1, p => (toLittle_by _ _).app (strm_by n _)
def streamM (key : List Int) (number : Int) (size : Nat) : List Int := (strm ((size + 6) / 7) (pairM ([2] ++ key ++ toBig 8 number))).take size
@[simp] theorem streamM_len (key : List Int) (number : Int) (size : Nat) : (streamM key number size).length = size := by
  unfold streamM
  rw [List.length_take, strm_len]; omega
theorem streamM_by (key : List Int) (number : Int) (size : Nat) : isBy (streamM key number size) := (strm_by _ _).take _
theorem isBy.one {i : Int} (h0 : 0 ≤ i) (h1 : i < 256) : isBy [i] := fun z hz => by
  have : z = i := by simpa using hz
  omega
def R_small_stream : SpR := fun ds M q _ => ∃ (key : List Int) (number : Int) (size : Nat), ds = [bys key, .int number, .int size] ∧ isBy key ∧ key.length ≤ 1000 ∧ 0 ≤ number ∧ number < 2 ^ 64 ∧ size ≤ 200000 ∧ q (bys (streamM key number size)) M
abbrev suiteD : D := .obj "SmallSuite" ["name", "key_size", "tag_size", "digest_size", "block_size"] [.str "127_Mix_Mix", .int 16, .int 8, .int 16, .int 16]
def R_check_key : SpR := fun ds M q _ => ∃ ns : List Int, ds = [suiteD, bys ns] ∧ ns.length = 16 ∧ q .non M
def R_check_keyed : SpR := fun ds M q _ => ∃ ns ms : List Int, ds = [bys ns, bys ms] ∧ ns.length ≤ 1024 ∧ ms.length ≤ 1048512 ∧ q .non M
def R_check_sealing : SpR := fun ds M q _ => ∃ (ns ms : List Int) (n s : Int), ds = [suiteD, bys ns, .int n, bys ms, .int s] ∧ ns.length = 16 ∧ 0 ≤ n ∧ n < 2 ^ 64 ∧ ms.length ≤ 1048512 ∧ s ≤ 1048576 ∧ q .non M
def R_SmallSuite___init__ : SpR := fun ds M q _ => ∃ p M0, ds = [.ref p] ∧ M = (p, .obj "SmallSuite" [] []) :: M0 ∧ q .non ((p, suiteD) :: M0)
def pubM (s : List Int) : List Int := toLittle 16 (43 ^ (expo s).toNat % LL)
@[simp] theorem pubM_len (s : List Int) : (pubM s).length = 16 := toLittle_len _ _
theorem pubM_by (s : List Int) : isBy (pubM s) := toLittle_by _ _
theorem expo_nn (s : List Int) : 0 ≤ expo s := by
  unfold expo
  have := Int.emod_nonneg (fromLittle s) (show (2 : Int) ^ 124 ≠ 0 by decide)
  omega
theorem ll_lt {x : Int} : 0 ≤ x % LL ∧ (x % LL).natAbs < 2 ^ (8 * 16) := by
  have e : LL = 170141183460469231731687303715884105727 := rfl
  have h1 := Int.emod_nonneg x (show LL ≠ 0 by decide)
  have h2 := Int.emod_lt_of_pos x (show 0 < LL by decide)
  exact ⟨h1, by omega⟩
def R_SmallSuite_public : SpR := fun ds M q _ => ∃ s : List Int, ds = [suiteD, bys s] ∧ isBy s ∧ s.length = 16 ∧ q (bys (pubM s)) M
def weakM (p : List Int) : Bool := decide (LL ≤ fromLittle p) || !decide (fromLittle p ^ (85070591730234615865843651857942052863 : Int).toNat % LL = LL - 1)
def R_SmallSuite_is_weak : SpR := fun ds M q _ => ∃ s : List Int, ds = [suiteD, bys s] ∧ isBy s ∧ s.length = 16 ∧ q (.bl (weakM s)) M
def exM (s p : List Int) : List Int := toLittle 16 (fromLittle p ^ (expo s).toNat % LL)
@[simp] theorem exM_len (s p : List Int) : (exM s p).length = 16 := toLittle_len _ _
theorem exM_by (s p : List Int) : isBy (exM s p) := toLittle_by _ _
def R_SmallSuite_exchange : SpR := fun ds M q _ => ∃ s p : List Int, ds = [suiteD, bys s, bys p] ∧ isBy s ∧ s.length = 16 ∧ isBy p ∧ p.length = 16 ∧ weakM p = false ∧ q (bys (exM s p)) M
def R_SmallSuite_digest : SpR := fun ds M q _ => ∃ s : List Int, ds = [suiteD, bys s] ∧ isBy s ∧ s.length ≤ 1000000 ∧ q (bys (digM s)) M
def keyM (key data : List Int) : List Int := digM ([1] ++ toBig 4 key.length ++ key ++ data)
@[simp] theorem keyM_len (a b : List Int) : (keyM a b).length = 16 := digM_len _
theorem keyM_by (a b : List Int) : isBy (keyM a b) := digM_by _
def R_SmallSuite_keyed : SpR := fun ds M q _ => ∃ a b : List Int, ds = [suiteD, bys a, bys b] ∧ isBy a ∧ a.length ≤ 1024 ∧ isBy b ∧ b.length ≤ 1000000 ∧ q (bys (keyM a b)) M
def tagM (key : List Int) (n : Int) (data comb : List Int) : List Int := (digM ([3] ++ key ++ toBig 8 n ++ toBig 4 data.length ++ data ++ comb)).take 8
@[simp] theorem tagM_len (key : List Int) (n : Int) (a b : List Int) : (tagM key n a b).length = 8 := by unfold tagM; rw [List.length_take, digM_len]; rfl
theorem tagM_by (key : List Int) (n : Int) (a b : List Int) : isBy (tagM key n a b) := (digM_by _).take _
def R_SmallSuite_tag : SpR := fun ds M q _ => ∃ (a : List Int) (n : Int) (b c : List Int), ds = [suiteD, bys a, .int n, bys b, bys c] ∧ isBy a ∧ a.length ≤ 1024 ∧ 0 ≤ n ∧ n < 2 ^ 64 ∧ isBy b ∧ b.length ≤ 1000000 ∧ isBy c ∧ c.length ≤ 1000000 ∧ q (bys (tagM a n b c)) M
theorem xorB_by {a b : List Int} (ha : isBy a) (hb : isBy b) : isBy (xorB a b) := by
  intro z hz
  unfold xorB at hz
  obtain ⟨i, hi, rfl⟩ := List.mem_iff_getElem.mp hz
  rw [List.getElem_zipWith]
  have ia : i < a.length := by rw [List.length_zipWith] at hi; omega
  have ib : i < b.length := by rw [List.length_zipWith] at hi; omega
  have h1 := ha _ (List.getElem_mem ia)
  have h2 := hb _ (List.getElem_mem ib)
  rw [Bits.bitXor_pp h1.1 h2.1]
  have := Nat.xor_lt_two_pow (n := 8) (show a[i].toNat < 2 ^ 8 by omega) (show b[i].toNat < 2 ^ 8 by omega)
  omega
theorem xorB_inv : ∀ {a b : List Int}, isBy a → isBy b → a.length = b.length → xorB (xorB a b) b = a
  | [], [], _, _, _ => rfl
  | x :: a, y :: b, ha, hb, hl => by
    have h1 := ha x List.mem_cons_self
    have h2 := hb y List.mem_cons_self
    have ih := xorB_inv (a := a) (b := b) (fun z hz => ha z (List.mem_cons_of_mem _ hz)) (fun z hz => hb z (List.mem_cons_of_mem _ hz)) (by simpa using hl)
    have e : Builtin.bitXor (Builtin.bitXor x y) y = x := by
      rw [Bits.bitXor_pp (Bits.bitXor_nonneg h1.1 h2.1) h2.1, Bits.bitXor_pp h1.1 h2.1, Int.toNat_natCast, Nat.xor_assoc, Nat.xor_self, Nat.xor_zero]
      omega
    show Builtin.bitXor (Builtin.bitXor x y) y :: xorB (xorB a b) b = x :: a
    rw [e, ih]
  | [], _ :: _, _, _, hl => by simp at hl
  | _ :: _, [], _, _, hl => by simp at hl
@[simp] theorem xorB_len (a b : List Int) : (xorB a b).length = min a.length b.length := by unfold xorB; rw [List.length_zipWith]
def ciM (key : List Int) (n : Int) (text : List Int) : List Int := xorB text (streamM key n text.length)
@[simp] theorem ciM_len (key : List Int) (n : Int) (t : List Int) : (ciM key n t).length = t.length := by unfold ciM; simp
theorem ciM_by {key : List Int} {n : Int} {t : List Int} (h : isBy t) : isBy (ciM key n t) := xorB_by h (streamM_by _ _ _)
def sealM (key : List Int) (n : Int) (data text : List Int) : List Int := ciM key n text ++ tagM key n data (ciM key n text)
@[simp] theorem sealM_len (key : List Int) (n : Int) (d t : List Int) : (sealM key n d t).length = t.length + 8 := by unfold sealM; simp
theorem sealM_by {key : List Int} {n : Int} {d t : List Int} (h : isBy t) : isBy (sealM key n d t) := (ciM_by h).app (tagM_by _ _ _ _)
def R_SmallSuite_seal : SpR := fun ds M q _ => ∃ (a : List Int) (n : Int) (b c : List Int), ds = [suiteD, bys a, .int n, bys b, bys c] ∧ isBy a ∧ a.length = 16 ∧ 0 ≤ n ∧ n < 2 ^ 64 ∧ isBy b ∧ b.length ≤ 1000000 ∧ isBy c ∧ c.length ≤ 100000 ∧ q (bys (sealM a n b c)) M
def R_SmallSuite_open_sealed : SpR := fun ds M q _ => ∃ (a : List Int) (n : Int) (b c : List Int), ds = [suiteD, bys a, .int n, bys b, bys (sealM a n b c)] ∧ isBy a ∧ a.length = 16 ∧ 0 ≤ n ∧ n < 2 ^ 64 ∧ isBy b ∧ b.length ≤ 1000000 ∧ isBy c ∧ c.length ≤ 100000 ∧ q (bys c) M
def twoM (c d : List Int) : List Int × List Int := (keyM (keyM c d) [1], keyM (keyM c d) (keyM (keyM c d) [1] ++ [2]))
def R_two_values : SpR := fun ds M q _ => ∃ (a b : List Int), ds = [suiteD, bys a, bys b] ∧ isBy a ∧ a.length = 16 ∧ isBy b ∧ b.length ≤ 100000 ∧ q (.tup [bys (twoM a b).1, bys (twoM a b).2]) M
def threeM (c d : List Int) : List Int := keyM (keyM c d) ((twoM c d).2 ++ [3])
def R_three_values : SpR := fun ds M q _ => ∃ (a b : List Int), ds = [suiteD, bys a, bys b] ∧ isBy a ∧ a.length = 16 ∧ isBy b ∧ b.length ≤ 100000 ∧ q (.tup [bys (twoM a b).1, bys (twoM a b).2, bys (threeM a b)]) M
def keyD : Option (List Int) → D
  | none => .non
  | some k => bys k
abbrev nkD (k : Option (List Int)) (n : Int) : D := .obj "NumberedKey" ["_suite", "_key", "_number"] [suiteD, keyD k, .int n]
def okK (k : Option (List Int)) : Prop := ∀ b, k = some b → isBy b ∧ b.length = 16
def R_NumberedKey___init__ : SpR := fun ds M q _ => ∃ p k M0, ds = [.ref p, suiteD, keyD k] ∧ M = (p, .obj "NumberedKey" [] []) :: M0 ∧ okK k ∧ q .non ((p, nkD k 0) :: M0)
def nkSeal (k : Option (List Int)) (n : Int) (d t : List Int) : List Int := match k with | none => t | some b => sealM b n d t
def nkNext (k : Option (List Int)) (n : Int) : Int := match k with | none => n | some _ => n + 1
def nkOv (k : Option (List Int)) : Nat := match k with | none => 0 | some _ => 8
theorem nkSeal_len (k : Option (List Int)) (n : Int) (d t : List Int) : (nkSeal k n d t).length = t.length + nkOv k := by
  cases k with
  | none => rfl
  | some b => exact sealM_len b n d t
theorem nkSeal_by {k : Option (List Int)} {n : Int} {d t : List Int} (h : isBy t) : isBy (nkSeal k n d t) := by
  cases k with
  | none => exact h
  | some b => exact sealM_by h
def R_NumberedKey_seal : SpR := fun ds M q _ => ∃ p k n b c M0, ds = [.ref p, bys b, bys c] ∧ M = (p, nkD k n) :: M0 ∧ okK k ∧ 0 ≤ n ∧ n < 2 ^ 32 ∧ isBy b ∧ b.length ≤ 1000000 ∧ isBy c ∧ c.length ≤ 100000 ∧ q (bys (nkSeal k n b c)) ((p, nkD k (nkNext k n)) :: M0)
def R_NumberedKey_open_sealed : SpR := fun ds M q _ => ∃ p k n b c M0, ds = [.ref p, bys b, bys (nkSeal k n b c)] ∧ M = (p, nkD k n) :: M0 ∧ okK k ∧ 0 ≤ n ∧ n < 2 ^ 32 ∧ isBy b ∧ b.length ≤ 1000000 ∧ isBy c ∧ c.length ≤ 100000 ∧ q (bys c) ((p, nkD k (nkNext k n)) :: M0)
def R_NumberedKey_has_key : SpR := fun ds M q _ => ∃ k n, ds = [nkD k n] ∧ q (.bl k.isSome) M
def R_NumberedKey_twin : SpR := fun ds M q _ => ∃ k n, ds = [nkD k n] ∧ okK k ∧ ∀ p, p ∉ dom M → q (.ref p) ((p, nkD k n) :: M)
structure TSt where
  hash : List Int
  chain : List Int
  key : Option (List Int)
  num : Int
  ended : Bool
abbrev trD (t : TSt) : D := .obj "Transcript" ["_suite", "_hash", "_chain", "_key", "_ended"] [suiteD, bys t.hash, bys t.chain, nkD t.key t.num, .bl t.ended]
structure okT (t : TSt) : Prop where
  h1 : isBy t.hash
  h2 : t.hash.length = 16
  c1 : isBy t.chain
  c2 : t.chain.length = 16
  k : okK t.key
  n0 : 0 ≤ t.num
  n1 : t.num ≤ 1000000
def startH (label : Str) : List Int := if (codesM label).length ≤ 16 then codesM label ++ List.replicate (16 - (codesM label).length) 0 else digM (codesM label)
theorem startH_len (label : Str) : (startH label).length = 16 := by
  unfold startH
  split
  · rw [List.length_append, List.length_replicate]; omega
  · exact digM_len _
theorem startH_by {label : Str} (h : isBy (codesM label)) : isBy (startH label) := by
  unfold startH
  split
  · exact h.app fun x hx => by
      have := (List.mem_replicate.mp hx).2
      omega
  · exact digM_by _
theorem codes_len (x : Str) : (codesM x).length = x.cps.toList.length := by unfold codesM; rw [List.length_map]
def R_Transcript___init__ : SpR := fun ds M q _ => ∃ p label M0, ds = [.ref p, suiteD, .str label] ∧ M = (p, .obj "Transcript" [] []) :: M0 ∧ isBy (codesM label) ∧ (codesM label).length ≤ 1000 ∧ q .non ((p, trD ⟨startH label, startH label, none, 0, false⟩) :: M0)
def R_Transcript_check_open (K : PySem.W.Frag) : SpR := fun ds M q ex => ∃ p t M0, ds = [.ref p] ∧ M = (p, trD t) :: M0 ∧ (t.ended = false → q .non M) ∧ (t.ended = true → ex (.ref (He.ga K "OutOfOrder")) M)
def R_Transcript_set_key : SpR := fun ds M q _ => ∃ p t v M0, ds = [.ref p, bys v] ∧ M = (p, trD t) :: M0 ∧ isBy v ∧ v.length = 16 ∧ q .non ((p, trD { t with key := some v, num := 0 }) :: M0)
def tMix (t : TSt) (d : List Int) : TSt := { t with hash := digM (t.hash ++ d) }
theorem okT.mix {t : TSt} (o : okT t) (d : List Int) : okT (tMix t d) := ⟨digM_by _, digM_len _, o.c1, o.c2, o.k, o.n0, o.n1⟩
def R_Transcript_mix_data : SpR := fun ds M q _ => ∃ p t d M0, ds = [.ref p, bys d] ∧ M = (p, trD t) :: M0 ∧ okT t ∧ t.ended = false ∧ isBy d ∧ d.length ≤ 100000 ∧ q .non ((p, trD (tMix t d)) :: M0)
def tKey (t : TSt) (d : List Int) : TSt := { t with chain := (twoM t.chain d).1, key := some (twoM t.chain d).2, num := 0 }
theorem okK_some {b : List Int} (h1 : isBy b) (h2 : b.length = 16) : okK (some b) := fun c z => by cases z; exact ⟨h1, h2⟩
theorem okT.keyed {t : TSt} (o : okT t) (d : List Int) : okT (tKey t d) := ⟨o.h1, o.h2, keyM_by _ _, keyM_len _ _, okK_some (keyM_by _ _) (keyM_len _ _), Int.le_refl 0, (show (0 : Int) ≤ 1000000 by decide)⟩
def R_Transcript_mix_key : SpR := fun ds M q _ => ∃ p t d M0, ds = [.ref p, bys d] ∧ M = (p, trD t) :: M0 ∧ okT t ∧ t.ended = false ∧ isBy d ∧ d.length ≤ 100000 ∧ q .non ((p, trD (tKey t d)) :: M0)
def tBoth (t : TSt) (d : List Int) : TSt := { t with chain := (twoM t.chain d).1, hash := digM (t.hash ++ (twoM t.chain d).2), key := some (threeM t.chain d), num := 0 }
theorem okT.both {t : TSt} (o : okT t) (d : List Int) : okT (tBoth t d) := ⟨digM_by _, digM_len _, keyM_by _ _, keyM_len _ _, okK_some (keyM_by _ _) (keyM_len _ _), Int.le_refl 0, (show (0 : Int) ≤ 1000000 by decide)⟩
def R_Transcript_mix_both : SpR := fun ds M q _ => ∃ p t d M0, ds = [.ref p, bys d] ∧ M = (p, trD t) :: M0 ∧ okT t ∧ t.ended = false ∧ isBy d ∧ d.length ≤ 100000 ∧ q .non ((p, trD (tBoth t d)) :: M0)
def tSealed (t : TSt) (x : List Int) : List Int := nkSeal t.key t.num t.hash x
def tSeal (t : TSt) (x : List Int) : TSt := { t with hash := digM (t.hash ++ tSealed t x), num := nkNext t.key t.num }
theorem okT.sealed {t : TSt} (o : okT t) (x : List Int) (hn : t.num < 1000000) : okT (tSeal t x) := ⟨digM_by _, digM_len _, o.c1, o.c2, o.k, by have := o.n0; unfold tSeal nkNext; dsimp only; split <;> omega, by have := o.n1; unfold tSeal nkNext; dsimp only; split <;> omega⟩
theorem tSealed_len (t : TSt) (x : List Int) : (tSealed t x).length = x.length + nkOv t.key := nkSeal_len _ _ _ _
def R_Transcript_seal : SpR := fun ds M q _ => ∃ p t d M0, ds = [.ref p, bys d] ∧ M = (p, trD t) :: M0 ∧ okT t ∧ t.ended = false ∧ isBy d ∧ d.length ≤ 10000 ∧ q (bys (tSealed t d)) ((p, trD (tSeal t d)) :: M0)
def R_Transcript_open_sealed : SpR := fun ds M q _ => ∃ p t d M0, ds = [.ref p, bys (tSealed t d)] ∧ M = (p, trD t) :: M0 ∧ okT t ∧ t.ended = false ∧ isBy d ∧ d.length ≤ 10000 ∧ q (bys d) ((p, trD (tSeal t d)) :: M0)
def R_Transcript_hash : SpR := fun ds M q _ => ∃ (p : Addr) (t : TSt) (j : Nat), ds = [.ref p] ∧ M[j]? = some (p, trD t) ∧ q (bys t.hash) M
def R_Transcript_has_key : SpR := fun ds M q _ => ∃ (p : Addr) (t : TSt) (j : Nat), ds = [.ref p] ∧ M[j]? = some (p, trD t) ∧ q (.bl t.key.isSome) M
def R_Transcript_split (K : PySem.W.Frag) : SpR := fun ds M q ex => ∃ p t M0, ds = [.ref p] ∧ M = (p, trD t) :: M0 ∧ okT t ∧ (t.ended = false → q (.tup [bys (twoM t.chain []).1, bys (twoM t.chain []).2]) ((p, trD { t with ended := true }) :: M0)) ∧ (t.ended = true → ex (.ref (He.ga K "OutOfOrder")) M)
def R_Transcript_twin : SpR := fun ds M q _ => ∃ p t M0, ds = [.ref p] ∧ M = (p, trD t) :: M0 ∧ okT t ∧ ∀ p2, p2 ∉ dom M → q (.ref p2) ((p2, trD t) :: M)
end
section
def R_Pattern___init__ : SpR := fun ds M q _ => ∃ p n b ms M0, ds = [.ref p, .str n, befD b, msgsD ms] ∧ M = (p, .obj "Pattern" [] []) :: M0 ∧ q .non ((p, patD n b ms) :: M0)
def R_parse_line : SpR := fun ds M q _ => ∃ m : Msg, ds = [.str (lineS m)] ∧ okL m ∧ q (msgD m) M
/-- the lines of the pre-messages -/
def befLines (b : Bef) : List Msg := (if b.1 = [] then [] else [(false, b.1)]) ++ (if b.2 = [] then [] else [(true, b.2)])
theorem bef_line {x : List Str} (h : x ∈ BEF) (hn : x ≠ []) (s : Bool) : okL (s, x) := by
  obtain ⟨h1, h2⟩ := bef_tok x h
  exact ⟨hn, by show x.length ≤ 8; omega, h2⟩
theorem bef_ok : ∀ b ∈ BEF, okPy 1 (strsT b) = true := by
  have h : (BEF.all fun b => okPy 1 (strsT b)) = true := by decide +kernel
  exact fun b hb => List.all_eq_true.mp h b hb
def runB : (List Str × List Str) × List Bool → List Msg → (List Str × List Str) × List Bool
  | s, [] => s
  | s, m :: r => runB (if m.1 = true then (s.1.1, m.2) else (m.2, s.1.2), s.2 ++ [m.1]) r
abbrev arD (b : Bool) : D := .str (arrow b)
theorem arD_inj (n : Nat) (a b : Bool) : PyData.eqv (toPy n (arD a)) (toPy n (arD b)) = decide (a = b) := by
  rw [eqv_str, arrow_eq]
  cases a <;> cases b <;> rfl
def R_parse_before : SpR := fun ds M q _ => ∃ b : Bef, ds = [.lst ((befLines b).map fun m => .str (lineS m))] ∧ okB b ∧ befLines b ≠ [] ∧ q (befD b) M
theorem okM.line {ms : List Msg} (o : okM ms) {m : Msg} (h : m ∈ ms) : okL m := ⟨(o.tok m h).1, (o.tok m h).2.1, (o.tok m h).2.2⟩
theorem alt_next : ∀ {ms : List Msg}, alt ms = true → ∀ i a b, ms[i]? = some a → ms[i + 1]? = some b → a.1 ≠ b.1
  | [], _, _, _, _, h, _ => by simp at h
  | [a], _, i, _, _, _, h => by simp at h
  | a :: b :: r, h, 0, x, y, h1, h2 => by
    have h : (a.1 != b.1 && alt (b :: r)) = true := h
    rw [Bool.and_eq_true] at h
    simp at h1 h2
    subst h1 h2
    simpa using h.1
  | a :: b :: r, h, i + 1, x, y, h1, h2 => by
    have h : (a.1 != b.1 && alt (b :: r)) = true := h
    rw [Bool.and_eq_true] at h
    exact alt_next h.2 i x y (by simpa using h1) (by simpa using h2)
def R_parse_messages : SpR := fun ds M q _ => ∃ ms : List Msg, ds = [.lst (ms.map fun m => .str (lineS m))] ∧ okM ms ∧ q (msgsD ms) M
/-- the lines of a pattern, its text -/
def dots : Str := "..."
def patLines (b : Bef) (ms : List Msg) : List Str := (if befLines b = [] then [] else (befLines b).map lineS ++ [dots]) ++ ms.map lineS
def textS (b : Bef) (ms : List Msg) : Str := SX.S (TL.joinL [10] ((patLines b ms).map tl))
theorem line_nl {m : Msg} (o : okL m) : 10 ∉ tl (lineS m) := by
  intro h
  have h : 10 ∈ lineL m := h
  unfold lineL at h
  rcases List.mem_append.mp h with h | h
  · revert h; cases m.1 <;> decide +kernel
  · rcases List.mem_append.mp h with h | h
    · revert h; decide
    · rcases joinL_mem h with h | ⟨p, hp, h⟩
      · revert h; decide
      · obtain ⟨t, ht, rfl⟩ := List.mem_map.mp hp
        exact (tok_tl t (o.tok t ht)).2.1 h
theorem line_dots (m : Msg) : lineS m ≠ dots := by
  intro h
  have h2 := line_to m
  rw [h] at h2
  revert h2
  cases m.1 <;> decide +kernel
theorem strOk_S {l : List Nat} (h : ∀ c ∈ l, c < 0x110000) : PyData.strOk (SX.S l) = true := by
  show (SX.S l).cps.all (· < 0x110000) = true
  rw [← Array.all_toList]
  exact List.all_eq_true.mpr fun c hc => decide_eq_true (h c hc)
theorem tok_small : ∀ t ∈ TOK, ∀ c ∈ tl t, c < 256 := by
  have h : (TOK.all fun t => (tl t).all fun c => decide (c < 256)) = true := by decide +kernel
  intro t ht c hc
  exact of_decide_eq_true (List.all_eq_true.mp (List.all_eq_true.mp h t ht) c hc)
theorem line_small {m : Msg} (o : okL m) : ∀ c ∈ lineL m, c < 256 := by
  intro c h
  unfold lineL at h
  rcases List.mem_append.mp h with h | h
  · have : ∀ b : Bool, ∀ c ∈ tl (arrow b), c < 256 := by
      intro b
      cases b <;> decide +kernel
    exact this _ c h
  · rcases List.mem_append.mp h with h | h
    · have := List.mem_singleton.mp h
      omega
    · rcases joinL_mem h with h | ⟨p, hp, h⟩
      · have : c = 44 ∨ c = 32 := by simpa using h
        omega
      · obtain ⟨t, ht, rfl⟩ := List.mem_map.mp hp
        exact tok_small t (o.tok t ht) c h
theorem line_strOk {m : Msg} (o : okL m) : PyData.strOk (lineS m) = true := strOk_S fun c hc => by
  have := line_small o c hc
  omega
theorem bef_lines_ok {b : Bef} (o : okB b) : ∀ m ∈ befLines b, okL m := by
  intro m hm
  unfold befLines at hm
  rcases List.mem_append.mp hm with hm | hm
  · split at hm
    · cases hm
    · rename_i hb
      cases List.mem_singleton.mp hm
      exact bef_line o.1 hb false
  · split at hm
    · cases hm
    · rename_i hb
      cases List.mem_singleton.mp hm
      exact bef_line o.2 hb true
theorem bef_lines_len (b : Bef) : (befLines b).length ≤ 2 := by unfold befLines; split <;> split <;> simp
theorem pat_lines_ok {b : Bef} {ms : List Msg} (ob : okB b) (om : okM ms) : ∀ x ∈ patLines b ms, 10 ∉ tl x ∧ PyData.strOk x = true ∧ (tl x).length ≤ 100 := by
  intro x hx
  have one : ∀ m, okL m → 10 ∉ tl (lineS m) ∧ PyData.strOk (lineS m) = true ∧ (tl (lineS m)).length ≤ 100 := fun m o => ⟨line_nl o, line_strOk o, line_len o⟩
  unfold patLines at hx
  rcases List.mem_append.mp hx with hx | hx
  · split at hx
    · cases hx
    · rcases List.mem_append.mp hx with hx | hx
      · obtain ⟨m, hm, rfl⟩ := List.mem_map.mp hx
        exact one m (bef_lines_ok ob m hm)
      · have := List.mem_singleton.mp hx
        subst this
        exact ⟨by decide +kernel, by decide +kernel, by decide +kernel⟩
  · obtain ⟨m, hm, rfl⟩ := List.mem_map.mp hx
    exact one m (om.line hm)
theorem pat_lines_len {b : Bef} {ms : List Msg} (om : okM ms) : (patLines b ms).length ≤ 15 ∧ patLines b ms ≠ [] := by
  have h1 := bef_lines_len b
  have h2 := om.le
  have h3 := om.ne
  have h4 : 0 < ms.length := List.length_pos_iff.mpr h3
  have e : (patLines b ms).length = (if befLines b = [] then [] else (befLines b).map lineS ++ [dots]).length + ms.length := by unfold patLines; rw [List.length_append, List.length_map]
  have e2 : (if befLines b = [] then ([] : List Str) else (befLines b).map lineS ++ [dots]).length ≤ 3 := by
    split
    · exact Nat.zero_le _
    · rw [List.length_append, List.length_map]; show _ + 1 ≤ 3; omega
  exact ⟨by omega, fun z => by rw [z] at e; simp at e; omega⟩
theorem text_len {b : Bef} {ms : List Msg} (ob : okB b) (om : okM ms) : (TL.joinL [10] ((patLines b ms).map tl)).length ≤ 2000 := by
  have h := joinL_len (sep := [10]) (k := 100) (ps := (patLines b ms).map tl) (fun p hp => by
    obtain ⟨x, hx, rfl⟩ := List.mem_map.mp hp
    exact (pat_lines_ok ob om x hx).2.2)
  rw [List.length_map] at h
  have := (pat_lines_len (b := b) om).1
  simp only [List.length_cons, List.length_nil] at h
  omega
theorem text_split {b : Bef} {ms : List Msg} (ob : okB b) (om : okM ms) : Txt.split (textS b ms) ("\n" : Str) = patLines b ms := by
  have e : ("\n" : Str) = SX.S [10] := by decide +kernel
  unfold textS
  rw [e, SX.split_S (by decide) (by decide), SX.spl_join (by simpa using (pat_lines_len om).2) (fun p hp => by
    obtain ⟨x, hx, rfl⟩ := List.mem_map.mp hp
    exact (pat_lines_ok ob om x hx).1), map_tl]
def R_parse_pattern : SpR := fun ds M q _ => ∃ (b : Bef) (ms : List Msg), ds = [.str (textS b ms)] ∧ okB b ∧ okM ms ∧ q (patD "" b ms) M
def trans (ms : List Msg) : List Bool := match ms with
  | [m] => [m.1]
  | _ => [false, true]
def R_transport_senders : SpR := fun ds M q _ => ∃ n b ms, ds = [patD n b ms] ∧ okM ms ∧ q (.lst ((trans ms).map arD)) M
inductive SK where
  | key | enc | mix
deriving DecidableEq
def SK.s : SK → Str
  | .key => "key"
  | .enc => "encrypt"
  | .mix => "mix"
structure Stp where
  k : SK
  e : Bool
  t : Str
abbrev stpD (x : Stp) : D := .tup [.str x.k.s, .str (arrow x.e), .str x.t]
/-- one token of a message: the steps, whether something was mixed -/
def tokSteps (e : Bool) (t : Str) (mx : Bool) : List Stp :=
  (if decide (t = "s") && mx then [⟨.enc, e, t⟩] else []) ++ (if decide (t = "e") || decide (t = "s") then [⟨.key, e, t⟩] else [⟨.mix, e, t⟩])
def tokMix (t : Str) (mx : Bool) : Bool := if decide (t = "e") || decide (t = "s") then mx else true
def runT (e : Bool) : List Stp × Bool → List Str → List Stp × Bool
  | s, [] => s
  | s, t :: r => runT e (s.1 ++ tokSteps e t s.2, tokMix t s.2) r
def runM : List Stp × Bool → List Msg → List Stp × Bool
  | s, [] => s
  | s, m :: r =>
    let s1 := runT m.1 s m.2
    runM (s1.1 ++ (if s1.2 then [⟨.enc, m.1, ""⟩] else []), s1.2) r
def befSteps (b : Bef) : List Stp := b.1.map (fun t => ⟨.key, false, t⟩) ++ b.2.map (fun t => ⟨.key, true, t⟩)
def stepsM (b : Bef) (ms : List Msg) : List Stp :=
  let s := runM (befSteps b, false) ms
  s.1 ++ (if s.2 then (trans ms).map (fun e => ⟨.enc, e, ""⟩) else [])
theorem skT1 : decide (SK.key.s = ("key" : Str)) = true := by decide +kernel
theorem skT2 : decide (SK.mix.s = ("mix" : Str)) = true := by decide +kernel
theorem skT3 : decide (SK.enc.s = ("encrypt" : Str)) = true := by decide +kernel
theorem skF1 : ¬ decide (SK.key.s = ("mix" : Str)) = true := by decide +kernel
theorem skF2 : ¬ decide (SK.key.s = ("encrypt" : Str)) = true := by decide +kernel
theorem skF3 : ¬ decide (SK.mix.s = ("key" : Str)) = true := by decide +kernel
theorem skF4 : ¬ decide (SK.mix.s = ("encrypt" : Str)) = true := by decide +kernel
theorem skF5 : ¬ decide (SK.enc.s = ("key" : Str)) = true := by decide +kernel
theorem skF6 : ¬ decide (SK.enc.s = ("mix" : Str)) = true := by decide +kernel
theorem sk_mix {k : SK} (h : ¬ k = .mix) : ¬ k.s = ("mix" : Str) := by
  cases k with
  | mix => exact absurd rfl h
  | key => decide +kernel
  | enc => decide +kernel
theorem runT_len (e : Bool) : ∀ (ts : List Str) (s : List Stp × Bool), (runT e s ts).1.length ≤ s.1.length + 2 * ts.length
  | [], s => Nat.le_add_right _ _
  | t :: r, s => by
    have h := runT_len e r (s.1 ++ tokSteps e t s.2, tokMix t s.2)
    have h2 : (tokSteps e t s.2).length ≤ 2 := by unfold tokSteps; split <;> split <;> simp
    show (runT e (s.1 ++ tokSteps e t s.2, tokMix t s.2) r).1.length ≤ _
    rw [List.length_append] at h
    rw [List.length_cons]
    omega
def R_pattern_steps : SpR := fun ds M q _ => ∃ n b ms, ds = [patD n b ms] ∧ okB b ∧ okM ms ∧ q (.lst ((stepsM b ms).map stpD)) M
abbrev K2 := Bool × Str
abbrev k2D (x : K2) : D := .tup [.str (arrow x.1), .str x.2]
def okS (ss : List Stp) : Prop := ∀ s ∈ ss, PyData.strOk s.t = true
theorem k2_ok {x : K2} (h : PyData.strOk x.2 = true) : okPy 1 (k2D x) = true := by
  show (PyData.strOk (arrow x.1) && (PyData.strOk x.2 && true)) = true
  rw [arrow_ok, h]; rfl
theorem k2_eqv (a b : K2) : PyData.eqv (toPy 1 (k2D a)) (toPy 1 (k2D b)) = decide (a = b) := by
  have h := eqv_strsT 0 [arrow a.1, a.2] [arrow b.1, b.2]
  have e : decide ([arrow a.1, a.2] = [arrow b.1, b.2]) = decide (a = b) := by
    obtain ⟨a1, a2⟩ := a
    obtain ⟨b1, b2⟩ := b
    by_cases h1 : a1 = b1 <;> by_cases h2 : a2 = b2 <;> simp [h1, h2, arrow_inj]
  rw [e] at h
  exact h
def repKey : List K2 → List Stp → Bool
  | _, [] => false
  | seen, s :: r => if s.k = .key then (if (s.e, s.t) ∈ seen then true else repKey (seen ++ [(s.e, s.t)]) r) else repKey seen r
def R_repeats_key : SpR := fun ds M q _ => ∃ ss : List Stp, ds = [.lst (ss.map stpD)] ∧ okS ss ∧ ss.length ≤ 1000 ∧ q (.bl (repKey [] ss)) M
def repSec : List Str → List Stp → Bool
  | _, [] => false
  | seen, s :: r => if s.k = .mix ∧ s.t ∈ SEC then (if s.t ∈ seen then true else repSec (seen ++ [s.t]) r) else repSec seen r
theorem sec_ok : ∀ a ∈ SEC, PyData.strOk a = true := by
  have h : SEC.all PyData.strOk = true := by decide +kernel
  exact fun t ht => List.all_eq_true.mp h t ht
def R_repeats_secret : SpR := fun ds M q _ => ∃ ss : List Stp, ds = [.lst (ss.map stpD)] ∧ okS ss ∧ ss.length ≤ 1000 ∧ q (.bl (repSec [] ss)) M
/-- the two letters of a secret's name -/
def chr0 (t : Str) : Str := ⟨#[t.cps.toList.getD 0 0]⟩
def chr1 (t : Str) : Str := ⟨#[t.cps.toList.getD 1 0]⟩
def misKey : List K2 → List Stp → Bool
  | _, [] => false
  | sent, s :: r => if s.k = .key then misKey (sent ++ [(s.e, s.t)]) r
    else if s.k = .mix ∧ s.t ∈ SEC then (if (false, chr0 s.t) ∉ sent ∨ (true, chr1 s.t) ∉ sent then true else misKey sent r) else misKey sent r
theorem chr_ok : ∀ t ∈ SEC, PyData.strOk (chr0 t) = true ∧ PyData.strOk (chr1 t) = true ∧ t.length ≤ sizeLine ∧ atI t.cps.toList 0 = some (t.cps.toList.getD 0 0) ∧ atI t.cps.toList 1 = some (t.cps.toList.getD 1 0) := by
  have h : (SEC.all fun t => PyData.strOk (chr0 t) && (PyData.strOk (chr1 t) && (decide (t.length ≤ sizeLine) && (decide (atI t.cps.toList 0 = some (t.cps.toList.getD 0 0)) && decide (atI t.cps.toList 1 = some (t.cps.toList.getD 1 0)))))) = true := by decide +kernel
  intro t ht
  have := List.all_eq_true.mp h t ht
  simp only [Bool.and_eq_true, decide_eq_true_eq] at this
  exact this
def R_misses_key : SpR := fun ds M q _ => ∃ ss : List Stp, ds = [.lst (ss.map stpD)] ∧ okS ss ∧ ss.length ≤ 1000 ∧ q (.bl (misKey [] ss)) M
def ownS (e : Bool) : Str := if e = true then "es" else "se"
def bothS (e : Bool) : Str := if e = true then "se" else "es"
def misEph : List Str → List Stp → Bool
  | _, [] => false
  | mx, s :: r => if s.k = .mix then misEph (mx ++ [s.t]) r
    else if s.k = .enc then (if ownS s.e ∈ mx ∧ ("ee" : Str) ∉ mx then true else if ("ss" : Str) ∈ mx ∧ bothS s.e ∉ mx then true else misEph mx r) else misEph mx r
theorem ownS_ok (e : Bool) : PyData.strOk (ownS e) = true ∧ PyData.strOk (bothS e) = true := by cases e <;> decide +kernel
def R_misses_ephemeral : SpR := fun ds M q _ => ∃ ss : List Stp, ds = [.lst (ss.map stpD)] ∧ okS ss ∧ ss.length ≤ 1000 ∧ q (.bl (misEph [] ss)) M
/-- the tokens where no psk may stand -/
def inner (i : Nat) (ts : List Str) : List Str := if i = 0 then (ts.take (ts.length - 1)).drop 1 else ts.take (ts.length - 1)
def misPsk : Nat → List Msg → Bool
  | _, [] => false
  | i, m :: r => if ("psk" : Str) ∈ inner i m.2 then true else misPsk (i + 1) r
theorem cutD_but (xs : List D) (h : xs ≠ []) : cutD xs none (some (-1)) = xs.take (xs.length - 1) := by
  have hp : 0 < xs.length := List.length_pos_iff.mpr h
  unfold cutD
  rw [HT.sIx_none, List.drop_zero]
  congr 1
  show (if (-1 : Int) < 0 then (-1 + (xs.length : Int)).toNat else min (-1 : Int).toNat xs.length) - 0 = xs.length - 1
  rw [if_pos (by decide)]
  omega
def R_misplaces_psk : SpR := fun ds M q _ => ∃ n b ms, ds = [patD n b ms] ∧ okM ms ∧ q (.bl (misPsk 0 ms)) M
def pskKey : List Bool × Bool → List Stp → Bool
  | _, [] => false
  | s, x :: r => if x.k = .key ∧ x.t = "e" then pskKey (s.1 ++ [x.e], s.2) r
    else if x.k = .mix ∧ x.t = "psk" then pskKey (s.1, true) r
    else if x.k = .enc ∧ s.2 = true ∧ x.e ∉ s.1 then true else pskKey s r
def R_psk_without_key : SpR := fun ds M q _ => ∃ ss : List Stp, ds = [.lst (ss.map stpD)] ∧ okS ss ∧ ss.length ≤ 1000 ∧ q (.bl (pskKey ([], false) ss)) M
def brokenM (b : Bef) (ms : List Msg) : Bool := repKey [] (stepsM b ms) || repSec [] (stepsM b ms) || misKey [] (stepsM b ms) || misEph [] (stepsM b ms) || misPsk 0 ms || pskKey ([], false) (stepsM b ms)
theorem tok_strOk (m : List Str) (h : ∀ t ∈ m, t ∈ TOK) : ∀ t ∈ m, PyData.strOk t = true := fun t ht => tok_ok t (h t ht)
theorem runT_prop {Pr : Stp → Prop} (e : Bool) : ∀ (ts : List Str) (s : List Stp × Bool), (∀ x ∈ s.1, Pr x) → (∀ t ∈ ts, ∀ k, Pr ⟨k, e, t⟩) → ∀ x ∈ (runT e s ts).1, Pr x
  | [], s, h, _ => h
  | t :: r, s, h, ht => by
    refine runT_prop e r (s.1 ++ tokSteps e t s.2, tokMix t s.2) (fun x hx => ?_) (fun u hu => ht u (List.mem_cons_of_mem _ hu))
    rcases List.mem_append.mp hx with hx | hx
    · exact h x hx
    · have h1 := ht t List.mem_cons_self
      unfold tokSteps at hx
      rcases List.mem_append.mp hx with hx | hx
      · split at hx
        · cases List.mem_singleton.mp hx; exact h1 _
        · cases hx
      · split at hx <;> (cases List.mem_singleton.mp hx; exact h1 _)
theorem runM_prop {Pr : Stp → Prop} (h0 : ∀ k e, Pr ⟨k, e, ""⟩) : ∀ (ms : List Msg) (s : List Stp × Bool), (∀ x ∈ s.1, Pr x) → (∀ m ∈ ms, ∀ t ∈ m.2, ∀ k e, Pr ⟨k, e, t⟩) → ∀ x ∈ (runM s ms).1, Pr x
  | [], s, h, _ => h
  | m :: r, s, h, hm => by
    have h1 := runT_prop (Pr := Pr) m.1 m.2 s h (fun t ht k => hm m List.mem_cons_self t ht k _)
    refine runM_prop h0 r _ (fun x hx => ?_) (fun u hu => hm u (List.mem_cons_of_mem _ hu))
    rcases List.mem_append.mp hx with hx | hx
    · exact h1 x hx
    · split at hx
      · cases List.mem_singleton.mp hx; exact h0 _ _
      · cases hx
theorem runM_len : ∀ (ms : List Msg) (s : List Stp × Bool), (∀ m ∈ ms, m.2.length ≤ 8) → (runM s ms).1.length ≤ s.1.length + 17 * ms.length
  | [], s, _ => Nat.le_add_right _ _
  | m :: r, s, h => by
    have h1 := runT_len m.1 m.2 s
    have h2 := h m List.mem_cons_self
    have h3 := runM_len r ((runT m.1 s m.2).1 ++ (if (runT m.1 s m.2).2 then [⟨.enc, m.1, ""⟩] else []), (runT m.1 s m.2).2) (fun u hu => h u (List.mem_cons_of_mem _ hu))
    have h4 : (if (runT m.1 s m.2).2 then [(⟨.enc, m.1, ""⟩ : Stp)] else []).length ≤ 1 := by split <;> simp
    show (runM ((runT m.1 s m.2).1 ++ (if (runT m.1 s m.2).2 then [⟨.enc, m.1, ""⟩] else []), (runT m.1 s m.2).2) r).1.length ≤ _
    rw [List.length_append] at h3
    rw [List.length_cons]
    omega
theorem bef_steps_ok {b : Bef} (o : okB b) : (∀ x ∈ befSteps b, x.t ∈ TOK ∧ x.k = .key) ∧ (befSteps b).length ≤ 4 := by
  obtain ⟨l1, t1⟩ := bef_tok _ o.1
  obtain ⟨l2, t2⟩ := bef_tok _ o.2
  unfold befSteps
  refine ⟨fun x hx => ?_, by rw [List.length_append, List.length_map, List.length_map]; omega⟩
  rcases List.mem_append.mp hx with hx | hx
  · obtain ⟨t, ht, rfl⟩ := List.mem_map.mp hx
    exact ⟨t1 t ht, rfl⟩
  · obtain ⟨t, ht, rfl⟩ := List.mem_map.mp hx
    exact ⟨t2 t ht, rfl⟩
theorem steps_ok {b : Bef} {ms : List Msg} (ob : okB b) (om : okM ms) : okS (stepsM b ms) ∧ (stepsM b ms).length ≤ 1000 := by
  obtain ⟨hb1, hb2⟩ := bef_steps_ok ob
  have h0 : ∀ (k : SK) (e : Bool), PyData.strOk (Stp.t ⟨k, e, ""⟩) = true := fun _ _ => (by decide +kernel : PyData.strOk "" = true)
  have h1 := runM_prop (Pr := fun x => PyData.strOk x.t = true) h0 ms (befSteps b, false) (fun x hx => tok_ok _ (hb1 x hx).1) (fun m hm t ht _ _ => tok_ok t ((om.tok m hm).2.2 t ht))
  have h2 := runM_len ms (befSteps b, false) (fun m hm => (om.tok m hm).2.1)
  have htl : (trans ms).length ≤ 2 := by unfold trans; split <;> simp
  have hle := om.le
  unfold stepsM okS
  dsimp only
  refine ⟨fun x hx => ?_, ?_⟩
  · rcases List.mem_append.mp hx with hx | hx
    · exact h1 x hx
    · split at hx
      · obtain ⟨e, _, rfl⟩ := List.mem_map.mp hx
        exact h0 _ _
      · cases hx
  · rw [List.length_append]
    dsimp only at h2
    split
    · rw [List.length_map]; omega
    · simp; omega
def R_broken_rule : SpR := fun ds M q _ => ∃ n b ms, ds = [patD n b ms] ∧ okB b ∧ okM ms ∧ ∀ r : Int, (r = 0 ↔ brokenM b ms = false) → q (.int r) M
/-- the end e sends the token x -/
def sends (x : Str) (e : Bool) (ms : List Msg) : Bool := ms.any fun m => m.1 == e && decide (x ∈ m.2)
def R_sends_secret : SpR := fun ds M q _ => ∃ n b ms op, ds = [patD n b ms, .bl op] ∧ okM ms ∧ q (.bl (sends "s" (!op) ms)) M
def befOf (b : Bef) (e : Bool) : List Str := if e = true then b.2 else b.1
theorem befOf_ok {b : Bef} (o : okB b) (e : Bool) : ∀ t ∈ befOf b e, PyData.strOk t = true := by
  cases e
  · exact tok_strOk _ (bef_tok _ o.1).2
  · exact tok_strOk _ (bef_tok _ o.2).2
/-- the end e needs its own static key -/
def nSec (b : Bef) (ms : List Msg) (e : Bool) : Bool := decide (("s" : Str) ∈ befOf b e) || sends "s" e ms
def R_needs_secret : SpR := fun ds M q _ => ∃ n b ms op, ds = [patD n b ms, .bl op] ∧ okB b ∧ okM ms ∧ q (.bl (nSec b ms (!op))) M
def R_needs_peer : SpR := fun ds M q _ => ∃ n b ms op, ds = [patD n b ms, .bl op] ∧ okB b ∧ q (.bl (decide (("s" : Str) ∈ befOf b op))) M
def usesPsk (ms : List Msg) : Bool := ms.any fun m => decide (("psk" : Str) ∈ m.2)
def R_uses_psk : SpR := fun ds M q _ => ∃ n b ms, ds = [patD n b ms] ∧ okM ms ∧ q (.bl (usesPsk ms)) M
end
section
variable {P : Program} {w : World} {K : PySem.W.Frag} {mg : Str → Option Value} {base : Heap}
theorem sc_from_big : FnScope N_from_big ["data"] (defScope s_from_big) := ⟨rfl, rfl, rfl, by decide +kernel, rfl, by decide +kernel, by decide +kernel⟩
theorem ok_from_big (C : Cxt K mg) : Fn P w K mg base CX0 "from_big" 1 ["data"] R_from_big := by
  refine Fn.of C 20 d_from_big rfl rfl rfl rfl (by decide +kernel) sc_from_big (fun _ _ _ _ _ _ us hl => match us, hl with | [_], _ => rfl) (fun ds M q ex h => ?len) (fun cdv A outer s H E hr => ⟨_, (pss_cons (ps_set (i := 1) sc_from_big.nd rfl (Or.inl rfl) pe_int)
      (pss_cons (ps_for PassesOwn.never rfl (pi_seq (pv 0)) (pg_name (i := 2) sc_from_big.nd rfl (Or.inl rfl)) (pss_one (ps_set (i := 1) sc_from_big.nd rfl (Or.inl rfl) (pe_op opAddU (pe_op opMulU (pv 1) pe_int) (pv 2)))))
      (pss_one (ps_ret (pv 1))))), fun ds M q ex h => ?main⟩)
  case len => obtain ⟨ns, rfl, _⟩ := h; rfl
  case main =>
    obtain ⟨ns, rfl, hb, hl, k⟩ := h
    walk_at "s"
    walk_at "w"
    refine xs_forR ns D.int (fun b r => r.foldl (fun n b => n * 256 + b) b) 0 (fun i b Γ M' => M' = M ∧ ∃ x, 0 ≤ b ∧ b.natAbs < 2 ^ (8 * i) ∧ Γ = [some (bys ns), some (.int b), x]) ?_
    refine it_seq ?_
    walk_at "d"
    refine ⟨_, .inl rfl, rfl, ⟨rfl, _, by decide, by decide, rfl⟩, ?_, ?_⟩
    · rintro i n b Γ' M' hn hr0 ⟨rfl, x, h0, hlt, rfl⟩
      have hi : i < ns.length := (List.getElem?_eq_some_iff.mp hn).1
      obtain ⟨n1, n2⟩ := hb n (List.mem_of_getElem? hn)
      walk_at "w"
      refine mulU_int (wide_mul (lt_wider hlt (show _ ≤ 8000 by omega)) (b := 9) (by decide) (by decide) (by decide) (by decide)) ?_
      walk_at "w"
      refine ⟨b * 256 + n, hr0, rfl, _, by omega, ?_, rfl⟩
      have e : 8 * (i + 1) = 8 * i + 8 := by omega
      rw [e, Nat.pow_add]
      omega
    · rintro b Γ' M' hr0 ⟨rfl, x, _, _, rfl⟩
      walk_at "r"
      dsimp only [List.foldl] at hr0
      rw [hr0]
      exact k
theorem sc_to_little : FnScope N_to_little ["number", "size"] (defScope s_to_little) := ⟨rfl, rfl, rfl, by decide +kernel, rfl, by decide +kernel, by decide +kernel⟩
theorem ok_to_little (C : Cxt K mg) : Fn P w K mg base CX0 "to_little" 1 ["number", "size"] R_to_little := by
  refine Fn.of C 18 d_to_little rfl rfl rfl rfl (by decide +kernel) sc_to_little (fun _ _ _ _ _ _ us hl => match us, hl with | [_, _], _ => rfl) (fun ds M q ex h => ?len) (fun cdv A outer s H E hr => ⟨_, (pss_cons (ps_if (pt_cmpR op_lt (pv 0) pe_int (nomark _)) (pss_one ps_never) pss_nil)
      (pss_cons (ps_set (i := 2) sc_to_little.nd rfl (Or.inl rfl) (pe_lst pa_nil))
      (pss_cons (ps_for PassesOwn.never rfl (pi_range1 rfl (C.free "range") (pa_cons (pv 1) pa_nil)) (pg_name (i := 3) sc_to_little.nd rfl (Or.inl rfl)) (pss_cons (ps_expr (pe_bm PySem.F.plainAttrs_list PySem.F.slot_list_append PySem.F.type_list_append mt_append (pv 2) (pa_cons (pe_op op_and (pv 0) pe_int) pa_nil)))
      (pss_one (ps_set (i := 0) sc_to_little.nd rfl (Or.inl rfl) (pe_op op_shr (pv 0) pe_int)))))
      (pss_cons (ps_if (pt_cmpR (opNeU hr.units) (pv 0) pe_int (nomark _)) (pss_one ps_never) pss_nil)
      (pss_one (ps_ret (pv 2))))))), fun ds M q ex h => ?main⟩)
  case len => obtain ⟨ns, _, rfl, _⟩ := h; rfl
  case main =>
    obtain ⟨n, k, rfl, h0, hk, hn, q0⟩ := h
    walk_at "s"
    walk_at "w"
    walk_at "d_n"
    walk_at "w"
    refine ev_lstC ?_
    walk_at "d"
    refine ⟨by decide, fun p hp => ?_⟩
    walk_at "w"
    refine xs_for (fun ds i Γ M' => ds.length = k → ∃ x y done, done ++ toLittle (k - i) x = toLittle k n ∧ done.length = i ∧ 0 ≤ x ∧ x.natAbs < 2 ^ (8 * (k - i)) ∧ Γ = [some (.int x), some (.int k), some (.ref p), y] ∧ M' = (p, bys done) :: M) ?_
    refine it_rng1 ?_
    walk_at "w"
    refine ⟨by omega, by omega, ?_, ?_, ?_⟩
    · exact fun _ => ⟨n, _, [], rfl, rfl, h0, hn, rfl, rfl⟩
    · rintro i d Γ' M' hd hp'
      obtain ⟨hi, rfl⟩ := rngD_get hd
      have hi : i < k := by simpa using hi
      obtain ⟨x, y, dn, h1, h2, h3, h4, rfl, rfl⟩ := hp' (by simp [rngD])
      walk_at "w"
      refine ⟨ty_cell (j := 0) rfl, ?_⟩
      walk_at "w"
      refine bm_append (j := 0) rfl (by simp only [List.length_map]; exact Nat.lt_of_le_of_lt (m := 1000) (by omega) (by decide)) ?_
      walk_at "w"
      intro _
      refine ⟨x / 256, _, dn ++ [x % 256], ?_, by simp [h2], by omega, ?_, rfl, ?_⟩
      · rw [← h1]
        have e : k - i = (k - (i + 1)) + 1 := by omega
        rw [e]
        show _ = dn ++ (x % 256 :: toLittle (k - (i + 1)) (x / 256))
        simp
      · have e : 8 * (k - i) = 8 * (k - (i + 1)) + 8 := by omega
        rw [e, Nat.pow_add] at h4
        omega
      · simp [bitAnd_m8]
    · rintro Γ' M' hp'
      have hl : (rngD 0 1 ((k : Int).toNat)).length = k := by simp [rngD]
      have hp' := hp' hl
      rw [hl] at hp'
      obtain ⟨x, y, dn, h1, h2, h3, h4, rfl, rfl⟩ := hp'
      have e : k - k = 0 := by omega
      rw [e] at h4 h1
      have hx : x = 0 := by simp at h4; omega
      subst hx
      walk_at "w"
      walk_at "d_n"
      walk_at "w"
      walk_at "rf"
      simp [toLittle] at h1
      rw [h1]; exact q0
theorem sc_to_big : FnScope N_to_big ["number", "size"] (defScope s_to_big) := ⟨rfl, rfl, rfl, by decide +kernel, rfl, by decide +kernel, by decide +kernel⟩
theorem ok_to_big (C : Cxt K mg) (h_to_little : Fn P w K mg base CX0 "to_little" 1 ["number", "size"] R_to_little) : Fn P w K mg base CX0 "to_big" 2 ["number", "size"] R_to_big := by
  refine Fn.of C 19 d_to_big rfl rfl rfl rfl (by decide +kernel) sc_to_big (fun _ _ _ _ _ _ us hl => match us, hl with | [_, _], _ => rfl) (fun ds M q ex h => ?len) (fun cdv A outer s H E hr => ⟨_, (pss_one (ps_ret (pe_lstRev rfl rfl (C.free "list") rfl (C.free "reversed") (pe_fn h_to_little hr (by decide) rfl (pa_cons (pv 0) (pa_cons (pv 1) pa_nil)))))), fun ds M q ex h => ?main⟩)
  case len => obtain ⟨ns, _, rfl, _⟩ := h; rfl
  case main =>
    obtain ⟨n, k, rfl, h0, hk, hn, q0⟩ := h
    walk_at "s"
    refine xs_ret (ev_lstRev ?_)
    walk_at "w"
    refine ⟨n, k, rfl, h0, hk, hn, _, rfl, ?_⟩
    rw [← List.map_reverse]
    exact q0
theorem sc_from_little : FnScope N_from_little ["data"] (defScope s_from_little) := ⟨rfl, rfl, rfl, by decide +kernel, rfl, by decide +kernel, by decide +kernel⟩
theorem ok_from_little (C : Cxt K mg) (h_from_big : Fn P w K mg base CX0 "from_big" 1 ["data"] R_from_big) : Fn P w K mg base CX0 "from_little" 2 ["data"] R_from_little := by
  refine Fn.of C 21 d_from_little rfl rfl rfl rfl (by decide +kernel) sc_from_little (fun _ _ _ _ _ _ us hl => match us, hl with | [_], _ => rfl) (fun ds M q ex h => ?len) (fun cdv A outer s H E hr => ⟨_, (pss_one (ps_ret (pe_fn h_from_big hr (by decide) rfl (pa_cons (pe_lstRev rfl rfl (C.free "list") rfl (C.free "reversed") (pv 0)) pa_nil)))), fun ds M q ex h => ?main⟩)
  case len => obtain ⟨ns, rfl, _⟩ := h; rfl
  case main =>
    obtain ⟨ns, rfl, hb, hl, k⟩ := h
    walk_at "s"
    walk_at "r"
    refine ev_lstRev ?_
    walk_at "w"
    refine ⟨ns.reverse, by rw [← List.map_reverse], hb.rev, by simpa using hl, k⟩
theorem sc_cut : FnScope N_cut ["data", "size"] (defScope s_cut) := ⟨rfl, rfl, rfl, by decide +kernel, rfl, by decide +kernel, by decide +kernel⟩
theorem ok_cut (C : Cxt K mg) : Fn P w K mg base CX0 "cut" 1 ["data", "size"] R_cut := by
  refine Fn.of C 22 d_cut rfl rfl rfl rfl (by decide +kernel) sc_cut (fun _ _ _ _ _ _ us hl => match us, hl with | [_, _], _ => rfl) (fun ds M q ex h => ?len) (fun cdv A outer s H E hr => ⟨_, (pss_cons (ps_if (pt_cmpR op_lt (pv 1) pe_int (nomark _)) (pss_one ps_never) pss_nil)
      (pss_one (ps_ret (pe_lc (own := [("at", 2)]) rfl sc_cut.nd (pi_range3 rfl (C.free "range") (pa_cons pe_int (pa_cons (pe_callB call_len rfl (C.free "len") boot_len (pa_cons (pv 0) pa_nil)) (pa_cons (pv 1) pa_nil)))) (blkOk_by (N := N_cut) (sc := defScope s_cut) (by decide +kernel)) (fun _ _ _ _ _ => (pg_name (i := 2) sc_cut.nd rfl (Or.inl rfl))) (fun _ _ _ _ _ => pts_nil) (fun _ _ _ _ _ => (pe_slice (slUK (K := K) rfl) (pv 0) (po_some (pv 2)) (po_some (pe_op (opAddUK (K := K) rfl) (pv 2) (pv 1))))))))), fun ds M q ex h => ?main⟩)
  case len => obtain ⟨ns, _, rfl, _⟩ := h; rfl
  case main =>
    obtain ⟨ns, c, rfl, h0, hc, hl, k⟩ := h
    walk_at "s"
    walk_at "w"
    walk_at "d_n"
    walk_at "r"
    refine ev_lcM (List.range (rsz ns.length c)) (fun i => .int (0 + (i : Nat) * (c : Int))) (fun i => bys ((ns.drop (i * c)).take c)) (own_name (by decide)) ?_
    refine it_rng3 ?_
    walk_at "w"
    refine ⟨0, _, _, _, rfl, by rw [List.length_map]; exact rgc h0 hc (by omega), ?_, ?_, ?_, ?_⟩
    · rfl
    · have := rsz_le ns.length c
      simp only [List.length_range]
      have : sizeLine = 2 ^ 24 := rfl
      omega
    · intro i x hx
      have hi : i < rsz ns.length c := by have := (List.getElem?_eq_some_iff.mp hx).1; simpa using this
      rw [List.getElem?_range hi] at hx
      cases hx
      walk_at "w"
      refine ⟨rfl, ?_⟩
      walk_at "w"
      refine sl_lstD ⟨?_, rfl⟩
      have e1 : (0 : Int) + (i : Nat) * (c : Int) = ((i * c : Nat) : Int) := by rw [Int.natCast_mul]; omega
      have e2 : (0 : Int) + (i : Nat) * (c : Int) + c = ((i * c + c : Nat) : Int) := by rw [e1]; omega
      rw [e2, e1, cutD_nat, ← List.map_drop, ← List.map_take]
      congr 3
      omega
    · have e : (List.range (rsz ns.length c)).map (fun i => bys ((ns.drop (i * c)).take c)) = (pieces c ns).map bys := by
        unfold pieces; rw [List.map_map]; rfl
      rw [e]; exact k
theorem sc_combine : FnScope N_combine ["first", "second"] (defScope s_combine) := ⟨rfl, rfl, rfl, by decide +kernel, rfl, by decide +kernel, by decide +kernel⟩
theorem ok_combine (C : Cxt K mg) : Fn P w K mg base CX0 "combine" 1 ["first", "second"] R_combine := by
  refine Fn.of C 23 d_combine rfl rfl rfl rfl (by decide +kernel) sc_combine (fun _ _ _ _ _ _ us hl => match us, hl with | [_, _], _ => rfl) (fun ds M q ex h => ?len) (fun cdv A outer s H E hr => ⟨_, (pss_cons (ps_if (pt_cmpR (opNeU hr.units) (pe_callB call_len rfl (C.free "len") boot_len (pa_cons (pv 0) pa_nil)) (pe_callB call_len rfl (C.free "len") boot_len (pa_cons (pv 1) pa_nil)) (nomark _)) (pss_one ps_never) pss_nil)
      (pss_one (ps_ret (pe_lc (own := [("one", 2), ("other", 3)]) rfl sc_combine.nd (RZ.pi_zipA rfl (C.free "zip") (pa_cons (pv 0) (pa_cons (pv 1) pa_nil))) (blkOk_by (N := N_combine) (sc := defScope s_combine) (by decide +kernel)) (fun _ _ _ _ _ => (pg_tupK (K := K) (n := 2) rfl rfl (pgs_cons (pg_name (i := 2) sc_combine.nd rfl (Or.inl rfl)) (pgs_cons (pg_name (i := 3) sc_combine.nd rfl (Or.inl rfl)) pgs_nil)))) (fun _ _ _ _ _ => pts_nil) (fun _ _ _ _ _ => (pe_op op_xor (pv 2) (pv 3))))))), fun ds M q ex h => ?main⟩)
  case len => obtain ⟨ns, _, rfl, _⟩ := h; rfl
  case main =>
    obtain ⟨a, b, rfl, hab, hl, k⟩ := h
    walk_at "s"
    walk_at "w"
    walk_at "d_n"
    walk_at "r"
    refine ev_lcM (a.zip b) (fun x => .tup [.int x.1, .int x.2]) (fun x => .int (Builtin.bitXor x.1 x.2)) (own_two (by decide) (by decide)) ?_
    refine it_zip ?_
    walk_at "w"
    refine ⟨_, _, .inl rfl, ?_, ?_, ?_, ?_⟩
    · unfold zipD
      rw [List.zipWith_map, List.zip, List.map_zipWith]
    · rw [List.length_zip]
      have : sizeLine = 2 ^ 24 := rfl
      omega
    · intro i x hx
      walk_at "w"
      refine ⟨rfl, ?_⟩
      walk_at "w"
      exact ⟨rfl, rfl⟩
    · have e : (a.zip b).map (fun x => D.int (Builtin.bitXor x.1 x.2)) = (xorB a b).map D.int := by
        unfold xorB; rw [List.zip, List.map_zipWith, List.map_zipWith]
      rw [e]; exact k
end
section
variable {P : Program} {w : World} {K : PySem.W.Frag} {mg : Str → Option Value} {base : Heap}
theorem sc_small_power : FnScope N_small_power ["base", "exponent"] (defScope s_small_power) := ⟨rfl, rfl, rfl, by decide +kernel, rfl, by decide +kernel, by decide +kernel⟩
theorem ok_small_power (C : Cxt K mg) : Fn P w K mg base CX0 "small_power" 1 ["base", "exponent"] R_small_power := by
  refine Fn.of C 24 d_small_power rfl rfl rfl rfl (by decide +kernel) sc_small_power (fun _ _ _ _ _ _ us hl => match us, hl with | [_, _], _ => rfl) (fun ds M q ex h => ?len) (fun cdv A outer s H E hr => ⟨_, (pss_cons (ps_set (i := 2) sc_small_power.nd rfl (Or.inl rfl) pe_int)
      (pss_cons (ps_set (i := 0) sc_small_power.nd rfl (Or.inl rfl) (pe_op op_mod (pv 0) (pe_gint rfl (C.int "GROUP" 170141183460469231731687303715884105727))))
      (pss_cons (ps_while PassesOwn.never (pt_cmpR op_gt (pv 1) pe_int (nomark _)) (pss_cons (ps_if (pt_cmpR (opEqU hr.units) (pe_op op_and (pv 1) pe_int) pe_int (nomark _)) (pss_one (ps_set (i := 2) sc_small_power.nd rfl (Or.inl rfl) (pe_op op_mod (pe_op opMulU (pv 2) (pv 0)) (pe_gint rfl (C.int "GROUP" 170141183460469231731687303715884105727))))) pss_nil)
      (pss_cons (ps_set (i := 0) sc_small_power.nd rfl (Or.inl rfl) (pe_op op_mod (pe_op opMulU (pv 0) (pv 0)) (pe_gint rfl (C.int "GROUP" 170141183460469231731687303715884105727))))
      (pss_one (ps_set (i := 1) sc_small_power.nd rfl (Or.inl rfl) (pe_op op_shr (pv 1) pe_int))))))
      (pss_one (ps_ret (pv 2)))))), fun ds M q ex h => ?main⟩)
  case len => obtain ⟨ns, _, rfl, _⟩ := h; rfl
  case main =>
    obtain ⟨b, e, rfl, h0, k⟩ := h
    walk_at "s"
    walk_at "w"
    refine xs_while (fun m Γ M' => M' = M ∧ ∃ r b', Γ = [some (.int b'), some (.int (m : Nat)), some (.int r)] ∧ 0 ≤ b' ∧ b' < LL ∧ 0 ≤ r ∧ r < LL ∧ r * b' ^ m % LL = b ^ e.toNat % LL) e.toNat ?_ ?_
    · refine ⟨rfl, 1, b % LL, ?_, Int.emod_nonneg _ (by decide), Int.emod_lt_of_pos _ (by decide), by decide, by decide, ?_⟩
      · rw [show (e.toNat : Int) = e by omega]; rfl
      · rw [Int.one_mul, pow_emod]
    · rintro m Γ' M' ⟨rfl, r, b', rfl, b1, b2, r1, r2, hr0⟩
      walk_at "w"
      by_cases hm : 0 < m
      · walk_at "d_y"
        have e1 : Builtin.bitAnd (m : Int) 1 = ((m % 2 : Nat) : Int) := by rw [bitAnd_m1]; omega
        rw [e1]
        have eLL : LL = 170141183460469231731687303715884105727 := rfl
        have lb : b'.natAbs < 2 ^ 127 := by omega
        have lr : r.natAbs < 2 ^ 127 := by omega
        have hp := pow_half (r := r) (b := b') hm
        by_cases h2 : m % 2 = 1
        · rw [if_pos h2] at hp
          refine ite_yes (by simp; omega) ?_
          walk_at "w"
          refine mulU_int (wide_mul lr lb (by decide) (by decide) (by decide)) ?_
          walk_at "w"
          refine mulU_int (wide_mul lb lb (by decide) (by decide) (by decide)) ?_
          walk_at "w"
          exact ⟨m / 2, by omega, rfl, _, _, rfl, Int.emod_nonneg _ (by decide), Int.emod_lt_of_pos _ (by decide), Int.emod_nonneg _ (by decide), Int.emod_lt_of_pos _ (by decide), hp.trans hr0⟩
        · rw [if_neg h2] at hp
          refine ite_no (by simp; omega) ?_
          walk_at "w"
          refine mulU_int (wide_mul lb lb (by decide) (by decide) (by decide)) ?_
          walk_at "w"
          exact ⟨m / 2, by omega, rfl, _, _, rfl, Int.emod_nonneg _ (by decide), Int.emod_lt_of_pos _ (by decide), r1, r2, hp.trans hr0⟩
      · walk_at "d_n"
        have e0 : m = 0 := by omega
        subst e0
        walk_at "r"
        rw [Int.pow_zero, Int.mul_one, Int.emod_eq_of_lt r1 r2] at hr0
        rw [hr0]; exact k
theorem sc_small_exponent : FnScope N_small_exponent ["secret"] (defScope s_small_exponent) := ⟨rfl, rfl, rfl, by decide +kernel, rfl, by decide +kernel, by decide +kernel⟩
theorem ok_small_exponent (C : Cxt K mg) (h_from_little : Fn P w K mg base CX0 "from_little" 2 ["data"] R_from_little) : Fn P w K mg base CX0 "small_exponent" 3 ["secret"] R_small_exponent := by
  refine Fn.of C 25 d_small_exponent rfl rfl rfl rfl (by decide +kernel) sc_small_exponent (fun _ _ _ _ _ _ us hl => match us, hl with | [_], _ => rfl) (fun ds M q ex h => ?len) (fun cdv A outer s H E hr => ⟨_, (pss_one (ps_ret (pe_op opAddU (pe_op opMulU pe_int (pe_op op_mod (pe_fn h_from_little hr (by decide) rfl (pa_cons (pv 0) pa_nil)) (pe_op op_shl pe_int (pe_gint rfl (C.int "SECRET_BITS" 124))))) pe_int))), fun ds M q ex h => ?main⟩)
  case len => obtain ⟨ns, rfl, _⟩ := h; rfl
  case main =>
    obtain ⟨ns, rfl, hb, hl, k⟩ := h
    walk_at "s"
    walk_at "r"
    refine ⟨ns, rfl, hb, hl, ?_⟩
    walk_at "w"
    refine op_i (show CPow 1 124 from ⟨by decide, by decide, by decide⟩) (fun _ => .int _) ?_
    walk_at "w"
    refine mulU_int (wide_mul (a := 2) (b := 124) (show (2 : Int).natAbs < 2 ^ 2 by decide) ?_ (by decide) (by decide) (by decide)) ?_
    · have h1 := Int.emod_lt_of_pos (fromLittle ns) (show (0 : Int) < 1 * 2 ^ Int.toNat 124 by decide)
      have h2 := Int.emod_nonneg (fromLittle ns) (show (1 : Int) * 2 ^ Int.toNat 124 ≠ 0 by decide)
      have h3 : (1 : Int) * 2 ^ Int.toNat 124 = 21267647932558653966460912964485513216 := by decide
      omega
    · walk_at "w"
      exact k
theorem sc_small_mix : FnScope N_small_mix ["pair", "number"] (defScope s_small_mix) := ⟨rfl, rfl, rfl, by decide +kernel, rfl, by decide +kernel, by decide +kernel⟩
theorem ok_small_mix (C : Cxt K mg) : Fn P w K mg base CX0 "small_mix" 1 ["pair", "number"] R_small_mix := by
  refine Fn.of C 26 d_small_mix rfl rfl rfl rfl (by decide +kernel) sc_small_mix (fun _ _ _ _ _ _ us hl => match us, hl with | [_, _], _ => rfl) (fun ds M q ex h => ?len) (fun cdv A outer s H E hr => ⟨_, (pss_cons (ps_asg (pv 0) (pg_tup rfl (pgs_cons (pg_name (i := 2) sc_small_mix.nd rfl (Or.inl rfl)) (pgs_cons (pg_name (i := 3) sc_small_mix.nd rfl (Or.inl rfl)) pgs_nil))))
      (pss_cons (ps_set (i := 2) sc_small_mix.nd rfl (Or.inl rfl) (pe_op op_mod (pe_op opAddU (pe_op opMulU (pe_op opAddU (pv 2) (pv 1)) (pe_op opAddU (pv 2) pe_int)) (pv 3)) (pe_gint rfl (C.int "MODULUS" 2305843009213693951))))
      (pss_cons (ps_set (i := 3) sc_small_mix.nd rfl (Or.inl rfl) (pe_op op_mod (pe_op opAddU (pe_op opMulU (pe_op opAddU (pv 3) (pv 1)) (pe_op opAddU (pv 3) pe_int)) (pv 2)) (pe_gint rfl (C.int "MODULUS" 2305843009213693951))))
      (pss_one (ps_ret (pe_tup (pa_cons (pv 2) (pa_cons (pv 3) pa_nil)))))))), fun ds M q ex h => ?main⟩)
  case len => obtain ⟨p, n, rfl, _⟩ := h; rfl
  case main =>
    obtain ⟨p, n, rfl, ⟨h1, h2, h3, h4⟩, hn, k⟩ := h
    have eMM : MM = 2305843009213693951 := rfl
    walk_at "s"
    walk_at "w"
    refine mulU_int (wide_mul (a := 101) (b := 62) (by omega) (by omega) (by decide) (by decide) (by decide)) ?_
    walk_at "w"
    refine mulU_int (wide_mul (a := 101) (b := 62) (by omega) (by omega) (by decide) (by decide) (by decide)) ?_
    walk_at "w"
    walk_at "r"
    exact k
theorem sc_small_pair : FnScope N_small_pair ["data"] (defScope s_small_pair) := ⟨rfl, rfl, rfl, by decide +kernel, rfl, by decide +kernel, by decide +kernel⟩
theorem ok_small_pair (C : Cxt K mg) (h_small_mix : Fn P w K mg base CX0 "small_mix" 1 ["pair", "number"] R_small_mix) (h_cut : Fn P w K mg base CX0 "cut" 1 ["data", "size"] R_cut) (h_from_little : Fn P w K mg base CX0 "from_little" 2 ["data"] R_from_little) : Fn P w K mg base CX0 "small_pair" 3 ["data"] R_small_pair := by
  refine Fn.of C 27 d_small_pair rfl rfl rfl rfl (by decide +kernel) sc_small_pair (fun _ _ _ _ _ _ us hl => match us, hl with | [_], _ => rfl) (fun ds M q ex h => ?len) (fun cdv A outer s H E hr => ⟨_, (pss_cons (ps_set (i := 1) sc_small_pair.nd rfl (Or.inl rfl) (pe_tup (pa_cons pe_int (pa_cons pe_int pa_nil))))
      (pss_cons (ps_for PassesOwn.never rfl (pi_seq (pe_fn h_cut hr (by decide) rfl (pa_cons (pv 0) (pa_cons pe_int pa_nil)))) (pg_name (i := 2) sc_small_pair.nd rfl (Or.inl rfl)) (pss_one (ps_set (i := 1) sc_small_pair.nd rfl (Or.inl rfl) (pe_fn h_small_mix hr (by decide) rfl (pa_cons (pv 1) (pa_cons (pe_fn h_from_little hr (by decide) rfl (pa_cons (pe_op opAddU (pv 2) (pe_lst (pa_cons pe_int pa_nil))) pa_nil)) pa_nil))))))
      (pss_cons (ps_for PassesOwn.never rfl (pi_range1 rfl (C.free "range") (pa_cons pe_int pa_nil)) (pg_name (i := 3) sc_small_pair.nd rfl (Or.inl rfl)) (pss_one (ps_set (i := 1) sc_small_pair.nd rfl (Or.inl rfl) (pe_fn h_small_mix hr (by decide) rfl (pa_cons (pv 1) (pa_cons (pe_callB call_len rfl (C.free "len") boot_len (pa_cons (pv 0) pa_nil)) pa_nil))))))
      (pss_one (ps_ret (pv 1)))))), fun ds M q ex h => ?main⟩)
  case len => obtain ⟨ns, rfl, _⟩ := h; rfl
  case main =>
    obtain ⟨ns, rfl, hb, hl, k⟩ := h
    walk_at "s"
    walk_at "w"
    walk_at "w"
    refine xs_forR (pieces 7 ns) bys (fun b r => r.foldl (fun p c => mixM p (fromLittle (c ++ [1]))) b) (11, 17) (fun i b Γ M' => M' = M ∧ okP b ∧ ∃ x y, Γ = [some (bys ns), some (pairD b), x, y]) ?_
    refine it_seq ?_
    walk_at "w"
    refine ⟨ns, 7, rfl, by decide, by decide, by omega, ?_⟩
    refine ⟨_, .inl rfl, rfl, ⟨rfl, ⟨by decide, by decide, by decide, by decide⟩, _, _, rfl⟩, ?_, ?_⟩
    · rintro i c b Γ' M' hc hr0 ⟨rfl, hb0, x, y, rfl⟩
      obtain ⟨c1, c2⟩ := pieces_mem hb (List.mem_of_getElem? hc)
      walk_at "w"
      have hby : isBy (c ++ [1]) := c1.app (fun z hz => by have : z = 1 := by simpa using hz
                                                           omega)
      have hll : (c ++ [1]).length ≤ 8 := by simp; omega
      refine ⟨_, rfl, hby, by omega, ?_⟩
      walk_at "w"
      have hlt := (fromLittle_lt _ hby).2
      refine ⟨b, _, rfl, hb0, lt_wider hlt (by omega), ?_⟩
      walk_at "w"
      exact ⟨_, hr0, rfl, mix_ok _ _, _, _, rfl⟩
    · rintro b Γ' M' hr0 ⟨rfl, hb0, x, y, rfl⟩
      have hr0 : b = _ := hr0
      walk_at "w"
      refine xs_forR (List.range 3) (fun i => .int (0 + (i : Nat) * 1)) (fun b r => r.foldl (fun p _ => mixM p (ns.length : Nat)) b) b (fun i b Γ M0 => M0 = M' ∧ okP b ∧ ∃ x y, Γ = [some (bys ns), some (pairD b), x, y]) ?_
      refine it_rng1 ?_
      walk_at "w"
      refine ⟨by decide, by decide, rfl, ⟨rfl, hb0, _, _, rfl⟩, ?_, ?_⟩
      · rintro i c b Γ' M' hc hr1 ⟨rfl, hb0, x, y, rfl⟩
        walk_at "w"
        refine ⟨b, _, rfl, hb0, by rw [List.length_map]; omega, ?_⟩
        walk_at "w"
        rw [List.length_map]
        exact ⟨_, hr1, rfl, mix_ok _ _, _, _, rfl⟩
      · rintro b2 Γ' M' hr1 ⟨rfl, hb0, x, y, rfl⟩
        walk_at "r"
        have hr1 : b2 = _ := hr1
        rw [hr1, hr0]
        exact k
end
section
variable {P : Program} {w : World} {K : PySem.W.Frag} {mg : Str → Option Value} {base : Heap}
theorem sc_small_digest : FnScope N_small_digest ["data"] (defScope s_small_digest) := ⟨rfl, rfl, rfl, by decide +kernel, rfl, by decide +kernel, by decide +kernel⟩
theorem ok_small_digest (C : Cxt K mg) (h_to_little : Fn P w K mg base CX0 "to_little" 1 ["number", "size"] R_to_little) (h_small_pair : Fn P w K mg base CX0 "small_pair" 3 ["data"] R_small_pair) : Fn P w K mg base CX0 "small_digest" 4 ["data"] R_small_digest := by
  refine Fn.of C 28 d_small_digest rfl rfl rfl rfl (by decide +kernel) sc_small_digest (fun _ _ _ _ _ _ us hl => match us, hl with | [_], _ => rfl) (fun ds M q ex h => ?len) (fun cdv A outer s H E hr => ⟨_, (pss_cons (ps_asg (pe_fn h_small_pair hr (by decide) rfl (pa_cons (pv 0) pa_nil)) (pg_tup rfl (pgs_cons (pg_name (i := 1) sc_small_digest.nd rfl (Or.inl rfl)) (pgs_cons (pg_name (i := 2) sc_small_digest.nd rfl (Or.inl rfl)) pgs_nil))))
      (pss_one (ps_ret (pe_op opAddU (pe_fn h_to_little hr (by decide) rfl (pa_cons (pv 1) (pa_cons pe_int pa_nil))) (pe_fn h_to_little hr (by decide) rfl (pa_cons (pv 2) (pa_cons pe_int pa_nil))))))), fun ds M q ex h => ?main⟩)
  case len => obtain ⟨ns, rfl, _⟩ := h; rfl
  case main =>
    obtain ⟨ns, rfl, hb, hl, k⟩ := h
    have eMM : MM = 2305843009213693951 := rfl
    obtain ⟨h1, h2, h3, h4⟩ := pair_ok ns
    walk_at "s"
    walk_at "w"
    refine ⟨ns, rfl, hb, hl, ?_⟩
    walk_at "w"
    walk_at "r"
    refine ⟨_, 8, rfl, h1, by decide, by omega, ?_⟩
    walk_at "w"
    refine ⟨_, 8, rfl, h3, by decide, by omega, ?_⟩
    walk_at "w"
    exact k
theorem sc_small_stream : FnScope N_small_stream ["key", "number", "size"] (defScope s_small_stream) := ⟨rfl, rfl, rfl, by decide +kernel, rfl, by decide +kernel, by decide +kernel⟩
theorem ok_small_stream (C : Cxt K mg) (h_to_little : Fn P w K mg base CX0 "to_little" 1 ["number", "size"] R_to_little) (h_small_pair : Fn P w K mg base CX0 "small_pair" 3 ["data"] R_small_pair) (h_to_big : Fn P w K mg base CX0 "to_big" 2 ["number", "size"] R_to_big) : Fn P w K mg base CX0 "small_stream" 4 ["key", "number", "size"] R_small_stream := by
  refine Fn.of C 29 d_small_stream rfl rfl rfl rfl (by decide +kernel) sc_small_stream (fun _ _ _ _ _ _ us hl => match us, hl with | [_, _, _], _ => rfl) (fun ds M q ex h => ?len) (fun cdv A outer s H E hr => ⟨_, (pss_cons (ps_asg (pe_fn h_small_pair hr (by decide) rfl (pa_cons (pe_op opAddU (pe_op opAddU (pe_lst (pa_cons pe_int pa_nil)) (pe_callTy call_list_of rfl (C.free "list") boot_list (pa_cons (pv 0) pa_nil))) (pe_fn h_to_big hr (by decide) rfl (pa_cons (pv 1) (pa_cons pe_int pa_nil)))) pa_nil)) (pg_tup rfl (pgs_cons (pg_name (i := 3) sc_small_stream.nd rfl (Or.inl rfl)) (pgs_cons (pg_name (i := 4) sc_small_stream.nd rfl (Or.inl rfl)) pgs_nil))))
      (pss_cons (ps_set (i := 5) sc_small_stream.nd rfl (Or.inl rfl) (pe_lst pa_nil))
      (pss_cons (ps_while PassesOwn.never (pt_cmpR op_lt (pe_callB call_len rfl (C.free "len") boot_len (pa_cons (pv 5) pa_nil)) (pv 2) (nomark _)) (pss_cons (ps_set (i := 3) sc_small_stream.nd rfl (Or.inl rfl) (pe_op op_mod (pe_op opAddU (pe_op opAddU (pe_op opMulU (pv 3) pe_int) (pv 4)) pe_int) (pe_gint rfl (C.int "MODULUS" 2305843009213693951))))
      (pss_cons (ps_set (i := 4) sc_small_stream.nd rfl (Or.inl rfl) (pe_op op_mod (pe_op opAddU (pe_op opAddU (pe_op opMulU (pv 4) pe_int) (pv 3)) pe_int) (pe_gint rfl (C.int "MODULUS" 2305843009213693951))))
      (pss_one (ps_expr (pe_bm PySem.F.plainAttrs_list PySem.F.slot_list_extend PySem.F.type_list_extend mt_extend (pv 5) (pa_cons (pe_fn h_to_little hr (by decide) rfl (pa_cons (pe_op op_mod (pv 3) (pe_op op_shl pe_int (pe_gint rfl (C.int "STREAM_BITS" 56)))) (pa_cons pe_int pa_nil))) pa_nil)))))))
      (pss_one (ps_ret (pe_slice slU (pv 5) po_none (po_some (pv 2)))))))), fun ds M q ex h => ?main⟩)
  case len => obtain ⟨_, _, _, rfl, _⟩ := h; rfl
  case main =>
    obtain ⟨key, number, size, rfl, hb, hl, n0, n1, hs, k⟩ := h
    have eMM : MM = 2305843009213693951 := rfl
    walk_at "s"
    walk_at "w"
    refine ⟨number, 8, rfl, n0, by decide, by omega, ?_⟩
    walk_at "w"
    refine ⟨_, rfl, ((isBy.one (by decide) (by decide)).app hb).app (toBig_by _ _), by simp; omega, ?_⟩
    walk_at "w"
    refine ev_lstC (ea_nil ⟨by decide, fun p hp => ?_⟩)
    walk_at "w"
    refine xs_while (fun m Γ M' => ∃ x dn, okP x ∧ isBy dn ∧ dn ++ strm m x = strm ((size + 6) / 7) (pairM ([2] ++ key ++ toBig 8 number)) ∧ M' = (p, bys dn) :: M ∧ Γ = [some (bys key), some (.int number), some (.int size), some (.int x.1), some (.int x.2), some (.ref p)]) ((size + 6) / 7) ?_ ?_
    · exact ⟨_, [], pair_ok _, fun _ h => (by cases h), rfl, rfl, rfl⟩
    · rintro m Γ' M' ⟨x, dn, ⟨x1, x2, x3, x4⟩, hd, he, rfl, rfl⟩
      have hlen := congrArg List.length he
      rw [List.length_append, strm_len, strm_len] at hlen
      walk_at "w"
      refine cb_len (len_cell (j := 0) rfl) ?_
      walk_at "w"
      rw [List.length_map]
      cases m with
      | succ m =>
        walk_at "d_y"
        refine mulU_int (wide_mul (a := 61) (b := 61) (by omega) (by decide) (by decide) (by decide) (by decide)) ?_
        walk_at "w"
        refine mulU_int (wide_mul (a := 61) (b := 61) (by omega) (by decide) (by decide) (by decide) (by decide)) ?_
        walk_at "w"
        refine ⟨ty_cell (j := 0) rfl, ?_⟩
        walk_at "w"
        refine op_i (show CPow 1 56 from ⟨by decide, by decide, by decide⟩) (fun _ => .int _) ?_
        walk_at "w"
        refine ⟨_, 7, rfl, Int.emod_nonneg _ (by decide), by decide, ?_, ?_⟩
        · have h1 := Int.emod_lt_of_pos ((x.1 * 1442695040888963407 + x.2 + 1) % 2305843009213693951) (show (0 : Int) < 1 * 2 ^ Int.toNat 56 by decide)
          have h2 := Int.emod_nonneg ((x.1 * 1442695040888963407 + x.2 + 1) % 2305843009213693951) (show (1 : Int) * 2 ^ Int.toNat 56 ≠ 0 by decide)
          have h3 : (1 : Int) * 2 ^ Int.toNat 56 = 72057594037927936 := by decide
          omega
        · walk_at "w"
          refine bm_extend (j := 0) rfl (by have hsz : sizeLine = 16777216 := rfl
                                            rw [List.length_map, List.length_map, toLittle_len]; omega) ?_
          walk_at "w"
          refine ⟨m, by omega, stp x, dn ++ toLittle 7 ((stp x).1 % 2 ^ 56), stp_ok x, hd.app (toLittle_by _ _), ?_, ?_, rfl⟩
          · rw [List.append_assoc]; exact he
          · rw [List.set_cons_zero, ← List.map_append]; rfl
      | zero =>
        walk_at "d_n"
        have he : dn = _ := (List.append_nil dn).symm.trans he
        refine sd_frz (i := 5) (j := 0) rfl rfl ?_
        walk_at "r"
        refine sl_lstD ?_
        rw [cutD_to, ← List.map_take, he]
        exact k
theorem sc_check_key : FnScope N_check_key ["suite", "key"] (defScope s_check_key) := ⟨rfl, rfl, rfl, by decide +kernel, rfl, by decide +kernel, by decide +kernel⟩
theorem ok_check_key (C : Cxt K mg) : Fn P w K mg base CX0 "check_key" 1 ["suite", "key"] R_check_key := by
  refine Fn.of C 30 d_check_key rfl rfl rfl rfl (by decide +kernel) sc_check_key (fun _ _ _ _ _ _ us hl => match us, hl with | [_, _], _ => rfl) (fun ds M q ex h => ?len) (fun cdv A outer s H E hr => ⟨_, (pss_one (ps_if (pt_cmpR (opNeU hr.units) (pe_callB call_len rfl (C.free "len") boot_len (pa_cons (pv 1) pa_nil)) (pe_fld (pv 0) rfl) (nomark _)) (pss_one ps_never) pss_nil)), fun ds M q ex h => ?main⟩)
  case len => obtain ⟨_, rfl, _⟩ := h; rfl
  case main =>
    obtain ⟨ns, rfl, hl, k⟩ := h
    walk_at "s"
    walk_at "w"
    walk_at "d_n"
    exact k
theorem sc_check_keyed : FnScope N_check_keyed ["key", "data"] (defScope s_check_keyed) := ⟨rfl, rfl, rfl, by decide +kernel, rfl, by decide +kernel, by decide +kernel⟩
theorem ok_check_keyed (C : Cxt K mg) : Fn P w K mg base CX0 "check_keyed" 1 ["key", "data"] R_check_keyed := by
  refine Fn.of C 31 d_check_keyed rfl rfl rfl rfl (by decide +kernel) sc_check_keyed (fun _ _ _ _ _ _ us hl => match us, hl with | [_, _], _ => rfl) (fun ds M q ex h => ?len) (fun cdv A outer s H E hr => ⟨_, (pss_cons (ps_if (pt_cmpR op_gt (pe_callB call_len rfl (C.free "len") boot_len (pa_cons (pv 0) pa_nil)) (pe_gint rfl (C.int "KEY_LIMIT" 1024)) (nomark _)) (pss_one ps_never) pss_nil)
      (pss_one (ps_if (pt_cmpR op_gt (pe_callB call_len rfl (C.free "len") boot_len (pa_cons (pv 1) pa_nil)) (pe_gint rfl (C.int "KEYED_LIMIT" 1048512)) (nomark _)) (pss_one ps_never) pss_nil))), fun ds M q ex h => ?main⟩)
  case len => obtain ⟨_, _, rfl, _⟩ := h; rfl
  case main =>
    obtain ⟨ns, ms, rfl, hl, hm, k⟩ := h
    walk_at "s"
    walk_at "w"
    walk_at "d_n"
    walk_at "d_n"
    exact k
theorem sc_check_sealing : FnScope N_check_sealing ["suite", "key", "number", "data", "size"] (defScope s_check_sealing) := ⟨rfl, rfl, rfl, by decide +kernel, rfl, by decide +kernel, by decide +kernel⟩
theorem ok_check_sealing (C : Cxt K mg) (h_check_key : Fn P w K mg base CX0 "check_key" 1 ["suite", "key"] R_check_key) : Fn P w K mg base CX0 "check_sealing" 2 ["suite", "key", "number", "data", "size"] R_check_sealing := by
  refine Fn.of C 32 d_check_sealing rfl rfl rfl rfl (by decide +kernel) sc_check_sealing (fun _ _ _ _ _ _ us hl => match us, hl with | [_, _, _, _, _], _ => rfl) (fun ds M q ex h => ?len) (fun cdv A outer s H E hr => ⟨_, (pss_cons (ps_expr (pe_fn h_check_key hr (by decide) rfl (pa_cons (pv 0) (pa_cons (pv 1) pa_nil))))
      (pss_cons (ps_if (PW.pt (pw_or (pt_cmpR op_lt (pv 2) pe_int (nomark _)) (pw_or1 (pt_cmpR op_gt (pv 2) (pe_gint rfl (C.int "LAST_NUMBER" 18446744073709551615)) (nomark _))))) (pss_one ps_never) pss_nil)
      (pss_one (ps_if (PW.pt (pw_or (pt_cmpR op_gt (pe_callB call_len rfl (C.free "len") boot_len (pa_cons (pv 3) pa_nil)) (pe_gint rfl (C.int "MESSAGE_LIMIT" 1048576)) (nomark _)) (pw_or1 (pt_cmpR op_gt (pv 4) (pe_gint rfl (C.int "MESSAGE_LIMIT" 1048576)) (nomark _))))) (pss_one ps_never) pss_nil)))), fun ds M q ex h => ?main⟩)
  case len => obtain ⟨_, _, _, _, rfl, _⟩ := h; rfl
  case main =>
    obtain ⟨ns, ms, n, s, rfl, hl, n0, n1, hm, hs, k⟩ := h
    walk_at "s"
    walk_at "w"
    refine ⟨ns, rfl, hl, ?_⟩
    walk_at "w"
    walk_at "d_n"
    walk_at "d_n"
    walk_at "d_n"
    walk_at "d_n"
    exact k
end
section
variable {P : Program} {w : World} {K : PySem.W.Frag} {mg : Str → Option Value} {base : Heap}
theorem sc_SmallSuite___init__ : FnScope N_SmallSuite___init__ ["self"] (defScope s_SmallSuite___init__) := ⟨rfl, rfl, rfl, by decide +kernel, rfl, by decide +kernel, by decide +kernel⟩
theorem ok_SmallSuite___init__ (C : Cxt K mg) : Ma P w K mg base CX0 "SmallSuite" 1 ["self"] R_SmallSuite___init__ := by
  refine Ma.of C 33 d_SmallSuite___init__ rfl rfl rfl rfl (by decide +kernel) (by decide +kernel) sc_SmallSuite___init__ (fun _ _ _ _ _ _ us hl => match us, hl with | [_], _ => rfl) (fun ds M q ex h => ?len) (fun cdv A outer s H E hr => ⟨_, (pss_cons (ps_fld (pv 0) pe_str rfl)
      (pss_cons (ps_fld (pv 0) pe_int rfl)
      (pss_cons (ps_fld (pv 0) pe_int rfl)
      (pss_cons (ps_fld (pv 0) pe_int rfl)
      (pss_one (ps_fld (pv 0) pe_int rfl)))))), fun ds M q ex h => ?main⟩)
  case len => obtain ⟨_, _, rfl, _⟩ := h; rfl
  case main =>
    obtain ⟨p, M0, rfl, rfl, k⟩ := h
    walk_at "s"
    walk_at "w"
    exact k
theorem sc_SmallSuite_public : FnScope N_SmallSuite_public ["self", "secret"] (defScope s_SmallSuite_public) := ⟨rfl, rfl, rfl, by decide +kernel, rfl, by decide +kernel, by decide +kernel⟩
theorem ok_SmallSuite_public (C : Cxt K mg) (h_to_little : Fn P w K mg base CX0 "to_little" 1 ["number", "size"] R_to_little) (h_small_power : Fn P w K mg base CX0 "small_power" 1 ["base", "exponent"] R_small_power) (h_small_exponent : Fn P w K mg base CX0 "small_exponent" 3 ["secret"] R_small_exponent) (h_check_key : Fn P w K mg base CX0 "check_key" 1 ["suite", "key"] R_check_key) : Me P w K mg base CX0 "SmallSuite" "public" 4 ["self", "secret"] R_SmallSuite_public := by
  refine Me.of C 34 d_SmallSuite_public rfl rfl rfl rfl (by decide +kernel) (by decide +kernel) sc_SmallSuite_public (fun _ _ _ _ _ _ us hl => match us, hl with | [_, _], _ => rfl) (fun ds M q ex h => ?len) (fun cdv A outer s H E hr => ⟨_, (pss_cons (ps_expr (pe_fn h_check_key hr (by decide) rfl (pa_cons (pv 0) (pa_cons (pv 1) pa_nil))))
      (pss_one (ps_ret (pe_fn h_to_little hr (by decide) rfl (pa_cons (pe_fn h_small_power hr (by decide) rfl (pa_cons (pe_gint rfl (C.int "BASE" 43)) (pa_cons (pe_fn h_small_exponent hr (by decide) rfl (pa_cons (pv 1) pa_nil)) pa_nil))) (pa_cons pe_int pa_nil)))))), fun ds M q ex h => ?main⟩)
  case len => obtain ⟨_, rfl, _⟩ := h; rfl
  case main =>
    obtain ⟨s', rfl, hb, hl, k⟩ := h
    walk_at "s"
    walk_at "w"
    refine ⟨s', rfl, hl, ?_⟩
    walk_at "w"
    walk_at "r"
    refine ⟨s', rfl, hb, by omega, ?_⟩
    walk_at "w"
    refine ⟨_, _, rfl, expo_nn s', ?_⟩
    walk_at "w"
    refine ⟨_, 16, rfl, ll_lt.1, by decide, ll_lt.2, ?_⟩
    exact k
theorem sc_SmallSuite_is_weak : FnScope N_SmallSuite_is_weak ["self", "public"] (defScope s_SmallSuite_is_weak) := ⟨rfl, rfl, rfl, by decide +kernel, rfl, by decide +kernel, by decide +kernel⟩
theorem ok_SmallSuite_is_weak (C : Cxt K mg) (h_small_power : Fn P w K mg base CX0 "small_power" 1 ["base", "exponent"] R_small_power) (h_from_little : Fn P w K mg base CX0 "from_little" 2 ["data"] R_from_little) (h_check_key : Fn P w K mg base CX0 "check_key" 1 ["suite", "key"] R_check_key) : Me P w K mg base CX0 "SmallSuite" "is_weak" 3 ["self", "public"] R_SmallSuite_is_weak := by
  refine Me.of C 35 d_SmallSuite_is_weak rfl rfl rfl rfl (by decide +kernel) (by decide +kernel) sc_SmallSuite_is_weak (fun _ _ _ _ _ _ us hl => match us, hl with | [_, _], _ => rfl) (fun ds M q ex h => ?len) (fun cdv A outer s H E hr => ⟨_, (pss_cons (ps_expr (pe_fn h_check_key hr (by decide) rfl (pa_cons (pv 0) (pa_cons (pv 1) pa_nil))))
      (pss_cons (ps_set (i := 2) sc_SmallSuite_is_weak.nd rfl (Or.inl rfl) (pe_fn h_from_little hr (by decide) rfl (pa_cons (pv 1) pa_nil)))
      (pss_one (ps_ret (pe_or (pe_cmpR op_ge (pv 2) (pe_gint rfl (C.int "GROUP" 170141183460469231731687303715884105727)) (nomark _)) (pe_one (pe_cmpR (opNeU hr.units) (pe_fn h_small_power hr (by decide) rfl (pa_cons (pv 2) (pa_cons (pe_gint rfl (C.int "HALF_GROUP" 85070591730234615865843651857942052863)) pa_nil))) (pe_op op_sub (pe_gint rfl (C.int "GROUP" 170141183460469231731687303715884105727)) pe_int) (nomark _)))))))), fun ds M q ex h => ?main⟩)
  case len => obtain ⟨_, rfl, _⟩ := h; rfl
  case main =>
    obtain ⟨s', rfl, hb, hl, k⟩ := h
    walk_at "s"
    walk_at "w"
    refine ⟨s', rfl, hl, ?_⟩
    walk_at "w"
    refine ⟨s', rfl, hb, by omega, ?_⟩
    walk_at "w"
    walk_at "r"
    unfold weakM at k
    by_cases h : LL ≤ fromLittle s'
    · refine ite_yes (by simpa using h) ?_
      rw [decide_eq_true h] at k
      exact k
    · refine ite_no (by simpa using h) ?_
      rw [decide_eq_false h] at k
      walk_at "w"
      refine ⟨_, _, rfl, by decide, ?_⟩
      walk_at "w"
      exact k
theorem sc_SmallSuite_exchange : FnScope N_SmallSuite_exchange ["self", "secret", "public"] (defScope s_SmallSuite_exchange) := ⟨rfl, rfl, rfl, by decide +kernel, rfl, by decide +kernel, by decide +kernel⟩
theorem ok_SmallSuite_exchange (C : Cxt K mg) (h_to_little : Fn P w K mg base CX0 "to_little" 1 ["number", "size"] R_to_little) (h_small_power : Fn P w K mg base CX0 "small_power" 1 ["base", "exponent"] R_small_power) (h_small_exponent : Fn P w K mg base CX0 "small_exponent" 3 ["secret"] R_small_exponent) (h_from_little : Fn P w K mg base CX0 "from_little" 2 ["data"] R_from_little) (h_SmallSuite_is_weak : Me P w K mg base CX0 "SmallSuite" "is_weak" 3 ["self", "public"] R_SmallSuite_is_weak) (h_check_key : Fn P w K mg base CX0 "check_key" 1 ["suite", "key"] R_check_key) : Me P w K mg base CX0 "SmallSuite" "exchange" 4 ["self", "secret", "public"] R_SmallSuite_exchange := by
  refine Me.of C 36 d_SmallSuite_exchange rfl rfl rfl rfl (by decide +kernel) (by decide +kernel) sc_SmallSuite_exchange (fun _ _ _ _ _ _ us hl => match us, hl with | [_, _, _], _ => rfl) (fun ds M q ex h => ?len) (fun cdv A outer s H E hr => ⟨_, (pss_cons (ps_expr (pe_fn h_check_key hr (by decide) rfl (pa_cons (pv 0) (pa_cons (pv 1) pa_nil))))
      (pss_cons (ps_expr (pe_fn h_check_key hr (by decide) rfl (pa_cons (pv 0) (pa_cons (pv 2) pa_nil))))
      (pss_cons (ps_if (pt_val (pe_me h_SmallSuite_is_weak hr (by decide) (pv 0) (pa_cons (pv 2) pa_nil))) (pss_one ps_never) pss_nil)
      (pss_one (ps_ret (pe_fn h_to_little hr (by decide) rfl (pa_cons (pe_fn h_small_power hr (by decide) rfl (pa_cons (pe_fn h_from_little hr (by decide) rfl (pa_cons (pv 2) pa_nil)) (pa_cons (pe_fn h_small_exponent hr (by decide) rfl (pa_cons (pv 1) pa_nil)) pa_nil))) (pa_cons pe_int pa_nil)))))))), fun ds M q ex h => ?main⟩)
  case len => obtain ⟨_, _, rfl, _⟩ := h; rfl
  case main =>
    obtain ⟨s', p, rfl, hb, hl, pb, pl, hw, k⟩ := h
    walk_at "s"
    walk_at "w"
    refine ⟨s', rfl, hl, ?_⟩
    walk_at "w"
    refine ⟨p, rfl, pl, ?_⟩
    walk_at "w"
    refine ⟨p, rfl, pb, pl, ?_⟩
    walk_at "w"
    refine ite_no (by rw [hw]; decide) ?_
    walk_at "w"
    walk_at "r"
    refine ⟨p, rfl, pb, by omega, ?_⟩
    walk_at "w"
    refine ⟨s', rfl, hb, by omega, ?_⟩
    walk_at "w"
    refine ⟨_, _, rfl, expo_nn s', ?_⟩
    walk_at "w"
    refine ⟨_, 16, rfl, ll_lt.1, by decide, ll_lt.2, ?_⟩
    exact k
theorem sc_SmallSuite_digest : FnScope N_SmallSuite_digest ["self", "data"] (defScope s_SmallSuite_digest) := ⟨rfl, rfl, rfl, by decide +kernel, rfl, by decide +kernel, by decide +kernel⟩
theorem ok_SmallSuite_digest (C : Cxt K mg) (h_small_digest : Fn P w K mg base CX0 "small_digest" 4 ["data"] R_small_digest) : Me P w K mg base CX0 "SmallSuite" "digest" 5 ["self", "data"] R_SmallSuite_digest := by
  refine Me.of C 37 d_SmallSuite_digest rfl rfl rfl rfl (by decide +kernel) (by decide +kernel) sc_SmallSuite_digest (fun _ _ _ _ _ _ us hl => match us, hl with | [_, _], _ => rfl) (fun ds M q ex h => ?len) (fun cdv A outer s H E hr => ⟨_, (pss_cons (ps_if (pt_cmpR op_gt (pe_callB call_len rfl (C.free "len") boot_len (pa_cons (pv 1) pa_nil)) (pe_gint rfl (C.int "MESSAGE_LIMIT" 1048576)) (nomark _)) (pss_one ps_never) pss_nil)
      (pss_one (ps_ret (pe_fn h_small_digest hr (by decide) rfl (pa_cons (pv 1) pa_nil))))), fun ds M q ex h => ?main⟩)
  case len => obtain ⟨_, rfl, _⟩ := h; rfl
  case main =>
    obtain ⟨s', rfl, hb, hl, k⟩ := h
    walk_at "s"
    walk_at "w"
    walk_at "d_n"
    walk_at "r"
    exact ⟨s', rfl, hb, by omega, k⟩
theorem sc_SmallSuite_keyed : FnScope N_SmallSuite_keyed ["self", "key", "data"] (defScope s_SmallSuite_keyed) := ⟨rfl, rfl, rfl, by decide +kernel, rfl, by decide +kernel, by decide +kernel⟩
theorem ok_SmallSuite_keyed (C : Cxt K mg) (h_small_digest : Fn P w K mg base CX0 "small_digest" 4 ["data"] R_small_digest) (h_to_big : Fn P w K mg base CX0 "to_big" 2 ["number", "size"] R_to_big) (h_check_keyed : Fn P w K mg base CX0 "check_keyed" 1 ["key", "data"] R_check_keyed) : Me P w K mg base CX0 "SmallSuite" "keyed" 5 ["self", "key", "data"] R_SmallSuite_keyed := by
  refine Me.of C 38 d_SmallSuite_keyed rfl rfl rfl rfl (by decide +kernel) (by decide +kernel) sc_SmallSuite_keyed (fun _ _ _ _ _ _ us hl => match us, hl with | [_, _, _], _ => rfl) (fun ds M q ex h => ?len) (fun cdv A outer s H E hr => ⟨_, (pss_cons (ps_expr (pe_fn h_check_keyed hr (by decide) rfl (pa_cons (pv 1) (pa_cons (pv 2) pa_nil))))
      (pss_one (ps_ret (pe_fn h_small_digest hr (by decide) rfl (pa_cons (pe_op opAddU (pe_op opAddU (pe_op opAddU (pe_lst (pa_cons pe_int pa_nil)) (pe_fn h_to_big hr (by decide) rfl (pa_cons (pe_callB call_len rfl (C.free "len") boot_len (pa_cons (pv 1) pa_nil)) (pa_cons pe_int pa_nil)))) (pe_callTy call_list_of rfl (C.free "list") boot_list (pa_cons (pv 1) pa_nil))) (pe_callTy call_list_of rfl (C.free "list") boot_list (pa_cons (pv 2) pa_nil))) pa_nil))))), fun ds M q ex h => ?main⟩)
  case len => obtain ⟨_, _, rfl, _⟩ := h; rfl
  case main =>
    obtain ⟨a, b, rfl, ha, la, hb, lb, k⟩ := h
    walk_at "s"
    walk_at "w"
    refine ⟨a, b, rfl, la, by omega, ?_⟩
    walk_at "w"
    walk_at "r"
    rw [List.length_map]
    refine ⟨_, 4, rfl, by omega, by decide, by omega, ?_⟩
    walk_at "w"
    refine ⟨_, rfl, (((isBy.one (by decide) (by decide)).app (toBig_by _ _)).app ha).app hb, by simp; omega, ?_⟩
    exact k
theorem sc_SmallSuite_tag : FnScope N_SmallSuite_tag ["self", "key", "number", "data", "combined"] (defScope s_SmallSuite_tag) := ⟨rfl, rfl, rfl, by decide +kernel, rfl, by decide +kernel, by decide +kernel⟩
theorem ok_SmallSuite_tag (C : Cxt K mg) (h_small_digest : Fn P w K mg base CX0 "small_digest" 4 ["data"] R_small_digest) (h_to_big : Fn P w K mg base CX0 "to_big" 2 ["number", "size"] R_to_big) : Me P w K mg base CX0 "SmallSuite" "tag" 5 ["self", "key", "number", "data", "combined"] R_SmallSuite_tag := by
  refine Me.of C 39 d_SmallSuite_tag rfl rfl rfl rfl (by decide +kernel) (by decide +kernel) sc_SmallSuite_tag (fun _ _ _ _ _ _ us hl => match us, hl with | [_, _, _, _, _], _ => rfl) (fun ds M q ex h => ?len) (fun cdv A outer s H E hr => ⟨_, (pss_cons (ps_set (i := 5) sc_SmallSuite_tag.nd rfl (Or.inl rfl) (pe_op opAddU (pe_op opAddU (pe_op opAddU (pe_lst (pa_cons pe_int pa_nil)) (pe_callTy call_list_of rfl (C.free "list") boot_list (pa_cons (pv 1) pa_nil))) (pe_fn h_to_big hr (by decide) rfl (pa_cons (pv 2) (pa_cons pe_int pa_nil)))) (pe_fn h_to_big hr (by decide) rfl (pa_cons (pe_callB call_len rfl (C.free "len") boot_len (pa_cons (pv 3) pa_nil)) (pa_cons pe_int pa_nil)))))
      (pss_one (ps_ret (pe_slice slU (pe_fn h_small_digest hr (by decide) rfl (pa_cons (pe_op opAddU (pe_op opAddU (pv 5) (pe_callTy call_list_of rfl (C.free "list") boot_list (pa_cons (pv 3) pa_nil))) (pv 4)) pa_nil)) po_none (po_some (pe_fld (pv 0) rfl)))))), fun ds M q ex h => ?main⟩)
  case len => obtain ⟨_, _, _, _, rfl, _⟩ := h; rfl
  case main =>
    obtain ⟨a, n, b, c, rfl, ha, la, n0, n1, hb, lb, hc, lc, k⟩ := h
    walk_at "s"
    walk_at "w"
    refine ⟨_, 8, rfl, n0, by decide, by omega, ?_⟩
    walk_at "w"
    rw [List.length_map]
    refine ⟨_, 4, rfl, by omega, by decide, by omega, ?_⟩
    walk_at "w"
    walk_at "r"
    refine ⟨_, rfl, (((((isBy.one (by decide) (by decide)).app ha).app (toBig_by _ _)).app (toBig_by _ _)).app hb).app hc, by simp; omega, ?_⟩
    walk_at "w"
    refine sl_lstD ?_
    rw [show (8 : Int) = ((8 : Nat) : Int) from rfl, cutD_to, ← List.map_take]
    exact k
theorem sc_SmallSuite_seal : FnScope N_SmallSuite_seal ["self", "key", "number", "data", "text"] (defScope s_SmallSuite_seal) := ⟨rfl, rfl, rfl, by decide +kernel, rfl, by decide +kernel, by decide +kernel⟩
theorem ok_SmallSuite_seal (C : Cxt K mg) (h_SmallSuite_tag : Me P w K mg base CX0 "SmallSuite" "tag" 5 ["self", "key", "number", "data", "combined"] R_SmallSuite_tag) (h_combine : Fn P w K mg base CX0 "combine" 1 ["first", "second"] R_combine) (h_small_stream : Fn P w K mg base CX0 "small_stream" 4 ["key", "number", "size"] R_small_stream) (h_check_sealing : Fn P w K mg base CX0 "check_sealing" 2 ["suite", "key", "number", "data", "size"] R_check_sealing) : Me P w K mg base CX0 "SmallSuite" "seal" 6 ["self", "key", "number", "data", "text"] R_SmallSuite_seal := by
  refine Me.of C 40 d_SmallSuite_seal rfl rfl rfl rfl (by decide +kernel) (by decide +kernel) sc_SmallSuite_seal (fun _ _ _ _ _ _ us hl => match us, hl with | [_, _, _, _, _], _ => rfl) (fun ds M q ex h => ?len) (fun cdv A outer s H E hr => ⟨_, (pss_cons (ps_expr (pe_fn h_check_sealing hr (by decide) rfl (pa_cons (pv 0) (pa_cons (pv 1) (pa_cons (pv 2) (pa_cons (pv 3) (pa_cons (pe_callB call_len rfl (C.free "len") boot_len (pa_cons (pv 4) pa_nil)) pa_nil)))))))
      (pss_cons (ps_set (i := 5) sc_SmallSuite_seal.nd rfl (Or.inl rfl) (pe_fn h_combine hr (by decide) rfl (pa_cons (pv 4) (pa_cons (pe_fn h_small_stream hr (by decide) rfl (pa_cons (pv 1) (pa_cons (pv 2) (pa_cons (pe_callB call_len rfl (C.free "len") boot_len (pa_cons (pv 4) pa_nil)) pa_nil)))) pa_nil))))
      (pss_one (ps_ret (pe_op opAddU (pv 5) (pe_me h_SmallSuite_tag hr (by decide) (pv 0) (pa_cons (pv 1) (pa_cons (pv 2) (pa_cons (pv 3) (pa_cons (pv 5) pa_nil)))))))))), fun ds M q ex h => ?main⟩)
  case len => obtain ⟨_, _, _, _, rfl, _⟩ := h; rfl
  case main =>
    obtain ⟨a, n, b, c, rfl, ha, la, n0, n1, hb, lb, hc, lc, k⟩ := h
    walk_at "s"
    walk_at "w"
    rw [List.length_map]
    refine ⟨a, b, n, c.length, rfl, la, n0, n1, by omega, by omega, ?_⟩
    walk_at "w"
    rw [List.length_map]
    refine ⟨a, n, c.length, rfl, ha, by omega, n0, n1, by omega, ?_⟩
    walk_at "w"
    refine ⟨c, _, rfl, by simp, by omega, ?_⟩
    walk_at "w"
    walk_at "r"
    refine ⟨a, n, b, _, rfl, ha, by omega, n0, n1, hb, lb, ciM_by hc, by simp; omega, ?_⟩
    walk_at "w"
    exact k
theorem sc_SmallSuite_open_sealed : FnScope N_SmallSuite_open_sealed ["self", "key", "number", "data", "sealed"] (defScope s_SmallSuite_open_sealed) := ⟨rfl, rfl, rfl, by decide +kernel, rfl, by decide +kernel, by decide +kernel⟩
theorem ok_SmallSuite_open_sealed (C : Cxt K mg) (h_combine : Fn P w K mg base CX0 "combine" 1 ["first", "second"] R_combine) (h_small_stream : Fn P w K mg base CX0 "small_stream" 4 ["key", "number", "size"] R_small_stream) (h_SmallSuite_tag : Me P w K mg base CX0 "SmallSuite" "tag" 5 ["self", "key", "number", "data", "combined"] R_SmallSuite_tag) (h_check_sealing : Fn P w K mg base CX0 "check_sealing" 2 ["suite", "key", "number", "data", "size"] R_check_sealing) : Me P w K mg base CX0 "SmallSuite" "open_sealed" 6 ["self", "key", "number", "data", "sealed"] R_SmallSuite_open_sealed := by
  refine Me.of C 41 d_SmallSuite_open_sealed rfl rfl rfl rfl (by decide +kernel) (by decide +kernel) sc_SmallSuite_open_sealed (fun _ _ _ _ _ _ us hl => match us, hl with | [_, _, _, _, _], _ => rfl) (fun ds M q ex h => ?len) (fun cdv A outer s H E hr => ⟨_, (pss_cons (ps_expr (pe_fn h_check_sealing hr (by decide) rfl (pa_cons (pv 0) (pa_cons (pv 1) (pa_cons (pv 2) (pa_cons (pv 3) (pa_cons (pe_op op_sub (pe_callB call_len rfl (C.free "len") boot_len (pa_cons (pv 4) pa_nil)) (pe_fld (pv 0) rfl)) pa_nil)))))))
      (pss_cons (ps_set (i := 5) sc_SmallSuite_open_sealed.nd rfl (Or.inl rfl) (pe_op op_sub (pe_callB call_len rfl (C.free "len") boot_len (pa_cons (pv 4) pa_nil)) (pe_fld (pv 0) rfl)))
      (pss_cons (ps_if (pt_cmpR op_lt (pv 5) pe_int (nomark _)) (pss_one ps_never) pss_nil)
      (pss_cons (ps_set (i := 6) sc_SmallSuite_open_sealed.nd rfl (Or.inl rfl) (pe_callTy call_list_of rfl (C.free "list") boot_list (pa_cons (pe_slice slU (pv 4) po_none (po_some (pv 5))) pa_nil)))
      (pss_cons (ps_if (pt_cmpR (opNeU hr.units) (pe_me h_SmallSuite_tag hr (by decide) (pv 0) (pa_cons (pv 1) (pa_cons (pv 2) (pa_cons (pv 3) (pa_cons (pv 6) pa_nil))))) (pe_callTy call_list_of rfl (C.free "list") boot_list (pa_cons (pe_slice slU (pv 4) (po_some (pv 5)) po_none) pa_nil)) (nomark _)) (pss_one ps_never) pss_nil)
      (pss_one (ps_ret (pe_fn h_combine hr (by decide) rfl (pa_cons (pv 6) (pa_cons (pe_fn h_small_stream hr (by decide) rfl (pa_cons (pv 1) (pa_cons (pv 2) (pa_cons (pv 5) pa_nil)))) pa_nil)))))))))), fun ds M q ex h => ?main⟩)
  case len => obtain ⟨_, _, _, _, rfl, _⟩ := h; rfl
  case main =>
    obtain ⟨a, n, b, c, rfl, ha, la, n0, n1, hb, lb, hc, lc, k⟩ := h
    have e1 : ((((sealM a n b c).map D.int).length : Nat) : Int) - 8 = (c.length : Nat) := by rw [List.length_map, sealM_len]; omega
    have t1 : (sealM a n b c).take c.length = ciM a n c := by
      unfold sealM
      rw [List.take_append_of_le_length (by rw [ciM_len]; omega), List.take_of_length_le (by rw [ciM_len]; omega)]
    have t2 : (sealM a n b c).drop c.length = tagM a n b (ciM a n c) := by
      unfold sealM
      rw [List.drop_append_of_le_length (by rw [ciM_len]; omega), List.drop_eq_nil_of_le (by rw [ciM_len]; omega), List.nil_append]
    walk_at "s"
    walk_at "w"
    rw [e1]
    refine ⟨a, b, n, c.length, rfl, la, n0, n1, by omega, by omega, ?_⟩
    walk_at "w"
    rw [e1]
    walk_at "d_n"
    refine sl_lstD ?_
    rw [cutD_to, ← List.map_take, t1]
    walk_at "w"
    refine ⟨a, n, b, _, rfl, ha, by omega, n0, n1, hb, lb, ciM_by hc, by rw [ciM_len]; omega, ?_⟩
    walk_at "w"
    refine sl_lstD ?_
    rw [cutD_from, ← List.map_drop, t2]
    walk_at "w"
    walk_at "d_n"
    walk_at "r"
    refine ⟨a, n, c.length, rfl, ha, by omega, n0, n1, by omega, ?_⟩
    walk_at "w"
    refine ⟨_, _, rfl, by simp, by rw [ciM_len]; omega, ?_⟩
    have e2 : xorB (ciM a n c) (streamM a n c.length) = c := xorB_inv hc (streamM_by _ _ _) (by simp)
    rw [e2]
    exact k
end
section
variable {P : Program} {w : World} {K : PySem.W.Frag} {mg : Str → Option Value} {base : Heap}
theorem sc_two_values : FnScope N_two_values ["suite", "chain", "data"] (defScope s_two_values) := ⟨rfl, rfl, rfl, by decide +kernel, rfl, by decide +kernel, by decide +kernel⟩
theorem ok_two_values (C : Cxt K mg) (h_SmallSuite_keyed : Me P w K mg base CX0 "SmallSuite" "keyed" 5 ["self", "key", "data"] R_SmallSuite_keyed) : Fn P w K mg base CX0 "two_values" 6 ["suite", "chain", "data"] R_two_values := by
  refine Fn.of C 42 d_two_values rfl rfl rfl rfl (by decide +kernel) sc_two_values (fun _ _ _ _ _ _ us hl => match us, hl with | [_, _, _], _ => rfl) (fun ds M q ex h => ?len) (fun cdv A outer s H E hr => ⟨_, (pss_cons (ps_set (i := 3) sc_two_values.nd rfl (Or.inl rfl) (pe_me h_SmallSuite_keyed hr (by decide) (pv 0) (pa_cons (pv 1) (pa_cons (pv 2) pa_nil))))
      (pss_cons (ps_set (i := 4) sc_two_values.nd rfl (Or.inl rfl) (pe_me h_SmallSuite_keyed hr (by decide) (pv 0) (pa_cons (pv 3) (pa_cons (pe_lst (pa_cons pe_int pa_nil)) pa_nil))))
      (pss_cons (ps_set (i := 5) sc_two_values.nd rfl (Or.inl rfl) (pe_me h_SmallSuite_keyed hr (by decide) (pv 0) (pa_cons (pv 3) (pa_cons (pe_op opAddU (pv 4) (pe_lst (pa_cons pe_int pa_nil))) pa_nil))))
      (pss_one (ps_ret (pe_tup (pa_cons (pv 4) (pa_cons (pv 5) pa_nil)))))))), fun ds M q ex h => ?main⟩)
  case len => obtain ⟨_, _, rfl, _⟩ := h; rfl
  case main =>
    obtain ⟨a, b, rfl, ha, la, hb, lb, k⟩ := h
    walk_at "s"
    walk_at "w"
    refine ⟨a, b, rfl, ha, by omega, hb, by omega, ?_⟩
    walk_at "w"
    refine ⟨_, [1], rfl, keyM_by _ _, by simp, isBy.one (by decide) (by decide), by decide, ?_⟩
    walk_at "w"
    refine ⟨_, _, rfl, keyM_by _ _, by simp, (keyM_by _ _).app (isBy.one (by decide) (by decide)), by simp, ?_⟩
    walk_at "w"
    walk_at "r"
    exact k
theorem sc_three_values : FnScope N_three_values ["suite", "chain", "data"] (defScope s_three_values) := ⟨rfl, rfl, rfl, by decide +kernel, rfl, by decide +kernel, by decide +kernel⟩
theorem ok_three_values (C : Cxt K mg) (h_SmallSuite_keyed : Me P w K mg base CX0 "SmallSuite" "keyed" 5 ["self", "key", "data"] R_SmallSuite_keyed) : Fn P w K mg base CX0 "three_values" 6 ["suite", "chain", "data"] R_three_values := by
  refine Fn.of C 43 d_three_values rfl rfl rfl rfl (by decide +kernel) sc_three_values (fun _ _ _ _ _ _ us hl => match us, hl with | [_, _, _], _ => rfl) (fun ds M q ex h => ?len) (fun cdv A outer s H E hr => ⟨_, (pss_cons (ps_set (i := 3) sc_three_values.nd rfl (Or.inl rfl) (pe_me h_SmallSuite_keyed hr (by decide) (pv 0) (pa_cons (pv 1) (pa_cons (pv 2) pa_nil))))
      (pss_cons (ps_set (i := 4) sc_three_values.nd rfl (Or.inl rfl) (pe_me h_SmallSuite_keyed hr (by decide) (pv 0) (pa_cons (pv 3) (pa_cons (pe_lst (pa_cons pe_int pa_nil)) pa_nil))))
      (pss_cons (ps_set (i := 5) sc_three_values.nd rfl (Or.inl rfl) (pe_me h_SmallSuite_keyed hr (by decide) (pv 0) (pa_cons (pv 3) (pa_cons (pe_op opAddU (pv 4) (pe_lst (pa_cons pe_int pa_nil))) pa_nil))))
      (pss_cons (ps_set (i := 6) sc_three_values.nd rfl (Or.inl rfl) (pe_me h_SmallSuite_keyed hr (by decide) (pv 0) (pa_cons (pv 3) (pa_cons (pe_op opAddU (pv 5) (pe_lst (pa_cons pe_int pa_nil))) pa_nil))))
      (pss_one (ps_ret (pe_tup (pa_cons (pv 4) (pa_cons (pv 5) (pa_cons (pv 6) pa_nil)))))))))), fun ds M q ex h => ?main⟩)
  case len => obtain ⟨_, _, rfl, _⟩ := h; rfl
  case main =>
    obtain ⟨a, b, rfl, ha, la, hb, lb, k⟩ := h
    walk_at "s"
    walk_at "w"
    refine ⟨a, b, rfl, ha, by omega, hb, by omega, ?_⟩
    walk_at "w"
    refine ⟨_, [1], rfl, keyM_by _ _, by simp, isBy.one (by decide) (by decide), by decide, ?_⟩
    walk_at "w"
    refine ⟨_, _, rfl, keyM_by _ _, by simp, (keyM_by _ _).app (isBy.one (by decide) (by decide)), by simp, ?_⟩
    walk_at "w"
    refine ⟨_, _, rfl, keyM_by _ _, by simp, (keyM_by _ _).app (isBy.one (by decide) (by decide)), by simp, ?_⟩
    walk_at "w"
    walk_at "r"
    exact k
theorem sc_NumberedKey___init__ : FnScope N_NumberedKey___init__ ["self", "suite", "key"] (defScope s_NumberedKey___init__) := ⟨rfl, rfl, rfl, by decide +kernel, rfl, by decide +kernel, by decide +kernel⟩
theorem ok_NumberedKey___init__ (C : Cxt K mg) (h_check_key : Fn P w K mg base CX0 "check_key" 1 ["suite", "key"] R_check_key) : Ma P w K mg base CX0 "NumberedKey" 2 ["self", "suite", "key"] R_NumberedKey___init__ := by
  refine Ma.of C 44 d_NumberedKey___init__ rfl rfl rfl rfl (by decide +kernel) (by decide +kernel) sc_NumberedKey___init__ (fun _ _ _ _ _ _ us hl => match us, hl with | [_, _, _], _ => rfl) (fun ds M q ex h => ?len) (fun cdv A outer s H E hr => ⟨_, (pss_cons (ps_if (pt_cmpR opIsNotU (pv 2) pe_non (nomark _)) (pss_cons (ps_expr (pe_fn h_check_key hr (by decide) rfl (pa_cons (pv 1) (pa_cons (pv 2) pa_nil))))
      (pss_one (ps_set (i := 2) sc_NumberedKey___init__.nd rfl (Or.inl rfl) (pe_callTy call_list_of rfl (C.free "list") boot_list (pa_cons (pv 2) pa_nil))))) pss_nil)
      (pss_cons (ps_fld (pv 0) (pv 1) rfl)
      (pss_cons (ps_fld (pv 0) (pv 2) rfl)
      (pss_one (ps_fld (pv 0) pe_int rfl))))), fun ds M q ex h => ?main⟩)
  case len => obtain ⟨_, _, _, rfl, _⟩ := h; rfl
  case main =>
    obtain ⟨p, k, M0, rfl, rfl, hk, q0⟩ := h
    walk_at "s"
    cases k with
    | none =>
      unfold keyD
      walk_at "w"
      refine isNotU_non ?_
      walk_at "w"
      walk_at "d_n"
      exact q0
    | some b =>
      obtain ⟨h1, h2⟩ := hk b rfl
      unfold keyD
      walk_at "w"
      refine isNotU_some not_non_lst ?_
      walk_at "w"
      walk_at "d_y"
      refine ⟨b, rfl, h2, ?_⟩
      walk_at "w"
      exact q0
theorem sc_NumberedKey_seal : FnScope N_NumberedKey_seal ["self", "data", "text"] (defScope s_NumberedKey_seal) := ⟨rfl, rfl, rfl, by decide +kernel, rfl, by decide +kernel, by decide +kernel⟩
theorem ok_NumberedKey_seal (C : Cxt K mg) (h_SmallSuite_seal : Me P w K mg base CX0 "SmallSuite" "seal" 6 ["self", "key", "number", "data", "text"] R_SmallSuite_seal) : Me P w K mg base CX0 "NumberedKey" "seal" 7 ["self", "data", "text"] R_NumberedKey_seal := by
  refine Me.of C 45 d_NumberedKey_seal rfl rfl rfl rfl (by decide +kernel) (by decide +kernel) sc_NumberedKey_seal (fun _ _ _ _ _ _ us hl => match us, hl with | [_, _, _], _ => rfl) (fun ds M q ex h => ?len) (fun cdv A outer s H E hr => ⟨_, (pss_cons (ps_if (pt_cmpR opIsU (pe_fld (pv 0) rfl) pe_non (nomark _)) (pss_one (ps_ret (pe_callTy call_list_of rfl (C.free "list") boot_list (pa_cons (pv 2) pa_nil)))) pss_nil)
      (pss_cons (ps_if (pt_cmpR (opEqU hr.units) (pe_fld (pv 0) rfl) (pe_gint rfl (C.int "LAST_NUMBER" 18446744073709551615)) (nomark _)) (pss_one ps_never) pss_nil)
      (pss_cons (ps_set (i := 3) sc_NumberedKey_seal.nd rfl (Or.inl rfl) (pe_me h_SmallSuite_seal hr (by decide) (pe_fld (pv 0) rfl) (pa_cons (pe_fld (pv 0) rfl) (pa_cons (pe_fld (pv 0) rfl) (pa_cons (pv 1) (pa_cons (pv 2) pa_nil))))))
      (pss_cons (ps_fldaug (pv 0) pe_int in_add)
      (pss_one (ps_ret (pv 3))))))), fun ds M q ex h => ?main⟩)
  case len => obtain ⟨_, _, _, _, _, _, rfl, _⟩ := h; rfl
  case main =>
    obtain ⟨p, k, n, b, c, M0, rfl, rfl, hk, n0, n1, hb, lb, hc, lc, q0⟩ := h
    walk_at "s"
    cases k with
    | none =>
      walk_at "w"
      refine isU_non ?_
      walk_at "w"
      walk_at "d_y"
      walk_at "r"
      exact q0
    | some a =>
      obtain ⟨h1, h2⟩ := hk a rfl
      walk_at "w"
      refine isU_some not_non_lst ?_
      walk_at "w"
      walk_at "d_n"
      walk_at "d_n"
      refine ⟨a, n, b, c, rfl, h1, h2, n0, by omega, hb, lb, hc, lc, ?_⟩
      walk_at "w"
      refine sd_fldaug C.tx (fun q hq => ev_var rfl hq) (j := 0) rfl (by decide +kernel) rfl rfl (by decide) ?_
      walk_at "w"
      refine ⟨rfl, op_i0 (fun _ => .int _) ⟨rfl, ?_⟩⟩
      walk_at "r"
      exact q0
theorem sc_NumberedKey_open_sealed : FnScope N_NumberedKey_open_sealed ["self", "data", "sealed"] (defScope s_NumberedKey_open_sealed) := ⟨rfl, rfl, rfl, by decide +kernel, rfl, by decide +kernel, by decide +kernel⟩
theorem ok_NumberedKey_open_sealed (C : Cxt K mg) (h_SmallSuite_open_sealed : Me P w K mg base CX0 "SmallSuite" "open_sealed" 6 ["self", "key", "number", "data", "sealed"] R_SmallSuite_open_sealed) : Me P w K mg base CX0 "NumberedKey" "open_sealed" 7 ["self", "data", "sealed"] R_NumberedKey_open_sealed := by
  refine Me.of C 46 d_NumberedKey_open_sealed rfl rfl rfl rfl (by decide +kernel) (by decide +kernel) sc_NumberedKey_open_sealed (fun _ _ _ _ _ _ us hl => match us, hl with | [_, _, _], _ => rfl) (fun ds M q ex h => ?len) (fun cdv A outer s H E hr => ⟨_, (pss_cons (ps_if (pt_cmpR opIsU (pe_fld (pv 0) rfl) pe_non (nomark _)) (pss_one (ps_ret (pe_callTy call_list_of rfl (C.free "list") boot_list (pa_cons (pv 2) pa_nil)))) pss_nil)
      (pss_cons (ps_if (pt_cmpR (opEqU hr.units) (pe_fld (pv 0) rfl) (pe_gint rfl (C.int "LAST_NUMBER" 18446744073709551615)) (nomark _)) (pss_one ps_never) pss_nil)
      (pss_cons (ps_set (i := 3) sc_NumberedKey_open_sealed.nd rfl (Or.inl rfl) (pe_me h_SmallSuite_open_sealed hr (by decide) (pe_fld (pv 0) rfl) (pa_cons (pe_fld (pv 0) rfl) (pa_cons (pe_fld (pv 0) rfl) (pa_cons (pv 1) (pa_cons (pv 2) pa_nil))))))
      (pss_cons (ps_fldaug (pv 0) pe_int in_add)
      (pss_one (ps_ret (pv 3))))))), fun ds M q ex h => ?main⟩)
  case len => obtain ⟨_, _, _, _, _, _, rfl, _⟩ := h; rfl
  case main =>
    obtain ⟨p, k, n, b, c, M0, rfl, rfl, hk, n0, n1, hb, lb, hc, lc, q0⟩ := h
    walk_at "s"
    cases k with
    | none =>
      walk_at "w"
      refine isU_non ?_
      walk_at "w"
      walk_at "d_y"
      walk_at "r"
      exact q0
    | some a =>
      obtain ⟨h1, h2⟩ := hk a rfl
      walk_at "w"
      refine isU_some not_non_lst ?_
      walk_at "w"
      walk_at "d_n"
      walk_at "d_n"
      refine ⟨a, n, b, c, rfl, h1, h2, n0, by omega, hb, lb, hc, lc, ?_⟩
      walk_at "w"
      refine sd_fldaug C.tx (fun q hq => ev_var rfl hq) (j := 0) rfl (by decide +kernel) rfl rfl (by decide) ?_
      walk_at "w"
      refine ⟨rfl, op_i0 (fun _ => .int _) ⟨rfl, ?_⟩⟩
      walk_at "r"
      exact q0
theorem sc_NumberedKey_has_key : FnScope N_NumberedKey_has_key ["self"] (defScope s_NumberedKey_has_key) := ⟨rfl, rfl, rfl, by decide +kernel, rfl, by decide +kernel, by decide +kernel⟩
theorem ok_NumberedKey_has_key (C : Cxt K mg) : Me P w K mg base CX0 "NumberedKey" "has_key" 1 ["self"] R_NumberedKey_has_key := by
  refine Me.of C 47 d_NumberedKey_has_key rfl rfl rfl rfl (by decide +kernel) (by decide +kernel) sc_NumberedKey_has_key (fun _ _ _ _ _ _ us hl => match us, hl with | [_], _ => rfl) (fun ds M q ex h => ?len) (fun cdv A outer s H E hr => ⟨_, (pss_one (ps_ret (pe_cmpR opIsNotU (pe_fld (pv 0) rfl) pe_non (nomark _)))), fun ds M q ex h => ?main⟩)
  case len => obtain ⟨_, _, rfl, _⟩ := h; rfl
  case main =>
    obtain ⟨k, n, rfl, q0⟩ := h
    walk_at "s"
    walk_at "r"
    cases k with
    | none => exact isNotU_non q0
    | some a => exact isNotU_some not_non_lst q0
theorem sc_NumberedKey_twin : FnScope N_NumberedKey_twin ["self"] (defScope s_NumberedKey_twin) := ⟨rfl, rfl, rfl, by decide +kernel, rfl, by decide +kernel, by decide +kernel⟩
theorem ok_NumberedKey_twin (C : Cxt K mg) (h_NumberedKey___init__ : Ma P w K mg base CX0 "NumberedKey" 2 ["self", "suite", "key"] R_NumberedKey___init__) : Me P w K mg base CX0 "NumberedKey" "twin" 4 ["self"] R_NumberedKey_twin := by
  refine Me.of C 48 d_NumberedKey_twin rfl rfl rfl rfl (by decide +kernel) (by decide +kernel) sc_NumberedKey_twin (fun _ _ _ _ _ _ us hl => match us, hl with | [_], _ => rfl) (fun ds M q ex h => ?len) (fun cdv A outer s H E hr => ⟨_, (pss_cons (ps_set (i := 1) sc_NumberedKey_twin.nd rfl (Or.inl rfl) (pe_ma h_NumberedKey___init__ hr (by decide) rfl (pa_cons (pe_fld (pv 0) rfl) (pa_cons (pe_fld (pv 0) rfl) pa_nil))))
      (pss_cons (ps_fld (pv 1) (pe_fld (pv 0) rfl) rfl)
      (pss_one (ps_ret (pv 1))))), fun ds M q ex h => ?main⟩)
  case len => obtain ⟨_, _, rfl, _⟩ := h; rfl
  case main =>
    obtain ⟨k, n, rfl, hk, q0⟩ := h
    walk_at "s"
    walk_at "w"
    refine ev_make ?_
    walk_at "w"
    intro p hp
    refine ⟨p, k, M, rfl, rfl, hk, rfl, ?_⟩
    walk_at "w"
    walk_at "r"
    exact q0 p hp
end
section
variable {P : Program} {w : World} {K : PySem.W.Frag} {mg : Str → Option Value} {base : Heap}
theorem sc_Transcript___init__ : FnScope N_Transcript___init__ ["self", "suite", "label"] (defScope s_Transcript___init__) := ⟨rfl, rfl, rfl, by decide +kernel, rfl, by decide +kernel, by decide +kernel⟩
theorem ok_Transcript___init__ (C : Cxt K mg) (h_NumberedKey___init__ : Ma P w K mg base CX0 "NumberedKey" 2 ["self", "suite", "key"] R_NumberedKey___init__) (h_SmallSuite_digest : Me P w K mg base CX0 "SmallSuite" "digest" 5 ["self", "data"] R_SmallSuite_digest) : Ma P w K mg base CX0 "Transcript" 6 ["self", "suite", "label"] R_Transcript___init__ := by
  refine Ma.of C 49 d_Transcript___init__ rfl rfl rfl rfl (by decide +kernel) (by decide +kernel) sc_Transcript___init__ (fun _ _ _ _ _ _ us hl => match us, hl with | [_, _, _], _ => rfl) (fun ds M q ex h => ?len) (fun cdv A outer s H E hr => ⟨_, (pss_cons (ps_setLc (i := 3) (own := [("sign", 4)]) rfl sc_Transcript___init__.nd rfl rfl (sw_true rfl rfl rfl (by decide +kernel)) (pi_str (pv 2)) (blkOk_by (N := N_Transcript___init__) (sc := defScope s_Transcript___init__) (by decide +kernel)) (fun _ _ _ _ _ => (pg_name (i := 4) sc_Transcript___init__.nd rfl (Or.inl rfl))) (fun _ _ _ _ _ => pts_nil) (fun _ _ _ _ _ => (pe_callB call_ord rfl (C.free "ord") boot_ord (pa_cons (pv 4) pa_nil))))
      (pss_cons (ps_if (pt_cmpR op_le (pe_callB call_len rfl (C.free "len") boot_len (pa_cons (pv 3) pa_nil)) (pe_fld (pv 1) rfl) (nomark _)) (pss_one (ps_set (i := 3) sc_Transcript___init__.nd rfl (Or.inl rfl) (pe_op opAddU (pv 3) (pe_op opMulU (pe_lst (pa_cons pe_int pa_nil)) (pe_op op_sub (pe_fld (pv 1) rfl) (pe_callB call_len rfl (C.free "len") boot_len (pa_cons (pv 3) pa_nil))))))) (pss_one (ps_set (i := 3) sc_Transcript___init__.nd rfl (Or.inl rfl) (pe_me h_SmallSuite_digest hr (by decide) (pv 1) (pa_cons (pv 3) pa_nil)))))
      (pss_cons (ps_fld (pv 0) (pv 1) rfl)
      (pss_cons (ps_fld (pv 0) (pv 3) rfl)
      (pss_cons (ps_fld (pv 0) (pe_callTy call_list_of rfl (C.free "list") boot_list (pa_cons (pv 3) pa_nil)) rfl)
      (pss_cons (ps_fld (pv 0) (pe_ma h_NumberedKey___init__ hr (by decide) rfl (pa_cons (pv 1) (pa_cons pe_non pa_nil))) rfl)
      (pss_one (ps_fld (pv 0) pe_bl rfl)))))))), fun ds M q ex h => ?main⟩)
  case len => obtain ⟨_, _, _, rfl, _⟩ := h; rfl
  case main =>
    obtain ⟨p, label, M0, rfl, rfl, hb, hl, q0⟩ := h
    have hsz : sizeLine = 16777216 := rfl
    walk_at "s"
    walk_at "w"
    refine ev_lcM label.cps.toList (fun c => .str ⟨#[c]⟩) (fun c => .int ((c : Nat) : Int)) (own_name (by decide)) ?_
    refine it_str ?_
    walk_at "w"
    refine ⟨rfl, by rw [← codes_len]; omega, ?_, ?_⟩
    · intro i x hx
      walk_at "w"
      refine ⟨rfl, ?_⟩
      walk_at "w"
      exact cb_ord rfl ⟨rfl, rfl⟩
    · have e0 : D.lst (label.cps.toList.map fun c => D.int ((c : Nat) : Int)) = bys (codesM label) := by
        show _ = D.lst ((label.cps.toList.map fun c => ((c : Nat) : Int)).map D.int)
        rw [List.map_map]; rfl
      rw [e0]
      walk_at "w"
      rw [List.length_map]
      by_cases hc : (codesM label).length ≤ 16
      · refine ite_yes (by simp; omega) ?_
        have hq : startH label = codesM label ++ List.replicate (16 - (codesM label).length) 0 := if_pos hc
        rw [hq] at q0
        walk_at "w"
        rw [List.length_map]
        have e1 : (16 : Int) - ((codesM label).length : Nat) = ((16 - (codesM label).length : Nat) : Int) := by omega
        rw [e1]
        refine mulU_zeros (by omega) ?_
        refine addU_bys (by rw [List.length_replicate]; omega) ?_
        walk_at "w"
        refine ev_frz (ev_make ?_)
        walk_at "w"
        intro p2 hp2
        refine ⟨p2, none, _, rfl, rfl, (fun _ z => by cases z), rfl, ?_⟩
        refine ⟨p2, 0, _, rfl, rfl, ?_⟩
        walk_at "w"
        exact q0
      · refine ite_no (by simp; omega) ?_
        have hq : startH label = digM (codesM label) := if_neg hc
        rw [hq] at q0
        walk_at "w"
        refine ⟨_, rfl, hb, by omega, ?_⟩
        walk_at "w"
        refine ev_frz (ev_make ?_)
        walk_at "w"
        intro p2 hp2
        refine ⟨p2, none, _, rfl, rfl, (fun _ z => by cases z), rfl, ?_⟩
        refine ⟨p2, 0, _, rfl, rfl, ?_⟩
        walk_at "w"
        exact q0
theorem sc_Transcript_check_open : FnScope N_Transcript_check_open ["self"] (defScope s_Transcript_check_open) := ⟨rfl, rfl, rfl, by decide +kernel, rfl, by decide +kernel, by decide +kernel⟩
theorem ok_Transcript_check_open (C : Cxt K mg) : Me P w K mg base (L2.CX P w) "Transcript" "check_open" 1 ["self"] (R_Transcript_check_open K) := by
  refine Me.ofX C 50 d_Transcript_check_open rfl rfl rfl rfl (by decide +kernel) (by decide +kernel) sc_Transcript_check_open (fun _ _ _ _ _ _ us hl => match us, hl with | [_], _ => rfl) (fun ds M q ex h => ?len) (fun cdv A outer s H E hr => ⟨_, (pss_one (ps_if (pt_val (pe_fld (pv 0) rfl)) (pss_one (ps_raise rfl (takes_of rfl rfl rfl rfl) (pmk_own PySem.F.excBase_ValueError (C.exX "OutOfOrder") (C.glo "OutOfOrder") (C.exK "OutOfOrder") (raises_own (C.exB "OutOfOrder") (C.exT "OutOfOrder")) rfl))) pss_nil)), fun ds M q ex h => ?main⟩)
  case len => obtain ⟨_, _, _, rfl, _⟩ := h; rfl
  case main =>
    obtain ⟨p, t, M0, rfl, rfl, h1, h2⟩ := h
    walk_at "s"
    walk_at "w"
    cases he : t.ended with
    | true =>
      refine ite_yes rfl ?_
      exact xs_raise (h2 he)
    | false =>
      refine ite_no (by decide) ?_
      walk_at "w"
      exact h1 he
theorem sc_Transcript_set_key : FnScope N_Transcript_set_key ["self", "value"] (defScope s_Transcript_set_key) := ⟨rfl, rfl, rfl, by decide +kernel, rfl, by decide +kernel, by decide +kernel⟩
theorem ok_Transcript_set_key (C : Cxt K mg) (h_NumberedKey___init__ : Ma P w K mg base CX0 "NumberedKey" 2 ["self", "suite", "key"] R_NumberedKey___init__) : Me P w K mg base CX0 "Transcript" "set_key" 4 ["self", "value"] R_Transcript_set_key := by
  refine Me.of C 51 d_Transcript_set_key rfl rfl rfl rfl (by decide +kernel) (by decide +kernel) sc_Transcript_set_key (fun _ _ _ _ _ _ us hl => match us, hl with | [_, _], _ => rfl) (fun ds M q ex h => ?len) (fun cdv A outer s H E hr => ⟨_, (pss_one (ps_fld (pv 0) (pe_ma h_NumberedKey___init__ hr (by decide) rfl (pa_cons (pe_fld (pv 0) rfl) (pa_cons (pe_slice slU (pv 1) po_none (po_some (pe_fld (pe_fld (pv 0) rfl) rfl))) pa_nil))) rfl)), fun ds M q ex h => ?main⟩)
  case len => obtain ⟨_, _, _, _, rfl, _⟩ := h; rfl
  case main =>
    obtain ⟨p, t, v, M0, rfl, rfl, hv, hl, q0⟩ := h
    walk_at "s"
    walk_at "w"
    refine ev_frz (ev_make ?_)
    walk_at "w"
    refine sl_lstD ?_
    rw [show (16 : Int) = ((16 : Nat) : Int) from rfl, cutD_to, List.take_of_length_le (by rw [List.length_map]; omega)]
    walk_at "w"
    intro p2 hp2
    refine ⟨p2, some v, _, rfl, rfl, (fun b z => by cases z; exact ⟨hv, hl⟩), rfl, ?_⟩
    refine ⟨p2, 0, _, rfl, rfl, ?_⟩
    walk_at "w"
    exact q0
theorem sc_Transcript_mix_data : FnScope N_Transcript_mix_data ["self", "data"] (defScope s_Transcript_mix_data) := ⟨rfl, rfl, rfl, by decide +kernel, rfl, by decide +kernel, by decide +kernel⟩
theorem ok_Transcript_mix_data (C : Cxt K mg) (h_SmallSuite_digest : Me P w K mg base CX0 "SmallSuite" "digest" 5 ["self", "data"] R_SmallSuite_digest) (h_Transcript_check_open : Me P w K mg base (L2.CX P w) "Transcript" "check_open" 1 ["self"] (R_Transcript_check_open K)) : Me P w K mg base CX0 "Transcript" "mix_data" 6 ["self", "data"] R_Transcript_mix_data := by
  refine Me.of C 52 d_Transcript_mix_data rfl rfl rfl rfl (by decide +kernel) (by decide +kernel) sc_Transcript_mix_data (fun _ _ _ _ _ _ us hl => match us, hl with | [_, _], _ => rfl) (fun ds M q ex h => ?len) (fun cdv A outer s H E hr => ⟨_, (pss_cons (ps_expr (pe_meL0 h_Transcript_check_open hr (by decide) (pv 0)))
      (pss_one (ps_fld (pv 0) (pe_me h_SmallSuite_digest hr (by decide) (pe_fld (pv 0) rfl) (pa_cons (pe_op opAddU (pe_fld (pv 0) rfl) (pe_callTy call_list_of rfl (C.free "list") boot_list (pa_cons (pv 1) pa_nil))) pa_nil)) rfl))), fun ds M q ex h => ?main⟩)
  case len => obtain ⟨_, _, _, _, rfl, _⟩ := h; rfl
  case main =>
    obtain ⟨p, t, d, M0, rfl, rfl, o, he, hd, hl, q0⟩ := h
    have hh := o.h2
    walk_at "s"
    walk_at "w"
    refine ⟨p, t, M0, rfl, rfl, fun _ => ?_, fun z => by rw [he] at z; cases z⟩
    walk_at "w"
    refine ⟨_, rfl, o.h1.app hd, by rw [List.length_append]; omega, ?_⟩
    walk_at "w"
    exact q0
theorem sc_Transcript_mix_key : FnScope N_Transcript_mix_key ["self", "data"] (defScope s_Transcript_mix_key) := ⟨rfl, rfl, rfl, by decide +kernel, rfl, by decide +kernel, by decide +kernel⟩
theorem ok_Transcript_mix_key (C : Cxt K mg) (h_Transcript_set_key : Me P w K mg base CX0 "Transcript" "set_key" 4 ["self", "value"] R_Transcript_set_key) (h_two_values : Fn P w K mg base CX0 "two_values" 6 ["suite", "chain", "data"] R_two_values) (h_Transcript_check_open : Me P w K mg base (L2.CX P w) "Transcript" "check_open" 1 ["self"] (R_Transcript_check_open K)) : Me P w K mg base CX0 "Transcript" "mix_key" 7 ["self", "data"] R_Transcript_mix_key := by
  refine Me.of C 53 d_Transcript_mix_key rfl rfl rfl rfl (by decide +kernel) (by decide +kernel) sc_Transcript_mix_key (fun _ _ _ _ _ _ us hl => match us, hl with | [_, _], _ => rfl) (fun ds M q ex h => ?len) (fun cdv A outer s H E hr => ⟨_, (pss_cons (ps_expr (pe_meL0 h_Transcript_check_open hr (by decide) (pv 0)))
      (pss_cons (ps_asg (pe_fn h_two_values hr (by decide) rfl (pa_cons (pe_fld (pv 0) rfl) (pa_cons (pe_fld (pv 0) rfl) (pa_cons (pv 1) pa_nil)))) (pg_tup rfl (pgs_cons (pg_fld (pv 0)) (pgs_cons (pg_name (i := 2) sc_Transcript_mix_key.nd rfl (Or.inl rfl)) pgs_nil))))
      (pss_one (ps_expr (pe_me h_Transcript_set_key hr (by decide) (pv 0) (pa_cons (pv 2) pa_nil)))))), fun ds M q ex h => ?main⟩)
  case len => obtain ⟨_, _, _, _, rfl, _⟩ := h; rfl
  case main =>
    obtain ⟨p, t, d, M0, rfl, rfl, o, he, hd, hl, q0⟩ := h
    have hh := o.h2
    walk_at "s"
    walk_at "w"
    refine ⟨p, t, M0, rfl, rfl, fun _ => ?_, fun z => by rw [he] at z; cases z⟩
    walk_at "w"
    refine ⟨_, _, rfl, o.c1, o.c2, hd, hl, ?_⟩
    walk_at "w"
    refine gt_fld ?_
    walk_at "w"
    refine ⟨p, { t with chain := (twoM t.chain d).1 }, (twoM t.chain d).2, M0, rfl, rfl, keyM_by _ _, keyM_len _ _, ?_⟩
    walk_at "w"
    exact q0
theorem sc_Transcript_mix_both : FnScope N_Transcript_mix_both ["self", "data"] (defScope s_Transcript_mix_both) := ⟨rfl, rfl, rfl, by decide +kernel, rfl, by decide +kernel, by decide +kernel⟩
theorem ok_Transcript_mix_both (C : Cxt K mg) (h_Transcript_set_key : Me P w K mg base CX0 "Transcript" "set_key" 4 ["self", "value"] R_Transcript_set_key) (h_Transcript_mix_data : Me P w K mg base CX0 "Transcript" "mix_data" 6 ["self", "data"] R_Transcript_mix_data) (h_three_values : Fn P w K mg base CX0 "three_values" 6 ["suite", "chain", "data"] R_three_values) (h_Transcript_check_open : Me P w K mg base (L2.CX P w) "Transcript" "check_open" 1 ["self"] (R_Transcript_check_open K)) : Me P w K mg base CX0 "Transcript" "mix_both" 7 ["self", "data"] R_Transcript_mix_both := by
  refine Me.of C 54 d_Transcript_mix_both rfl rfl rfl rfl (by decide +kernel) (by decide +kernel) sc_Transcript_mix_both (fun _ _ _ _ _ _ us hl => match us, hl with | [_, _], _ => rfl) (fun ds M q ex h => ?len) (fun cdv A outer s H E hr => ⟨_, (pss_cons (ps_expr (pe_meL0 h_Transcript_check_open hr (by decide) (pv 0)))
      (pss_cons (ps_asg (pe_fn h_three_values hr (by decide) rfl (pa_cons (pe_fld (pv 0) rfl) (pa_cons (pe_fld (pv 0) rfl) (pa_cons (pv 1) pa_nil)))) (pg_tup rfl (pgs_cons (pg_fld (pv 0)) (pgs_cons (pg_name (i := 2) sc_Transcript_mix_both.nd rfl (Or.inl rfl)) (pgs_cons (pg_name (i := 3) sc_Transcript_mix_both.nd rfl (Or.inl rfl)) pgs_nil)))))
      (pss_cons (ps_expr (pe_me h_Transcript_mix_data hr (by decide) (pv 0) (pa_cons (pv 2) pa_nil)))
      (pss_one (ps_expr (pe_me h_Transcript_set_key hr (by decide) (pv 0) (pa_cons (pv 3) pa_nil))))))), fun ds M q ex h => ?main⟩)
  case len => obtain ⟨_, _, _, _, rfl, _⟩ := h; rfl
  case main =>
    obtain ⟨p, t, d, M0, rfl, rfl, o, he, hd, hl, q0⟩ := h
    have hh := o.h2
    walk_at "s"
    walk_at "w"
    refine ⟨p, t, M0, rfl, rfl, fun _ => ?_, fun z => by rw [he] at z; cases z⟩
    walk_at "w"
    refine ⟨_, _, rfl, o.c1, o.c2, hd, hl, ?_⟩
    walk_at "w"
    refine gt_fld ?_
    walk_at "w"
    refine ⟨p, { t with chain := (twoM t.chain d).1 }, (twoM t.chain d).2, M0, rfl, rfl, ⟨o.h1, o.h2, keyM_by _ _, keyM_len _ _, o.k, o.n0, o.n1⟩, he, keyM_by _ _, by rw [show (twoM t.chain d).2.length = 16 from keyM_len _ _]; decide, ?_⟩
    walk_at "w"
    refine ⟨p, tMix { t with chain := (twoM t.chain d).1 } (twoM t.chain d).2, threeM t.chain d, M0, rfl, rfl, keyM_by _ _, keyM_len _ _, ?_⟩
    walk_at "w"
    exact q0
theorem sc_Transcript_seal : FnScope N_Transcript_seal ["self", "text"] (defScope s_Transcript_seal) := ⟨rfl, rfl, rfl, by decide +kernel, rfl, by decide +kernel, by decide +kernel⟩
theorem ok_Transcript_seal (C : Cxt K mg) (h_Transcript_mix_data : Me P w K mg base CX0 "Transcript" "mix_data" 6 ["self", "data"] R_Transcript_mix_data) (h_NumberedKey_seal : Me P w K mg base CX0 "NumberedKey" "seal" 7 ["self", "data", "text"] R_NumberedKey_seal) (h_NumberedKey_twin : Me P w K mg base CX0 "NumberedKey" "twin" 4 ["self"] R_NumberedKey_twin) (h_Transcript_check_open : Me P w K mg base (L2.CX P w) "Transcript" "check_open" 1 ["self"] (R_Transcript_check_open K)) : Me P w K mg base CX0 "Transcript" "seal" 8 ["self", "text"] R_Transcript_seal := by
  refine Me.of C 55 d_Transcript_seal rfl rfl rfl rfl (by decide +kernel) (by decide +kernel) sc_Transcript_seal (fun _ _ _ _ _ _ us hl => match us, hl with | [_, _], _ => rfl) (fun ds M q ex h => ?len) (fun cdv A outer s H E hr => ⟨_, (pss_cons (ps_expr (pe_meL0 h_Transcript_check_open hr (by decide) (pv 0)))
      (pss_cons (ps_set (i := 2) sc_Transcript_seal.nd rfl (Or.inl rfl) (pe_me0 h_NumberedKey_twin hr (by decide) (pe_fld (pv 0) rfl)))
      (pss_cons (ps_set (i := 3) sc_Transcript_seal.nd rfl (Or.inl rfl) (pe_me h_NumberedKey_seal hr (by decide) (pv 2) (pa_cons (pe_fld (pv 0) rfl) (pa_cons (pv 1) pa_nil))))
      (pss_cons (ps_expr (pe_me h_Transcript_mix_data hr (by decide) (pv 0) (pa_cons (pv 3) pa_nil)))
      (pss_cons (ps_fld (pv 0) (pv 2) rfl)
      (pss_one (ps_ret (pv 3)))))))), fun ds M q ex h => ?main⟩)
  case len => obtain ⟨_, _, _, _, rfl, _⟩ := h; rfl
  case main =>
    obtain ⟨p, t, d, M0, rfl, rfl, o, he, hd, hl, q0⟩ := h
    have hh := o.h2
    have n0 := o.n0
    have n1 := o.n1
    have hov : nkOv t.key ≤ 8 := by unfold nkOv; split <;> omega
    walk_at "s"
    walk_at "w"
    refine ⟨p, t, M0, rfl, rfl, fun _ => ?_, fun z => by rw [he] at z; cases z⟩
    walk_at "w"
    refine ⟨t.key, t.num, rfl, o.k, fun p2 hp2 => ?_⟩
    walk_at "w"
    refine ⟨p2, t.key, t.num, t.hash, d, _, rfl, rfl, o.k, n0, by omega, o.h1, by omega, hd, by omega, ?_⟩
    walk_at "d"
    refine sd_frz (i := 2) (j := 0) rfl rfl ?_
    walk_at "w"
    refine ⟨p, t, tSealed t d, M0, rfl, rfl, o, he, nkSeal_by hd, by rw [tSealed_len]; omega, ?_⟩
    walk_at "w"
    walk_at "r"
    exact q0
theorem sc_Transcript_open_sealed : FnScope N_Transcript_open_sealed ["self", "sealed"] (defScope s_Transcript_open_sealed) := ⟨rfl, rfl, rfl, by decide +kernel, rfl, by decide +kernel, by decide +kernel⟩
theorem ok_Transcript_open_sealed (C : Cxt K mg) (h_Transcript_mix_data : Me P w K mg base CX0 "Transcript" "mix_data" 6 ["self", "data"] R_Transcript_mix_data) (h_NumberedKey_open_sealed : Me P w K mg base CX0 "NumberedKey" "open_sealed" 7 ["self", "data", "sealed"] R_NumberedKey_open_sealed) (h_NumberedKey_twin : Me P w K mg base CX0 "NumberedKey" "twin" 4 ["self"] R_NumberedKey_twin) (h_Transcript_check_open : Me P w K mg base (L2.CX P w) "Transcript" "check_open" 1 ["self"] (R_Transcript_check_open K)) : Me P w K mg base CX0 "Transcript" "open_sealed" 8 ["self", "sealed"] R_Transcript_open_sealed := by
  refine Me.of C 56 d_Transcript_open_sealed rfl rfl rfl rfl (by decide +kernel) (by decide +kernel) sc_Transcript_open_sealed (fun _ _ _ _ _ _ us hl => match us, hl with | [_, _], _ => rfl) (fun ds M q ex h => ?len) (fun cdv A outer s H E hr => ⟨_, (pss_cons (ps_expr (pe_meL0 h_Transcript_check_open hr (by decide) (pv 0)))
      (pss_cons (ps_set (i := 2) sc_Transcript_open_sealed.nd rfl (Or.inl rfl) (pe_me0 h_NumberedKey_twin hr (by decide) (pe_fld (pv 0) rfl)))
      (pss_cons (ps_set (i := 3) sc_Transcript_open_sealed.nd rfl (Or.inl rfl) (pe_me h_NumberedKey_open_sealed hr (by decide) (pv 2) (pa_cons (pe_fld (pv 0) rfl) (pa_cons (pv 1) pa_nil))))
      (pss_cons (ps_expr (pe_me h_Transcript_mix_data hr (by decide) (pv 0) (pa_cons (pv 1) pa_nil)))
      (pss_cons (ps_fld (pv 0) (pv 2) rfl)
      (pss_one (ps_ret (pv 3)))))))), fun ds M q ex h => ?main⟩)
  case len => obtain ⟨_, _, _, _, rfl, _⟩ := h; rfl
  case main =>
    obtain ⟨p, t, d, M0, rfl, rfl, o, he, hd, hl, q0⟩ := h
    have hh := o.h2
    have n0 := o.n0
    have n1 := o.n1
    have hov : nkOv t.key ≤ 8 := by unfold nkOv; split <;> omega
    walk_at "s"
    walk_at "w"
    refine ⟨p, t, M0, rfl, rfl, fun _ => ?_, fun z => by rw [he] at z; cases z⟩
    walk_at "w"
    refine ⟨t.key, t.num, rfl, o.k, fun p2 hp2 => ?_⟩
    walk_at "w"
    refine ⟨p2, t.key, t.num, t.hash, d, _, rfl, rfl, o.k, n0, by omega, o.h1, by omega, hd, by omega, ?_⟩
    walk_at "d"
    refine sd_frz (i := 2) (j := 0) rfl rfl ?_
    walk_at "w"
    refine ⟨p, t, tSealed t d, M0, rfl, rfl, o, he, nkSeal_by hd, by rw [tSealed_len]; omega, ?_⟩
    walk_at "w"
    walk_at "r"
    exact q0
theorem sc_Transcript_hash : FnScope N_Transcript_hash ["self"] (defScope s_Transcript_hash) := ⟨rfl, rfl, rfl, by decide +kernel, rfl, by decide +kernel, by decide +kernel⟩
theorem ok_Transcript_hash (C : Cxt K mg) : Me P w K mg base CX0 "Transcript" "hash" 1 ["self"] R_Transcript_hash := by
  refine Me.of C 57 d_Transcript_hash rfl rfl rfl rfl (by decide +kernel) (by decide +kernel) sc_Transcript_hash (fun _ _ _ _ _ _ us hl => match us, hl with | [_], _ => rfl) (fun ds M q ex h => ?len) (fun cdv A outer s H E hr => ⟨_, (pss_one (ps_ret (pe_callTy call_list_of rfl (C.free "list") boot_list (pa_cons (pe_fld (pv 0) rfl) pa_nil)))), fun ds M q ex h => ?main⟩)
  case len => obtain ⟨_, _, _, rfl, _⟩ := h; rfl
  case main =>
    obtain ⟨p, t, j, rfl, hj, q0⟩ := h
    walk_at "s"
    walk_at "r"
    refine fld_cellC j (by assumption) hj (by decide +kernel) rfl rfl ?_
    walk_at "w"
    exact q0
theorem sc_Transcript_has_key : FnScope N_Transcript_has_key ["self"] (defScope s_Transcript_has_key) := ⟨rfl, rfl, rfl, by decide +kernel, rfl, by decide +kernel, by decide +kernel⟩
theorem ok_Transcript_has_key (C : Cxt K mg) (h_NumberedKey_has_key : Me P w K mg base CX0 "NumberedKey" "has_key" 1 ["self"] R_NumberedKey_has_key) : Me P w K mg base CX0 "Transcript" "has_key" 2 ["self"] R_Transcript_has_key := by
  refine Me.of C 58 d_Transcript_has_key rfl rfl rfl rfl (by decide +kernel) (by decide +kernel) sc_Transcript_has_key (fun _ _ _ _ _ _ us hl => match us, hl with | [_], _ => rfl) (fun ds M q ex h => ?len) (fun cdv A outer s H E hr => ⟨_, (pss_one (ps_ret (pe_me0 h_NumberedKey_has_key hr (by decide) (pe_fld (pv 0) rfl)))), fun ds M q ex h => ?main⟩)
  case len => obtain ⟨_, _, _, rfl, _⟩ := h; rfl
  case main =>
    obtain ⟨p, t, j, rfl, hj, q0⟩ := h
    walk_at "s"
    walk_at "r"
    refine fld_cellC j (by assumption) hj (by decide +kernel) rfl rfl ?_
    walk_at "w"
    exact ⟨t.key, t.num, rfl, q0⟩
theorem sc_Transcript_split : FnScope N_Transcript_split ["self"] (defScope s_Transcript_split) := ⟨rfl, rfl, rfl, by decide +kernel, rfl, by decide +kernel, by decide +kernel⟩
theorem ok_Transcript_split (C : Cxt K mg) (h_two_values : Fn P w K mg base CX0 "two_values" 6 ["suite", "chain", "data"] R_two_values) (h_Transcript_check_open : Me P w K mg base (L2.CX P w) "Transcript" "check_open" 1 ["self"] (R_Transcript_check_open K)) : Me P w K mg base (L2.CX P w) "Transcript" "split" 7 ["self"] (R_Transcript_split K) := by
  refine Me.ofX C 59 d_Transcript_split rfl rfl rfl rfl (by decide +kernel) (by decide +kernel) sc_Transcript_split (fun _ _ _ _ _ _ us hl => match us, hl with | [_], _ => rfl) (fun ds M q ex h => ?len) (fun cdv A outer s H E hr => ⟨_, (pss_cons (ps_expr (pe_meX0 h_Transcript_check_open hr (by decide) (takes_of rfl rfl rfl rfl) (pv 0)))
      (pss_cons (ps_asg (pe_fn h_two_values hr (by decide) rfl (pa_cons (pe_fld (pv 0) rfl) (pa_cons (pe_fld (pv 0) rfl) (pa_cons (pe_lst pa_nil) pa_nil)))) (pg_tup rfl (pgs_cons (pg_name (i := 1) sc_Transcript_split.nd rfl (Or.inl rfl)) (pgs_cons (pg_name (i := 2) sc_Transcript_split.nd rfl (Or.inl rfl)) pgs_nil))))
      (pss_cons (ps_fld (pv 0) pe_bl rfl)
      (pss_cons (ps_set (i := 3) sc_Transcript_split.nd rfl (Or.inl rfl) (pe_fld (pe_fld (pv 0) rfl) rfl))
      (pss_one (ps_ret (pe_tup (pa_cons (pe_slice slU (pv 1) po_none (po_some (pv 3))) (pa_cons (pe_slice slU (pv 2) po_none (po_some (pv 3))) pa_nil))))))))), fun ds M q ex h => ?main⟩)
  case len => obtain ⟨_, _, _, rfl, _⟩ := h; rfl
  case main =>
    obtain ⟨p, t, M0, rfl, rfl, o, h1, h2⟩ := h
    walk_at "s"
    walk_at "d"
    refine xx_drop (evx_meth ?_)
    walk_at "w"
    refine ⟨p, t, M0, rfl, rfl, fun he => ?_, fun he => h2 he⟩
    walk_at "w"
    refine ev_lst (ea_nil ⟨by decide, ?_⟩)
    walk_at "w"
    refine ⟨_, [], rfl, o.c1, o.c2, fun _ z => (by cases z), by decide, ?_⟩
    walk_at "w"
    walk_at "r"
    refine sl_lstD ?_
    rw [show (16 : Int) = ((16 : Nat) : Int) from rfl, cutD_to, List.take_of_length_le (by rw [List.length_map, show (twoM t.chain []).1.length = 16 from keyM_len _ _]; decide)]
    walk_at "w"
    refine sl_lstD ?_
    rw [cutD_to, List.take_of_length_le (by rw [List.length_map, show (twoM t.chain []).2.length = 16 from keyM_len _ _]; decide)]
    walk_at "w"
    exact h1 he
theorem sc_Transcript_twin : FnScope N_Transcript_twin ["self"] (defScope s_Transcript_twin) := ⟨rfl, rfl, rfl, by decide +kernel, rfl, by decide +kernel, by decide +kernel⟩
theorem ok_Transcript_twin (C : Cxt K mg) (h_NumberedKey_twin : Me P w K mg base CX0 "NumberedKey" "twin" 4 ["self"] R_NumberedKey_twin) (h_Transcript___init__ : Ma P w K mg base CX0 "Transcript" 6 ["self", "suite", "label"] R_Transcript___init__) : Me P w K mg base CX0 "Transcript" "twin" 8 ["self"] R_Transcript_twin := by
  refine Me.of C 60 d_Transcript_twin rfl rfl rfl rfl (by decide +kernel) (by decide +kernel) sc_Transcript_twin (fun _ _ _ _ _ _ us hl => match us, hl with | [_], _ => rfl) (fun ds M q ex h => ?len) (fun cdv A outer s H E hr => ⟨_, (pss_cons (ps_set (i := 1) sc_Transcript_twin.nd rfl (Or.inl rfl) (pe_ma h_Transcript___init__ hr (by decide) rfl (pa_cons (pe_fld (pv 0) rfl) (pa_cons pe_str pa_nil))))
      (pss_cons (ps_fld (pv 1) (pe_callTy call_list_of rfl (C.free "list") boot_list (pa_cons (pe_fld (pv 0) rfl) pa_nil)) rfl)
      (pss_cons (ps_fld (pv 1) (pe_callTy call_list_of rfl (C.free "list") boot_list (pa_cons (pe_fld (pv 0) rfl) pa_nil)) rfl)
      (pss_cons (ps_fld (pv 1) (pe_me0 h_NumberedKey_twin hr (by decide) (pe_fld (pv 0) rfl)) rfl)
      (pss_cons (ps_fld (pv 1) (pe_fld (pv 0) rfl) rfl)
      (pss_one (ps_ret (pv 1)))))))), fun ds M q ex h => ?main⟩)
  case len => obtain ⟨_, _, _, rfl, _⟩ := h; rfl
  case main =>
    obtain ⟨p, t, M0, rfl, rfl, o, q0⟩ := h
    walk_at "s"
    walk_at "w"
    refine ev_make ?_
    walk_at "w"
    intro p2 hp2
    refine ⟨p2, _, _, rfl, rfl, fun _ z => (by cases z), by decide, rfl, ?_⟩
    repeat ((fail_if_success (with_reducible refine xs_seq (xs_fld (ev_meth ?_)))); walk_at "d")
    refine xs_seq (xs_fld (ev_frz ?_))
    walk_at "w"
    refine ⟨t.key, t.num, rfl, o.k, fun p3 hp3 => ?_⟩
    refine ⟨p3, 0, _, rfl, rfl, ?_⟩
    walk_at "w"
    walk_at "r"
    exact q0 p2 hp2
end
section
variable {P : Program} {w : World} {K : PySem.W.Frag} {mg : Str → Option Value} {base : Heap}
theorem sc_Pattern___init__ : FnScope N_Pattern___init__ ["self", "name", "before", "messages"] (defScope s_Pattern___init__) := ⟨rfl, rfl, rfl, by decide +kernel, rfl, by decide +kernel, by decide +kernel⟩
theorem ok_Pattern___init__ (C : Cxt K mg) : Ma P w K mg base CX0 "Pattern" 1 ["self", "name", "before", "messages"] R_Pattern___init__ := by
  refine Ma.of C 0 d_Pattern___init__ rfl rfl rfl rfl (by decide +kernel) (by decide +kernel) sc_Pattern___init__ (fun _ _ _ _ _ _ us hl => match us, hl with | [_, _, _, _], _ => rfl) (fun ds M q ex h => ?len) (fun cdv A outer s H E hr => ⟨_, (pss_cons (ps_fld (pv 0) (pv 1) rfl)
      (pss_cons (ps_fld (pv 0) (pv 2) rfl)
      (pss_one (ps_fld (pv 0) (pv 3) rfl)))), fun ds M q ex h => ?main⟩)
  case len => obtain ⟨_, _, _, _, _, rfl, _⟩ := h; rfl
  case main =>
    obtain ⟨p, n, b, ms, M0, rfl, rfl, k⟩ := h
    walk_at "s"
    walk_at "w"
    exact k
theorem sc_parse_line : FnScope N_parse_line ["line"] (defScope s_parse_line) := ⟨rfl, rfl, rfl, by decide +kernel, rfl, by decide +kernel, by decide +kernel⟩
theorem ok_parse_line (C : Cxt K mg) : Fn P w K mg base CX0 "parse_line" 1 ["line"] R_parse_line := by
  refine Fn.of C 1 d_parse_line rfl rfl rfl rfl (by decide +kernel) sc_parse_line (fun _ _ _ _ _ _ us hl => match us, hl with | [_], _ => rfl) (fun ds M q ex h => ?len) (fun cdv A outer s H E hr => ⟨_, (pss_cons (ps_set (i := 1) sc_parse_line.nd rfl (Or.inl rfl) (pe_slice slU (pv 0) po_none (po_some pe_int)))
      (pss_cons (ps_if (PW.pt (pw_or (PW.pt (pw_and (pt_cmpR (opNeU hr.units) (pv 1) (pe_gstr rfl (C.str "OPENER" "->")) (nomark _)) (pw_and1 (pt_cmpR (opNeU hr.units) (pv 1) (pe_gstr rfl (C.str "ANSWERER" "<-")) (nomark _))))) (pw_or1 (pt_cmpR (opNeU hr.units) (pe_slice slU (pv 0) (po_some pe_int) (po_some pe_int)) pe_str (nomark _))))) (pss_one ps_never) pss_nil)
      (pss_cons (ps_set (i := 2) sc_parse_line.nd rfl (Or.inl rfl) (pe_callTy call_tuple_of rfl (C.free "tuple") boot_tuple (pa_cons (pe_bm PySem.F.plainAttrs_str PySem.F.slot_str_split PySem.F.type_str_split mt_split (pe_slice slU (pv 0) (po_some pe_int) po_none) (pa_cons pe_str pa_nil)) pa_nil)))
      (pss_cons (ps_for PassesOwn.never rfl (pi_seq (pv 2)) (pg_name (i := 3) sc_parse_line.nd rfl (Or.inl rfl)) (pss_one (ps_if (pt_cmpR (opNotInU (u65 hr)) (pv 3) (pe_gref rfl (C.glo "TOKENS")) (by rfl)) (pss_one ps_never) pss_nil)))
      (pss_one (ps_ret (pe_tup (pa_cons (pv 1) (pa_cons (pv 2) pa_nil))))))))), fun ds M q ex h => ?main⟩)
  case len => obtain ⟨_, rfl, _⟩ := h; rfl
  case main =>
    obtain ⟨m, rfl, o, k⟩ := h
    have hl := line_len o
    have hl2 : (lineS m).length ≤ 100 := by unfold lineS; rw [SX.S_len]; exact hl
    have hsz : sizeLine = 16777216 := rfl
    walk_at "s"
    walk_at "w"
    refine sl_strD (by omega) ?_
    rw [line_to]
    walk_at "w"
    obtain ⟨b, ts⟩ := m
    cases b with
    | false =>
      refine ite_no (no_not (show arrow false = "->" by decide +kernel)) ?_
      refine ite_no (by decide) ?_
      walk_at "w"
      refine sl_strD (by omega) ?_
      rw [line_mid]
      walk_at "w"
      refine ite_no (by decide +kernel) ?_
      walk_at "w"
      refine sl_strD (by omega) ?_
      rw [line_from]
      refine ⟨ty_str, ?_⟩
      walk_at "w"
      refine bm_split (by decide +kernel) (by rw [SX.S_len]; unfold lineL at hl; rw [List.length_append, List.length_append] at hl; omega) ?_
      rw [line_split o]
      walk_at "w"
      refine cb_tuple ?_
      walk_at "w"
      refine xs_forR ts D.str (fun (_ : Unit) _ => ()) () (fun i _ Γ M' => M' = M ∧ ∃ x, Γ = [some (.str (lineS (false, ts))), some (.str (arrow false)), some (strsT ts), x]) ?_
      refine it_seq ?_
      walk_at "w"
      refine ⟨_, .inr rfl, rfl, ⟨rfl, _, rfl⟩, ?_, ?_⟩
      · rintro i t _ Γ' M' ht _ ⟨rfl, x, rfl⟩
        have ht := o.tok t (List.mem_of_getElem? ht)
        walk_at "w"
        refine ev_con C.tokens ?_
        refine notInU_strT (tok_ok t ht) (by exact tok_ok) ?_
        walk_at "w"
        refine ite_no (no_not ht) ?_
        walk_at "w"
        exact ⟨(), rfl, rfl, _, rfl⟩
      · rintro _ Γ' M' _ ⟨rfl, x, rfl⟩
        walk_at "r"
        exact k
    | true =>
      refine ite_yes (yes_not (show ¬ arrow true = "->" by decide +kernel)) ?_
      walk_at "w"
      refine ite_no (no_not (show arrow true = "<-" by decide +kernel)) ?_
      walk_at "w"
      refine sl_strD (by omega) ?_
      rw [line_mid]
      walk_at "w"
      refine ite_no (by decide +kernel) ?_
      walk_at "w"
      refine sl_strD (by omega) ?_
      rw [line_from]
      refine ⟨ty_str, ?_⟩
      walk_at "w"
      refine bm_split (by decide +kernel) (by rw [SX.S_len]; unfold lineL at hl; rw [List.length_append, List.length_append] at hl; omega) ?_
      rw [line_split o]
      walk_at "w"
      refine cb_tuple ?_
      walk_at "w"
      refine xs_forR ts D.str (fun (_ : Unit) _ => ()) () (fun i _ Γ M' => M' = M ∧ ∃ x, Γ = [some (.str (lineS (true, ts))), some (.str (arrow true)), some (strsT ts), x]) ?_
      refine it_seq ?_
      walk_at "w"
      refine ⟨_, .inr rfl, rfl, ⟨rfl, _, rfl⟩, ?_, ?_⟩
      · rintro i t _ Γ' M' ht _ ⟨rfl, x, rfl⟩
        have ht := o.tok t (List.mem_of_getElem? ht)
        walk_at "w"
        refine ev_con C.tokens ?_
        refine notInU_strT (tok_ok t ht) (by exact tok_ok) ?_
        walk_at "w"
        refine ite_no (no_not ht) ?_
        walk_at "w"
        exact ⟨(), rfl, rfl, _, rfl⟩
      · rintro _ Γ' M' _ ⟨rfl, x, rfl⟩
        walk_at "r"
        exact k
theorem sc_parse_before : FnScope N_parse_before ["lines"] (defScope s_parse_before) := ⟨rfl, rfl, rfl, by decide +kernel, rfl, by decide +kernel, by decide +kernel⟩
theorem ok_parse_before (C : Cxt K mg) (h_parse_line : Fn P w K mg base CX0 "parse_line" 1 ["line"] R_parse_line) : Fn P w K mg base CX0 "parse_before" 2 ["lines"] R_parse_before := by
  refine Fn.of C 2 d_parse_before rfl rfl rfl rfl (by decide +kernel) sc_parse_before (fun _ _ _ _ _ _ us hl => match us, hl with | [_], _ => rfl) (fun ds M q ex h => ?len) (fun cdv A outer s H E hr => ⟨_, (pss_cons (ps_set (i := 1) sc_parse_before.nd rfl (Or.inl rfl) (pe_tup pa_nil))
      (pss_cons (ps_set (i := 2) sc_parse_before.nd rfl (Or.inl rfl) (pe_tup pa_nil))
      (pss_cons (ps_set (i := 3) sc_parse_before.nd rfl (Or.inl rfl) (pe_lst pa_nil))
      (pss_cons (ps_for PassesOwn.never rfl (pi_seq (pv 0)) (pg_name (i := 4) sc_parse_before.nd rfl (Or.inl rfl)) (pss_cons (ps_asg (pe_fn h_parse_line hr (by decide) rfl (pa_cons (pv 4) pa_nil)) (pg_tup rfl (pgs_cons (pg_name (i := 5) sc_parse_before.nd rfl (Or.inl rfl)) (pgs_cons (pg_name (i := 6) sc_parse_before.nd rfl (Or.inl rfl)) pgs_nil))))
      (pss_cons (ps_if (pt_cmpR (opNotInU (u65 hr)) (pv 6) (pe_gref rfl (C.glo "BEFORE")) (by rfl)) (pss_one ps_never) pss_nil)
      (pss_cons (ps_expr (pe_bm PySem.F.plainAttrs_list PySem.F.slot_list_append PySem.F.type_list_append mt_append (pv 3) (pa_cons (pv 5) pa_nil)))
      (pss_one (ps_if (pt_cmpR (opEqU hr.units) (pv 5) (pe_gstr rfl (C.str "OPENER" "->")) (nomark _)) (pss_one (ps_set (i := 1) sc_parse_before.nd rfl (Or.inl rfl) (pv 6))) (pss_one (ps_set (i := 2) sc_parse_before.nd rfl (Or.inl rfl) (pv 6)))))))))
      (pss_cons (ps_if (PW.pt (pw_and (pt_cmpR (opNeU hr.units) (pv 3) (pe_lst (pa_cons (pe_gstr rfl (C.str "OPENER" "->")) pa_nil)) (nomark _)) (pw_and (pt_cmpR (opNeU hr.units) (pv 3) (pe_lst (pa_cons (pe_gstr rfl (C.str "ANSWERER" "<-")) pa_nil)) (nomark _)) (pw_and1 (pt_cmpR (opNeU hr.units) (pv 3) (pe_lst (pa_cons (pe_gstr rfl (C.str "OPENER" "->")) (pa_cons (pe_gstr rfl (C.str "ANSWERER" "<-")) pa_nil))) (nomark _)))))) (pss_one ps_never) pss_nil)
      (pss_one (ps_ret (pe_tup (pa_cons (pv 1) (pa_cons (pv 2) pa_nil)))))))))), fun ds M q ex h => ?main⟩)
  case len => obtain ⟨_, rfl, _⟩ := h; rfl
  case main =>
    obtain ⟨b, rfl, ⟨o1, o2⟩, hne, k⟩ := h
    have hsz : sizeLine = 16777216 := rfl
    have hlen : (befLines b).length ≤ 2 := by unfold befLines; split <;> split <;> simp
    have hok : ∀ m ∈ befLines b, okL m ∧ m.2 ∈ BEF ∧ m.2 ≠ [] := by
      intro m hm
      unfold befLines at hm
      rcases List.mem_append.mp hm with hm | hm
      · split at hm
        · cases hm
        · rename_i hb
          cases List.mem_singleton.mp hm
          exact ⟨bef_line o1 hb false, o1, hb⟩
      · split at hm
        · cases hm
        · rename_i hb
          cases List.mem_singleton.mp hm
          exact ⟨bef_line o2 hb true, o2, hb⟩
    have hfin : runB (([], []), []) (befLines b) = (b, (befLines b).map (·.1)) := by
      obtain ⟨b1, b2⟩ := b
      unfold befLines
      by_cases h1 : b1 = [] <;> by_cases h2 : b2 = [] <;> simp [h1, h2, runB]
    have hseq : (befLines b).map (·.1) = [false] ∨ (befLines b).map (·.1) = [true] ∨ (befLines b).map (·.1) = [false, true] := by
      unfold befLines at hne ⊢
      by_cases h1 : b.1 = [] <;> by_cases h2 : b.2 = [] <;> simp [h1, h2] at hne ⊢
    walk_at "s"
    walk_at "w"
    refine ev_lstC (ea_nil ⟨by decide, fun p hp => ?_⟩)
    walk_at "w"
    refine xs_forR (befLines b) (fun m => .str (lineS m)) runB (([], []), []) (fun i s Γ M' => M' = (p, .lst (s.2.map arD)) :: M ∧ s.2.length = i ∧ ∃ x y z, Γ = [some (.lst ((befLines b).map fun m => .str (lineS m))), some (strsT s.1.1), some (strsT s.1.2), some (.ref p), x, y, z]) ?_
    refine it_seq ?_
    walk_at "w"
    refine ⟨_, .inl rfl, rfl, ⟨rfl, rfl, _, _, _, rfl⟩, ?_, ?_⟩
    · rintro i m s Γ' M' hm hr0 ⟨rfl, hsl, x, y, z, rfl⟩
      obtain ⟨k1, k2, k3⟩ := hok m (List.mem_of_getElem? hm)
      have hi : i < (befLines b).length := (List.getElem?_eq_some_iff.mp hm).1
      walk_at "w"
      refine ⟨m, rfl, k1, ?_⟩
      walk_at "w"
      refine ev_con C.before ?_
      have hin : m.2 ∈ ([["e"], ["s"], ["e", "s"]] : List (List Str)) := by
        rcases List.mem_cons.mp k2 with z | z
        · exact absurd z k3
        · exact z
      refine notInU_of (f := strsT) (n := 1) (x := m.2) (xs := [["e"], ["s"], ["e", "s"]]) (.inr rfl) (by decide) (eqv_strsT 0) (bef_ok _ k2) (fun a ha => bef_ok a (List.mem_cons_of_mem _ ha)) ?_
      walk_at "w"
      refine ite_no (no_not hin) ?_
      walk_at "w"
      refine ⟨ty_cell (j := 0) rfl, ?_⟩
      walk_at "w"
      refine bm_app (f := arD) 0 rfl (by omega) ?_
      walk_at "w"
      obtain ⟨mb, mt⟩ := m
      cases mb with
      | false =>
        refine ite_yes (yes_dec (show arrow false = "->" by decide +kernel)) ?_
        walk_at "w"
        exact ⟨_, hr0, rfl, by simp [hsl], _, _, _, rfl⟩
      | true =>
        refine ite_no (no_dec (show ¬ arrow true = "->" by decide +kernel)) ?_
        walk_at "w"
        exact ⟨_, hr0, rfl, by simp [hsl], _, _, _, rfl⟩
    · rintro s Γ' M' hr0 ⟨rfl, hsl, x, y, z, rfl⟩
      have hr0 : s = _ := hr0
      rw [hfin] at hr0
      subst hr0
      refine sd_frz (i := 3) (j := 0) rfl rfl ?_
      have cmp : ∀ (l : List Bool) (q : D → Mem → Prop), q (.bl (!decide ((befLines b).map (·.1) = l))) M → OpD K (rNeU K) (.lst (((befLines b).map (·.1)).map arD)) (.lst (l.map arD)) M q := fun l q hq => by
        refine neU_deep 1 (by decide) ?_ ?_ ?_
        · show (List.map arD _).all _ = true
          rw [List.all_map]; exact List.all_eq_true.mpr fun a _ => arrow_ok a
        · show (List.map arD _).all _ = true
          rw [List.all_map]; exact List.all_eq_true.mpr fun a _ => arrow_ok a
        · rw [eqv_lst (arD_inj 0)]; exact hq
      walk_at "w"
      refine ev_lst ?_
      walk_at "w"
      refine cmp [false] _ ?_
      walk_at "w"
      rcases hseq with h | h | h
      · refine ite_no (no_not h) ?_
        refine ite_no (by decide) ?_
        walk_at "w"
        walk_at "r"
        exact k
      · refine ite_yes (yes_not (by rw [h]; decide)) ?_
        walk_at "w"
        refine ev_lst ?_
        walk_at "w"
        refine cmp [true] _ ?_
        walk_at "w"
        refine ite_no (no_not h) ?_
        refine ite_no (by decide) ?_
        walk_at "w"
        walk_at "r"
        exact k
      · refine ite_yes (yes_not (by rw [h]; decide)) ?_
        walk_at "w"
        refine ev_lst ?_
        walk_at "w"
        refine cmp [true] _ ?_
        walk_at "w"
        refine ite_yes (yes_not (by rw [h]; decide)) ?_
        walk_at "w"
        refine ev_lst ?_
        walk_at "w"
        refine cmp [false, true] _ ?_
        walk_at "w"
        refine ite_no (no_not h) ?_
        walk_at "w"
        walk_at "r"
        exact k
theorem sc_parse_messages : FnScope N_parse_messages ["lines"] (defScope s_parse_messages) := ⟨rfl, rfl, rfl, by decide +kernel, rfl, by decide +kernel, by decide +kernel⟩
theorem ok_parse_messages (C : Cxt K mg) (h_parse_line : Fn P w K mg base CX0 "parse_line" 1 ["line"] R_parse_line) : Fn P w K mg base CX0 "parse_messages" 2 ["lines"] R_parse_messages := by
  refine Fn.of C 3 d_parse_messages rfl rfl rfl rfl (by decide +kernel) sc_parse_messages (fun _ _ _ _ _ _ us hl => match us, hl with | [_], _ => rfl) (fun ds M q ex h => ?len) (fun cdv A outer s H E hr => ⟨_, (pss_cons (ps_set (i := 1) sc_parse_messages.nd rfl (Or.inl rfl) (pe_callTy call_tuple_of rfl (C.free "tuple") boot_tuple (pa_cons (pe_lc (own := [("line", 5)]) rfl sc_parse_messages.nd (pi_seq (pv 0)) (blkOk_by (N := N_parse_messages) (sc := defScope s_parse_messages) (by decide +kernel)) (fun _ _ _ _ _ => (pg_name (i := 5) sc_parse_messages.nd rfl (Or.inl rfl))) (fun _ _ _ _ _ => pts_nil) (fun _ _ _ _ _ => (pe_fnK (K := K) rfl h_parse_line hr (by decide) rfl (pa_cons (pv 5) pa_nil)))) pa_nil)))
      (pss_cons (ps_if (pt_cmpR op_gt (pe_callB call_len rfl (C.free "len") boot_len (pa_cons (pv 1) pa_nil)) pe_int (nomark _)) (pss_one ps_never) pss_nil)
      (pss_cons (ps_set (i := 2) sc_parse_messages.nd rfl (Or.inl rfl) pe_str)
      (pss_cons (ps_for PassesOwn.never rfl (pi_seq (pv 1)) (pg_tup rfl (pgs_cons (pg_name (i := 3) sc_parse_messages.nd rfl (Or.inl rfl)) (pgs_cons (pg_name (i := 4) sc_parse_messages.nd rfl (Or.inl rfl)) pgs_nil))) (pss_cons (ps_if (pt_cmpR (opEqU hr.units) (pv 3) (pv 2) (nomark _)) (pss_one ps_never) pss_nil)
      (pss_cons (ps_if (pt_cmpR op_gt (pe_callB call_len rfl (C.free "len") boot_len (pa_cons (pv 4) pa_nil)) pe_int (nomark _)) (pss_one ps_never) pss_nil)
      (pss_one (ps_set (i := 2) sc_parse_messages.nd rfl (Or.inl rfl) (pv 3))))))
      (pss_one (ps_ret (pv 1))))))), fun ds M q ex h => ?main⟩)
  case len => obtain ⟨_, rfl, _⟩ := h; rfl
  case main =>
    obtain ⟨ms, rfl, o, k⟩ := h
    have hsz : sizeLine = 16777216 := rfl
    have hle := o.le
    walk_at "s"
    walk_at "w"
    refine ev_lcM ms (fun m => .str (lineS m)) msgD (own_name (by decide)) ?_
    refine it_seq ?_
    walk_at "w"
    refine ⟨_, .inl rfl, rfl, by omega, ?_, ?_⟩
    · intro i m hm
      walk_at "w"
      refine ⟨rfl, ?_⟩
      walk_at "w"
      exact ⟨m, rfl, o.line (List.mem_of_getElem? hm), rfl, rfl⟩
    · walk_at "w"
      refine cb_tuple ?_
      walk_at "w"
      rw [List.length_map]
      walk_at "d_n"
      refine xs_forR ms msgD (fun (_ : Unit) _ => ()) () (fun i _ Γ M' => M' = M ∧ ∃ l x y z, (∀ m, ms[i]? = some m → l ≠ arrow m.1) ∧ Γ = [some (.lst (ms.map fun m => .str (lineS m))), some (msgsD ms), some (.str l), x, y, z]) ?_
      refine it_seq ?_
      walk_at "w"
      refine ⟨_, .inr rfl, rfl, ⟨rfl, _, _, _, _, ?_, rfl⟩, ?_, ?_⟩
      · intro m _; cases m.1 <;> decide +kernel
      · rintro i m _ Γ' M' hm _ ⟨rfl, l, x, y, z, hl, rfl⟩
        have ho := o.line (List.mem_of_getElem? hm)
        have hol := ho.le
        walk_at "w"
        refine ite_no (no_dec (fun e => hl m hm e.symm)) ?_
        walk_at "w"
        rw [List.length_map]
        walk_at "d_n"
        refine ⟨(), rfl, rfl, _, _, _, _, ?_, rfl⟩
        intro m2 hm2 e
        exact alt_next o.al i m m2 hm hm2 (arrow_inj.mp e)
      · rintro _ Γ' M' _ ⟨rfl, l, x, y, z, hl, rfl⟩
        walk_at "r"
        exact k
end
section
variable {P : Program} {w : World} {K : PySem.W.Frag} {mg : Str → Option Value} {base : Heap}
theorem sc_parse_pattern : FnScope N_parse_pattern ["text"] (defScope s_parse_pattern) := ⟨rfl, rfl, rfl, by decide +kernel, rfl, by decide +kernel, by decide +kernel⟩
theorem ok_parse_pattern (C : Cxt K mg) (h_Pattern___init__ : Ma P w K mg base CX0 "Pattern" 1 ["self", "name", "before", "messages"] R_Pattern___init__) (h_parse_messages : Fn P w K mg base CX0 "parse_messages" 2 ["lines"] R_parse_messages) (h_parse_before : Fn P w K mg base CX0 "parse_before" 2 ["lines"] R_parse_before) : Fn P w K mg base CX0 "parse_pattern" 3 ["text"] R_parse_pattern := by
  refine Fn.of C 4 d_parse_pattern rfl rfl rfl rfl (by decide +kernel) sc_parse_pattern (fun _ _ _ _ _ _ us hl => match us, hl with | [_], _ => rfl) (fun ds M q ex h => ?len) (fun cdv A outer s H E hr => ⟨_, (pss_cons (ps_set (i := 1) sc_parse_pattern.nd rfl (Or.inl rfl) (pe_bm PySem.F.plainAttrs_str PySem.F.slot_str_split PySem.F.type_str_split mt_split (pv 0) (pa_cons pe_str pa_nil)))
      (pss_cons (ps_set (i := 2) sc_parse_pattern.nd rfl (Or.inl rfl) (pe_tup (pa_cons (pe_tup pa_nil) (pa_cons (pe_tup pa_nil) pa_nil))))
      (pss_cons (ps_if (pt_cmpR (opInU (u65 hr)) pe_str (pv 1) (by rfl)) (pss_cons (ps_set (i := 3) sc_parse_pattern.nd rfl (Or.inl rfl) (pe_bm PySem.F.plainAttrs_list PySem.F.slot_list_index PySem.F.type_list_index mt_index (pv 1) (pa_cons pe_str pa_nil)))
      (pss_cons (ps_set (i := 2) sc_parse_pattern.nd rfl (Or.inl rfl) (pe_fn h_parse_before hr (by decide) rfl (pa_cons (pe_slice slU (pv 1) po_none (po_some (pv 3))) pa_nil)))
      (pss_one (ps_set (i := 1) sc_parse_pattern.nd rfl (Or.inl rfl) (pe_slice slU (pv 1) (po_some (pe_op opAddU (pv 3) pe_int)) po_none))))) pss_nil)
      (pss_cons (ps_if (pt_cmpR (opEqU hr.units) (pv 1) (pe_lst pa_nil) (nomark _)) (pss_one ps_never) pss_nil)
      (pss_one (ps_ret (pe_ma h_Pattern___init__ hr (by decide) rfl (pa_cons pe_str (pa_cons (pv 2) (pa_cons (pe_fn h_parse_messages hr (by decide) rfl (pa_cons (pv 1) pa_nil)) pa_nil)))))))))), fun ds M q ex h => ?main⟩)
  case len => obtain ⟨_, _, rfl, _⟩ := h; rfl
  case main =>
    obtain ⟨b, ms, rfl, ob, om, k⟩ := h
    have hsz : sizeLine = 16777216 := rfl
    have hlen := text_len ob om
    have hok : ∀ x ∈ patLines b ms, PyData.strOk x = true := fun x hx => (pat_lines_ok ob om x hx).2.1
    have hmm : ∀ (q : D → Mem → Prop), q (bys []) M → True := fun _ _ => trivial
    have hne : ms.map lineS ≠ [] := by simpa using om.ne
    have hml : ∀ x ∈ ms.map lineS, PyData.strOk x = true := fun x hx => by
      obtain ⟨m, hm, rfl⟩ := List.mem_map.mp hx
      exact line_strOk (om.line hm)
    have emap : ∀ xs : List Msg, (xs.map lineS).map D.str = xs.map fun m => .str (lineS m) := fun xs => by rw [List.map_map]; rfl
    walk_at "s"
    walk_at "w"
    refine ⟨ty_str, ?_⟩
    walk_at "w"
    refine bm_split (by decide +kernel) (by unfold textS; rw [SX.S_len]; omega) ?_
    rw [text_split ob om]
    walk_at "w"
    refine inU_strL (by decide +kernel) hok ?_
    walk_at "w"
    by_cases hb : befLines b = []
    · have e1 : patLines b ms = ms.map lineS := by unfold patLines; rw [if_pos hb, List.nil_append]
      have e2 : b = ([], []) := by
        obtain ⟨b1, b2⟩ := b
        unfold befLines at hb
        by_cases h1 : b1 = [] <;> by_cases h2 : b2 = [] <;> simp [h1, h2] at hb ⊢
      rw [e1]
      refine ite_no (no_dec (fun h => ?_)) ?_
      · obtain ⟨m, _, h⟩ := List.mem_map.mp h
        exact line_dots m h
      · walk_at "w"
        refine ev_lst (ea_nil ⟨by decide, ?_⟩)
        walk_at "w"
        refine eqU_strsL (b := []) hml (fun _ z => by cases z) ?_
        walk_at "w"
        refine ite_no (no_dec hne) ?_
        walk_at "w"
        refine xs_ret (ev_frz (ev_make ?_))
        walk_at "w"
        refine ⟨ms, by rw [← emap], om, ?_⟩
        walk_at "w"
        intro p hp
        refine ⟨p, "", ([], []), ms, M, rfl, rfl, rfl, ?_⟩
        refine ⟨p, 0, _, rfl, rfl, ?_⟩
        rw [e2] at k
        exact k
    · have e1 : patLines b ms = (befLines b).map lineS ++ (dots :: ms.map lineS) := by unfold patLines; rw [if_neg hb, List.append_assoc]; rfl
      have hbl := bef_lines_len b
      have hat : (patLines b ms)[(befLines b).length]? = some dots := by
        rw [e1, List.getElem?_append_right (by simp)]; simp
      rw [e1]
      rw [e1] at hat
      refine ite_yes (yes_dec (List.mem_append_right _ List.mem_cons_self)) ?_
      walk_at "w"
      refine ⟨ty_lst, ?_⟩
      walk_at "w"
      refine bm_index (j := (befLines b).length) hat (fun m hm hx => ?_) ?_
      · rw [List.getElem?_append_left (by simpa using hm), List.getElem?_map] at hx
        obtain ⟨y, _, hy⟩ := Option.map_eq_some_iff.mp hx
        exact line_dots y hy
      · walk_at "w"
        refine sl_lstD ?_
        rw [cutD_to, ← List.map_take, List.take_append_of_le_length (by simp), List.take_of_length_le (by simp), emap]
        walk_at "w"
        refine ⟨b, rfl, ob, hb, ?_⟩
        walk_at "w"
        refine sl_lstD ?_
        have e3 : (((befLines b).length : Nat) : Int) + 1 = (((befLines b).length + 1 : Nat) : Int) := by omega
        rw [e3, cutD_from, ← List.map_drop]
        have e4 : ((befLines b).map lineS ++ (dots :: ms.map lineS)).drop ((befLines b).length + 1) = ms.map lineS := by
          rw [List.drop_append, List.drop_eq_nil_of_le (by simp), List.length_map, List.nil_append, show (befLines b).length + 1 - (befLines b).length = 1 by omega]
          rfl
        rw [e4]
        walk_at "w"
        refine ev_lst (ea_nil ⟨by decide, ?_⟩)
        walk_at "w"
        refine eqU_strsL (b := []) hml (fun _ z => by cases z) ?_
        walk_at "w"
        refine ite_no (no_dec hne) ?_
        walk_at "w"
        refine xs_ret (ev_frz (ev_make ?_))
        walk_at "w"
        refine ⟨ms, by rw [← emap], om, ?_⟩
        walk_at "w"
        intro p hp
        refine ⟨p, "", b, ms, M, rfl, rfl, rfl, ?_⟩
        exact ⟨p, 0, _, rfl, rfl, k⟩
end
section
variable {P : Program} {w : World} {K : PySem.W.Frag} {mg : Str → Option Value} {base : Heap}
theorem sc_transport_senders : FnScope N_transport_senders ["pattern"] (defScope s_transport_senders) := ⟨rfl, rfl, rfl, by decide +kernel, rfl, by decide +kernel, by decide +kernel⟩
theorem ok_transport_senders (C : Cxt K mg) : Fn P w K mg base CX0 "transport_senders" 1 ["pattern"] R_transport_senders := by
  refine Fn.of C 5 d_transport_senders rfl rfl rfl rfl (by decide +kernel) sc_transport_senders (fun _ _ _ _ _ _ us hl => match us, hl with | [_], _ => rfl) (fun ds M q ex h => ?len) (fun cdv A outer s H E hr => ⟨_, (pss_cons (ps_if (pt_cmpR (opEqU hr.units) (pe_callB call_len rfl (C.free "len") boot_len (pa_cons (pe_fld (pv 0) rfl) pa_nil)) pe_int (nomark _)) (pss_one (ps_ret (pe_lst (pa_cons (pe_ix ix_seq (pe_ix ix_seq (pe_fld (pv 0) rfl) pe_int (fun _ _ => rfl)) pe_int (fun _ _ => rfl)) pa_nil)))) pss_nil)
      (pss_one (ps_ret (pe_lst (pa_cons (pe_gstr rfl (C.str "OPENER" "->")) (pa_cons (pe_gstr rfl (C.str "ANSWERER" "<-")) pa_nil)))))), fun ds M q ex h => ?main⟩)
  case len => obtain ⟨_, _, _, rfl, _⟩ := h; rfl
  case main =>
    obtain ⟨n, b, ms, rfl, o, k⟩ := h
    have hne := o.ne
    walk_at "s"
    walk_at "w"
    rw [List.length_map]
    match ms, hne, o, k with
    | [m], _, o, k =>
      refine ite_yes (yes_dec rfl) ?_
      refine xs_ret (ev_lst ?_)
      walk_at "w"
      refine ix_tupD (d := msgD m) rfl ?_
      walk_at "w"
      refine ix_tupD (d := .str (arrow m.1)) rfl ?_
      walk_at "w"
      exact k
    | m :: m2 :: r, _, o, k =>
      refine ite_no (no_dec (by simp only [List.length_cons]; omega)) ?_
      walk_at "w"
      refine xs_ret (ev_lst ?_)
      walk_at "w"
      exact k
theorem sc_pattern_steps : FnScope N_pattern_steps ["pattern"] (defScope s_pattern_steps) := ⟨rfl, rfl, rfl, by decide +kernel, rfl, by decide +kernel, by decide +kernel⟩
theorem ok_pattern_steps (C : Cxt K mg) (h_transport_senders : Fn P w K mg base CX0 "transport_senders" 1 ["pattern"] R_transport_senders) : Fn P w K mg base CX0 "pattern_steps" 2 ["pattern"] R_pattern_steps := by
  refine Fn.of C 6 d_pattern_steps rfl rfl rfl rfl (by decide +kernel) sc_pattern_steps (fun _ _ _ _ _ _ us hl => match us, hl with | [_], _ => rfl) (fun ds M q ex h => ?len) (fun cdv A outer s H E hr => ⟨_, (pss_cons (ps_set (i := 1) sc_pattern_steps.nd rfl (Or.inl rfl) (pe_lst pa_nil))
      (pss_cons (ps_for PassesOwn.never rfl (RZ.pi_zipA rfl (C.free "zip") (pa_cons (pe_tup (pa_cons (pe_gstr rfl (C.str "OPENER" "->")) (pa_cons (pe_gstr rfl (C.str "ANSWERER" "<-")) pa_nil))) (pa_cons (pe_fld (pv 0) rfl) pa_nil))) (pg_tup rfl (pgs_cons (pg_name (i := 2) sc_pattern_steps.nd rfl (Or.inl rfl)) (pgs_cons (pg_name (i := 3) sc_pattern_steps.nd rfl (Or.inl rfl)) pgs_nil))) (pss_one (ps_for PassesOwn.never rfl (pi_seq (pv 3)) (pg_name (i := 4) sc_pattern_steps.nd rfl (Or.inl rfl)) (pss_one (ps_expr (pe_bm PySem.F.plainAttrs_list PySem.F.slot_list_append PySem.F.type_list_append mt_append (pv 1) (pa_cons (pe_tup (pa_cons pe_str (pa_cons (pv 2) (pa_cons (pv 4) pa_nil)))) pa_nil)))))))
      (pss_cons (ps_set (i := 5) sc_pattern_steps.nd rfl (Or.inl rfl) pe_bl)
      (pss_cons (ps_for PassesOwn.never rfl (pi_seq (pe_fld (pv 0) rfl)) (pg_tup rfl (pgs_cons (pg_name (i := 2) sc_pattern_steps.nd rfl (Or.inl rfl)) (pgs_cons (pg_name (i := 3) sc_pattern_steps.nd rfl (Or.inl rfl)) pgs_nil))) (pss_cons (ps_for PassesOwn.never rfl (pi_seq (pv 3)) (pg_name (i := 4) sc_pattern_steps.nd rfl (Or.inl rfl)) (pss_cons (ps_if (PW.pt (pw_and (pt_cmpR (opEqU hr.units) (pv 4) pe_str (nomark _)) (pw_and1 (pt_val (pv 5))))) (pss_one (ps_expr (pe_bm PySem.F.plainAttrs_list PySem.F.slot_list_append PySem.F.type_list_append mt_append (pv 1) (pa_cons (pe_tup (pa_cons pe_str (pa_cons (pv 2) (pa_cons (pv 4) pa_nil)))) pa_nil)))) pss_nil)
      (pss_one (ps_if (PW.pt (pw_or (pt_cmpR (opEqU hr.units) (pv 4) pe_str (nomark _)) (pw_or1 (pt_cmpR (opEqU hr.units) (pv 4) pe_str (nomark _))))) (pss_one (ps_expr (pe_bm PySem.F.plainAttrs_list PySem.F.slot_list_append PySem.F.type_list_append mt_append (pv 1) (pa_cons (pe_tup (pa_cons pe_str (pa_cons (pv 2) (pa_cons (pv 4) pa_nil)))) pa_nil)))) (pss_cons (ps_expr (pe_bm PySem.F.plainAttrs_list PySem.F.slot_list_append PySem.F.type_list_append mt_append (pv 1) (pa_cons (pe_tup (pa_cons pe_str (pa_cons (pv 2) (pa_cons (pv 4) pa_nil)))) pa_nil)))
      (pss_one (ps_set (i := 5) sc_pattern_steps.nd rfl (Or.inl rfl) pe_bl)))))))
      (pss_one (ps_if (pt_val (pv 5)) (pss_one (ps_expr (pe_bm PySem.F.plainAttrs_list PySem.F.slot_list_append PySem.F.type_list_append mt_append (pv 1) (pa_cons (pe_tup (pa_cons pe_str (pa_cons (pv 2) (pa_cons pe_str pa_nil)))) pa_nil)))) pss_nil))))
      (pss_cons (ps_for PassesOwn.never rfl (pi_seq (pe_fn h_transport_senders hr (by decide) rfl (pa_cons (pv 0) pa_nil))) (pg_name (i := 2) sc_pattern_steps.nd rfl (Or.inl rfl)) (pss_one (ps_if (pt_val (pv 5)) (pss_one (ps_expr (pe_bm PySem.F.plainAttrs_list PySem.F.slot_list_append PySem.F.type_list_append mt_append (pv 1) (pa_cons (pe_tup (pa_cons pe_str (pa_cons (pv 2) (pa_cons pe_str pa_nil)))) pa_nil)))) pss_nil)))
      (pss_one (ps_ret (pv 1)))))))), fun ds M q ex h => ?main⟩)
  case len => obtain ⟨_, _, _, rfl, _⟩ := h; rfl
  case main =>
    obtain ⟨n, b, ms, rfl, ob, o, k⟩ := h
    have hsz : sizeLine = 16777216 := rfl
    have hle := o.le
    walk_at "s"
    walk_at "w"
    refine ev_lstC (ea_nil ⟨by decide, fun p hp => ?_⟩)
    walk_at "w"
    -- the pre-messages
    refine xs_forR [(false, b.1), (true, b.2)] msgD (fun s r => s ++ (r.map fun m => m.2.map fun t => (⟨.key, m.1, t⟩ : Stp)).flatten) ([] : List Stp) (fun i s Γ M' => M' = (p, .lst (s.map stpD)) :: M ∧ s.length ≤ 2 * i ∧ ∃ x2 x3 x4 x5, Γ = [some (patD n b ms), some (.ref p), x2, x3, x4, x5]) ?_
    refine it_zip ?_
    walk_at "w"
    refine ⟨[.str "->", .str "<-"], [strsT b.1, strsT b.2], .inr rfl, rfl, ⟨rfl, Nat.le_refl _, _, _, _, _, rfl⟩, ?_, ?_⟩
    · rintro i m s Γ' M' hm hr0 ⟨rfl, hsl, x2, x3, x4, x5, rfl⟩
      have hi : i < 2 := (List.getElem?_eq_some_iff.mp hm).1
      have hml : m.2.length ≤ 2 := by
        have := List.mem_of_getElem? hm
        rcases List.mem_cons.mp this with rfl | this
        · exact (bef_tok _ ob.1).1
        · cases List.mem_singleton.mp this
          exact (bef_tok _ ob.2).1
      walk_at "w"
      refine xs_forR m.2 D.str (fun s r => s ++ r.map fun t => (⟨.key, m.1, t⟩ : Stp)) s (fun j s2 Γ M' => M' = (p, .lst (s2.map stpD)) :: M ∧ s2.length = s.length + j ∧ ∃ x4 x5, Γ = [some (patD n b ms), some (.ref p), some (.str (arrow m.1)), some (strsT m.2), x4, x5]) ?_
      refine it_seq ?_
      walk_at "w"
      refine ⟨_, .inr rfl, rfl, ⟨rfl, rfl, _, _, rfl⟩, ?_, ?_⟩
      · rintro j t s2 Γ' M' ht hr1 ⟨rfl, hs2, x4, x5, rfl⟩
        have hj : j < m.2.length := (List.getElem?_eq_some_iff.mp ht).1
        walk_at "w"
        refine ⟨ty_cell (j := 0) rfl, ?_⟩
        walk_at "w"
        refine bm_app (f := stpD) (x := ⟨.key, m.1, t⟩) 0 rfl (by walk_at "d_o") ?_
        walk_at "w"
        refine ⟨s2 ++ [⟨.key, m.1, t⟩], ?_, rfl, by rw [List.length_append, hs2]; rfl, _, _, rfl⟩
        rw [← hr1, List.map_cons, List.append_assoc]; rfl
      · rintro s2 Γ' M' hr1 ⟨rfl, hs2, x4, x5, rfl⟩
        have hr1 : s2 = s ++ m.2.map fun t => (⟨.key, m.1, t⟩ : Stp) := by simpa using hr1
        refine ⟨s2, ?_, rfl, by omega, _, _, _, _, rfl⟩
        rw [← hr0, hr1, List.map_cons, List.flatten_cons, List.append_assoc]
    · rintro s Γ' M' hr0 ⟨rfl, hsl, x2, x3, x4, x5, rfl⟩
      have hs : s = befSteps b := by
        have : s = _ := (by simpa using hr0 : s = _)
        rw [this]; unfold befSteps; simp
      subst hs
      have hbl : (befSteps b).length ≤ 4 := hsl
      clear hr0 hsl
      walk_at "w"
      -- the messages
      refine xs_forR ms msgD runM (befSteps b, false) (fun i s Γ M' => M' = (p, .lst (s.1.map stpD)) :: M ∧ s.1.length ≤ 4 + 17 * i ∧ ∃ x2 x3 x4, Γ = [some (patD n b ms), some (.ref p), x2, x3, x4, some (.bl s.2)]) ?_
      refine it_seq ?_
      walk_at "w"
      refine ⟨_, .inr rfl, rfl, ⟨rfl, hbl, _, _, _, rfl⟩, ?_, ?_⟩
      · rintro i m s Γ' M' hm hr0 ⟨rfl, hsl, x2, x3, x4, rfl⟩
        have hi : i < ms.length := (List.getElem?_eq_some_iff.mp hm).1
        have hml := (o.tok m (List.mem_of_getElem? hm)).2.1
        walk_at "w"
        refine xs_forR m.2 D.str (runT m.1) s (fun j s2 Γ M' => M' = (p, .lst (s2.1.map stpD)) :: M ∧ s2.1.length ≤ s.1.length + 2 * j ∧ ∃ x4, Γ = [some (patD n b ms), some (.ref p), some (.str (arrow m.1)), some (strsT m.2), x4, some (.bl s2.2)]) ?_
        refine it_seq ?_
        walk_at "w"
        refine ⟨_, .inr rfl, rfl, ⟨rfl, Nat.le_refl _, _, rfl⟩, ?_, ?_⟩
        · rintro j t s2 Γ' M' ht hr1 ⟨rfl, hs2, x4, rfl⟩
          have hj : j < m.2.length := (List.getElem?_eq_some_iff.mp ht).1
          obtain ⟨st, mx⟩ := s2
          dsimp only at hs2
          have hr1 : runT m.1 (st ++ tokSteps m.1 t mx, tokMix t mx) (m.2.drop (j + 1)) = _ := hr1
          walk_at "w"
          by_cases hs : t = "s"
          · have e1 : tokSteps m.1 t mx = (if mx then [⟨.enc, m.1, t⟩] else []) ++ [⟨.key, m.1, t⟩] := by unfold tokSteps; rw [decide_eq_true hs, Bool.or_true]; cases mx <;> rfl
            have e2 : tokMix t mx = mx := by unfold tokMix; rw [decide_eq_true hs, Bool.or_true]; rfl
            rw [e1, e2] at hr1
            refine ite_yes (yes_dec hs) ?_
            walk_at "w"
            cases mx with
            | true =>
              refine ite_yes rfl ?_
              walk_at "w"
              refine ⟨ty_cell (j := 0) rfl, ?_⟩
              walk_at "w"
              refine bm_app (f := stpD) (x := ⟨.enc, m.1, t⟩) 0 rfl (by walk_at "d_o") ?_
              walk_at "w"
              refine ite_no (no_dec (by rw [hs]; decide +kernel)) ?_
              walk_at "w"
              refine ite_yes (yes_dec hs) ?_
              walk_at "w"
              refine ⟨ty_cell (j := 0) rfl, ?_⟩
              walk_at "w"
              refine bm_app (f := stpD) (x := ⟨.key, m.1, t⟩) 0 rfl (by rw [List.length_append]; simp only [List.length_cons, List.length_nil]; omega) ?_
              walk_at "w"
              refine ⟨_, hr1, ?_, ?_, _, rfl⟩
              · rw [← List.append_assoc]; rfl
              · simp; omega
            | false =>
              refine ite_no (fun z => by cases z) ?_
              walk_at "w"
              refine ite_no (no_dec (by rw [hs]; decide +kernel)) ?_
              walk_at "w"
              refine ite_yes (yes_dec hs) ?_
              walk_at "w"
              refine ⟨ty_cell (j := 0) rfl, ?_⟩
              walk_at "w"
              refine bm_app (f := stpD) (x := ⟨.key, m.1, t⟩) 0 rfl (by walk_at "d_o") ?_
              walk_at "w"
              exact ⟨_, hr1, rfl, by simp; omega, _, rfl⟩
          · refine ite_no (no_dec hs) ?_
            refine ite_no (fun z => by cases z) ?_
            walk_at "w"
            by_cases he : t = "e"
            · have e1 : tokSteps m.1 t mx = [⟨.key, m.1, t⟩] := by unfold tokSteps; rw [decide_eq_false hs, decide_eq_true he]; rfl
              have e2 : tokMix t mx = mx := by unfold tokMix; rw [decide_eq_true he]; rfl
              rw [e1, e2] at hr1
              refine ite_yes (yes_dec he) ?_
              refine ite_yes rfl ?_
              walk_at "w"
              refine ⟨ty_cell (j := 0) rfl, ?_⟩
              walk_at "w"
              refine bm_app (f := stpD) (x := ⟨.key, m.1, t⟩) 0 rfl (by walk_at "d_o") ?_
              walk_at "w"
              exact ⟨_, hr1, rfl, by simp; omega, _, rfl⟩
            · have e1 : tokSteps m.1 t mx = [⟨.mix, m.1, t⟩] := by unfold tokSteps; rw [decide_eq_false hs, decide_eq_false he]; rfl
              have e2 : tokMix t mx = true := by unfold tokMix; rw [decide_eq_false hs, decide_eq_false he]; rfl
              rw [e1, e2] at hr1
              refine ite_no (no_dec he) ?_
              walk_at "w"
              refine ite_no (no_dec hs) ?_
              walk_at "w"
              refine ⟨ty_cell (j := 0) rfl, ?_⟩
              walk_at "w"
              refine bm_app (f := stpD) (x := ⟨.mix, m.1, t⟩) 0 rfl (by walk_at "d_o") ?_
              walk_at "w"
              exact ⟨_, hr1, rfl, by simp; omega, _, rfl⟩
        · rintro s2 Γ' M' hr1 ⟨rfl, hs2, x4, rfl⟩
          have hr1 : s2 = runT m.1 s m.2 := hr1
          have hr0 : runM (s2.1 ++ (if s2.2 then [⟨.enc, m.1, ""⟩] else []), s2.2) (ms.drop (i + 1)) = runM (befSteps b, false) ms := by rw [hr1]; exact hr0
          walk_at "w"
          obtain ⟨st, mx⟩ := s2
          dsimp only at hs2 hr0
          cases mx with
          | true =>
            refine ite_yes rfl ?_
            walk_at "w"
            refine ⟨ty_cell (j := 0) rfl, ?_⟩
            walk_at "w"
            refine bm_app (f := stpD) (x := ⟨.enc, m.1, ""⟩) 0 rfl (by walk_at "d_o") ?_
            walk_at "w"
            exact ⟨_, hr0, rfl, by simp; omega, _, _, _, rfl⟩
          | false =>
            refine ite_no (fun z => by cases z) ?_
            walk_at "w"
            refine ⟨_, hr0, ?_, ?_, _, _, _, rfl⟩
            · simp
            · simp; omega
      · rintro s Γ' M' hr0 ⟨rfl, hsl, x2, x3, x4, rfl⟩
        have hr0 : s = runM (befSteps b, false) ms := hr0
        have e9 : stepsM b ms = s.1 ++ (if s.2 then (trans ms).map (fun e => (⟨.enc, e, ""⟩ : Stp)) else []) := by unfold stepsM; rw [← hr0]
        rw [e9] at k
        have htl : (trans ms).length ≤ 2 := by unfold trans; split <;> simp
        obtain ⟨st, mx⟩ := s
        dsimp only at hsl k
        walk_at "w"
        refine xs_forR (trans ms) arD (fun s2 r => s2 ++ (if mx then r.map (fun e => (⟨.enc, e, ""⟩ : Stp)) else [])) st (fun j s2 Γ M' => M' = (p, .lst (s2.map stpD)) :: M ∧ s2.length ≤ st.length + j ∧ ∃ x2 x3 x4, Γ = [some (patD n b ms), some (.ref p), x2, x3, x4, some (.bl mx)]) ?_
        refine it_seq ?_
        walk_at "w"
        refine ⟨n, b, ms, rfl, o, ?_⟩
        refine ⟨_, .inl rfl, rfl, ⟨rfl, Nat.le_refl _, _, _, _, rfl⟩, ?_, ?_⟩
        · rintro j e s2 Γ' M' he hr1 ⟨rfl, hs2, x2, x3, x4, rfl⟩
          have hj : j < (trans ms).length := (List.getElem?_eq_some_iff.mp he).1
          walk_at "w"
          cases mx with
          | true =>
            refine ite_yes rfl ?_
            walk_at "w"
            refine ⟨ty_cell (j := 0) rfl, ?_⟩
            walk_at "w"
            refine bm_app (f := stpD) (x := ⟨.enc, e, ""⟩) 0 rfl (by walk_at "d_o") ?_
            walk_at "w"
            refine ⟨s2 ++ [⟨.enc, e, ""⟩], ?_, rfl, by rw [List.length_append]; simp; omega, _, _, _, rfl⟩
            rw [← hr1]; simp
          | false =>
            refine ite_no (fun z => by cases z) ?_
            walk_at "w"
            exact ⟨s2, hr1, rfl, by omega, _, _, _, rfl⟩
        · rintro s2 Γ' M' hr1 ⟨rfl, hs2, x2, x3, x4, rfl⟩
          walk_at "rf"
          have hr1 : s2 = st ++ (if mx then (trans ms).map (fun e => (⟨.enc, e, ""⟩ : Stp)) else []) := by
            rw [← hr1]; cases mx <;> simp
          rw [hr1]
          exact k
end
section
variable {P : Program} {w : World} {K : PySem.W.Frag} {mg : Str → Option Value} {base : Heap}
theorem sc_repeats_key : FnScope N_repeats_key ["steps"] (defScope s_repeats_key) := ⟨rfl, rfl, rfl, by decide +kernel, rfl, by decide +kernel, by decide +kernel⟩
theorem ok_repeats_key (C : Cxt K mg) : Fn P w K mg base CX0 "repeats_key" 1 ["steps"] R_repeats_key := by
  refine Fn.of C 7 d_repeats_key rfl rfl rfl rfl (by decide +kernel) sc_repeats_key (fun _ _ _ _ _ _ us hl => match us, hl with | [_], _ => rfl) (fun ds M q ex h => ?len) (fun cdv A outer s H E hr => ⟨_, (pss_cons (ps_set (i := 1) sc_repeats_key.nd rfl (Or.inl rfl) (pe_lst pa_nil))
      (pss_cons (ps_for PassesOwn.never rfl (pi_seq (pv 0)) (pg_tup rfl (pgs_cons (pg_name (i := 2) sc_repeats_key.nd rfl (Or.inl rfl)) (pgs_cons (pg_name (i := 3) sc_repeats_key.nd rfl (Or.inl rfl)) (pgs_cons (pg_name (i := 4) sc_repeats_key.nd rfl (Or.inl rfl)) pgs_nil)))) (pss_one (ps_if (pt_cmpR (opEqU hr.units) (pv 2) pe_str (nomark _)) (pss_cons (ps_if (pt_cmpR (opInU (u65 hr)) (pe_tup (pa_cons (pv 3) (pa_cons (pv 4) pa_nil))) (pv 1) (by rfl)) (pss_one (ps_ret pe_bl)) pss_nil)
      (pss_one (ps_expr (pe_bm PySem.F.plainAttrs_list PySem.F.slot_list_append PySem.F.type_list_append mt_append (pv 1) (pa_cons (pe_tup (pa_cons (pv 3) (pa_cons (pv 4) pa_nil))) pa_nil))))) pss_nil)))
      (pss_one (ps_ret pe_bl)))), fun ds M q ex h => ?main⟩)
  case len => obtain ⟨_, rfl, _⟩ := h; rfl
  case main =>
    obtain ⟨ss, rfl, ok, hl, k⟩ := h
    have hsz : sizeLine = 16777216 := rfl
    walk_at "s"
    walk_at "w"
    refine ev_lstC (ea_nil ⟨by decide, fun p hp => ?_⟩)
    walk_at "w"
    refine xs_forR ss stpD repKey [] (fun i sn Γ M' => M' = (p, .lst (sn.map k2D)) :: M ∧ sn.length ≤ i ∧ (∀ a ∈ sn, PyData.strOk a.2 = true) ∧ ∃ x2 x3 x4, Γ = [some (.lst (ss.map stpD)), some (.ref p), x2, x3, x4]) ?_
    refine it_seq ?_
    walk_at "w"
    refine ⟨_, .inl rfl, rfl, ⟨rfl, Nat.le_refl _, (fun _ z => by cases z), _, _, _, rfl⟩, ?_, ?_⟩
    · rintro i s sn Γ' M' hs hr0 ⟨rfl, hsl, hso, x2, x3, x4, rfl⟩
      have hi : i < ss.length := (List.getElem?_eq_some_iff.mp hs).1
      have hst := ok s (List.mem_of_getElem? hs)
      obtain ⟨sk, e, t⟩ := s
      dsimp only at hst
      walk_at "w"
      cases sk with
      | key =>
        refine ite_yes (by first | exact skT1 | exact skT2 | exact skT3 | decide +kernel) ?_
        walk_at "w"
        refine inU_cell (f := k2D) (n := 1) (x := (e, t)) (j := 0) rfl (by decide) k2_eqv (k2_ok hst) (fun a ha => k2_ok (hso a ha)) ?_
        walk_at "w"
        have hr0 : (if (e, t) ∈ sn then true else repKey (sn ++ [(e, t)]) (ss.drop (i + 1))) = repKey [] ss := hr0
        by_cases hin : (e, t) ∈ sn
        · rw [if_pos hin] at hr0
          refine ite_yes (yes_dec hin) ?_
          refine sd_forget 0 rfl ?_
          walk_at "r"
          rw [← hr0] at k
          exact k
        · rw [if_neg hin] at hr0
          refine ite_no (no_dec hin) ?_
          walk_at "w"
          refine ⟨ty_cell (j := 0) rfl, ?_⟩
          walk_at "w"
          refine bm_app (f := k2D) (x := (e, t)) 0 rfl (by omega) ?_
          walk_at "w"
          refine ⟨_, hr0, rfl, by simp; omega, ?_, _, _, _, rfl⟩
          intro a ha
          rcases List.mem_append.mp ha with ha | ha
          · exact hso a ha
          · cases List.mem_singleton.mp ha; exact hst
      | enc =>
        refine ite_no (by first | exact skF1 | exact skF2 | exact skF3 | exact skF4 | exact skF5 | exact skF6 | decide +kernel) ?_
        walk_at "w"
        exact ⟨sn, hr0, rfl, by omega, hso, _, _, _, rfl⟩
      | mix =>
        refine ite_no (by first | exact skF1 | exact skF2 | exact skF3 | exact skF4 | exact skF5 | exact skF6 | decide +kernel) ?_
        walk_at "w"
        exact ⟨sn, hr0, rfl, by omega, hso, _, _, _, rfl⟩
    · rintro sn Γ' M' hr0 ⟨rfl, hsl, hso, x2, x3, x4, rfl⟩
      have hr0 : false = repKey [] ss := hr0
      refine sd_forget 0 rfl ?_
      walk_at "r"
      rw [← hr0] at k
      exact k
theorem sc_repeats_secret : FnScope N_repeats_secret ["steps"] (defScope s_repeats_secret) := ⟨rfl, rfl, rfl, by decide +kernel, rfl, by decide +kernel, by decide +kernel⟩
theorem ok_repeats_secret (C : Cxt K mg) : Fn P w K mg base CX0 "repeats_secret" 1 ["steps"] R_repeats_secret := by
  refine Fn.of C 8 d_repeats_secret rfl rfl rfl rfl (by decide +kernel) sc_repeats_secret (fun _ _ _ _ _ _ us hl => match us, hl with | [_], _ => rfl) (fun ds M q ex h => ?len) (fun cdv A outer s H E hr => ⟨_, (pss_cons (ps_set (i := 1) sc_repeats_secret.nd rfl (Or.inl rfl) (pe_lst pa_nil))
      (pss_cons (ps_for PassesOwn.never rfl (pi_seq (pv 0)) (pg_tup rfl (pgs_cons (pg_name (i := 2) sc_repeats_secret.nd rfl (Or.inl rfl)) (pgs_cons (pg_name (i := 3) sc_repeats_secret.nd rfl (Or.inl rfl)) (pgs_cons (pg_name (i := 4) sc_repeats_secret.nd rfl (Or.inl rfl)) pgs_nil)))) (pss_one (ps_if (PW.pt (pw_and (pt_cmpR (opEqU hr.units) (pv 2) pe_str (nomark _)) (pw_and1 (pt_cmpR (opInU (u65 hr)) (pv 4) (pe_gref rfl (C.glo "SECRETS")) (by rfl))))) (pss_cons (ps_if (pt_cmpR (opInU (u65 hr)) (pv 4) (pv 1) (by rfl)) (pss_one (ps_ret pe_bl)) pss_nil)
      (pss_one (ps_expr (pe_bm PySem.F.plainAttrs_list PySem.F.slot_list_append PySem.F.type_list_append mt_append (pv 1) (pa_cons (pv 4) pa_nil))))) pss_nil)))
      (pss_one (ps_ret pe_bl)))), fun ds M q ex h => ?main⟩)
  case len => obtain ⟨_, rfl, _⟩ := h; rfl
  case main =>
    obtain ⟨ss, rfl, ok, hl, k⟩ := h
    have hsz : sizeLine = 16777216 := rfl
    walk_at "s"
    walk_at "w"
    refine ev_lstC (ea_nil ⟨by decide, fun p hp => ?_⟩)
    walk_at "w"
    refine xs_forR ss stpD repSec [] (fun i sn Γ M' => M' = (p, .lst (sn.map D.str)) :: M ∧ sn.length ≤ i ∧ (∀ a ∈ sn, PyData.strOk a = true) ∧ ∃ x2 x3 x4, Γ = [some (.lst (ss.map stpD)), some (.ref p), x2, x3, x4]) ?_
    refine it_seq ?_
    walk_at "w"
    refine ⟨_, .inl rfl, rfl, ⟨rfl, Nat.le_refl _, (fun _ z => by cases z), _, _, _, rfl⟩, ?_, ?_⟩
    · rintro i s sn Γ' M' hs hr0 ⟨rfl, hsl, hso, x2, x3, x4, rfl⟩
      have hi : i < ss.length := (List.getElem?_eq_some_iff.mp hs).1
      have hst := ok s (List.mem_of_getElem? hs)
      obtain ⟨sk, e, t⟩ := s
      dsimp only at hst
      have hr0 : (if sk = .mix ∧ t ∈ SEC then (if t ∈ sn then true else repSec (sn ++ [t]) (ss.drop (i + 1))) else repSec sn (ss.drop (i + 1))) = repSec [] ss := hr0
      walk_at "w"
      by_cases hk : sk = .mix
      · subst hk
        refine ite_yes (by first | exact skT1 | exact skT2 | exact skT3 | decide +kernel) ?_
        walk_at "w"
        refine ev_con C.secrets ?_
        refine inU_strT hst sec_ok ?_
        walk_at "w"
        by_cases hin : t ∈ SEC
        · rw [if_pos ⟨rfl, hin⟩] at hr0
          refine ite_yes (yes_dec hin) ?_
          walk_at "w"
          refine inU_cell (f := D.str) (n := 0) (x := t) (j := 0) rfl (by decide) (eqv_str 0) hst hso ?_
          walk_at "w"
          by_cases h2 : t ∈ sn
          · rw [if_pos h2] at hr0
            refine ite_yes (yes_dec h2) ?_
            refine sd_forget 0 rfl ?_
            walk_at "r"
            rw [← hr0] at k
            exact k
          · rw [if_neg h2] at hr0
            refine ite_no (no_dec h2) ?_
            walk_at "w"
            refine ⟨ty_cell (j := 0) rfl, ?_⟩
            walk_at "w"
            refine bm_app (f := D.str) (x := t) 0 rfl (by omega) ?_
            walk_at "w"
            refine ⟨_, hr0, rfl, by simp; omega, ?_, _, _, _, rfl⟩
            intro a ha
            rcases List.mem_append.mp ha with ha | ha
            · exact hso a ha
            · cases List.mem_singleton.mp ha; exact hst
        · rw [if_neg (fun z => hin z.2)] at hr0
          refine ite_no (no_dec hin) ?_
          walk_at "w"
          exact ⟨sn, hr0, rfl, by omega, hso, _, _, _, rfl⟩
      · rw [if_neg (fun z => hk z.1)] at hr0
        refine ite_no (no_dec (sk_mix hk)) ?_
        refine ite_no (by decide) ?_
        walk_at "w"
        exact ⟨sn, hr0, rfl, by omega, hso, _, _, _, rfl⟩
    · rintro sn Γ' M' hr0 ⟨rfl, hsl, hso, x2, x3, x4, rfl⟩
      have hr0 : false = repSec [] ss := hr0
      refine sd_forget 0 rfl ?_
      walk_at "r"
      rw [← hr0] at k
      exact k
theorem sc_misses_key : FnScope N_misses_key ["steps"] (defScope s_misses_key) := ⟨rfl, rfl, rfl, by decide +kernel, rfl, by decide +kernel, by decide +kernel⟩
theorem ok_misses_key (C : Cxt K mg) : Fn P w K mg base CX0 "misses_key" 1 ["steps"] R_misses_key := by
  refine Fn.of C 9 d_misses_key rfl rfl rfl rfl (by decide +kernel) sc_misses_key (fun _ _ _ _ _ _ us hl => match us, hl with | [_], _ => rfl) (fun ds M q ex h => ?len) (fun cdv A outer s H E hr => ⟨_, (pss_cons (ps_set (i := 1) sc_misses_key.nd rfl (Or.inl rfl) (pe_lst pa_nil))
      (pss_cons (ps_for PassesOwn.never rfl (pi_seq (pv 0)) (pg_tup rfl (pgs_cons (pg_name (i := 2) sc_misses_key.nd rfl (Or.inl rfl)) (pgs_cons (pg_name (i := 3) sc_misses_key.nd rfl (Or.inl rfl)) (pgs_cons (pg_name (i := 4) sc_misses_key.nd rfl (Or.inl rfl)) pgs_nil)))) (pss_one (ps_if (pt_cmpR (opEqU hr.units) (pv 2) pe_str (nomark _)) (pss_one (ps_expr (pe_bm PySem.F.plainAttrs_list PySem.F.slot_list_append PySem.F.type_list_append mt_append (pv 1) (pa_cons (pe_tup (pa_cons (pv 3) (pa_cons (pv 4) pa_nil))) pa_nil)))) (pss_one (ps_if (PW.pt (pw_and (pt_cmpR (opEqU hr.units) (pv 2) pe_str (nomark _)) (pw_and1 (pt_cmpR (opInU (u65 hr)) (pv 4) (pe_gref rfl (C.glo "SECRETS")) (by rfl))))) (pss_one (ps_if (PW.pt (pw_or (pt_cmpR (opNotInU (u65 hr)) (pe_tup (pa_cons (pe_gstr rfl (C.str "OPENER" "->")) (pa_cons (pe_ix ix_seq (pv 4) pe_int (fun _ _ => rfl)) pa_nil))) (pv 1) (by rfl)) (pw_or1 (pt_cmpR (opNotInU (u65 hr)) (pe_tup (pa_cons (pe_gstr rfl (C.str "ANSWERER" "<-")) (pa_cons (pe_ix ix_seq (pv 4) pe_int (fun _ _ => rfl)) pa_nil))) (pv 1) (by rfl))))) (pss_one (ps_ret pe_bl)) pss_nil)) pss_nil)))))
      (pss_one (ps_ret pe_bl)))), fun ds M q ex h => ?main⟩)
  case len => obtain ⟨_, rfl, _⟩ := h; rfl
  case main =>
    obtain ⟨ss, rfl, ok, hl, k⟩ := h
    have hsz : sizeLine = 16777216 := rfl
    walk_at "s"
    walk_at "w"
    refine ev_lstC (ea_nil ⟨by decide, fun p hp => ?_⟩)
    walk_at "w"
    refine xs_forR ss stpD misKey [] (fun i sn Γ M' => M' = (p, .lst (sn.map k2D)) :: M ∧ sn.length ≤ i ∧ (∀ a ∈ sn, PyData.strOk a.2 = true) ∧ ∃ x2 x3 x4, Γ = [some (.lst (ss.map stpD)), some (.ref p), x2, x3, x4]) ?_
    refine it_seq ?_
    walk_at "w"
    refine ⟨_, .inl rfl, rfl, ⟨rfl, Nat.le_refl _, (fun _ z => by cases z), _, _, _, rfl⟩, ?_, ?_⟩
    · rintro i s sn Γ' M' hs hr0 ⟨rfl, hsl, hso, x2, x3, x4, rfl⟩
      have hi : i < ss.length := (List.getElem?_eq_some_iff.mp hs).1
      have hst := ok s (List.mem_of_getElem? hs)
      obtain ⟨sk, e, t⟩ := s
      dsimp only at hst
      have hr0 : (if sk = .key then misKey (sn ++ [(e, t)]) (ss.drop (i + 1)) else if sk = .mix ∧ t ∈ SEC then (if (false, chr0 t) ∉ sn ∨ (true, chr1 t) ∉ sn then true else misKey sn (ss.drop (i + 1))) else misKey sn (ss.drop (i + 1))) = misKey [] ss := hr0
      walk_at "w"
      cases sk with
      | key =>
        rw [if_pos rfl] at hr0
        refine ite_yes (by first | exact skT1 | exact skT2 | exact skT3 | decide +kernel) ?_
        walk_at "w"
        refine ⟨ty_cell (j := 0) rfl, ?_⟩
        walk_at "w"
        refine bm_app (f := k2D) (x := (e, t)) 0 rfl (by omega) ?_
        walk_at "w"
        refine ⟨_, hr0, rfl, by simp; omega, ?_, _, _, _, rfl⟩
        intro a ha
        rcases List.mem_append.mp ha with ha | ha
        · exact hso a ha
        · cases List.mem_singleton.mp ha; exact hst
      | enc =>
        rw [if_neg (fun z => by cases z), if_neg (fun z => by cases z.1)] at hr0
        refine ite_no (by first | exact skF1 | exact skF2 | exact skF3 | exact skF4 | exact skF5 | exact skF6 | decide +kernel) ?_
        walk_at "w"
        refine ite_no (by first | exact skF1 | exact skF2 | exact skF3 | exact skF4 | exact skF5 | exact skF6 | decide +kernel) ?_
        refine ite_no (by decide) ?_
        walk_at "w"
        exact ⟨sn, hr0, rfl, by omega, hso, _, _, _, rfl⟩
      | mix =>
        rw [if_neg (fun z => by cases z)] at hr0
        refine ite_no (by first | exact skF1 | exact skF2 | exact skF3 | exact skF4 | exact skF5 | exact skF6 | decide +kernel) ?_
        walk_at "w"
        refine ite_yes (by first | exact skT1 | exact skT2 | exact skT3 | decide +kernel) ?_
        walk_at "w"
        refine ev_con C.secrets ?_
        refine inU_strT hst sec_ok ?_
        walk_at "w"
        by_cases hin : t ∈ SEC
        · rw [if_pos ⟨rfl, hin⟩] at hr0
          obtain ⟨c1, c2, c3, c4, c5⟩ := chr_ok t hin
          refine ite_yes (yes_dec hin) ?_
          walk_at "w"
          refine ix_strD c3 c4 ?_
          walk_at "w"
          refine notInU_cell (f := k2D) (n := 1) (x := (false, chr0 t)) (j := 0) rfl (by decide) k2_eqv (k2_ok c1) (fun a ha => k2_ok (hso a ha)) ?_
          walk_at "w"
          by_cases h1 : (false, chr0 t) ∈ sn
          · refine ite_no (no_not h1) ?_
            walk_at "w"
            refine ix_strD c3 c5 ?_
            walk_at "w"
            refine notInU_cell (f := k2D) (n := 1) (x := (true, chr1 t)) (j := 0) rfl (by decide) k2_eqv (k2_ok c2) (fun a ha => k2_ok (hso a ha)) ?_
            walk_at "w"
            by_cases h2 : (true, chr1 t) ∈ sn
            · rw [if_neg (fun z => z.elim (fun z => z h1) (fun z => z h2))] at hr0
              refine ite_no (no_not h2) ?_
              walk_at "w"
              exact ⟨sn, hr0, rfl, by omega, hso, _, _, _, rfl⟩
            · rw [if_pos (.inr h2)] at hr0
              refine ite_yes (yes_not h2) ?_
              refine sd_forget 0 rfl ?_
              walk_at "r"
              rw [← hr0] at k
              exact k
          · rw [if_pos (.inl h1)] at hr0
            refine ite_yes (yes_not h1) ?_
            refine ite_yes rfl ?_
            refine sd_forget 0 rfl ?_
            walk_at "r"
            rw [← hr0] at k
            exact k
        · rw [if_neg (fun z => hin z.2)] at hr0
          refine ite_no (no_dec hin) ?_
          walk_at "w"
          exact ⟨sn, hr0, rfl, by omega, hso, _, _, _, rfl⟩
    · rintro sn Γ' M' hr0 ⟨rfl, hsl, hso, x2, x3, x4, rfl⟩
      have hr0 : false = misKey [] ss := hr0
      refine sd_forget 0 rfl ?_
      walk_at "r"
      rw [← hr0] at k
      exact k
theorem sc_misses_ephemeral : FnScope N_misses_ephemeral ["steps"] (defScope s_misses_ephemeral) := ⟨rfl, rfl, rfl, by decide +kernel, rfl, by decide +kernel, by decide +kernel⟩
theorem ok_misses_ephemeral (C : Cxt K mg) : Fn P w K mg base CX0 "misses_ephemeral" 1 ["steps"] R_misses_ephemeral := by
  refine Fn.of C 10 d_misses_ephemeral rfl rfl rfl rfl (by decide +kernel) sc_misses_ephemeral (fun _ _ _ _ _ _ us hl => match us, hl with | [_], _ => rfl) (fun ds M q ex h => ?len) (fun cdv A outer s H E hr => ⟨_, (pss_cons (ps_set (i := 1) sc_misses_ephemeral.nd rfl (Or.inl rfl) (pe_lst pa_nil))
      (pss_cons (ps_for PassesOwn.never rfl (pi_seq (pv 0)) (pg_tup rfl (pgs_cons (pg_name (i := 2) sc_misses_ephemeral.nd rfl (Or.inl rfl)) (pgs_cons (pg_name (i := 3) sc_misses_ephemeral.nd rfl (Or.inl rfl)) (pgs_cons (pg_name (i := 4) sc_misses_ephemeral.nd rfl (Or.inl rfl)) pgs_nil)))) (pss_one (ps_if (pt_cmpR (opEqU hr.units) (pv 2) pe_str (nomark _)) (pss_one (ps_expr (pe_bm PySem.F.plainAttrs_list PySem.F.slot_list_append PySem.F.type_list_append mt_append (pv 1) (pa_cons (pv 4) pa_nil)))) (pss_one (ps_if (pt_cmpR (opEqU hr.units) (pv 2) pe_str (nomark _)) (pss_cons (ps_asg (pe_ifExp (pt_cmpR (opEqU hr.units) (pv 3) (pe_gstr rfl (C.str "OPENER" "->")) (nomark _)) (pe_tup (pa_cons pe_str (pa_cons pe_str pa_nil))) (pe_tup (pa_cons pe_str (pa_cons pe_str pa_nil)))) (pg_tup rfl (pgs_cons (pg_name (i := 5) sc_misses_ephemeral.nd rfl (Or.inl rfl)) (pgs_cons (pg_name (i := 6) sc_misses_ephemeral.nd rfl (Or.inl rfl)) pgs_nil))))
      (pss_cons (ps_if (PW.pt (pw_and (pt_cmpR (opInU (u65 hr)) (pv 5) (pv 1) (by rfl)) (pw_and1 (pt_cmpR (opNotInU (u65 hr)) pe_str (pv 1) (by rfl))))) (pss_one (ps_ret pe_bl)) pss_nil)
      (pss_one (ps_if (PW.pt (pw_and (pt_cmpR (opInU (u65 hr)) pe_str (pv 1) (by rfl)) (pw_and1 (pt_cmpR (opNotInU (u65 hr)) (pv 6) (pv 1) (by rfl))))) (pss_one (ps_ret pe_bl)) pss_nil)))) pss_nil)))))
      (pss_one (ps_ret pe_bl)))), fun ds M q ex h => ?main⟩)
  case len => obtain ⟨_, rfl, _⟩ := h; rfl
  case main =>
    obtain ⟨ss, rfl, ok, hl, k⟩ := h
    have hsz : sizeLine = 16777216 := rfl
    walk_at "s"
    walk_at "w"
    refine ev_lstC (ea_nil ⟨by decide, fun p hp => ?_⟩)
    walk_at "w"
    refine xs_forR ss stpD misEph [] (fun i sn Γ M' => M' = (p, .lst (sn.map D.str)) :: M ∧ sn.length ≤ i ∧ (∀ a ∈ sn, PyData.strOk a = true) ∧ ∃ x2 x3 x4 x5 x6, Γ = [some (.lst (ss.map stpD)), some (.ref p), x2, x3, x4, x5, x6]) ?_
    refine it_seq ?_
    walk_at "w"
    refine ⟨_, .inl rfl, rfl, ⟨rfl, Nat.le_refl _, (fun _ z => by cases z), _, _, _, _, _, rfl⟩, ?_, ?_⟩
    · rintro i s sn Γ' M' hs hr0 ⟨rfl, hsl, hso, x2, x3, x4, x5, x6, rfl⟩
      have hi : i < ss.length := (List.getElem?_eq_some_iff.mp hs).1
      have hst := ok s (List.mem_of_getElem? hs)
      obtain ⟨sk, e, t⟩ := s
      dsimp only at hst
      have hr0 : (if sk = .mix then misEph (sn ++ [t]) (ss.drop (i + 1)) else if sk = .enc then (if ownS e ∈ sn ∧ ("ee" : Str) ∉ sn then true else if ("ss" : Str) ∈ sn ∧ bothS e ∉ sn then true else misEph sn (ss.drop (i + 1))) else misEph sn (ss.drop (i + 1))) = misEph [] ss := hr0
      walk_at "w"
      cases sk with
      | mix =>
        rw [if_pos rfl] at hr0
        refine ite_yes (by first | exact skT1 | exact skT2 | exact skT3 | decide +kernel) ?_
        walk_at "w"
        refine ⟨ty_cell (j := 0) rfl, ?_⟩
        walk_at "w"
        refine bm_app (f := D.str) (x := t) 0 rfl (by omega) ?_
        walk_at "w"
        refine ⟨_, hr0, rfl, by simp; omega, ?_, _, _, _, _, _, rfl⟩
        intro a ha
        rcases List.mem_append.mp ha with ha | ha
        · exact hso a ha
        · cases List.mem_singleton.mp ha; exact hst
      | key =>
        rw [if_neg (fun z => by cases z), if_neg (fun z => by cases z)] at hr0
        refine ite_no (by first | exact skF1 | exact skF2 | exact skF3 | exact skF4 | exact skF5 | exact skF6 | decide +kernel) ?_
        walk_at "w"
        refine ite_no (by first | exact skF1 | exact skF2 | exact skF3 | exact skF4 | exact skF5 | exact skF6 | decide +kernel) ?_
        walk_at "w"
        exact ⟨sn, hr0, rfl, by omega, hso, _, _, _, _, _, rfl⟩
      | enc =>
        rw [if_neg (fun z => by cases z), if_pos rfl] at hr0
        obtain ⟨o1, o2⟩ := ownS_ok e
        refine ite_no (by first | exact skF1 | exact skF2 | exact skF3 | exact skF4 | exact skF5 | exact skF6 | decide +kernel) ?_
        walk_at "w"
        refine ite_yes (by first | exact skT1 | exact skT2 | exact skT3 | decide +kernel) ?_
        walk_at "d"
        walk_at "d"
        refine ev_join (.tup [.str (ownS e), .str (bothS e)]) ?_ ?_
        · walk_at "d_i"
          cases e with
          | false =>
            refine ite_yes (by first | exact skT1 | exact skT2 | exact skT3 | decide +kernel) ?_
            walk_at "w"
            exact ⟨rfl, rfl⟩
          | true =>
            refine ite_no (by first | exact skF1 | exact skF2 | exact skF3 | exact skF4 | exact skF5 | exact skF6 | decide +kernel) ?_
            walk_at "w"
            exact ⟨rfl, rfl⟩
        walk_at "w"
        refine inU_cell (f := D.str) (n := 0) (j := 0) rfl (by decide) (eqv_str 0) o1 hso ?_
        walk_at "w"
        by_cases h1 : ownS e ∈ sn
        · refine ite_yes (yes_dec h1) ?_
          walk_at "w"
          refine notInU_cell (f := D.str) (n := 0) (x := "ee") (j := 0) rfl (by decide) (eqv_str 0) (by decide +kernel) hso ?_
          walk_at "w"
          by_cases h2 : ("ee" : Str) ∈ sn
          · rw [if_neg (fun z => z.2 h2)] at hr0
            refine ite_no (no_not h2) ?_
            walk_at "w"
            refine inU_cell (f := D.str) (n := 0) (x := "ss") (j := 0) rfl (by decide) (eqv_str 0) (by decide +kernel) hso ?_
            walk_at "w"
            by_cases h3 : ("ss" : Str) ∈ sn
            · refine ite_yes (yes_dec h3) ?_
              walk_at "w"
              refine notInU_cell (f := D.str) (n := 0) (j := 0) rfl (by decide) (eqv_str 0) o2 hso ?_
              walk_at "w"
              by_cases h4 : bothS e ∈ sn
              · rw [if_neg (fun z => z.2 h4)] at hr0
                refine ite_no (no_not h4) ?_
                walk_at "w"
                exact ⟨sn, hr0, rfl, by omega, hso, _, _, _, _, _, rfl⟩
              · rw [if_pos ⟨h3, h4⟩] at hr0
                refine ite_yes (yes_not h4) ?_
                refine sd_forget 0 rfl ?_
                walk_at "r"
                rw [← hr0] at k
                exact k
            · rw [if_neg (fun z => h3 z.1)] at hr0
              refine ite_no (no_dec h3) ?_
              refine ite_no (by decide) ?_
              walk_at "w"
              exact ⟨sn, hr0, rfl, by omega, hso, _, _, _, _, _, rfl⟩
          · rw [if_pos ⟨h1, h2⟩] at hr0
            refine ite_yes (yes_not h2) ?_
            refine sd_forget 0 rfl ?_
            walk_at "r"
            rw [← hr0] at k
            exact k
        · rw [if_neg (fun z => h1 z.1)] at hr0
          refine ite_no (no_dec h1) ?_
          refine ite_no (by decide) ?_
          walk_at "w"
          refine inU_cell (f := D.str) (n := 0) (x := "ss") (j := 0) rfl (by decide) (eqv_str 0) (by decide +kernel) hso ?_
          walk_at "w"
          by_cases h3 : ("ss" : Str) ∈ sn
          · refine ite_yes (yes_dec h3) ?_
            walk_at "w"
            refine notInU_cell (f := D.str) (n := 0) (j := 0) rfl (by decide) (eqv_str 0) o2 hso ?_
            walk_at "w"
            by_cases h4 : bothS e ∈ sn
            · rw [if_neg (fun z => z.2 h4)] at hr0
              refine ite_no (no_not h4) ?_
              walk_at "w"
              exact ⟨sn, hr0, rfl, by omega, hso, _, _, _, _, _, rfl⟩
            · rw [if_pos ⟨h3, h4⟩] at hr0
              refine ite_yes (yes_not h4) ?_
              refine sd_forget 0 rfl ?_
              walk_at "r"
              rw [← hr0] at k
              exact k
          · rw [if_neg (fun z => h3 z.1)] at hr0
            refine ite_no (no_dec h3) ?_
            refine ite_no (by decide) ?_
            walk_at "w"
            exact ⟨sn, hr0, rfl, by omega, hso, _, _, _, _, _, rfl⟩
    · rintro sn Γ' M' hr0 ⟨rfl, hsl, hso, x2, x3, x4, x5, x6, rfl⟩
      have hr0 : false = misEph [] ss := hr0
      refine sd_forget 0 rfl ?_
      walk_at "r"
      rw [← hr0] at k
      exact k
end
section
variable {P : Program} {w : World} {K : PySem.W.Frag} {mg : Str → Option Value} {base : Heap}
theorem sc_misplaces_psk : FnScope N_misplaces_psk ["pattern"] (defScope s_misplaces_psk) := ⟨rfl, rfl, rfl, by decide +kernel, rfl, by decide +kernel, by decide +kernel⟩
theorem ok_misplaces_psk (C : Cxt K mg) : Fn P w K mg base CX0 "misplaces_psk" 1 ["pattern"] R_misplaces_psk := by
  refine Fn.of C 11 d_misplaces_psk rfl rfl rfl rfl (by decide +kernel) sc_misplaces_psk (fun _ _ _ _ _ _ us hl => match us, hl with | [_], _ => rfl) (fun ds M q ex h => ?len) (fun cdv A outer s H E hr => ⟨_, (pss_cons (ps_for PassesOwn.never rfl (pi_enumT rfl (C.free "enumerate") (pa_cons (pe_fld (pv 0) rfl) pa_nil)) (pg_tup rfl (pgs_cons (pg_name (i := 1) sc_misplaces_psk.nd rfl (Or.inl rfl)) (pgs_cons (pg_tup rfl (pgs_cons (pg_name (i := 2) sc_misplaces_psk.nd rfl (Or.inl rfl)) (pgs_cons (pg_name (i := 3) sc_misplaces_psk.nd rfl (Or.inl rfl)) pgs_nil))) pgs_nil))) (pss_cons (ps_set (i := 4) sc_misplaces_psk.nd rfl (Or.inl rfl) (pe_slice slU (pv 3) po_none (po_some (pe_un un_neg pe_int))))
      (pss_cons (ps_if (pt_cmpR (opEqU hr.units) (pv 1) pe_int (nomark _)) (pss_one (ps_set (i := 4) sc_misplaces_psk.nd rfl (Or.inl rfl) (pe_slice slU (pv 4) (po_some pe_int) po_none))) pss_nil)
      (pss_one (ps_if (pt_cmpR (opInU (u65 hr)) pe_str (pv 4) (by rfl)) (pss_one (ps_ret pe_bl)) pss_nil)))))
      (pss_one (ps_ret pe_bl))), fun ds M q ex h => ?main⟩)
  case len => obtain ⟨_, _, _, rfl, _⟩ := h; rfl
  case main =>
    obtain ⟨n, b, ms, rfl, o, k⟩ := h
    walk_at "s"
    refine xs_seq ?_
    refine xs_forR ((List.range ms.length).zip ms) (fun x => .tup [.int ((x.1 : Nat) : Int), msgD x.2]) (fun i r => misPsk i (r.map (·.2))) 0 (fun i i2 Γ M' => M' = M ∧ i2 = i ∧ ∃ x1 x2 x3 x4, Γ = [some (patD n b ms), x1, x2, x3, x4]) ?_
    refine it_enumT ?_
    walk_at "w"
    refine ⟨?_, ⟨rfl, rfl, _, _, _, _, rfl⟩, ?_, ?_⟩
    · unfold enumD
      rw [List.zipWith_map_right, List.length_map, List.zip, List.map_zipWith]
    · rintro i ⟨j, m⟩ i2 Γ' M' hm hr0 ⟨rfl, rfl, x1, x2, x3, x4, rfl⟩
      have hj : j = i2 ∧ ms[i2]? = some m := by
        rw [List.getElem?_zip_eq_some] at hm
        obtain ⟨h1, h2⟩ := hm
        have hl : i2 < ms.length := (List.getElem?_eq_some_iff.mp h2).1
        rw [List.getElem?_range hl] at h1
        exact ⟨(Option.some.inj h1).symm, h2⟩
      obtain ⟨rfl, hm2⟩ := hj
      obtain ⟨t1, t2, t3⟩ := o.tok m (List.mem_of_getElem? hm2)
      have hr0 : (if ("psk" : Str) ∈ inner j m.2 then true else misPsk (j + 1) _) = misPsk 0 (((List.range ms.length).zip ms).map (·.2)) := hr0
      have emap : ((List.range ms.length).zip ms).map (·.2) = ms := by
        rw [List.map_snd_zip]; simp
      have inok : ∀ l : List Str, (∀ t ∈ l, t ∈ m.2) → ∀ t ∈ l, PyData.strOk t = true := fun l hl t ht => tok_ok t (t3 t (hl t ht))
      walk_at "w"
      refine ev_neg ?_
      walk_at "w"
      refine sl_tupD ?_
      rw [cutD_but _ (by simpa using t1), List.length_map, ← List.map_take]
      walk_at "w"
      have fin : ∀ (l : List Str), (∀ t ∈ l, t ∈ m.2) → l = inner j m.2 → ∀ {y1 y2 y3 : Option D}, StD K W0 (tIfS (tTest (tOp (rInU K) (tC (.str "psk")) (tVar 4))) (tRet (tC (.bl true))) tNext) [some (patD n b ms), y1, y2, y3, some (strsT l)] M'
          ⟨fun Γ3 M3 => ∃ b', misPsk b' ((((List.range ms.length).zip ms).drop (j + 1)).map (·.2)) = misPsk 0 (((List.range ms.length).zip ms).map (·.2)) ∧ M3 = M' ∧ b' = j + 1 ∧ ∃ x1 x2 x3 x4, Γ3 = [some (patD n b ms), x1, x2, x3, x4], q, fun Γ' M'' => StD K W0 (tRet (tC (.bl false))) Γ' M'' ⟨fun _ M' => q .non M', q, fun _ _ => False, fun _ _ => False, fun _ _ _ => False⟩,
            fun Γ3 M3 => ∃ b', misPsk b' ((((List.range ms.length).zip ms).drop (j + 1)).map (·.2)) = misPsk 0 (((List.range ms.length).zip ms).map (·.2)) ∧ M3 = M' ∧ b' = j + 1 ∧ ∃ x1 x2 x3 x4, Γ3 = [some (patD n b ms), x1, x2, x3, x4], fun _ _ _ => False⟩ := by
        intro l hl he y1 y2 y3
        subst he
        walk_at "w"
        refine inU_strT (by decide +kernel) (inok _ hl) ?_
        walk_at "w"
        by_cases h : ("psk" : Str) ∈ inner j m.2
        · rw [if_pos h, emap] at hr0
          refine ite_yes (yes_dec h) ?_
          walk_at "r"
          rw [← hr0] at k
          exact k
        · rw [if_neg h] at hr0
          refine ite_no (no_dec h) ?_
          walk_at "w"
          exact ⟨j + 1, hr0, rfl, rfl, _, _, _, _, rfl⟩
      by_cases hj0 : j = 0
      · subst hj0
        refine ite_yes (yes_dec rfl) ?_
        walk_at "w"
        refine sl_tupD ?_
        rw [show (1 : Int) = ((1 : Nat) : Int) from rfl, cutD_from, ← List.map_drop]
        walk_at "d"
        exact fin _ (fun t ht => List.mem_of_mem_take (List.mem_of_mem_drop ht)) rfl
      · refine ite_no (no_dec (by omega)) ?_
        walk_at "d"
        exact fin _ (fun t ht => List.mem_of_mem_take ht) (by unfold inner; rw [if_neg hj0])
    · rintro i2 Γ' M' hr0 ⟨rfl, rfl, x1, x2, x3, x4, rfl⟩
      have emap : ((List.range ms.length).zip ms).map (·.2) = ms := by
        rw [List.map_snd_zip]; simp
      have hr0 : false = misPsk 0 (((List.range ms.length).zip ms).map (·.2)) := hr0
      rw [emap] at hr0
      walk_at "r"
      rw [← hr0] at k
      exact k
theorem sc_psk_without_key : FnScope N_psk_without_key ["steps"] (defScope s_psk_without_key) := ⟨rfl, rfl, rfl, by decide +kernel, rfl, by decide +kernel, by decide +kernel⟩
theorem ok_psk_without_key (C : Cxt K mg) : Fn P w K mg base CX0 "psk_without_key" 1 ["steps"] R_psk_without_key := by
  refine Fn.of C 12 d_psk_without_key rfl rfl rfl rfl (by decide +kernel) sc_psk_without_key (fun _ _ _ _ _ _ us hl => match us, hl with | [_], _ => rfl) (fun ds M q ex h => ?len) (fun cdv A outer s H E hr => ⟨_, (pss_cons (ps_set (i := 1) sc_psk_without_key.nd rfl (Or.inl rfl) (pe_lst pa_nil))
      (pss_cons (ps_set (i := 2) sc_psk_without_key.nd rfl (Or.inl rfl) pe_bl)
      (pss_cons (ps_for PassesOwn.never rfl (pi_seq (pv 0)) (pg_tup rfl (pgs_cons (pg_name (i := 3) sc_psk_without_key.nd rfl (Or.inl rfl)) (pgs_cons (pg_name (i := 4) sc_psk_without_key.nd rfl (Or.inl rfl)) (pgs_cons (pg_name (i := 5) sc_psk_without_key.nd rfl (Or.inl rfl)) pgs_nil)))) (pss_one (ps_if (PW.pt (pw_and (pt_cmpR (opEqU hr.units) (pv 3) pe_str (nomark _)) (pw_and1 (pt_cmpR (opEqU hr.units) (pv 5) pe_str (nomark _))))) (pss_one (ps_expr (pe_bm PySem.F.plainAttrs_list PySem.F.slot_list_append PySem.F.type_list_append mt_append (pv 1) (pa_cons (pv 4) pa_nil)))) (pss_one (ps_if (PW.pt (pw_and (pt_cmpR (opEqU hr.units) (pv 3) pe_str (nomark _)) (pw_and1 (pt_cmpR (opEqU hr.units) (pv 5) pe_str (nomark _))))) (pss_one (ps_set (i := 2) sc_psk_without_key.nd rfl (Or.inl rfl) pe_bl)) (pss_one (ps_if (PW.pt (pw_and (pt_cmpR (opEqU hr.units) (pv 3) pe_str (nomark _)) (pw_and (pt_val (pv 2)) (pw_and1 (pt_cmpR (opNotInU (u65 hr)) (pv 4) (pv 1) (by rfl)))))) (pss_one (ps_ret pe_bl)) pss_nil)))))))
      (pss_one (ps_ret pe_bl))))), fun ds M q ex h => ?main⟩)
  case len => obtain ⟨_, rfl, _⟩ := h; rfl
  case main =>
    obtain ⟨ss, rfl, ok, hl, k⟩ := h
    have hsz : sizeLine = 16777216 := rfl
    walk_at "s"
    walk_at "w"
    refine ev_lstC (ea_nil ⟨by decide, fun p hp => ?_⟩)
    walk_at "w"
    refine xs_forR ss stpD pskKey ([], false) (fun i s Γ M' => M' = (p, .lst (s.1.map arD)) :: M ∧ s.1.length ≤ i ∧ ∃ x3 x4 x5, Γ = [some (.lst (ss.map stpD)), some (.ref p), some (.bl s.2), x3, x4, x5]) ?_
    refine it_seq ?_
    walk_at "w"
    refine ⟨_, .inl rfl, rfl, ⟨rfl, Nat.le_refl _, _, _, _, rfl⟩, ?_, ?_⟩
    · rintro i x ⟨sn, pk⟩ Γ' M' hs hr0 ⟨rfl, hsl, x3, x4, x5, rfl⟩
      have hi : i < ss.length := (List.getElem?_eq_some_iff.mp hs).1
      have hst := ok x (List.mem_of_getElem? hs)
      obtain ⟨sk, e, t⟩ := x
      dsimp only at hst hsl
      have hr0 : (if sk = .key ∧ t = "e" then pskKey (sn ++ [e], pk) (ss.drop (i + 1)) else if sk = .mix ∧ t = "psk" then pskKey (sn, true) (ss.drop (i + 1)) else if sk = .enc ∧ pk = true ∧ e ∉ sn then true else pskKey (sn, pk) (ss.drop (i + 1))) = pskKey ([], false) ss := hr0
      walk_at "w"
      cases sk with
      | key =>
        refine ite_yes (by first | exact skT1 | exact skT2 | exact skT3 | decide +kernel) ?_
        walk_at "w"
        by_cases ht : t = "e"
        · rw [if_pos ⟨rfl, ht⟩] at hr0
          refine ite_yes (yes_dec ht) ?_
          walk_at "w"
          refine ⟨ty_cell (j := 0) rfl, ?_⟩
          walk_at "w"
          refine bm_app (f := arD) (x := e) 0 rfl (by walk_at "d_o") ?_
          walk_at "w"
          exact ⟨_, hr0, rfl, by simp; omega, _, _, _, rfl⟩
        · rw [if_neg (fun z => ht z.2), if_neg (fun z => by cases z.1), if_neg (fun z => by cases z.1)] at hr0
          refine ite_no (no_dec ht) ?_
          walk_at "w"
          refine ite_no (by first | exact skF1 | exact skF2 | exact skF3 | exact skF4 | exact skF5 | exact skF6 | decide +kernel) ?_
          refine ite_no (by decide) ?_
          walk_at "w"
          refine ite_no (by first | exact skF1 | exact skF2 | exact skF3 | exact skF4 | exact skF5 | exact skF6 | decide +kernel) ?_
          refine ite_no (by decide) ?_
          walk_at "w"
          exact ⟨_, hr0, rfl, by walk_at "d_o", _, _, _, rfl⟩
      | mix =>
        rw [if_neg (fun z => by cases z.1)] at hr0
        refine ite_no (by first | exact skF1 | exact skF2 | exact skF3 | exact skF4 | exact skF5 | exact skF6 | decide +kernel) ?_
        refine ite_no (by decide) ?_
        walk_at "w"
        refine ite_yes (by first | exact skT1 | exact skT2 | exact skT3 | decide +kernel) ?_
        walk_at "w"
        by_cases ht : t = "psk"
        · rw [if_pos ⟨rfl, ht⟩] at hr0
          refine ite_yes (yes_dec ht) ?_
          walk_at "w"
          exact ⟨_, hr0, rfl, by walk_at "d_o", _, _, _, rfl⟩
        · rw [if_neg (fun z => ht z.2), if_neg (fun z => by cases z.1)] at hr0
          refine ite_no (no_dec ht) ?_
          walk_at "w"
          refine ite_no (by first | exact skF1 | exact skF2 | exact skF3 | exact skF4 | exact skF5 | exact skF6 | decide +kernel) ?_
          refine ite_no (by decide) ?_
          walk_at "w"
          exact ⟨_, hr0, rfl, by walk_at "d_o", _, _, _, rfl⟩
      | enc =>
        rw [if_neg (fun z => by cases z.1), if_neg (fun z => by cases z.1)] at hr0
        refine ite_no (by first | exact skF1 | exact skF2 | exact skF3 | exact skF4 | exact skF5 | exact skF6 | decide +kernel) ?_
        refine ite_no (by decide) ?_
        walk_at "w"
        refine ite_no (by first | exact skF1 | exact skF2 | exact skF3 | exact skF4 | exact skF5 | exact skF6 | decide +kernel) ?_
        refine ite_no (by decide) ?_
        walk_at "w"
        refine ite_yes (by first | exact skT1 | exact skT2 | exact skT3 | decide +kernel) ?_
        walk_at "w"
        cases pk with
        | false =>
          rw [if_neg (fun z => by cases z.2.1)] at hr0
          refine ite_no (fun z => by cases z) ?_
          refine ite_no (by decide) ?_
          walk_at "w"
          exact ⟨_, hr0, rfl, by walk_at "d_o", _, _, _, rfl⟩
        | true =>
          refine ite_yes rfl ?_
          walk_at "w"
          refine notInU_cell (f := arD) (n := 0) (x := e) (j := 0) rfl (by decide) (arD_inj 0) (arrow_ok e) (fun a _ => arrow_ok a) ?_
          walk_at "w"
          by_cases h1 : e ∈ sn
          · rw [if_neg (fun z => z.2.2 h1)] at hr0
            refine ite_no (no_not h1) ?_
            walk_at "w"
            exact ⟨_, hr0, rfl, by walk_at "d_o", _, _, _, rfl⟩
          · rw [if_pos ⟨rfl, rfl, h1⟩] at hr0
            refine ite_yes (yes_not h1) ?_
            refine sd_forget 0 rfl ?_
            walk_at "r"
            rw [← hr0] at k
            exact k
    · rintro s Γ' M' hr0 ⟨rfl, hsl, x3, x4, x5, rfl⟩
      have hr0 : false = pskKey ([], false) ss := hr0
      refine sd_forget 0 rfl ?_
      walk_at "r"
      rw [← hr0] at k
      exact k
theorem sc_broken_rule : FnScope N_broken_rule ["pattern"] (defScope s_broken_rule) := ⟨rfl, rfl, rfl, by decide +kernel, rfl, by decide +kernel, by decide +kernel⟩
theorem ok_broken_rule (C : Cxt K mg) (h_psk_without_key : Fn P w K mg base CX0 "psk_without_key" 1 ["steps"] R_psk_without_key) (h_misplaces_psk : Fn P w K mg base CX0 "misplaces_psk" 1 ["pattern"] R_misplaces_psk) (h_misses_ephemeral : Fn P w K mg base CX0 "misses_ephemeral" 1 ["steps"] R_misses_ephemeral) (h_misses_key : Fn P w K mg base CX0 "misses_key" 1 ["steps"] R_misses_key) (h_repeats_secret : Fn P w K mg base CX0 "repeats_secret" 1 ["steps"] R_repeats_secret) (h_repeats_key : Fn P w K mg base CX0 "repeats_key" 1 ["steps"] R_repeats_key) (h_pattern_steps : Fn P w K mg base CX0 "pattern_steps" 2 ["pattern"] R_pattern_steps) : Fn P w K mg base CX0 "broken_rule" 3 ["pattern"] R_broken_rule := by
  refine Fn.of C 13 d_broken_rule rfl rfl rfl rfl (by decide +kernel) sc_broken_rule (fun _ _ _ _ _ _ us hl => match us, hl with | [_], _ => rfl) (fun ds M q ex h => ?len) (fun cdv A outer s H E hr => ⟨_, (pss_cons (ps_set (i := 1) sc_broken_rule.nd rfl (Or.inl rfl) (pe_fn h_pattern_steps hr (by decide) rfl (pa_cons (pv 0) pa_nil)))
      (pss_cons (ps_if (pt_val (pe_fn h_repeats_key hr (by decide) rfl (pa_cons (pv 1) pa_nil))) (pss_one (ps_ret pe_int)) pss_nil)
      (pss_cons (ps_if (pt_val (pe_fn h_repeats_secret hr (by decide) rfl (pa_cons (pv 1) pa_nil))) (pss_one (ps_ret pe_int)) pss_nil)
      (pss_cons (ps_if (pt_val (pe_fn h_misses_key hr (by decide) rfl (pa_cons (pv 1) pa_nil))) (pss_one (ps_ret pe_int)) pss_nil)
      (pss_cons (ps_if (pt_val (pe_fn h_misses_ephemeral hr (by decide) rfl (pa_cons (pv 1) pa_nil))) (pss_one (ps_ret pe_int)) pss_nil)
      (pss_cons (ps_if (pt_val (pe_fn h_misplaces_psk hr (by decide) rfl (pa_cons (pv 0) pa_nil))) (pss_one (ps_ret pe_int)) pss_nil)
      (pss_cons (ps_if (pt_val (pe_fn h_psk_without_key hr (by decide) rfl (pa_cons (pv 1) pa_nil))) (pss_one (ps_ret pe_int)) pss_nil)
      (pss_one (ps_ret pe_int))))))))), fun ds M q ex h => ?main⟩)
  case len => obtain ⟨_, _, _, rfl, _⟩ := h; rfl
  case main =>
    obtain ⟨n, b, ms, rfl, ob, om, k⟩ := h
    obtain ⟨s1, s2⟩ := steps_ok ob om
    have bad : brokenM b ms = true → ∀ r : Int, r ≠ 0 → q (.int r) M := fun hb r hr => k r ⟨fun z => absurd z hr, fun z => by rw [hb] at z; cases z⟩
    unfold brokenM at bad k
    walk_at "s"
    walk_at "w"
    refine ⟨n, b, ms, rfl, ob, om, ?_⟩
    walk_at "w"
    refine ⟨_, rfl, s1, s2, ?_⟩
    walk_at "w"
    cases h1 : repKey [] (stepsM b ms) with
    | true =>
      refine ite_yes rfl ?_
      walk_at "r"
      exact bad (by rw [h1]; rfl) 1 (by decide)
    | false =>
    refine ite_no (fun z => by cases z) ?_
    walk_at "w"
    refine ⟨_, rfl, s1, s2, ?_⟩
    walk_at "w"
    cases h2 : repSec [] (stepsM b ms) with
    | true =>
      refine ite_yes rfl ?_
      walk_at "r"
      exact bad (by rw [h1, h2]; rfl) 2 (by decide)
    | false =>
    refine ite_no (fun z => by cases z) ?_
    walk_at "w"
    refine ⟨_, rfl, s1, s2, ?_⟩
    walk_at "w"
    cases h3 : misKey [] (stepsM b ms) with
    | true =>
      refine ite_yes rfl ?_
      walk_at "r"
      exact bad (by rw [h1, h2, h3]; rfl) 3 (by decide)
    | false =>
    refine ite_no (fun z => by cases z) ?_
    walk_at "w"
    refine ⟨_, rfl, s1, s2, ?_⟩
    walk_at "w"
    cases h4 : misEph [] (stepsM b ms) with
    | true =>
      refine ite_yes rfl ?_
      walk_at "r"
      exact bad (by rw [h1, h2, h3, h4]; rfl) 4 (by decide)
    | false =>
    refine ite_no (fun z => by cases z) ?_
    walk_at "w"
    refine ⟨n, b, ms, rfl, om, ?_⟩
    walk_at "w"
    cases h5 : misPsk 0 ms with
    | true =>
      refine ite_yes rfl ?_
      walk_at "r"
      exact bad (by rw [h1, h2, h3, h4, h5]; rfl) 5 (by decide)
    | false =>
    refine ite_no (fun z => by cases z) ?_
    walk_at "w"
    refine ⟨_, rfl, s1, s2, ?_⟩
    walk_at "w"
    cases h6 : pskKey ([], false) (stepsM b ms) with
    | true =>
      refine ite_yes rfl ?_
      walk_at "r"
      exact bad (by rw [h1, h2, h3, h4, h5, h6]; rfl) 6 (by decide)
    | false =>
    refine ite_no (fun z => by cases z) ?_
    walk_at "w"
    walk_at "r"
    exact k 0 ⟨fun _ => by rw [h1, h2, h3, h4, h5, h6]; rfl, fun _ => rfl⟩
end
section
variable {P : Program} {w : World} {K : PySem.W.Frag} {mg : Str → Option Value} {base : Heap}
theorem sc_sends_secret : FnScope N_sends_secret ["pattern", "opener"] (defScope s_sends_secret) := ⟨rfl, rfl, rfl, by decide +kernel, rfl, by decide +kernel, by decide +kernel⟩
theorem ok_sends_secret (C : Cxt K mg) : Fk P w K mg base CX0 "sends_secret" 1 1 ["pattern", "opener"] ["opener"] R_sends_secret := by
  refine Fk.of C 14 d_sends_secret rfl rfl rfl rfl (by decide +kernel) sc_sends_secret (fun _ _ _ _ _ _ us ws l1 l2 => match us, ws, l1, l2 with | [_], [_], _, _ => rfl) (fun ds M q ex h => ?len) (fun cdv A outer s H E hr => ⟨_, (pss_cons (ps_set (i := 2) sc_sends_secret.nd rfl (Or.inl rfl) (pe_ifExp (pt_val (pv 1)) (pe_gstr rfl (C.str "OPENER" "->")) (pe_gstr rfl (C.str "ANSWERER" "<-"))))
      (pss_cons (ps_for PassesOwn.never rfl (pi_seq (pe_fld (pv 0) rfl)) (pg_tup rfl (pgs_cons (pg_name (i := 3) sc_sends_secret.nd rfl (Or.inl rfl)) (pgs_cons (pg_name (i := 4) sc_sends_secret.nd rfl (Or.inl rfl)) pgs_nil))) (pss_one (ps_if (PW.pt (pw_and (pt_cmpR (opEqU hr.units) (pv 3) (pv 2) (nomark _)) (pw_and1 (pt_cmpR (opInU (u65 hr)) pe_str (pv 4) (by rfl))))) (pss_one (ps_ret pe_bl)) pss_nil)))
      (pss_one (ps_ret pe_bl)))), fun ds M q ex h => ?main⟩)
  case len => obtain ⟨_, _, _, _, rfl, _⟩ := h; rfl
  case main =>
    obtain ⟨n, b, ms, op, rfl, om, k⟩ := h
    walk_at "s"
    walk_at "d"
    walk_at "d"
    refine ev_join (.str (arrow (!op))) ?_ ?_
    · walk_at "d_i"
      cases op with
      | true => refine ite_yes rfl ?_; walk_at "w"; exact ⟨rfl, rfl⟩
      | false => refine ite_no (fun z => by cases z) ?_; walk_at "w"; exact ⟨rfl, rfl⟩
    walk_at "w"
    refine xs_forR ms msgD (fun (_ : Unit) r => sends "s" (!op) r) () (fun i _ Γ M' => M' = M ∧ ∃ x3 x4, Γ = [some (patD n b ms), some (.bl op), some (.str (arrow (!op))), x3, x4]) ?_
    refine it_seq ?_
    walk_at "w"
    refine ⟨_, .inr rfl, rfl, ⟨rfl, _, _, rfl⟩, ?_, ?_⟩
    · rintro i m _ Γ' M' hm hr0 ⟨rfl, x3, x4, rfl⟩
      have htok := tok_strOk _ (om.tok m (List.mem_of_getElem? hm)).2.2
      have hr0 : ((m.1 == (!op) && decide (("s" : Str) ∈ m.2)) || sends "s" (!op) (ms.drop (i + 1))) = sends "s" (!op) ms := hr0
      walk_at "w"
      by_cases h1 : m.1 = (!op)
      · refine ite_yes (yes_dec (by rw [h1])) ?_
        walk_at "w"
        refine inU_strT (by decide +kernel) htok ?_
        walk_at "w"
        by_cases h2 : ("s" : Str) ∈ m.2
        · refine ite_yes (yes_dec h2) ?_
          walk_at "r"
          rw [← hr0] at k
          simpa [h1, h2] using k
        · refine ite_no (no_dec h2) ?_
          walk_at "w"
          refine ⟨(), ?_, rfl, _, _, rfl⟩
          rw [← hr0]; simp [h2]
      · refine ite_no (no_dec (fun z => h1 (arrow_inj.mp z))) ?_
        refine ite_no (by decide) ?_
        walk_at "w"
        refine ⟨(), ?_, rfl, _, _, rfl⟩
        rw [← hr0]; simp [h1]
    · rintro _ Γ' M' hr0 ⟨rfl, x3, x4, rfl⟩
      have hr0 : false = sends "s" (!op) ms := hr0
      walk_at "r"
      rw [← hr0] at k
      exact k
theorem sc_needs_secret : FnScope N_needs_secret ["pattern", "opener"] (defScope s_needs_secret) := ⟨rfl, rfl, rfl, by decide +kernel, rfl, by decide +kernel, by decide +kernel⟩
theorem ok_needs_secret (C : Cxt K mg) (h_sends_secret : Fk P w K mg base CX0 "sends_secret" 1 1 ["pattern", "opener"] ["opener"] R_sends_secret) : Fk P w K mg base CX0 "needs_secret" 2 1 ["pattern", "opener"] ["opener"] R_needs_secret := by
  refine Fk.of C 15 d_needs_secret rfl rfl rfl rfl (by decide +kernel) sc_needs_secret (fun _ _ _ _ _ _ us ws l1 l2 => match us, ws, l1, l2 with | [_], [_], _, _ => rfl) (fun ds M q ex h => ?len) (fun cdv A outer s H E hr => ⟨_, (pss_cons (ps_set (i := 2) sc_needs_secret.nd rfl (Or.inl rfl) (pe_ifExp (pt_val (pv 1)) (pe_ix ix_seq (pe_fld (pv 0) rfl) pe_int (fun _ _ => rfl)) (pe_ix ix_seq (pe_fld (pv 0) rfl) pe_int (fun _ _ => rfl))))
      (pss_one (ps_ret (pe_or (pe_cmpR (opInU (u65 hr)) pe_str (pv 2) (by rfl)) (pe_one (pe_fk h_sends_secret hr (by decide) rfl (pa_cons (pv 0) pa_nil) (pk_cons (pv 1) pk_nil))))))), fun ds M q ex h => ?main⟩)
  case len => obtain ⟨_, _, _, _, rfl, _⟩ := h; rfl
  case main =>
    obtain ⟨n, b, ms, op, rfl, ob, om, k⟩ := h
    have htok := befOf_ok ob (!op)
    walk_at "s"
    walk_at "d"
    walk_at "d"
    refine ev_join (strsT (befOf b (!op))) ?_ ?_
    · walk_at "d_i"
      cases op with
      | true => refine ite_yes rfl ?_; walk_at "w"; refine ix_tupD (d := strsT b.1) rfl ?_; exact ⟨rfl, rfl⟩
      | false => refine ite_no (fun z => by cases z) ?_; walk_at "w"; refine ix_tupD (d := strsT b.2) rfl ?_; exact ⟨rfl, rfl⟩
    walk_at "w"
    walk_at "r"
    refine inU_strT (by decide +kernel) htok ?_
    walk_at "w"
    by_cases h : ("s" : Str) ∈ befOf b (!op)
    · refine ite_yes (yes_dec h) ?_
      unfold nSec at k
      rw [decide_eq_true h] at k
      exact k
    · refine ite_no (no_dec h) ?_
      unfold nSec at k
      rw [decide_eq_false h] at k
      refine ev_callK (gD := fun vs zs => vs ++ zs) rps_cat ?_
      walk_at "w"
      exact ⟨rfl, rfl, n, b, ms, op, rfl, om, k⟩
theorem sc_needs_peer : FnScope N_needs_peer ["pattern", "opener"] (defScope s_needs_peer) := ⟨rfl, rfl, rfl, by decide +kernel, rfl, by decide +kernel, by decide +kernel⟩
theorem ok_needs_peer (C : Cxt K mg) : Fk P w K mg base CX0 "needs_peer" 1 1 ["pattern", "opener"] ["opener"] R_needs_peer := by
  refine Fk.of C 16 d_needs_peer rfl rfl rfl rfl (by decide +kernel) sc_needs_peer (fun _ _ _ _ _ _ us ws l1 l2 => match us, ws, l1, l2 with | [_], [_], _, _ => rfl) (fun ds M q ex h => ?len) (fun cdv A outer s H E hr => ⟨_, (pss_cons (ps_set (i := 2) sc_needs_peer.nd rfl (Or.inl rfl) (pe_ifExp (pt_val (pv 1)) (pe_ix ix_seq (pe_fld (pv 0) rfl) pe_int (fun _ _ => rfl)) (pe_ix ix_seq (pe_fld (pv 0) rfl) pe_int (fun _ _ => rfl))))
      (pss_one (ps_ret (pe_cmpR (opInU (u65 hr)) pe_str (pv 2) (by rfl))))), fun ds M q ex h => ?main⟩)
  case len => obtain ⟨_, _, _, _, rfl, _⟩ := h; rfl
  case main =>
    obtain ⟨n, b, ms, op, rfl, ob, k⟩ := h
    have htok := befOf_ok ob op
    walk_at "s"
    walk_at "d"
    walk_at "d"
    refine ev_join (strsT (befOf b op)) ?_ ?_
    · walk_at "d_i"
      cases op with
      | true => refine ite_yes rfl ?_; walk_at "w"; refine ix_tupD (d := strsT b.2) rfl ?_; exact ⟨rfl, rfl⟩
      | false => refine ite_no (fun z => by cases z) ?_; walk_at "w"; refine ix_tupD (d := strsT b.1) rfl ?_; exact ⟨rfl, rfl⟩
    walk_at "w"
    walk_at "r"
    exact inU_strT (by decide +kernel) htok k
theorem sc_uses_psk : FnScope N_uses_psk ["pattern"] (defScope s_uses_psk) := ⟨rfl, rfl, rfl, by decide +kernel, rfl, by decide +kernel, by decide +kernel⟩
theorem ok_uses_psk (C : Cxt K mg) : Fn P w K mg base CX0 "uses_psk" 1 ["pattern"] R_uses_psk := by
  refine Fn.of C 17 d_uses_psk rfl rfl rfl rfl (by decide +kernel) sc_uses_psk (fun _ _ _ _ _ _ us hl => match us, hl with | [_], _ => rfl) (fun ds M q ex h => ?len) (fun cdv A outer s H E hr => ⟨_, (pss_cons (ps_for PassesOwn.never rfl (pi_seq (pe_fld (pv 0) rfl)) (pg_tup rfl (pgs_cons (pg_name (i := 1) sc_uses_psk.nd rfl (Or.inl rfl)) (pgs_cons (pg_name (i := 2) sc_uses_psk.nd rfl (Or.inl rfl)) pgs_nil))) (pss_one (ps_if (pt_cmpR (opInU (u65 hr)) pe_str (pv 2) (by rfl)) (pss_one (ps_ret pe_bl)) pss_nil)))
      (pss_one (ps_ret pe_bl))), fun ds M q ex h => ?main⟩)
  case len => obtain ⟨_, _, _, rfl, _⟩ := h; rfl
  case main =>
    obtain ⟨n, b, ms, rfl, om, k⟩ := h
    walk_at "s"
    walk_at "w"
    refine xs_forR ms msgD (fun (_ : Unit) r => usesPsk r) () (fun i _ Γ M' => M' = M ∧ ∃ x3 x4, Γ = [some (patD n b ms), x3, x4]) ?_
    refine it_seq ?_
    walk_at "w"
    refine ⟨_, .inr rfl, rfl, ⟨rfl, _, _, rfl⟩, ?_, ?_⟩
    · rintro i m _ Γ' M' hm hr0 ⟨rfl, x3, x4, rfl⟩
      have htok := tok_strOk _ (om.tok m (List.mem_of_getElem? hm)).2.2
      have hr0 : (decide (("psk" : Str) ∈ m.2) || usesPsk (ms.drop (i + 1))) = usesPsk ms := hr0
      walk_at "w"
      refine inU_strT (by decide +kernel) htok ?_
      walk_at "w"
      by_cases h2 : ("psk" : Str) ∈ m.2
      · refine ite_yes (yes_dec h2) ?_
        walk_at "r"
        rw [← hr0] at k
        simpa [h2] using k
      · refine ite_no (no_dec h2) ?_
        walk_at "w"
        refine ⟨(), ?_, rfl, _, _, rfl⟩
        rw [← hr0]; simp [h2]
    · rintro _ Γ' M' hr0 ⟨rfl, x3, x4, rfl⟩
      have hr0 : false = usesPsk ms := hr0
      walk_at "r"
      rw [← hr0] at k
      exact k
end
section
def nEph (b : Bef) (ms : List Msg) (e : Bool) : Bool := decide (("e" : Str) ∈ befOf b e) || sends "e" e ms
def R_needs_ephemeral : SpR := fun ds M q _ => ∃ n b ms op, ds = [patD n b ms, .bl op] ∧ okB b ∧ okM ms ∧ q (.bl (nEph b ms (!op))) M
def R_needs_peer_ephemeral : SpR := fun ds M q _ => ∃ n b ms op, ds = [patD n b ms, .bl op] ∧ okB b ∧ q (.bl (decide (("e" : Str) ∈ befOf b op))) M
def R_check_part : SpR := fun ds M q _ => ∃ (v : Option (List Int)) (nd : Bool) (n : Nat), ds = [keyD v, .bl nd, .int n] ∧ (nd = true → ∃ b, v = some b ∧ b.length = n) ∧ q (keyD (if nd = true then v else none)) M
def needs (b : Bef) (ms : List Msg) (e : Bool) : List Bool := [nSec b ms e, nEph b ms e, decide (("s" : Str) ∈ befOf b (!e)), decide (("e" : Str) ∈ befOf b (!e)), usesPsk ms]
/-- something that is needed is missing -/
def lacks : List (Option (List Int)) → List Bool → Bool
  | v :: vs, n :: ns => (n && v.isNone) || lacks vs ns
  | _, _ => false
theorem keyD_non {v : Option (List Int)} {K : PySem.W.Frag} (h : v ≠ none) : ∀ F, ¬ Rp K F .non (keyD v) := by
  cases v with
  | none => exact absurd rfl h
  | some b => exact not_non_lst
def R_needed_parts (K : PySem.W.Frag) : SpR := fun ds M q ex => ∃ (n : Str) (b : Bef) (ms : List Msg) (op : Bool) (vs : List (Option (List Int))), ds = [patD n b ms, .bl op, .tup (vs.map keyD)] ∧ okB b ∧ okM ms ∧ vs.length = 5 ∧
  ((brokenM b ms = false ∧ lacks vs (needs b ms (!op)) = false) → q (.tup ((needs b ms (!op)).map D.bl)) M) ∧ ((brokenM b ms = true ∨ lacks vs (needs b ms (!op)) = true) → ex (.ref (He.ga K "Refused")) M)
end
section
variable {P : Program} {w : World} {K : PySem.W.Frag} {mg : Str → Option Value} {base : Heap}
theorem sc_needs_ephemeral : FnScope N_needs_ephemeral ["pattern", "opener"] (defScope s_needs_ephemeral) := ⟨rfl, rfl, rfl, by decide +kernel, rfl, by decide +kernel, by decide +kernel⟩
theorem ok_needs_ephemeral (C : Cxt K mg) : Fk P w K mg base CX0 "needs_ephemeral" 1 1 ["pattern", "opener"] ["opener"] R_needs_ephemeral := by
  refine Fk.of C 61 d_needs_ephemeral rfl rfl rfl rfl (by decide +kernel) sc_needs_ephemeral (fun _ _ _ _ _ _ us ws l1 l2 => match us, ws, l1, l2 with | [_], [_], _, _ => rfl) (fun ds M q ex h => ?len) (fun cdv A outer s H E hr => ⟨_, (pss_cons (ps_if (pt_cmpR (opInU (u65 hr)) pe_str (pe_ix ix_seq (pe_fld (pv 0) rfl) (pe_ifExp (pt_val (pv 1)) pe_int pe_int) (fun _ _ => rfl)) (by rfl)) (pss_one (ps_ret pe_bl)) pss_nil)
      (pss_cons (ps_set (i := 2) sc_needs_ephemeral.nd rfl (Or.inl rfl) (pe_ifExp (pt_val (pv 1)) (pe_gstr rfl (C.str "OPENER" "->")) (pe_gstr rfl (C.str "ANSWERER" "<-"))))
      (pss_cons (ps_for PassesOwn.never rfl (pi_seq (pe_fld (pv 0) rfl)) (pg_tup rfl (pgs_cons (pg_name (i := 3) sc_needs_ephemeral.nd rfl (Or.inl rfl)) (pgs_cons (pg_name (i := 4) sc_needs_ephemeral.nd rfl (Or.inl rfl)) pgs_nil))) (pss_one (ps_if (PW.pt (pw_and (pt_cmpR (opEqU hr.units) (pv 3) (pv 2) (nomark _)) (pw_and1 (pt_cmpR (opInU (u65 hr)) pe_str (pv 4) (by rfl))))) (pss_one (ps_ret pe_bl)) pss_nil)))
      (pss_one (ps_ret pe_bl))))), fun ds M q ex h => ?main⟩)
  case len => obtain ⟨_, _, _, _, rfl, _⟩ := h; rfl
  case main =>
    obtain ⟨n, b, ms, op, rfl, ob, om, k⟩ := h
    have htok := befOf_ok ob (!op)
    unfold nEph at k
    walk_at "s"
    walk_at "w"
    refine ev_join (.int (if op = true then 0 else 1)) ?_ ?_
    · walk_at "d_i"
      cases op with
      | true => refine ite_yes rfl ?_; walk_at "w"; exact ⟨rfl, rfl⟩
      | false => refine ite_no (fun z => by cases z) ?_; walk_at "w"; exact ⟨rfl, rfl⟩
    refine ix_tupD (d := strsT (befOf b (!op))) (by cases op <;> rfl) ?_
    refine inU_strT (by decide +kernel) htok ?_
    walk_at "w"
    by_cases h : ("e" : Str) ∈ befOf b (!op)
    · rw [decide_eq_true h] at k
      refine ite_yes (yes_dec h) ?_
      walk_at "r"
      exact k
    rw [decide_eq_false h, Bool.false_or] at k
    refine ite_no (no_dec h) ?_
    walk_at "d"
    walk_at "d"
    walk_at "d"
    refine ev_join (.str (arrow (!op))) ?_ ?_
    · walk_at "d_i"
      cases op with
      | true => refine ite_yes rfl ?_; walk_at "w"; exact ⟨rfl, rfl⟩
      | false => refine ite_no (fun z => by cases z) ?_; walk_at "w"; exact ⟨rfl, rfl⟩
    walk_at "w"
    refine xs_forR ms msgD (fun (_ : Unit) r => sends "e" (!op) r) () (fun i _ Γ M' => M' = M ∧ ∃ x3 x4, Γ = [some (patD n b ms), some (.bl op), some (.str (arrow (!op))), x3, x4]) ?_
    refine it_seq ?_
    walk_at "w"
    refine ⟨_, .inr rfl, rfl, ⟨rfl, _, _, rfl⟩, ?_, ?_⟩
    · rintro i m _ Γ' M' hm hr0 ⟨rfl, x3, x4, rfl⟩
      have htok := tok_strOk _ (om.tok m (List.mem_of_getElem? hm)).2.2
      have hr0 : ((m.1 == (!op) && decide (("e" : Str) ∈ m.2)) || sends "e" (!op) (ms.drop (i + 1))) = sends "e" (!op) ms := hr0
      walk_at "w"
      by_cases h1 : m.1 = (!op)
      · refine ite_yes (yes_dec (by rw [h1])) ?_
        walk_at "w"
        refine inU_strT (by decide +kernel) htok ?_
        walk_at "w"
        by_cases h2 : ("e" : Str) ∈ m.2
        · refine ite_yes (yes_dec h2) ?_
          walk_at "r"
          rw [← hr0] at k
          simpa [h1, h2] using k
        · refine ite_no (no_dec h2) ?_
          walk_at "w"
          refine ⟨(), ?_, rfl, _, _, rfl⟩
          rw [← hr0]; simp [h2]
      · refine ite_no (no_dec (fun z => h1 (arrow_inj.mp z))) ?_
        refine ite_no (by decide) ?_
        walk_at "w"
        refine ⟨(), ?_, rfl, _, _, rfl⟩
        rw [← hr0]; simp [h1]
    · rintro _ Γ' M' hr0 ⟨rfl, x3, x4, rfl⟩
      have hr0 : false = sends "e" (!op) ms := hr0
      walk_at "r"
      rw [← hr0] at k
      exact k
theorem sc_needs_peer_ephemeral : FnScope N_needs_peer_ephemeral ["pattern", "opener"] (defScope s_needs_peer_ephemeral) := ⟨rfl, rfl, rfl, by decide +kernel, rfl, by decide +kernel, by decide +kernel⟩
theorem ok_needs_peer_ephemeral (C : Cxt K mg) : Fk P w K mg base CX0 "needs_peer_ephemeral" 1 1 ["pattern", "opener"] ["opener"] R_needs_peer_ephemeral := by
  refine Fk.of C 62 d_needs_peer_ephemeral rfl rfl rfl rfl (by decide +kernel) sc_needs_peer_ephemeral (fun _ _ _ _ _ _ us ws l1 l2 => match us, ws, l1, l2 with | [_], [_], _, _ => rfl) (fun ds M q ex h => ?len) (fun cdv A outer s H E hr => ⟨_, (pss_one (ps_ret (pe_cmpR (opInU (u65 hr)) pe_str (pe_ix ix_seq (pe_fld (pv 0) rfl) (pe_ifExp (pt_val (pv 1)) pe_int pe_int) (fun _ _ => rfl)) (by rfl)))), fun ds M q ex h => ?main⟩)
  case len => obtain ⟨_, _, _, _, rfl, _⟩ := h; rfl
  case main =>
    obtain ⟨n, b, ms, op, rfl, ob, k⟩ := h
    have htok := befOf_ok ob op
    walk_at "s"
    walk_at "r"
    refine ev_join (.int (if op = true then 1 else 0)) ?_ ?_
    · walk_at "d_i"
      cases op with
      | true => refine ite_yes rfl ?_; walk_at "w"; exact ⟨rfl, rfl⟩
      | false => refine ite_no (fun z => by cases z) ?_; walk_at "w"; exact ⟨rfl, rfl⟩
    refine ix_tupD (d := strsT (befOf b op)) (by cases op <;> rfl) ?_
    exact inU_strT (by decide +kernel) htok k
theorem sc_check_part : FnScope N_check_part ["value", "needed", "size"] (defScope s_check_part) := ⟨rfl, rfl, rfl, by decide +kernel, rfl, by decide +kernel, by decide +kernel⟩
theorem ok_check_part (C : Cxt K mg) : Fn P w K mg base CX0 "check_part" 1 ["value", "needed", "size"] R_check_part := by
  refine Fn.of C 63 d_check_part rfl rfl rfl rfl (by decide +kernel) sc_check_part (fun _ _ _ _ _ _ us hl => match us, hl with | [_, _, _], _ => rfl) (fun ds M q ex h => ?len) (fun cdv A outer s H E hr => ⟨_, (pss_cons (ps_if (pt_not (pt_val (pv 1))) (pss_one (ps_ret pe_non)) pss_nil)
      (pss_cons (ps_if (pt_cmpR (opNeU hr.units) (pe_callB call_len rfl (C.free "len") boot_len (pa_cons (pv 0) pa_nil)) (pv 2) (nomark _)) (pss_one ps_never) pss_nil)
      (pss_one (ps_ret (pe_callTy call_list_of rfl (C.free "list") boot_list (pa_cons (pv 0) pa_nil)))))), fun ds M q ex h => ?main⟩)
  case len => obtain ⟨_, _, _, rfl, _⟩ := h; rfl
  case main =>
    obtain ⟨v, nd, n, rfl, hv, k⟩ := h
    walk_at "s"
    walk_at "w"
    cases nd with
    | false =>
      refine ite_yes rfl ?_
      walk_at "r"
      exact k
    | true =>
      obtain ⟨b, rfl, hb⟩ := hv rfl
      refine ite_no (fun z => by cases z) ?_
      walk_at "w"
      rw [List.length_map]
      refine ite_no (no_not (by omega)) ?_
      walk_at "w"
      walk_at "r"
      exact k
end
section
variable {P : Program} {w : World} {K : PySem.W.Frag} {mg : Str → Option Value} {base : Heap}
theorem sc_needed_parts : FnScope N_needed_parts ["pattern", "opener", "keys"] (defScope s_needed_parts) := ⟨rfl, rfl, rfl, by decide +kernel, rfl, by decide +kernel, by decide +kernel⟩
theorem ok_needed_parts (C : Cxt K mg) (h_uses_psk : Fn P w K mg base CX0 "uses_psk" 1 ["pattern"] R_uses_psk) (h_needs_peer_ephemeral : Fk P w K mg base CX0 "needs_peer_ephemeral" 1 1 ["pattern", "opener"] ["opener"] R_needs_peer_ephemeral) (h_needs_peer : Fk P w K mg base CX0 "needs_peer" 1 1 ["pattern", "opener"] ["opener"] R_needs_peer) (h_needs_ephemeral : Fk P w K mg base CX0 "needs_ephemeral" 1 1 ["pattern", "opener"] ["opener"] R_needs_ephemeral) (h_needs_secret : Fk P w K mg base CX0 "needs_secret" 2 1 ["pattern", "opener"] ["opener"] R_needs_secret) (h_broken_rule : Fn P w K mg base CX0 "broken_rule" 3 ["pattern"] R_broken_rule) : Fn P w K mg base (L2.CX P w) "needed_parts" 4 ["pattern", "opener", "keys"] (R_needed_parts K) := by
  refine Fn.ofX C 64 d_needed_parts rfl rfl rfl rfl (by decide +kernel) sc_needed_parts (fun _ _ _ _ _ _ us hl => match us, hl with | [_, _, _], _ => rfl) (fun ds M q ex h => ?len) (fun cdv A outer s H E hr => ⟨_, (pss_cons (ps_if (pt_cmpR (opNeU hr.units) (pe_fn h_broken_rule hr (by decide) rfl (pa_cons (pv 0) pa_nil)) pe_int (nomark _)) (pss_one (ps_raise rfl (takes_of rfl rfl rfl rfl) (pmk_own PySem.F.excBase_ValueError (C.exX "Refused") (C.glo "Refused") (C.exK "Refused") (raises_own (C.exB "Refused") (C.exT "Refused")) rfl))) pss_nil)
      (pss_cons (ps_set (i := 3) sc_needed_parts.nd rfl (Or.inl rfl) (pe_tup (pa_cons (pe_fk h_needs_secret hr (by decide) rfl (pa_cons (pv 0) pa_nil) (pk_cons (pv 1) pk_nil)) (pa_cons (pe_fk h_needs_ephemeral hr (by decide) rfl (pa_cons (pv 0) pa_nil) (pk_cons (pv 1) pk_nil)) (pa_cons (pe_fk h_needs_peer hr (by decide) rfl (pa_cons (pv 0) pa_nil) (pk_cons (pv 1) pk_nil)) (pa_cons (pe_fk h_needs_peer_ephemeral hr (by decide) rfl (pa_cons (pv 0) pa_nil) (pk_cons (pv 1) pk_nil)) (pa_cons (pe_fn h_uses_psk hr (by decide) rfl (pa_cons (pv 0) pa_nil)) pa_nil)))))))
      (pss_cons (ps_for (passes_of rfl) rfl (RZ.pi_zipA rfl (C.free "zip") (pa_cons (pv 2) (pa_cons (pv 3) pa_nil))) (pg_tup rfl (pgs_cons (pg_name (i := 4) sc_needed_parts.nd rfl (Or.inl rfl)) (pgs_cons (pg_name (i := 5) sc_needed_parts.nd rfl (Or.inl rfl)) pgs_nil))) (pss_one (ps_if (PW.pt (pw_and (pt_val (pv 5)) (pw_and1 (pt_cmpR opIsU (pv 4) pe_non (nomark _))))) (pss_one (ps_raise rfl (takes_of rfl rfl rfl rfl) (pmk_own PySem.F.excBase_ValueError (C.exX "Refused") (C.glo "Refused") (C.exK "Refused") (raises_own (C.exB "Refused") (C.exT "Refused")) rfl))) pss_nil)))
      (pss_one (ps_ret (pv 3)))))), fun ds M q ex h => ?main⟩)
  case len => obtain ⟨_, _, _, _, _, rfl, _⟩ := h; rfl
  case main =>
    obtain ⟨n, b, ms, op, vs, rfl, ob, om, hvs, k1, k2⟩ := h
    walk_at "s"
    walk_at "w"
    refine ⟨n, b, ms, rfl, ob, om, fun r hr' => ?_⟩
    walk_at "w"
    cases hb : brokenM b ms with
    | true =>
      refine ite_yes (yes_not (fun z => by rw [hr'.mp z] at hb; cases hb)) ?_
      exact xs_raise (k2 (.inl hb))
    | false =>
    refine ite_no (no_not (hr'.mpr hb)) ?_
    walk_at "w"
    refine ev_callK (gD := fun vs zs => vs ++ zs) rps_cat ?_
    walk_at "w"
    refine ⟨rfl, rfl, n, b, ms, op, rfl, ob, om, ?_⟩
    walk_at "w"
    refine ev_callK (gD := fun vs zs => vs ++ zs) rps_cat ?_
    walk_at "w"
    refine ⟨rfl, rfl, n, b, ms, op, rfl, ob, om, ?_⟩
    walk_at "w"
    refine ev_callK (gD := fun vs zs => vs ++ zs) rps_cat ?_
    walk_at "w"
    refine ⟨rfl, rfl, n, b, ms, op, rfl, ob, ?_⟩
    walk_at "w"
    refine ev_callK (gD := fun vs zs => vs ++ zs) rps_cat ?_
    walk_at "w"
    refine ⟨rfl, rfl, n, b, ms, op, rfl, ob, ?_⟩
    walk_at "w"
    refine ⟨n, b, ms, rfl, om, ?_⟩
    walk_at "w"
    have hnd : ∀ (ds' : List D), ds' = (needs b ms (!op)).map D.bl → ds' = ds' := fun _ _ => rfl
    have hneg : befOf b (!(!op)) = befOf b op := by rw [Bool.not_not]
    have hmap : [D.bl (nSec b ms (!op)), D.bl (nEph b ms (!op)), D.bl (decide (("s" : Str) ∈ befOf b op)), D.bl (decide (("e" : Str) ∈ befOf b op)), D.bl (usesPsk ms)] = (needs b ms (!op)).map D.bl := by
      unfold needs; rw [Bool.not_not]; rfl
    refine xs_forR (vs.zip (needs b ms (!op))) (fun x => .tup [keyD x.1, .bl x.2]) (fun (_ : Unit) r => r.any fun x => x.2 && x.1.isNone) () (fun i _ Γ M' => M' = M ∧ ∃ x4 x5, Γ = [some (patD n b ms), some (.bl op), some (.tup (vs.map keyD)), some (.tup ((needs b ms (!op)).map D.bl)), x4, x5]) ?_
    have hl : lacks vs (needs b ms (!op)) = (vs.zip (needs b ms (!op))).any fun x => x.2 && x.1.isNone := by
      have : ∀ (vs : List (Option (List Int))) (ns : List Bool), lacks vs ns = (vs.zip ns).any fun x => x.2 && x.1.isNone := by
        intro vs
        induction vs with
        | nil => intro ns; rfl
        | cons v r ih => intro ns; cases ns with
          | nil => rfl
          | cons m t => show ((m && v.isNone) || lacks r t) = _; rw [ih]; rfl
      exact this _ _
    refine it_zip ?_
    walk_at "w"
    refine ⟨vs.map keyD, (needs b ms (!op)).map D.bl, .inr (by rw [← hmap]), ?_, ⟨rfl, _, _, by rw [← hmap]; rfl⟩, ?_, ?_⟩
    · unfold zipD
      rw [List.zipWith_map, List.zip, List.map_zipWith]
    · rintro i ⟨v, nd⟩ _ Γ' M' hm hr0 ⟨rfl, x4, x5, rfl⟩
      have hr0 : ((nd && v.isNone) || (((vs.zip (needs b ms (!op))).drop (i + 1)).any fun x => x.2 && x.1.isNone)) = _ := hr0
      rw [← hl] at hr0
      walk_at "w"
      cases nd with
      | false =>
        refine ite_no (fun z => by cases z) ?_
        refine ite_no (by decide) ?_
        walk_at "w"
        refine ⟨(), ?_, rfl, _, _, rfl⟩
        rw [← hl, ← hr0]; rfl
      | true =>
        refine ite_yes rfl ?_
        walk_at "w"
        cases v with
        | none =>
          refine isU_non ?_
          walk_at "w"
          refine ite_yes rfl ?_
          exact xs_raise (k2 (.inr hr0.symm))
        | some y =>
          refine isU_some not_non_lst ?_
          walk_at "w"
          refine ite_no (by decide) ?_
          walk_at "w"
          refine ⟨(), ?_, rfl, _, _, rfl⟩
          rw [← hl, ← hr0]; rfl
    · rintro _ Γ' M' hr0 ⟨rfl, x4, x5, rfl⟩
      have hr0 : false = _ := hr0
      rw [← hl] at hr0
      walk_at "r"
      exact k1 ⟨hb, hr0.symm⟩
end
section
structure HSt where
  nm : Str
  bef : Bef
  ms : List Msg
  op : Bool
  sec : Option (List Int)
  eph : Option (List Int)
  peer : Option (List Int)
  peerE : Option (List Int)
  psk : Option (List Int)
  idx : Nat
abbrev hsD (h : HSt) (pt : Addr) : D := .obj "Handshake" ["_suite", "_pattern", "_opener", "_secret", "_ephemeral", "_peer", "_peer_ephemeral", "_psk", "_index", "_transcript"]
  [suiteD, patD h.nm h.bef h.ms, .bl h.op, keyD h.sec, keyD h.eph, keyD h.peer, keyD h.peerE, keyD h.psk, .int (h.idx : Nat), .ref pt]
abbrev hM (pt p : Addr) (t : TSt) (h : HSt) (M0 : Mem) : Mem := (pt, trD t) :: (p, hsD h pt) :: M0
structure okH (h : HSt) : Prop where
  ob : okB h.bef
  om : okM h.ms
  pk : ∀ b, h.psk = some b → isBy b ∧ b.length = 32
def mixE (up : Bool) (t : TSt) (tok : Str) (key : List Int) : TSt := if tok = "e" ∧ up = true then tKey t key else t
def R_Handshake_mix_ephemeral : SpR := fun ds M q _ => ∃ (pt p : Addr) (t : TSt) (h : HSt) (tok : Str) (key : List Int) (M0 : Mem), ds = [.ref p, .str tok, bys key] ∧ M = hM pt p t h M0 ∧ okT t ∧ t.ended = false ∧ isBy key ∧ key.length ≤ 10000 ∧ q .non (hM pt p (mixE h.psk.isSome t tok key) h M0)
def hOwn (h : HSt) (l : Str) : Option (List Int) := if l = "e" then h.eph else h.sec
def hPeer (h : HSt) (l : Str) : Option (List Int) := if l = "e" then h.peerE else h.peer
def R_Handshake_own_public : SpR := fun ds M q _ => ∃ (pt p : Addr) (t : TSt) (h : HSt) (l : Str) (s : List Int) (M0 : Mem), ds = [.ref p, .str l] ∧ M = hM pt p t h M0 ∧ hOwn h l = some s ∧ isBy s ∧ s.length = 16 ∧ q (bys (pubM s)) M
def R_Handshake_peer_public : SpR := fun ds M q _ => ∃ (pt p : Addr) (t : TSt) (h : HSt) (l : Str) (M0 : Mem), ds = [.ref p, .str l] ∧ M = hM pt p t h M0 ∧ q (keyD (hPeer h l)) M
/-- the pre-messages: pub tells the public keys by end and letter -/
def runP (pub : Bool → Str → List Int) (up : Bool) (e : Bool) : TSt → List Str → TSt
  | t, [] => t
  | t, x :: r => runP pub up e (mixE up (tMix t (pub e x)) x (pub e x)) r
def befT (pub : Bool → Str → List Int) (up : Bool) (b : Bef) (t : TSt) : TSt := runP pub up true (runP pub up false t b.1) b.2
/-- what h must know of the keys of the pre-messages -/
def befOk (pub : Bool → Str → List Int) (h : HSt) : Prop := ∀ e, ∀ x ∈ befOf h.bef e, isBy (pub e x) ∧ (pub e x).length = 16 ∧
  if e = (!h.op) then ∃ s, hOwn h x = some s ∧ isBy s ∧ s.length = 16 ∧ pubM s = pub e x else hPeer h x = some (pub e x)
theorem mixE_ok {up : Bool} {t : TSt} {x : Str} {k : List Int} (o : okT t) : okT (mixE up t x k) := by
  unfold mixE
  split
  · exact o.keyed k
  · exact o
theorem mixE_end {up : Bool} {t : TSt} {x : Str} {k : List Int} : (mixE up t x k).ended = t.ended := by unfold mixE; split <;> rfl
def R_Handshake_mix_before : SpR := fun ds M q _ => ∃ (pub : Bool → Str → List Int) (pt p : Addr) (t : TSt) (h : HSt) (M0 : Mem), ds = [.ref p, befD h.bef] ∧ M = hM pt p t h M0 ∧ okT t ∧ t.ended = false ∧ befOk pub h ∧ q .non (hM pt p (befT pub h.psk.isSome h.bef t) h M0)
/-- what one message's sender works with -/
structure Wd where
  pub : Str → List Int
  dh : Str → List Int
  psk : List Int
  up : Bool
def tokT (w : Wd) (t : TSt) (x : Str) : TSt := if x = "e" then mixE w.up (tMix t (w.pub "e")) "e" (w.pub "e") else if x = "s" then tSeal t (w.pub "s") else if x = "psk" then tBoth t w.psk else tKey t (w.dh x)
def tokB (w : Wd) (t : TSt) (x : Str) : List Int := if x = "e" then w.pub "e" else if x = "s" then tSealed t (w.pub "s") else []
/-- h can mix the token x, and mixes w's secret -/
def conf (w : Wd) (h : HSt) (x : Str) : Prop := if x = "psk" then h.psk = some w.psk ∧ isBy w.psk ∧ w.psk.length = 32 else
  ∃ s v, hOwn h (if h.op = true then chr0 x else chr1 x) = some s ∧ hPeer h (if h.op = true then chr1 x else chr0 x) = some v ∧ isBy s ∧ s.length = 16 ∧ isBy v ∧ v.length = 16 ∧ weakM v = false ∧ exM s v = w.dh x
theorem tok_sec {x : Str} (h : x ∈ TOK) (h1 : x ≠ "e") (h2 : x ≠ "s") (h3 : x ≠ "psk") : x ∈ SEC := by
  have : (TOK.all fun x => decide (x = "e") || (decide (x = "s") || (decide (x = "psk") || decide (x ∈ SEC)))) = true := by decide +kernel
  have := List.all_eq_true.mp this x h
  simpa [h1, h2, h3] using this
def R_Handshake_mix_token : SpR := fun ds M q _ => ∃ (w : Wd) (pt p : Addr) (t : TSt) (h : HSt) (x : Str) (M0 : Mem), ds = [.ref p, .str x] ∧ M = hM pt p t h M0 ∧ okT t ∧ t.ended = false ∧ x ∈ TOK ∧ x ≠ "e" ∧ x ≠ "s" ∧ conf w h x ∧ q .non (hM pt p (tokT w t x) h M0)
end
section
variable {P : Program} {w : World} {K : PySem.W.Frag} {mg : Str → Option Value} {base : Heap}
theorem sc_Handshake_mix_ephemeral : FnScope N_Handshake_mix_ephemeral ["self", "token", "key"] (defScope s_Handshake_mix_ephemeral) := ⟨rfl, rfl, rfl, by decide +kernel, rfl, by decide +kernel, by decide +kernel⟩
theorem ok_Handshake_mix_ephemeral (C : Cxt K mg) (h_Transcript_mix_key : Me P w K mg base CX0 "Transcript" "mix_key" 7 ["self", "data"] R_Transcript_mix_key) : Me P w K mg base CX0 "Handshake" "mix_ephemeral" 8 ["self", "token", "key"] R_Handshake_mix_ephemeral := by
  refine Me.of C 67 d_Handshake_mix_ephemeral rfl rfl rfl rfl (by decide +kernel) (by decide +kernel) sc_Handshake_mix_ephemeral (fun _ _ _ _ _ _ us hl => match us, hl with | [_, _, _], _ => rfl) (fun ds M q ex h => ?len) (fun cdv A outer s H E hr => ⟨_, (pss_one (ps_if (PW.pt (pw_and (pt_cmpR (opEqU hr.units) (pv 1) pe_str (nomark _)) (pw_and1 (pt_cmpR opIsNotU (pe_fld (pv 0) rfl) pe_non (nomark _))))) (pss_one (ps_expr (pe_me h_Transcript_mix_key hr (by decide) (pe_fld (pv 0) rfl) (pa_cons (pv 2) pa_nil)))) pss_nil)), fun ds M q ex h => ?main⟩)
  case len => obtain ⟨_, _, _, _, _, _, _, rfl, _⟩ := h; rfl
  case main =>
    obtain ⟨pt, p, t, h, tok, key, M0, rfl, rfl, o, he, hk, hl, k⟩ := h
    unfold mixE at k
    walk_at "s"
    walk_at "w"
    by_cases ht : tok = "e"
    · refine ite_yes (yes_dec ht) ?_
      walk_at "w"
      cases hp : h.psk with
      | none =>
        rw [if_neg (fun z => by rw [hp] at z; cases z.2)] at k
        refine isNotU_non ?_
        walk_at "w"
        refine ite_no (by decide) ?_
        walk_at "w"
        exact k
      | some b =>
        rw [if_pos ⟨ht, by rw [hp]; rfl⟩] at k
        refine isNotU_some not_non_lst ?_
        walk_at "w"
        refine ite_yes rfl ?_
        walk_at "w"
        refine ⟨pt, t, key, _, rfl, rfl, o, he, hk, by omega, ?_⟩
        walk_at "w"
        exact k
    · rw [if_neg (fun z => ht z.1)] at k
      refine ite_no (no_dec ht) ?_
      refine ite_no (by decide) ?_
      walk_at "w"
      exact k
theorem sc_Handshake_own_public : FnScope N_Handshake_own_public ["self", "token"] (defScope s_Handshake_own_public) := ⟨rfl, rfl, rfl, by decide +kernel, rfl, by decide +kernel, by decide +kernel⟩
theorem ok_Handshake_own_public (C : Cxt K mg) (h_SmallSuite_public : Me P w K mg base CX0 "SmallSuite" "public" 4 ["self", "secret"] R_SmallSuite_public) : Me P w K mg base CX0 "Handshake" "own_public" 5 ["self", "token"] R_Handshake_own_public := by
  refine Me.of C 68 d_Handshake_own_public rfl rfl rfl rfl (by decide +kernel) (by decide +kernel) sc_Handshake_own_public (fun _ _ _ _ _ _ us hl => match us, hl with | [_, _], _ => rfl) (fun ds M q ex h => ?len) (fun cdv A outer s H E hr => ⟨_, (pss_one (ps_ret (pe_me h_SmallSuite_public hr (by decide) (pe_fld (pv 0) rfl) (pa_cons (pe_ifExp (pt_cmpR (opEqU hr.units) (pv 1) pe_str (nomark _)) (pe_fld (pv 0) rfl) (pe_fld (pv 0) rfl)) pa_nil)))), fun ds M q ex h => ?main⟩)
  case len => obtain ⟨_, _, _, _, _, _, _, rfl, _⟩ := h; rfl
  case main =>
    obtain ⟨pt, p, t, h, l, s', M0, rfl, rfl, hs, hb, hl, k⟩ := h
    unfold hOwn at hs
    walk_at "s"
    walk_at "r"
    refine ev_join (bys s') ?_ ?_
    · walk_at "d_i"
      by_cases he : l = "e"
      · rw [if_pos he] at hs
        refine ite_yes (yes_dec he) ?_
        walk_at "w"
        rw [hs]
        exact ⟨rfl, rfl⟩
      · rw [if_neg he] at hs
        refine ite_no (no_dec he) ?_
        walk_at "w"
        rw [hs]
        exact ⟨rfl, rfl⟩
    · walk_at "w"
      exact ⟨s', rfl, hb, hl, k⟩
theorem sc_Handshake_peer_public : FnScope N_Handshake_peer_public ["self", "token"] (defScope s_Handshake_peer_public) := ⟨rfl, rfl, rfl, by decide +kernel, rfl, by decide +kernel, by decide +kernel⟩
theorem ok_Handshake_peer_public (C : Cxt K mg) : Me P w K mg base CX0 "Handshake" "peer_public" 1 ["self", "token"] R_Handshake_peer_public := by
  refine Me.of C 69 d_Handshake_peer_public rfl rfl rfl rfl (by decide +kernel) (by decide +kernel) sc_Handshake_peer_public (fun _ _ _ _ _ _ us hl => match us, hl with | [_, _], _ => rfl) (fun ds M q ex h => ?len) (fun cdv A outer s H E hr => ⟨_, (pss_one (ps_ret (pe_ifExp (pt_cmpR (opEqU hr.units) (pv 1) pe_str (nomark _)) (pe_fld (pv 0) rfl) (pe_fld (pv 0) rfl)))), fun ds M q ex h => ?main⟩)
  case len => obtain ⟨_, _, _, _, _, _, rfl, _⟩ := h; rfl
  case main =>
    obtain ⟨pt, p, t, h, l, M0, rfl, rfl, k⟩ := h
    unfold hPeer at k
    walk_at "s"
    walk_at "r"
    walk_at "d_i"
    by_cases he : l = "e"
    · rw [if_pos he] at k
      refine ite_yes (yes_dec he) ?_
      walk_at "w"
      exact k
    · rw [if_neg he] at k
      refine ite_no (no_dec he) ?_
      walk_at "w"
      exact k
end
section
variable {P : Program} {w : World} {K : PySem.W.Frag} {mg : Str → Option Value} {base : Heap}
theorem sc_Handshake_mix_before : FnScope N_Handshake_mix_before ["self", "before"] (defScope s_Handshake_mix_before) := ⟨rfl, rfl, rfl, by decide +kernel, rfl, by decide +kernel, by decide +kernel⟩
theorem ok_Handshake_mix_before (C : Cxt K mg) (h_Handshake_mix_ephemeral : Me P w K mg base CX0 "Handshake" "mix_ephemeral" 8 ["self", "token", "key"] R_Handshake_mix_ephemeral) (h_Transcript_mix_data : Me P w K mg base CX0 "Transcript" "mix_data" 6 ["self", "data"] R_Transcript_mix_data) (h_Handshake_own_public : Me P w K mg base CX0 "Handshake" "own_public" 5 ["self", "token"] R_Handshake_own_public) (h_Handshake_peer_public : Me P w K mg base CX0 "Handshake" "peer_public" 1 ["self", "token"] R_Handshake_peer_public) : Me P w K mg base CX0 "Handshake" "mix_before" 9 ["self", "before"] R_Handshake_mix_before := by
  refine Me.of C 66 d_Handshake_mix_before rfl rfl rfl rfl (by decide +kernel) (by decide +kernel) sc_Handshake_mix_before (fun _ _ _ _ _ _ us hl => match us, hl with | [_, _], _ => rfl) (fun ds M q ex h => ?len) (fun cdv A outer s H E hr => ⟨_, (pss_one (ps_for PassesOwn.never rfl (pi_enumT rfl (C.free "enumerate") (pa_cons (pv 1) pa_nil)) (pg_tup rfl (pgs_cons (pg_name (i := 2) sc_Handshake_mix_before.nd rfl (Or.inl rfl)) (pgs_cons (pg_name (i := 3) sc_Handshake_mix_before.nd rfl (Or.inl rfl)) pgs_nil))) (pss_cons (ps_set (i := 4) sc_Handshake_mix_before.nd rfl (Or.inl rfl) (pe_cmpR (opEqU hr.units) (pe_cmpR (opEqU hr.units) (pv 2) pe_int (nomark _)) (pe_fld (pv 0) rfl) (nomark _)))
      (pss_one (ps_for PassesOwn.never rfl (pi_seq (pv 3)) (pg_name (i := 5) sc_Handshake_mix_before.nd rfl (Or.inl rfl)) (pss_cons (ps_set (i := 6) sc_Handshake_mix_before.nd rfl (Or.inl rfl) (pe_ifExp (pt_val (pv 4)) (pe_me h_Handshake_own_public hr (by decide) (pv 0) (pa_cons (pv 5) pa_nil)) (pe_me h_Handshake_peer_public hr (by decide) (pv 0) (pa_cons (pv 5) pa_nil))))
      (pss_cons (ps_expr (pe_me h_Transcript_mix_data hr (by decide) (pe_fld (pv 0) rfl) (pa_cons (pv 6) pa_nil)))
      (pss_one (ps_expr (pe_me h_Handshake_mix_ephemeral hr (by decide) (pv 0) (pa_cons (pv 5) (pa_cons (pv 6) pa_nil)))))))))))), fun ds M q ex h => ?main⟩)
  case len => obtain ⟨_, _, _, _, _, _, rfl, _⟩ := h; rfl
  case main =>
    obtain ⟨pub, pt, p, t, h, M0, rfl, rfl, o, he, hk, k⟩ := h
    walk_at "s"
    refine xs_forR [(false, h.bef.1), (true, h.bef.2)] (fun (x : Bool × List Str) => .tup [.int (if x.1 = true then 1 else 0), strsT x.2]) (fun (t : TSt) (r : List (Bool × List Str)) => r.foldl (fun (t : TSt) (x : Bool × List Str) => runP pub h.psk.isSome x.1 t x.2) t) t (fun i t' Γ M' => M' = hM pt p t' h M0 ∧ okT t' ∧ t'.ended = false ∧ ∃ x2 x3 x4 x5 x6, Γ = [some (.ref p), some (befD h.bef), x2, x3, x4, x5, x6]) ?_
    refine it_enumT ?_
    walk_at "w"
    refine ⟨rfl, ⟨rfl, o, he, _, _, _, _, _, rfl⟩, ?_, ?_⟩
    · rintro i ⟨e, ts⟩ t' Γ' M' hm hr0 ⟨rfl, o', he', x2, x3, x4, x5, x6, rfl⟩
      have hts : ts = befOf h.bef e := by
        have := List.mem_of_getElem? hm
        rcases List.mem_cons.mp this with z | z
        · cases z; rfl
        · cases List.mem_singleton.mp z; rfl
      have hr0 : List.foldl (fun (t : TSt) (x : Bool × List Str) => runP pub h.psk.isSome x.1 t x.2) (runP pub h.psk.isSome e t' ts) _ = _ := hr0
      have hown : decide ((if e = true then (1 : Int) else 0) = 0) = !e := by cases e <;> decide
      walk_at "w"
      rw [hown]
      refine eqU_bl ?_
      walk_at "w"
      refine xs_forR ts D.str (runP pub h.psk.isSome e) t' (fun j t2 Γ M' => M' = hM pt p t2 h M0 ∧ okT t2 ∧ t2.ended = false ∧ ∃ x5 x6, Γ = [some (.ref p), some (befD h.bef), some (.int (if e = true then 1 else 0)), some (strsT ts), some (.bl (decide ((!e) = h.op))), x5, x6]) ?_
      refine it_seq ?_
      walk_at "w"
      refine ⟨_, .inr rfl, rfl, ⟨rfl, o', he', _, _, rfl⟩, ?_, ?_⟩
      · rintro j x t2 Γ' M' hx hr1 ⟨rfl, o2, he2, x5, x6, rfl⟩
        obtain ⟨p1, p2, p3⟩ := hk e x (by rw [← hts]; exact List.mem_of_getElem? hx)
        walk_at "d"
        walk_at "d"
        walk_at "d"
        refine ev_join (bys (pub e x)) ?_ ?_
        · walk_at "d_i"
          by_cases ho : (!e) = h.op
          · rw [if_pos (by rw [← ho, Bool.not_not])] at p3
            obtain ⟨s', s1, s2, s3, s4⟩ := p3
            refine ite_yes (yes_dec ho) ?_
            walk_at "w"
            refine ⟨pt, p, t2, h, x, s', M0, rfl, rfl, s1, s2, s3, ?_⟩
            rw [s4]
            exact ⟨rfl, rfl⟩
          · rw [if_neg (fun z => ho (by rw [z]; simp))] at p3
            refine ite_no (no_dec ho) ?_
            walk_at "w"
            refine ⟨pt, p, t2, h, x, M0, rfl, rfl, ?_⟩
            rw [p3]
            exact ⟨rfl, rfl⟩
        · walk_at "w"
          refine ⟨pt, t2, pub e x, _, rfl, rfl, o2, he2, p1, by omega, ?_⟩
          walk_at "w"
          refine ⟨pt, p, tMix t2 (pub e x), h, x, pub e x, M0, rfl, rfl, o2.mix _, he2, p1, by omega, ?_⟩
          walk_at "w"
          exact ⟨_, hr1, rfl, mixE_ok (o2.mix _), by rw [mixE_end]; exact he2, _, _, rfl⟩
      · rintro t2 Γ' M' hr1 ⟨rfl, o2, he2, x5, x6, rfl⟩
        have hr1 : t2 = runP pub h.psk.isSome e t' ts := hr1
        rw [← hr1] at hr0
        exact ⟨_, hr0, rfl, o2, he2, _, _, _, _, _, rfl⟩
    · rintro t' Γ' M' hr0 ⟨rfl, o', he', x2, x3, x4, x5, x6, rfl⟩
      have hr0 : t' = befT pub h.psk.isSome h.bef t := hr0
      rw [hr0]
      exact k
end
section
variable {P : Program} {w : World} {K : PySem.W.Frag} {mg : Str → Option Value} {base : Heap}
theorem sc_Handshake_mix_token : FnScope N_Handshake_mix_token ["self", "token"] (defScope s_Handshake_mix_token) := ⟨rfl, rfl, rfl, by decide +kernel, rfl, by decide +kernel, by decide +kernel⟩
theorem ok_Handshake_mix_token (C : Cxt K mg) (h_Transcript_mix_key : Me P w K mg base CX0 "Transcript" "mix_key" 7 ["self", "data"] R_Transcript_mix_key) (h_SmallSuite_exchange : Me P w K mg base CX0 "SmallSuite" "exchange" 4 ["self", "secret", "public"] R_SmallSuite_exchange) (h_Handshake_peer_public : Me P w K mg base CX0 "Handshake" "peer_public" 1 ["self", "token"] R_Handshake_peer_public) (h_Transcript_mix_both : Me P w K mg base CX0 "Transcript" "mix_both" 7 ["self", "data"] R_Transcript_mix_both) : Me P w K mg base CX0 "Handshake" "mix_token" 8 ["self", "token"] R_Handshake_mix_token := by
  refine Me.of C 70 d_Handshake_mix_token rfl rfl rfl rfl (by decide +kernel) (by decide +kernel) sc_Handshake_mix_token (fun _ _ _ _ _ _ us hl => match us, hl with | [_, _], _ => rfl) (fun ds M q ex h => ?len) (fun cdv A outer s H E hr => ⟨_, (pss_cons (ps_if (pt_cmpR (opEqU hr.units) (pv 1) pe_str (nomark _)) (pss_cons (ps_expr (pe_me h_Transcript_mix_both hr (by decide) (pe_fld (pv 0) rfl) (pa_cons (pe_fld (pv 0) rfl) pa_nil)))
      (pss_one ps_retN)) pss_nil)
      (pss_cons (ps_asg (pe_ifExp (pt_val (pe_fld (pv 0) rfl)) (pe_tup (pa_cons (pe_ix ix_seq (pv 1) pe_int (fun _ _ => rfl)) (pa_cons (pe_ix ix_seq (pv 1) pe_int (fun _ _ => rfl)) pa_nil))) (pe_tup (pa_cons (pe_ix ix_seq (pv 1) pe_int (fun _ _ => rfl)) (pa_cons (pe_ix ix_seq (pv 1) pe_int (fun _ _ => rfl)) pa_nil)))) (pg_tup rfl (pgs_cons (pg_name (i := 2) sc_Handshake_mix_token.nd rfl (Or.inl rfl)) (pgs_cons (pg_name (i := 3) sc_Handshake_mix_token.nd rfl (Or.inl rfl)) pgs_nil))))
      (pss_cons (ps_set (i := 4) sc_Handshake_mix_token.nd rfl (Or.inl rfl) (pe_ifExp (pt_cmpR (opEqU hr.units) (pv 2) pe_str (nomark _)) (pe_fld (pv 0) rfl) (pe_fld (pv 0) rfl)))
      (pss_one (ps_expr (pe_me h_Transcript_mix_key hr (by decide) (pe_fld (pv 0) rfl) (pa_cons (pe_me h_SmallSuite_exchange hr (by decide) (pe_fld (pv 0) rfl) (pa_cons (pv 4) (pa_cons (pe_me h_Handshake_peer_public hr (by decide) (pv 0) (pa_cons (pv 3) pa_nil)) pa_nil))) pa_nil))))))), fun ds M q ex h => ?main⟩)
  case len => obtain ⟨_, _, _, _, _, _, _, rfl, _⟩ := h; rfl
  case main =>
    obtain ⟨w, pt, p, t, h, x, M0, rfl, rfl, o, he, hx, n1, n2, hc, k⟩ := h
    have hsz : sizeLine = 16777216 := rfl
    unfold tokT at k
    rw [if_neg n1, if_neg n2] at k
    unfold conf at hc
    walk_at "s"
    walk_at "w"
    by_cases hp : x = "psk"
    · rw [if_pos hp] at k hc
      obtain ⟨c1, c2, c3⟩ := hc
      refine ite_yes (yes_dec hp) ?_
      walk_at "w"
      rw [c1]
      refine ⟨pt, t, w.psk, _, rfl, rfl, o, he, c2, by omega, ?_⟩
      walk_at "w"
      exact k
    · rw [if_neg hp] at k hc
      obtain ⟨c1, c2, c3, c4, c5⟩ := chr_ok x (tok_sec hx n1 n2 hp)
      obtain ⟨s', v, d1, d2, d3, d4, d5, d6, d7, d8⟩ := hc
      refine ite_no (no_dec hp) ?_
      walk_at "d"
      walk_at "d"
      walk_at "d"
      refine ev_join (.tup [.str (if h.op = true then chr0 x else chr1 x), .str (if h.op = true then chr1 x else chr0 x)]) ?_ ?_
      · walk_at "d_i"
        cases hop : h.op with
        | true =>
          refine ite_yes rfl ?_
          walk_at "w"
          refine ix_strD c3 c4 ?_
          walk_at "w"
          refine ix_strD c3 c5 ?_
          walk_at "w"
          exact ⟨rfl, rfl⟩
        | false =>
          refine ite_no (fun z => by cases z) ?_
          walk_at "w"
          refine ix_strD c3 c5 ?_
          walk_at "w"
          refine ix_strD c3 c4 ?_
          walk_at "w"
          exact ⟨rfl, rfl⟩
      · generalize (if h.op = true then chr0 x else chr1 x) = a at d1 ⊢
        generalize (if h.op = true then chr1 x else chr0 x) = b at d2 ⊢
        unfold hOwn at d1
        walk_at "w"
        refine ev_join (bys s') ?_ ?_
        · walk_at "d_i"
          by_cases ha : a = "e"
          · rw [if_pos ha] at d1
            refine ite_yes (yes_dec ha) ?_
            walk_at "w"
            rw [d1]
            exact ⟨rfl, rfl⟩
          · rw [if_neg ha] at d1
            refine ite_no (no_dec ha) ?_
            walk_at "w"
            rw [d1]
            exact ⟨rfl, rfl⟩
        · walk_at "w"
          refine ⟨pt, p, t, h, b, M0, rfl, rfl, ?_⟩
          rw [d2]
          walk_at "w"
          refine ⟨s', v, rfl, d3, d4, d5, d6, d7, ?_⟩
          rw [d8]
          walk_at "w"
          refine ⟨pt, t, w.dh x, _, rfl, rfl, o, he, by rw [← d8]; exact exM_by _ _, by rw [← d8, exM_len]; decide, ?_⟩
          walk_at "w"
          exact k
end
section
def R_Handshake_is_done : SpR := fun ds M q _ => ∃ (pt p : Addr) (t : TSt) (h : HSt) (M0 : Mem), ds = [.ref p] ∧ M = hM pt p t h M0 ∧ q (.bl (decide (h.idx = h.ms.length))) M
def wrNext (h : HSt) : Bool := match h.ms[h.idx]? with
  | none => false
  | some m => m.1 != h.op
def R_Handshake_writes_next : SpR := fun ds M q _ => ∃ (pt p : Addr) (t : TSt) (h : HSt) (M0 : Mem), ds = [.ref p] ∧ M = hM pt p t h M0 ∧ h.idx ≤ h.ms.length ∧ q (.bl (wrNext h)) M
def ovTok (up : Bool) (s : Nat × Bool) (x : Str) : Nat × Bool :=
  (s.1 + (if x = "e" ∨ x = "s" then 16 else 0) + (if x = "s" ∧ s.2 = true then 8 else 0), if x = "e" then s.2 || up else if x = "s" then s.2 else true)
def ovFin (s : Nat × Bool) : Nat := if s.2 = true then s.1 + 8 else s.1
def ovM (up : Bool) (has : Bool) (ts : List Str) : Nat := ovFin (ts.foldl (ovTok up) (0, has))
def ovH (h : HSt) (t : TSt) : Nat := match h.ms[h.idx]? with
  | none => 0
  | some m => ovM h.psk.isSome t.key.isSome m.2
def R_Handshake_overhead : SpR := fun ds M q _ => ∃ (pt p : Addr) (t : TSt) (h : HSt) (M0 : Mem), ds = [.ref p] ∧ M = hM pt p t h M0 ∧ h.idx ≤ h.ms.length ∧ q (.int (ovH h t : Nat)) M
def msgR (w : Wd) : List Int × TSt → List Str → List Int × TSt
  | s, [] => s
  | s, x :: r => msgR w (s.1 ++ tokB w s.2 x, tokT w s.2 x) r
/-- a whole message -/
def msgB (w : Wd) (t : TSt) (xs : List Str) (pay : List Int) : List Int := (msgR w ([], t) xs).1 ++ tSealed (msgR w ([], t) xs).2 pay
def msgT (w : Wd) (t : TSt) (xs : List Str) (pay : List Int) : TSt := tSeal (msgR w ([], t) xs).2 pay
/-- the writer knows what it needs for the token x -/
def wok (w : Wd) (h : HSt) (x : Str) : Prop := if x = "e" ∨ x = "s" then ∃ s, hOwn h x = some s ∧ isBy s ∧ s.length = 16 ∧ pubM s = w.pub x else conf w h x
theorem tokT_ok {w : Wd} {t : TSt} {x : Str} (o : okT t) (hn : t.num < 1000000) : okT (tokT w t x) := by
  unfold tokT
  split
  · exact mixE_ok (o.mix _)
  · split
    · exact o.sealed _ hn
    · split
      · exact o.both _
      · exact o.keyed _
theorem tokT_num {w : Wd} {t : TSt} {x : Str} (o : okT t) : (tokT w t x).num ≤ t.num + 1 := by
  have := o.n0
  unfold tokT
  split
  · unfold mixE
    split
    · show (0 : Int) ≤ _; omega
    · show t.num ≤ _; omega
  · split
    · show nkNext t.key t.num ≤ _
      unfold nkNext
      split <;> omega
    · split
      · show (0 : Int) ≤ _; omega
      · show (0 : Int) ≤ _; omega
theorem tokT_end {w : Wd} {t : TSt} {x : Str} : (tokT w t x).ended = t.ended := by
  unfold tokT
  split
  · rw [mixE_end]; rfl
  · split
    · rfl
    · split <;> rfl
theorem tokB_len {w : Wd} {t : TSt} {x : Str} (h : x = "e" ∨ x = "s" → (w.pub x).length = 16) : (tokB w t x).length ≤ 24 := by
  unfold tokB
  split
  · rename_i he
    have := h (.inl he)
    rw [he] at this
    omega
  · split
    · rename_i he
      have := h (.inr he)
      rw [he] at this
      rw [tSealed_len]
      have : nkOv t.key ≤ 8 := by unfold nkOv; split <;> omega
      omega
    · exact Nat.zero_le _
def R_Handshake_write (K : PySem.W.Frag) : SpR := fun ds M q ex => ∃ (pt p : Addr) (t : TSt) (h : HSt) (pay : List Int) (M0 : Mem), ds = [.ref p, bys pay] ∧ M = hM pt p t h M0 ∧ okT t ∧ t.ended = false ∧ t.num ≤ 900000 ∧ okH h ∧ h.idx ≤ h.ms.length ∧ isBy pay ∧ pay.length ≤ 100 ∧
  (wrNext h = true → ∃ (w : Wd) (m : Msg), h.ms[h.idx]? = some m ∧ (∀ x ∈ m.2, wok w h x) ∧ w.up = h.psk.isSome ∧ q (bys (msgB w t m.2 pay)) (hM pt p (msgT w t m.2 pay) { h with idx := h.idx + 1 } M0)) ∧ (wrNext h = false → ex (.ref (He.ga K "OutOfOrder")) M)
end
section
variable {P : Program} {w : World} {K : PySem.W.Frag} {mg : Str → Option Value} {base : Heap}
theorem sc_Handshake_is_done : FnScope N_Handshake_is_done ["self"] (defScope s_Handshake_is_done) := ⟨rfl, rfl, rfl, by decide +kernel, rfl, by decide +kernel, by decide +kernel⟩
theorem ok_Handshake_is_done (C : Cxt K mg) : Me P w K mg base CX0 "Handshake" "is_done" 1 ["self"] R_Handshake_is_done := by
  refine Me.of C 71 d_Handshake_is_done rfl rfl rfl rfl (by decide +kernel) (by decide +kernel) sc_Handshake_is_done (fun _ _ _ _ _ _ us hl => match us, hl with | [_], _ => rfl) (fun ds M q ex h => ?len) (fun cdv A outer s H E hr => ⟨_, (pss_one (ps_ret (pe_cmpR (opEqU hr.units) (pe_fld (pv 0) rfl) (pe_callB call_len rfl (C.free "len") boot_len (pa_cons (pe_fld (pe_fld (pv 0) rfl) rfl) pa_nil)) (nomark _)))), fun ds M q ex h => ?main⟩)
  case len => obtain ⟨_, _, _, _, _, rfl, _⟩ := h; rfl
  case main =>
    obtain ⟨pt, p, t, h, M0, rfl, rfl, k⟩ := h
    walk_at "s"
    walk_at "r"
    rw [List.length_map]
    have e : decide (((h.idx : Nat) : Int) = ((h.ms.length : Nat) : Int)) = decide (h.idx = h.ms.length) := by
      by_cases z : h.idx = h.ms.length
      · rw [decide_eq_true z, decide_eq_true (by rw [z])]
      · rw [decide_eq_false z, decide_eq_false (by omega)]
    rw [e]
    exact k
theorem sc_Handshake_writes_next : FnScope N_Handshake_writes_next ["self"] (defScope s_Handshake_writes_next) := ⟨rfl, rfl, rfl, by decide +kernel, rfl, by decide +kernel, by decide +kernel⟩
theorem ok_Handshake_writes_next (C : Cxt K mg) (h_Handshake_is_done : Me P w K mg base CX0 "Handshake" "is_done" 1 ["self"] R_Handshake_is_done) : Me P w K mg base CX0 "Handshake" "writes_next" 2 ["self"] R_Handshake_writes_next := by
  refine Me.of C 72 d_Handshake_writes_next rfl rfl rfl rfl (by decide +kernel) (by decide +kernel) sc_Handshake_writes_next (fun _ _ _ _ _ _ us hl => match us, hl with | [_], _ => rfl) (fun ds M q ex h => ?len) (fun cdv A outer s H E hr => ⟨_, (pss_cons (ps_if (pt_val (pe_me0 h_Handshake_is_done hr (by decide) (pv 0))) (pss_one (ps_ret pe_bl)) pss_nil)
      (pss_one (ps_ret (pe_cmpR (opEqU hr.units) (pe_cmpR (opEqU hr.units) (pe_ix ix_seq (pe_ix ix_seq (pe_fld (pe_fld (pv 0) rfl) rfl) (pe_fld (pv 0) rfl) (fun _ _ => rfl)) pe_int (fun _ _ => rfl)) (pe_gstr rfl (C.str "OPENER" "->")) (nomark _)) (pe_fld (pv 0) rfl) (nomark _))))), fun ds M q ex h => ?main⟩)
  case len => obtain ⟨_, _, _, _, _, rfl, _⟩ := h; rfl
  case main =>
    obtain ⟨pt, p, t, h, M0, rfl, rfl, hi, k⟩ := h
    unfold wrNext at k
    walk_at "s"
    walk_at "w"
    refine ⟨pt, p, t, h, M0, rfl, rfl, ?_⟩
    walk_at "w"
    by_cases hd : h.idx = h.ms.length
    · rw [List.getElem?_eq_none (by omega)] at k
      refine ite_yes (yes_dec hd) ?_
      walk_at "r"
      exact k
    · have hlt : h.idx < h.ms.length := by omega
      rw [List.getElem?_eq_getElem hlt] at k
      refine ite_no (no_dec hd) ?_
      walk_at "w"
      walk_at "r"
      refine ix_tupD (d := msgD h.ms[h.idx]) (atI_natD (by rw [List.getElem?_map, List.getElem?_eq_getElem hlt]; rfl)) ?_
      walk_at "w"
      refine ix_tupD (d := .str (arrow h.ms[h.idx].1)) rfl ?_
      walk_at "w"
      refine eqU_bl ?_
      have e : decide (decide (arrow h.ms[h.idx].1 = ("->" : Str)) = h.op) = (h.ms[h.idx].1 != h.op) := by
        have : decide (arrow h.ms[h.idx].1 = ("->" : Str)) = !h.ms[h.idx].1 := by cases h.ms[h.idx].1 <;> decide +kernel
        rw [this]
        cases h.ms[h.idx].1 <;> cases h.op <;> rfl
      rw [e]
      exact k
end
section
variable {P : Program} {w : World} {K : PySem.W.Frag} {mg : Str → Option Value} {base : Heap}
theorem sc_Handshake_overhead : FnScope N_Handshake_overhead ["self"] (defScope s_Handshake_overhead) := ⟨rfl, rfl, rfl, by decide +kernel, rfl, by decide +kernel, by decide +kernel⟩
theorem ok_Handshake_overhead (C : Cxt K mg) (h_Transcript_has_key : Me P w K mg base CX0 "Transcript" "has_key" 2 ["self"] R_Transcript_has_key) (h_Handshake_is_done : Me P w K mg base CX0 "Handshake" "is_done" 1 ["self"] R_Handshake_is_done) : Me P w K mg base CX0 "Handshake" "overhead" 3 ["self"] R_Handshake_overhead := by
  refine Me.of C 73 d_Handshake_overhead rfl rfl rfl rfl (by decide +kernel) (by decide +kernel) sc_Handshake_overhead (fun _ _ _ _ _ _ us hl => match us, hl with | [_], _ => rfl) (fun ds M q ex h => ?len) (fun cdv A outer s H E hr => ⟨_, (pss_cons (ps_if (pt_val (pe_me0 h_Handshake_is_done hr (by decide) (pv 0))) (pss_one (ps_ret pe_int)) pss_nil)
      (pss_cons (ps_set (i := 1) sc_Handshake_overhead.nd rfl (Or.inl rfl) pe_int)
      (pss_cons (ps_set (i := 2) sc_Handshake_overhead.nd rfl (Or.inl rfl) (pe_me0 h_Transcript_has_key hr (by decide) (pe_fld (pv 0) rfl)))
      (pss_cons (ps_for PassesOwn.never rfl (pi_seq (pe_ix ix_seq (pe_ix ix_seq (pe_fld (pe_fld (pv 0) rfl) rfl) (pe_fld (pv 0) rfl) (fun _ _ => rfl)) pe_int (fun _ _ => rfl))) (pg_name (i := 3) sc_Handshake_overhead.nd rfl (Or.inl rfl)) (pss_cons (ps_if (PW.pt (pw_or (pt_cmpR (opEqU hr.units) (pv 3) pe_str (nomark _)) (pw_or1 (pt_cmpR (opEqU hr.units) (pv 3) pe_str (nomark _))))) (pss_one (ps_aug (i := 1) sc_Handshake_overhead.nd rfl (Or.inl rfl) (pe_fld (pe_fld (pv 0) rfl) rfl) ip_add)) pss_nil)
      (pss_cons (ps_if (PW.pt (pw_and (pt_cmpR (opEqU hr.units) (pv 3) pe_str (nomark _)) (pw_and1 (pt_val (pv 2))))) (pss_one (ps_aug (i := 1) sc_Handshake_overhead.nd rfl (Or.inl rfl) (pe_fld (pe_fld (pv 0) rfl) rfl) ip_add)) pss_nil)
      (pss_one (ps_if (pt_cmpR (opEqU hr.units) (pv 3) pe_str (nomark _)) (pss_one (ps_set (i := 2) sc_Handshake_overhead.nd rfl (Or.inl rfl) (pe_or (pv 2) (pe_one (pe_cmpR opIsNotU (pe_fld (pv 0) rfl) pe_non (nomark _)))))) (pss_one (ps_if (pt_cmpR (opNeU hr.units) (pv 3) pe_str (nomark _)) (pss_one (ps_set (i := 2) sc_Handshake_overhead.nd rfl (Or.inl rfl) pe_bl)) pss_nil)))))))
      (pss_one (ps_ret (pe_ifExp (pt_val (pv 2)) (pe_op opAddU (pv 1) (pe_fld (pe_fld (pv 0) rfl) rfl)) (pv 1)))))))), fun ds M q ex h => ?main⟩)
  case len => obtain ⟨_, _, _, _, _, rfl, _⟩ := h; rfl
  case main =>
    obtain ⟨pt, p, t, h, M0, rfl, rfl, hi, k⟩ := h
    unfold ovH at k
    walk_at "s"
    walk_at "w"
    refine ⟨pt, p, t, h, M0, rfl, rfl, ?_⟩
    walk_at "w"
    by_cases hd : h.idx = h.ms.length
    · rw [List.getElem?_eq_none (by omega)] at k
      refine ite_yes (yes_dec hd) ?_
      walk_at "r"
      exact k
    · have hlt : h.idx < h.ms.length := by omega
      rw [List.getElem?_eq_getElem hlt] at k
      refine ite_no (no_dec hd) ?_
      walk_at "w"
      refine ⟨pt, t, 0, rfl, rfl, ?_⟩
      walk_at "w"
      refine xs_forR h.ms[h.idx].2 D.str (fun s r => r.foldl (ovTok h.psk.isSome) s) ((0, t.key.isSome) : Nat × Bool) (fun i s Γ M' => M' = hM pt p t h M0 ∧ ∃ x, Γ = [some (.ref p), some (.int (s.1 : Nat)), some (.bl s.2), x]) ?_
      refine it_seq ?_
      walk_at "w"
      refine ix_tupD (d := msgD h.ms[h.idx]) (atI_natD (by rw [List.getElem?_map, List.getElem?_eq_getElem hlt]; rfl)) ?_
      walk_at "w"
      refine ix_tupD (d := strsT h.ms[h.idx].2) rfl ?_
      refine ⟨_, .inr rfl, rfl, ⟨rfl, _, rfl⟩, ?_, ?_⟩
      · rintro i x ⟨sz, sl⟩ Γ' M' hx hr0 ⟨rfl, x3, rfl⟩
        have hr0 : List.foldl (ovTok h.psk.isSome) (ovTok h.psk.isSome (sz, sl) x) _ = _ := hr0
        unfold ovTok at hr0
        have c1 : ∀ (a b : Nat), ((a : Nat) : Int) + (b : Nat) = ((a + b : Nat) : Int) := fun a b => (Int.natCast_add a b).symm
        walk_at "w"
        by_cases he : x = "e"
        · have hs : ¬ x = "s" := by rw [he]; decide +kernel
          rw [if_pos (.inl he), if_neg (fun z => hs z.1), if_pos he] at hr0
          refine ite_yes (yes_dec he) ?_
          refine ite_yes rfl ?_
          refine xs_aug rfl ?_
          walk_at "w"
          refine op_ip ?_
          walk_at "w"
          refine ite_no (no_dec hs) ?_
          refine ite_no (by decide) ?_
          walk_at "w"
          refine ite_yes (yes_dec he) ?_
          walk_at "d"
          refine ev_join (.bl (sl || h.psk.isSome)) ?_ ?_
          · refine ev_orV ?_
            walk_at "w"
            cases sl with
            | true => exact ⟨rfl, rfl⟩
            | false =>
              refine ite_no (fun z => by cases z) ?_
              walk_at "w"
              cases hp : h.psk with
              | none => exact isNotU_non ⟨rfl, rfl⟩
              | some b => exact isNotU_some not_non_lst ⟨rfl, rfl⟩
          · walk_at "w"
            exact ⟨_, hr0, rfl, _, rfl⟩
        · refine ite_no (no_dec he) ?_
          walk_at "w"
          by_cases hs : x = "s"
          · rw [if_pos (.inr hs), if_neg he, if_pos hs] at hr0
            refine ite_yes (yes_dec hs) ?_
            refine xs_aug rfl ?_
            walk_at "w"
            refine op_ip ?_
            walk_at "w"
            refine ite_yes (yes_dec hs) ?_
            walk_at "w"
            cases sl with
            | true =>
              rw [if_pos ⟨hs, rfl⟩] at hr0
              refine ite_yes rfl ?_
              refine xs_aug rfl ?_
              walk_at "w"
              refine op_ip ?_
              walk_at "w"
              refine ite_no (no_dec he) ?_
              walk_at "w"
              refine ite_no (no_not hs) ?_
              walk_at "w"
              exact ⟨_, hr0, rfl, _, rfl⟩
            | false =>
              rw [if_neg (fun z => by cases z.2)] at hr0
              refine ite_no (fun z => by cases z) ?_
              walk_at "w"
              refine ite_no (no_dec he) ?_
              walk_at "w"
              refine ite_no (no_not hs) ?_
              walk_at "w"
              exact ⟨_, hr0, rfl, _, rfl⟩
          · rw [if_neg (fun z => z.elim he hs), if_neg (fun z => hs z.1), if_neg he, if_neg hs] at hr0
            refine ite_no (no_dec hs) ?_
            walk_at "w"
            refine ite_no (no_dec hs) ?_
            refine ite_no (by decide) ?_
            walk_at "w"
            refine ite_no (no_dec he) ?_
            walk_at "w"
            refine ite_yes (yes_not hs) ?_
            walk_at "w"
            exact ⟨_, hr0, rfl, _, rfl⟩
      · rintro ⟨sz, sl⟩ Γ' M' hr0 ⟨rfl, x3, rfl⟩
        have hr0 : (sz, sl) = h.ms[h.idx].2.foldl (ovTok h.psk.isSome) (0, t.key.isSome) := hr0
        unfold ovM at k
        dsimp only at k
        rw [← hr0] at k
        walk_at "r"
        walk_at "d_i"
        cases sl with
        | true =>
          refine ite_yes rfl ?_
          walk_at "w"
          exact k
        | false =>
          refine ite_no (fun z => by cases z) ?_
          walk_at "w"
          exact k
end
section
variable {P : Program} {w : World} {K : PySem.W.Frag} {mg : Str → Option Value} {base : Heap}
theorem sc_Handshake_write : FnScope N_Handshake_write ["self", "payload"] (defScope s_Handshake_write) := ⟨rfl, rfl, rfl, by decide +kernel, rfl, by decide +kernel, by decide +kernel⟩
theorem ok_Handshake_write (C : Cxt K mg) (h_Transcript_seal : Me P w K mg base CX0 "Transcript" "seal" 8 ["self", "text"] R_Transcript_seal) (h_Handshake_mix_ephemeral : Me P w K mg base CX0 "Handshake" "mix_ephemeral" 8 ["self", "token", "key"] R_Handshake_mix_ephemeral) (h_Transcript_mix_data : Me P w K mg base CX0 "Transcript" "mix_data" 6 ["self", "data"] R_Transcript_mix_data) (h_Handshake_own_public : Me P w K mg base CX0 "Handshake" "own_public" 5 ["self", "token"] R_Handshake_own_public) (h_Handshake_mix_token : Me P w K mg base CX0 "Handshake" "mix_token" 8 ["self", "token"] R_Handshake_mix_token) (h_Handshake_overhead : Me P w K mg base CX0 "Handshake" "overhead" 3 ["self"] R_Handshake_overhead) (h_Handshake_writes_next : Me P w K mg base CX0 "Handshake" "writes_next" 2 ["self"] R_Handshake_writes_next) : Me P w K mg base (L2.CX P w) "Handshake" "write" 9 ["self", "payload"] (R_Handshake_write K) := by
  refine Me.ofX C 74 d_Handshake_write rfl rfl rfl rfl (by decide +kernel) (by decide +kernel) sc_Handshake_write (fun _ _ _ _ _ _ us hl => match us, hl with | [_, _], _ => rfl) (fun ds M q ex h => ?len) (fun cdv A outer s H E hr => ⟨_, (pss_cons (ps_if (pt_not (pt_val (pe_me0 h_Handshake_writes_next hr (by decide) (pv 0)))) (pss_one (ps_raise rfl (takes_of rfl rfl rfl rfl) (pmk_own PySem.F.excBase_ValueError (C.exX "OutOfOrder") (C.glo "OutOfOrder") (C.exK "OutOfOrder") (raises_own (C.exB "OutOfOrder") (C.exT "OutOfOrder")) rfl))) pss_nil)
      (pss_cons (ps_if (pt_cmpR op_gt (pe_op opAddU (pe_me0 h_Handshake_overhead hr (by decide) (pv 0)) (pe_callB call_len rfl (C.free "len") boot_len (pa_cons (pv 1) pa_nil))) (pe_gint rfl (C.int "MESSAGE_SIZE" 65535)) (nomark _)) (pss_one ps_never) pss_nil)
      (pss_cons (ps_set (i := 2) sc_Handshake_write.nd rfl (Or.inl rfl) (pe_lst pa_nil))
      (pss_cons (ps_for (passes_of rfl) rfl (pi_seq (pe_ix ix_seq (pe_ix ix_seq (pe_fld (pe_fld (pv 0) rfl) rfl) (pe_fld (pv 0) rfl) (fun _ _ => rfl)) pe_int (fun _ _ => rfl))) (pg_name (i := 3) sc_Handshake_write.nd rfl (Or.inl rfl)) (pss_one (ps_if (pt_cmpR (opEqU hr.units) (pv 3) pe_str (nomark _)) (pss_cons (ps_set (i := 4) sc_Handshake_write.nd rfl (Or.inl rfl) (pe_me h_Handshake_own_public hr (by decide) (pv 0) (pa_cons pe_str pa_nil)))
      (pss_cons (ps_expr (pe_bm PySem.F.plainAttrs_list PySem.F.slot_list_extend PySem.F.type_list_extend mt_extend (pv 2) (pa_cons (pv 4) pa_nil)))
      (pss_cons (ps_expr (pe_me h_Transcript_mix_data hr (by decide) (pe_fld (pv 0) rfl) (pa_cons (pv 4) pa_nil)))
      (pss_one (ps_expr (pe_me h_Handshake_mix_ephemeral hr (by decide) (pv 0) (pa_cons (pv 3) (pa_cons (pv 4) pa_nil)))))))) (pss_one (ps_if (pt_cmpR (opEqU hr.units) (pv 3) pe_str (nomark _)) (pss_one (ps_expr (pe_bm PySem.F.plainAttrs_list PySem.F.slot_list_extend PySem.F.type_list_extend mt_extend (pv 2) (pa_cons (pe_me h_Transcript_seal hr (by decide) (pe_fld (pv 0) rfl) (pa_cons (pe_me h_Handshake_own_public hr (by decide) (pv 0) (pa_cons pe_str pa_nil)) pa_nil)) pa_nil)))) (pss_one (ps_expr (pe_me h_Handshake_mix_token hr (by decide) (pv 0) (pa_cons (pv 3) pa_nil)))))))))
      (pss_cons (ps_expr (pe_bm PySem.F.plainAttrs_list PySem.F.slot_list_extend PySem.F.type_list_extend mt_extend (pv 2) (pa_cons (pe_me h_Transcript_seal hr (by decide) (pe_fld (pv 0) rfl) (pa_cons (pv 1) pa_nil)) pa_nil)))
      (pss_cons (ps_fldaug (pv 0) pe_int in_add)
      (pss_one (ps_ret (pv 2))))))))), fun ds M q ex h => ?main⟩)
  case len => obtain ⟨_, _, _, _, _, _, rfl, _⟩ := h; rfl
  case main =>
    obtain ⟨pt, p, t, h, pay, M0, rfl, rfl, o, he, hn, oh, hi, hp, hpl, k1, k2⟩ := h
    have hsz : sizeLine = 16777216 := rfl
    walk_at "s"
    walk_at "w"
    refine ⟨pt, p, t, h, M0, rfl, rfl, hi, ?_⟩
    walk_at "w"
    cases hw : wrNext h with
    | false =>
      refine ite_yes rfl ?_
      exact xs_raise (k2 hw)
    | true =>
    obtain ⟨w, m, hm, hwok, hup, k⟩ := k1 hw
    have hlt : h.idx < h.ms.length := (List.getElem?_eq_some_iff.mp hm).1
    have htok := oh.om.tok m (List.mem_of_getElem? hm)
    have hms : atI (h.ms.map msgD) (h.idx : Nat) = some (msgD m) := atI_natD (by rw [List.getElem?_map, hm]; rfl)
    refine ite_no (fun z => by cases z) ?_
    walk_at "w"
    refine ⟨pt, p, t, h, M0, rfl, rfl, hi, ?_⟩
    walk_at "w"
    rw [List.length_map]
    have hov : ovH h t ≤ 1000 := by
      have key : ∀ (ts : List Str) (s : Nat × Bool), (ts.foldl (ovTok h.psk.isSome) s).1 ≤ s.1 + 24 * ts.length := by
        intro ts
        induction ts with
        | nil => intro s; exact Nat.le_add_right _ _
        | cons x r ih =>
          intro s
          have h1 := ih (ovTok h.psk.isSome s x)
          have h2 : (ovTok h.psk.isSome s x).1 ≤ s.1 + 24 := by unfold ovTok; dsimp only; split <;> split <;> omega
          rw [List.length_cons]
          show (List.foldl _ (ovTok h.psk.isSome s x) r).1 ≤ _
          omega
      have h1 := key m.2 (0, t.key.isSome)
      have h2 := htok.2.1
      unfold ovH
      rw [hm]
      show ovM _ _ _ ≤ _
      unfold ovM ovFin
      split <;> (dsimp only at h1 ⊢; omega)
    refine ite_no (no_dec (by omega)) ?_
    walk_at "w"
    refine ev_lstC (ea_nil ⟨by decide, fun pm hpm => ?_⟩)
    walk_at "w"
    refine sd_perm ((pt, trD t) :: (p, hsD h pt) :: (pm, .lst []) :: M0) ((List.Perm.swap _ _ _).trans (List.Perm.cons _ (List.Perm.swap _ _ _))) ?_
    refine xs_forR m.2 D.str (msgR w) (([], t) : List Int × TSt) (fun i s Γ M' => M' = hM pt p s.2 h ((pm, bys s.1) :: M0) ∧ okT s.2 ∧ s.2.ended = false ∧ s.2.num ≤ 900000 + i ∧ s.1.length ≤ 24 * i ∧ ∃ x3 x4, Γ = [some (.ref p), some (bys pay), some (.ref pm), x3, x4]) ?_
    refine it_seq ?_
    walk_at "w"
    refine ix_tupD hms ?_
    walk_at "w"
    refine ix_tupD (d := strsT m.2) rfl ?_
    refine ⟨_, .inr rfl, rfl, ⟨rfl, o, he, by walk_at "d_o", Nat.le_refl _, _, _, rfl⟩, ?_, ?_⟩
    · rintro i x ⟨ms, t'⟩ Γ' M' hx hr0 ⟨rfl, o', he', hn', hl', x3, x4, rfl⟩
      have hi : i < m.2.length := (List.getElem?_eq_some_iff.mp hx).1
      have hxt := htok.2.2 x (List.mem_of_getElem? hx)
      have hxw := hwok x (List.mem_of_getElem? hx)
      have h8 := htok.2.1
      dsimp only at o' he' hn' hl'
      have hr0 : msgR w (ms ++ tokB w t' x, tokT w t' x) (m.2.drop (i + 1)) = msgR w ([], t) m.2 := hr0
      have hnum := tokT_num (w := w) (x := x) o'
      have hok := tokT_ok (w := w) (x := x) o' (by omega)
      have hend : (tokT w t' x).ended = false := by rw [tokT_end]; exact he'
      have hbl := tokB_len (w := w) (t := t') (x := x) (fun z => by
        unfold wok at hxw
        rw [if_pos z] at hxw
        obtain ⟨s', _, _, _, z⟩ := hxw
        rw [← z, pubM_len])
      have fin : ∀ (Γ' : Gm), (∃ x3 x4, Γ' = [some (.ref p), some (bys pay), some (.ref pm), x3, x4]) → ∃ b', msgR w b' (m.2.drop (i + 1)) = msgR w ([], t) m.2 ∧ (hM pt p (tokT w t' x) h ((pm, bys (ms ++ tokB w t' x)) :: M0) = hM pt p b'.2 h ((pm, bys b'.1) :: M0) ∧ okT b'.2 ∧ b'.2.ended = false ∧ b'.2.num ≤ 900000 + ((i + 1 : Nat) : Int) ∧ b'.1.length ≤ 24 * (i + 1) ∧ ∃ x3 x4, Γ' = [some (.ref p), some (bys pay), some (.ref pm), x3, x4]) :=
        fun Γ' hg => ⟨_, hr0, rfl, hok, hend, by dsimp only; omega, by rw [List.length_append]; omega, hg⟩
      unfold wok at hxw
      walk_at "w"
      by_cases h1 : x = "e"
      · rw [if_pos (.inl h1)] at hxw
        obtain ⟨s', s1, s2, s3, s4⟩ := hxw
        subst h1
        have eT : tokT w t' "e" = mixE w.up (tMix t' (w.pub "e")) "e" (w.pub "e") := if_pos rfl
        have eB : tokB w t' "e" = w.pub "e" := if_pos rfl
        rw [eT, eB] at fin
        refine ite_yes rfl ?_
        walk_at "w"
        refine ⟨pt, p, t', h, "e", s', _, rfl, rfl, s1, s2, s3, ?_⟩
        rw [s4]
        walk_at "w"
        refine ⟨ty_cell (j := 2) rfl, ?_⟩
        walk_at "w"
        refine bm_extend (j := 2) rfl (by rw [List.length_map, List.length_map, ← s4, pubM_len]; walk_at "d_o") ?_
        walk_at "w"
        refine ⟨pt, t', w.pub "e", _, rfl, rfl, o', he', by rw [← s4]; exact pubM_by _, by rw [← s4, pubM_len]; decide, ?_⟩
        walk_at "w"
        refine ⟨pt, p, tMix t' (w.pub "e"), h, "e", w.pub "e", _, rfl, rfl, o'.mix _, he', by rw [← s4]; exact pubM_by _, by rw [← s4, pubM_len]; decide, ?_⟩
        rw [← hup, ← List.map_append]
        walk_at "w"
        exact fin _ ⟨_, _, rfl⟩
      · refine ite_no (no_dec h1) ?_
        walk_at "w"
        by_cases h2 : x = "s"
        · rw [if_pos (.inr h2)] at hxw
          obtain ⟨s', s1, s2, s3, s4⟩ := hxw
          subst h2
          have eT : tokT w t' "s" = tSeal t' (w.pub "s") := by unfold tokT; rw [if_neg h1, if_pos rfl]
          have eB : tokB w t' "s" = tSealed t' (w.pub "s") := by unfold tokB; rw [if_neg h1, if_pos rfl]
          rw [eT, eB] at fin
          rw [eB] at hbl
          refine ite_yes rfl ?_
          walk_at "w"
          refine ⟨ty_cell (j := 2) rfl, ?_⟩
          walk_at "w"
          refine ⟨pt, p, t', h, "s", s', _, rfl, rfl, s1, s2, s3, ?_⟩
          rw [s4]
          walk_at "w"
          refine ⟨pt, t', w.pub "s", _, rfl, rfl, o', he', by rw [← s4]; exact pubM_by _, by rw [← s4, pubM_len]; decide, ?_⟩
          walk_at "w"
          refine bm_extend (j := 2) rfl (by rw [List.length_map, List.length_map]; walk_at "d_o") ?_
          rw [← List.map_append]
          walk_at "w"
          exact fin _ ⟨_, _, rfl⟩
        · rw [if_neg (fun z => z.elim h1 h2)] at hxw
          have eB : tokB w t' x = [] := by unfold tokB; rw [if_neg h1, if_neg h2]
          rw [eB, List.append_nil] at fin
          refine ite_no (no_dec h2) ?_
          walk_at "w"
          refine ⟨w, pt, p, t', h, x, _, rfl, rfl, o', he', hxt, h1, h2, hxw, ?_⟩
          walk_at "w"
          exact fin _ ⟨_, _, rfl⟩
    · rintro ⟨ms, t'⟩ Γ' M' hr0 ⟨rfl, o', he', hn', hl', x3, x4, rfl⟩
      have hr0 : (ms, t') = msgR w ([], t) m.2 := hr0
      have h8 := htok.2.1
      dsimp only at o' he' hn' hl'
      unfold msgB msgT at k
      rw [← hr0] at k
      have hov2 : nkOv t'.key ≤ 8 := by unfold nkOv; split <;> omega
      walk_at "w"
      refine ⟨ty_cell (j := 2) rfl, ?_⟩
      walk_at "w"
      refine ⟨pt, t', pay, _, rfl, rfl, o', he', hp, by omega, ?_⟩
      walk_at "w"
      refine bm_extend (j := 2) rfl (by rw [List.length_map, List.length_map, tSealed_len]; walk_at "d_o") ?_
      rw [← List.map_append]
      walk_at "w"
      refine sd_fldaug C.tx (fun q hq => ev_var rfl hq) (j := 1) rfl (by decide +kernel) rfl rfl (by decide) ?_
      walk_at "w"
      refine ⟨rfl, op_i0 (fun _ => .int _) ⟨rfl, ?_⟩⟩
      refine sd_frz (i := 2) (j := 2) rfl rfl ?_
      walk_at "r"
      exact k
end
section
def R_Handshake_hash : SpR := fun ds M q _ => ∃ (pt p : Addr) (t : TSt) (h : HSt) (M0 : Mem), ds = [.ref p] ∧ M = hM pt p t h M0 ∧ q (bys t.hash) M
def R_Handshake_peer : SpR := fun ds M q _ => ∃ (pt p : Addr) (t : TSt) (h : HSt) (M0 : Mem), ds = [.ref p] ∧ M = hM pt p t h M0 ∧ q (keyD h.peer) M
def R_Handshake_split (K : PySem.W.Frag) : SpR := fun ds M q ex => ∃ (pt p : Addr) (t : TSt) (h : HSt) (M0 : Mem), ds = [.ref p] ∧ M = hM pt p t h M0 ∧ okT t ∧ ((h.idx = h.ms.length ∧ t.ended = false) → q (.tup [bys (twoM t.chain []).1, bys (twoM t.chain []).2]) (hM pt p { t with ended := true } h M0)) ∧ ((h.idx ≠ h.ms.length ∨ t.ended = true) → ex (.ref (He.ga K "OutOfOrder")) M)
/-- the reader can take the token x -/
def rok (w : Wd) (h : HSt) (x : Str) : Prop := if x = "e" ∨ x = "s" then isBy (w.pub x) ∧ (w.pub x).length = 16 ∧ weakM (w.pub x) = false else conf w h x
/-- .. and what it knows then -/
def hRd (w : Wd) (h : HSt) (x : Str) : HSt := if x = "e" then { h with peerE := some (w.pub "e") } else if x = "s" then { h with peer := some (w.pub "s") } else h
def R_Handshake_read_token : SpR := fun ds M q _ => ∃ (w : Wd) (pt p : Addr) (t : TSt) (h : HSt) (x : Str) (rest : List Int) (M0 : Mem), ds = [.ref p, .str x, bys (tokB w t x ++ rest)] ∧ M = hM pt p t h M0 ∧ okT t ∧ t.ended = false ∧ t.num < 1000000 ∧ w.up = h.psk.isSome ∧ x ∈ TOK ∧ rok w h x ∧
  q (bys rest) (hM pt p (tokT w t x) (hRd w h x) M0)
/-- the reader can take the tokens -/
def rokL (w : Wd) : HSt → List Str → Prop
  | _, [] => True
  | h, x :: r => rok w h x ∧ rokL w (hRd w h x) r
def hRdL (w : Wd) (h : HSt) (xs : List Str) : HSt := xs.foldl (hRd w) h
theorem hRd_same (w : Wd) (h : HSt) (x : Str) : (hRd w h x).psk = h.psk ∧ (hRd w h x).ms = h.ms ∧ (hRd w h x).idx = h.idx ∧ (hRd w h x).op = h.op ∧ (hRd w h x).bef = h.bef ∧ (hRd w h x).sec = h.sec ∧ (hRd w h x).eph = h.eph ∧ (hRd w h x).nm = h.nm := by
  unfold hRd
  split
  · exact ⟨rfl, rfl, rfl, rfl, rfl, rfl, rfl, rfl⟩
  · split
    · exact ⟨rfl, rfl, rfl, rfl, rfl, rfl, rfl, rfl⟩
    · exact ⟨rfl, rfl, rfl, rfl, rfl, rfl, rfl, rfl⟩
theorem hRdL_same (w : Wd) : ∀ (xs : List Str) (h : HSt), (hRdL w h xs).psk = h.psk ∧ (hRdL w h xs).ms = h.ms ∧ (hRdL w h xs).idx = h.idx ∧ (hRdL w h xs).op = h.op ∧ (hRdL w h xs).bef = h.bef ∧ (hRdL w h xs).sec = h.sec ∧ (hRdL w h xs).eph = h.eph ∧ (hRdL w h xs).nm = h.nm
  | [], _ => ⟨rfl, rfl, rfl, rfl, rfl, rfl, rfl, rfl⟩
  | x :: r, h => by
    obtain ⟨a1, a2, a3, a4, a5, a6, a7, a8⟩ := hRd_same w h x
    obtain ⟨b1, b2, b3, b4, b5, b6, b7, b8⟩ := hRdL_same w r (hRd w h x)
    exact ⟨b1.trans a1, b2.trans a2, b3.trans a3, b4.trans a4, b5.trans a5, b6.trans a6, b7.trans a7, b8.trans a8⟩
theorem msgR_app (w : Wd) : ∀ (xs : List Str) (ms : List Int) (t : TSt), (msgR w (ms, t) xs) = (ms ++ (msgR w ([], t) xs).1, (msgR w ([], t) xs).2)
  | [], ms, t => by show (ms, t) = (ms ++ [], t); rw [List.append_nil]
  | x :: r, ms, t => by
    have h1 := msgR_app w r (ms ++ tokB w t x) (tokT w t x)
    have h2 := msgR_app w r ([] ++ tokB w t x) (tokT w t x)
    show msgR w (ms ++ tokB w t x, tokT w t x) r = (ms ++ (msgR w ([] ++ tokB w t x, tokT w t x) r).1, (msgR w ([] ++ tokB w t x, tokT w t x) r).2)
    rw [h1, h2]
    simp
/-- a sealed text's length follows from the tokens -/
theorem key_tok {w : Wd} {t : TSt} {x : Str} (h1 : x ≠ "e") (h2 : x ≠ "s") : (tokT w t x).key.isSome = true := by
  unfold tokT
  rw [if_neg h1, if_neg h2]
  split <;> rfl
theorem ov_msg (w : Wd) (hp : ∀ x : Str, x = "e" ∨ x = "s" → (w.pub x).length = 16) : ∀ (xs : List Str) (ms : List Int) (t : TSt), xs.foldl (ovTok w.up) (ms.length, t.key.isSome) = ((msgR w (ms, t) xs).1.length, (msgR w (ms, t) xs).2.key.isSome)
  | [], _, _ => rfl
  | x :: r, ms, t => by
    have ih := ov_msg w hp r (ms ++ tokB w t x) (tokT w t x)
    show List.foldl (ovTok w.up) (ovTok w.up (ms.length, t.key.isSome) x) r = ((msgR w (ms ++ tokB w t x, tokT w t x) r).1.length, (msgR w (ms ++ tokB w t x, tokT w t x) r).2.key.isSome)
    rw [← ih]
    congr 1
    unfold ovTok
    dsimp only
    by_cases h1 : x = "e"
    · have hs : ¬ x = "s" := by rw [h1]; decide +kernel
      rw [if_pos (.inl h1), if_neg (fun z => hs z.1), if_pos h1]
      have eB : tokB w t x = w.pub "e" := if_pos h1
      have eT : tokT w t x = mixE w.up (tMix t (w.pub "e")) "e" (w.pub "e") := if_pos h1
      rw [eB, eT, List.length_append, hp "e" (.inl rfl)]
      unfold mixE
      cases w.up with
      | true => rw [if_pos ⟨rfl, rfl⟩, Bool.or_true]; rfl
      | false => rw [if_neg (fun z => by cases z.2), Bool.or_false]; rfl
    · by_cases h2 : x = "s"
      · rw [if_pos (.inr h2), if_neg h1, if_pos h2]
        have eB : tokB w t x = tSealed t (w.pub "s") := by unfold tokB; rw [if_neg h1, if_pos h2]
        have eT : tokT w t x = tSeal t (w.pub "s") := by unfold tokT; rw [if_neg h1, if_pos h2]
        rw [eB, eT, List.length_append, tSealed_len, hp "s" (.inr rfl)]
        have : (if x = "s" ∧ t.key.isSome = true then 8 else 0) = nkOv t.key := by
          cases t.key with
          | none => rw [if_neg (fun z => by cases z.2)]; rfl
          | some b => rw [if_pos ⟨h2, rfl⟩]; rfl
        rw [this, Nat.add_assoc]
        rfl
      · rw [if_neg (fun z => z.elim h1 h2), if_neg (fun z => h2 z.1), if_neg h1, if_neg h2, key_tok h1 h2]
        have eB : tokB w t x = [] := by unfold tokB; rw [if_neg h1, if_neg h2]
        rw [eB, List.append_nil]
        rfl
theorem ov_len (w : Wd) (hp : ∀ x : Str, x = "e" ∨ x = "s" → (w.pub x).length = 16) (t : TSt) (xs : List Str) (pay : List Int) : (msgB w t xs pay).length = ovM w.up t.key.isSome xs + pay.length := by
  have h := ov_msg w hp xs [] t
  unfold msgB ovM
  rw [show (0 : Nat) = ([] : List Int).length from rfl, h, List.length_append, tSealed_len]
  unfold ovFin nkOv
  dsimp only
  cases (msgR w ([], t) xs).2.key with
  | none => simp
  | some b => simp; omega
def runRd (w : Wd) : HSt × TSt → List Str → HSt × TSt
  | s, [] => s
  | s, x :: r => runRd w (hRd w s.1 x, tokT w s.2 x) r
theorem msgR_cons (w : Wd) (x : Str) (r : List Str) (t : TSt) : msgR w ([], t) (x :: r) = (tokB w t x ++ (msgR w ([], tokT w t x) r).1, (msgR w ([], tokT w t x) r).2) := by
  show msgR w ([] ++ tokB w t x, tokT w t x) r = _
  rw [List.nil_append, msgR_app]
theorem runRd_eq (w : Wd) : ∀ (xs : List Str) (h : HSt) (t : TSt), runRd w (h, t) xs = (hRdL w h xs, (msgR w ([], t) xs).2)
  | [], _, _ => rfl
  | x :: r, h, t => by
    show runRd w (hRd w h x, tokT w t x) r = _
    rw [runRd_eq w r, msgR_cons]
    rfl
def R_Handshake_read (K : PySem.W.Frag) : SpR := fun ds M q ex => ∃ (pt p : Addr) (t : TSt) (h : HSt) (msg : List Int) (M0 : Mem), ds = [.ref p, bys msg] ∧ M = hM pt p t h M0 ∧ okT t ∧ t.ended = false ∧ t.num ≤ 900000 ∧ okH h ∧ h.idx ≤ h.ms.length ∧ 
  ((h.idx < h.ms.length ∧ wrNext h = false) → ∃ (w : Wd) (m : Msg) (pay : List Int), h.ms[h.idx]? = some m ∧ rokL w h m.2 ∧ w.up = h.psk.isSome ∧ (∀ x : Str, x = "e" ∨ x = "s" → (w.pub x).length = 16) ∧ msg = msgB w t m.2 pay ∧ isBy pay ∧ pay.length ≤ 100 ∧
    q (bys pay) (hM pt p (msgT w t m.2 pay) { hRdL w h m.2 with idx := h.idx + 1 } M0)) ∧ ((h.idx = h.ms.length ∨ wrNext h = true) → ex (.ref (He.ga K "OutOfOrder")) M)
end
section
variable {P : Program} {w : World} {K : PySem.W.Frag} {mg : Str → Option Value} {base : Heap}
theorem sc_Handshake_hash : FnScope N_Handshake_hash ["self"] (defScope s_Handshake_hash) := ⟨rfl, rfl, rfl, by decide +kernel, rfl, by decide +kernel, by decide +kernel⟩
theorem ok_Handshake_hash (C : Cxt K mg) (h_Transcript_hash : Me P w K mg base CX0 "Transcript" "hash" 1 ["self"] R_Transcript_hash) : Me P w K mg base CX0 "Handshake" "hash" 2 ["self"] R_Handshake_hash := by
  refine Me.of C 77 d_Handshake_hash rfl rfl rfl rfl (by decide +kernel) (by decide +kernel) sc_Handshake_hash (fun _ _ _ _ _ _ us hl => match us, hl with | [_], _ => rfl) (fun ds M q ex h => ?len) (fun cdv A outer s H E hr => ⟨_, (pss_one (ps_ret (pe_me0 h_Transcript_hash hr (by decide) (pe_fld (pv 0) rfl)))), fun ds M q ex h => ?main⟩)
  case len => obtain ⟨_, _, _, _, _, rfl, _⟩ := h; rfl
  case main =>
    obtain ⟨pt, p, t, h, M0, rfl, rfl, k⟩ := h
    walk_at "s"
    walk_at "r"
    exact ⟨pt, t, 0, rfl, rfl, k⟩
theorem sc_Handshake_peer : FnScope N_Handshake_peer ["self"] (defScope s_Handshake_peer) := ⟨rfl, rfl, rfl, by decide +kernel, rfl, by decide +kernel, by decide +kernel⟩
theorem ok_Handshake_peer (C : Cxt K mg) : Me P w K mg base CX0 "Handshake" "peer" 1 ["self"] R_Handshake_peer := by
  refine Me.of C 78 d_Handshake_peer rfl rfl rfl rfl (by decide +kernel) (by decide +kernel) sc_Handshake_peer (fun _ _ _ _ _ _ us hl => match us, hl with | [_], _ => rfl) (fun ds M q ex h => ?len) (fun cdv A outer s H E hr => ⟨_, (pss_one (ps_ret (pe_ifExp (pt_cmpR opIsU (pe_fld (pv 0) rfl) pe_non (nomark _)) pe_non (pe_callTy call_list_of rfl (C.free "list") boot_list (pa_cons (pe_fld (pv 0) rfl) pa_nil))))), fun ds M q ex h => ?main⟩)
  case len => obtain ⟨_, _, _, _, _, rfl, _⟩ := h; rfl
  case main =>
    obtain ⟨pt, p, t, h, M0, rfl, rfl, k⟩ := h
    walk_at "s"
    walk_at "r"
    walk_at "d_i"
    cases hp : h.peer with
    | none =>
      rw [hp] at k
      refine isU_non ?_
      walk_at "w"
      refine ite_yes rfl ?_
      walk_at "w"
      exact k
    | some b =>
      rw [hp] at k
      refine isU_some not_non_lst ?_
      walk_at "w"
      refine ite_no (by decide) ?_
      walk_at "w"
      rw [hp]
      exact cb_list (.inl rfl) k
theorem sc_Handshake_split : FnScope N_Handshake_split ["self"] (defScope s_Handshake_split) := ⟨rfl, rfl, rfl, by decide +kernel, rfl, by decide +kernel, by decide +kernel⟩
theorem ok_Handshake_split (C : Cxt K mg) (h_Transcript_split : Me P w K mg base (L2.CX P w) "Transcript" "split" 7 ["self"] (R_Transcript_split K)) (h_Handshake_is_done : Me P w K mg base CX0 "Handshake" "is_done" 1 ["self"] R_Handshake_is_done) : Me P w K mg base (L2.CX P w) "Handshake" "split" 8 ["self"] (R_Handshake_split K) := by
  refine Me.ofX C 79 d_Handshake_split rfl rfl rfl rfl (by decide +kernel) (by decide +kernel) sc_Handshake_split (fun _ _ _ _ _ _ us hl => match us, hl with | [_], _ => rfl) (fun ds M q ex h => ?len) (fun cdv A outer s H E hr => ⟨_, (pss_cons (ps_if (pt_not (pt_val (pe_me0 h_Handshake_is_done hr (by decide) (pv 0)))) (pss_one (ps_raise rfl (takes_of rfl rfl rfl rfl) (pmk_own PySem.F.excBase_ValueError (C.exX "OutOfOrder") (C.glo "OutOfOrder") (C.exK "OutOfOrder") (raises_own (C.exB "OutOfOrder") (C.exT "OutOfOrder")) rfl))) pss_nil)
      (pss_one (ps_ret (pe_meX0 h_Transcript_split hr (by decide) (takes_of rfl rfl rfl rfl) (pe_fld (pv 0) rfl))))), fun ds M q ex h => ?main⟩)
  case len => obtain ⟨_, _, _, _, _, rfl, _⟩ := h; rfl
  case main =>
    obtain ⟨pt, p, t, h, M0, rfl, rfl, o, k1, k2⟩ := h
    walk_at "s"
    walk_at "w"
    refine ⟨pt, p, t, h, M0, rfl, rfl, ?_⟩
    walk_at "w"
    by_cases hd : h.idx = h.ms.length
    · refine ite_no (no_not hd) ?_
      walk_at "w"
      refine xx_ret (evx_meth ?_)
      walk_at "w"
      exact ⟨pt, t, _, rfl, rfl, o, fun he => k1 ⟨hd, he⟩, fun he => k2 (.inr he)⟩
    · refine ite_yes (yes_not hd) ?_
      exact xs_raise (k2 (.inl hd))
end
section
variable {P : Program} {w : World} {K : PySem.W.Frag} {mg : Str → Option Value} {base : Heap}
theorem sc_Handshake_read_token : FnScope N_Handshake_read_token ["self", "token", "rest"] (defScope s_Handshake_read_token) := ⟨rfl, rfl, rfl, by decide +kernel, rfl, by decide +kernel, by decide +kernel⟩
theorem ok_Handshake_read_token (C : Cxt K mg) (h_Handshake_mix_ephemeral : Me P w K mg base CX0 "Handshake" "mix_ephemeral" 8 ["self", "token", "key"] R_Handshake_mix_ephemeral) (h_SmallSuite_is_weak : Me P w K mg base CX0 "SmallSuite" "is_weak" 3 ["self", "public"] R_SmallSuite_is_weak) (h_Transcript_mix_data : Me P w K mg base CX0 "Transcript" "mix_data" 6 ["self", "data"] R_Transcript_mix_data) (h_Transcript_open_sealed : Me P w K mg base CX0 "Transcript" "open_sealed" 8 ["self", "sealed"] R_Transcript_open_sealed) (h_Transcript_has_key : Me P w K mg base CX0 "Transcript" "has_key" 2 ["self"] R_Transcript_has_key) (h_Handshake_mix_token : Me P w K mg base CX0 "Handshake" "mix_token" 8 ["self", "token"] R_Handshake_mix_token) : Me P w K mg base CX0 "Handshake" "read_token" 9 ["self", "token", "rest"] R_Handshake_read_token := by
  refine Me.of C 76 d_Handshake_read_token rfl rfl rfl rfl (by decide +kernel) (by decide +kernel) sc_Handshake_read_token (fun _ _ _ _ _ _ us hl => match us, hl with | [_, _, _], _ => rfl) (fun ds M q ex h => ?len) (fun cdv A outer s H E hr => ⟨_, (pss_cons (ps_if (PW.pt (pw_and (pt_cmpR (opNeU hr.units) (pv 1) pe_str (nomark _)) (pw_and1 (pt_cmpR (opNeU hr.units) (pv 1) pe_str (nomark _))))) (pss_cons (ps_expr (pe_me h_Handshake_mix_token hr (by decide) (pv 0) (pa_cons (pv 1) pa_nil)))
      (pss_one (ps_ret (pv 2)))) pss_nil)
      (pss_cons (ps_set (i := 3) sc_Handshake_read_token.nd rfl (Or.inl rfl) (pe_fld (pe_fld (pv 0) rfl) rfl))
      (pss_cons (ps_if (PW.pt (pw_and (pt_cmpR (opEqU hr.units) (pv 1) pe_str (nomark _)) (pw_and1 (pt_val (pe_me0 h_Transcript_has_key hr (by decide) (pe_fld (pv 0) rfl)))))) (pss_one (ps_aug (i := 3) sc_Handshake_read_token.nd rfl (Or.inl rfl) (pe_fld (pe_fld (pv 0) rfl) rfl) ip_add)) pss_nil)
      (pss_cons (ps_set (i := 4) sc_Handshake_read_token.nd rfl (Or.inl rfl) (pe_slice slU (pv 2) po_none (po_some (pv 3))))
      (pss_cons (ps_if (pt_cmpR (opEqU hr.units) (pv 1) pe_str (nomark _)) (pss_cons (ps_expr (pe_me h_Transcript_mix_data hr (by decide) (pe_fld (pv 0) rfl) (pa_cons (pv 4) pa_nil)))
      (pss_one (ps_fld (pv 0) (pv 4) rfl))) (pss_cons (ps_set (i := 4) sc_Handshake_read_token.nd rfl (Or.inl rfl) (pe_me h_Transcript_open_sealed hr (by decide) (pe_fld (pv 0) rfl) (pa_cons (pv 4) pa_nil)))
      (pss_one (ps_fld (pv 0) (pv 4) rfl))))
      (pss_cons (ps_if (pt_val (pe_me h_SmallSuite_is_weak hr (by decide) (pe_fld (pv 0) rfl) (pa_cons (pv 4) pa_nil))) (pss_one ps_never) pss_nil)
      (pss_cons (ps_expr (pe_me h_Handshake_mix_ephemeral hr (by decide) (pv 0) (pa_cons (pv 1) (pa_cons (pv 4) pa_nil))))
      (pss_one (ps_ret (pe_slice slU (pv 2) (po_some (pv 3)) po_none)))))))))), fun ds M q ex h => ?main⟩)
  case len => obtain ⟨_, _, _, _, _, _, _, _, rfl, _⟩ := h; rfl
  case main =>
    obtain ⟨w, pt, p, t, h, x, rest, M0, rfl, rfl, o, he, hn, hup, hx, hr0, k⟩ := h
    have hsz : sizeLine = 16777216 := rfl
    unfold rok at hr0
    walk_at "s"
    walk_at "w"
    by_cases h1 : x = "e"
    · rw [if_pos (.inl h1)] at hr0
      obtain ⟨r1, r2, r3⟩ := hr0
      subst h1
      have hs : ¬ ("e" : Str) = "s" := by decide +kernel
      have eT : tokT w t "e" = mixE w.up (tMix t (w.pub "e")) "e" (w.pub "e") := if_pos rfl
      have eB : tokB w t "e" = w.pub "e" := if_pos rfl
      have eH : hRd w h "e" = { h with peerE := some (w.pub "e") } := if_pos rfl
      rw [eT, eH] at k
      rw [eB]
      refine ite_no (no_not rfl) ?_
      refine ite_no (by decide) ?_
      walk_at "w"
      refine ite_no (no_dec hs) ?_
      refine ite_no (by decide) ?_
      walk_at "w"
      refine sl_lstD ?_
      have e16 : (16 : Int) = ((16 : Nat) : Int) := rfl
      rw [e16, cutD_to, ← List.map_take, List.take_append_of_le_length (by omega), List.take_of_length_le (by omega)]
      walk_at "w"
      refine ite_yes rfl ?_
      walk_at "w"
      refine ⟨pt, t, w.pub "e", _, rfl, rfl, o, he, r1, by omega, ?_⟩
      walk_at "w"
      refine ⟨w.pub "e", rfl, r1, r2, ?_⟩
      walk_at "w"
      refine ite_no (by rw [r3]; decide) ?_
      walk_at "w"
      refine ⟨pt, p, tMix t (w.pub "e"), { h with peerE := some (w.pub "e") }, "e", w.pub "e", M0, rfl, rfl, o.mix _, he, r1, by omega, ?_⟩
      walk_at "w"
      walk_at "r"
      refine sl_lstD ?_
      rw [cutD_from, ← List.map_drop, List.drop_append_of_le_length (by omega), List.drop_eq_nil_of_le (by omega), List.nil_append]
      rw [hup] at k
      exact k
    · refine ite_yes (yes_not h1) ?_
      walk_at "w"
      by_cases h2 : x = "s"
      · rw [if_pos (.inr h2)] at hr0
        obtain ⟨r1, r2, r3⟩ := hr0
        subst h2
        have eT : tokT w t "s" = tSeal t (w.pub "s") := by unfold tokT; rw [if_neg h1, if_pos rfl]
        have eB : tokB w t "s" = tSealed t (w.pub "s") := by unfold tokB; rw [if_neg h1, if_pos rfl]
        have eH : hRd w h "s" = { h with peer := some (w.pub "s") } := by unfold hRd; rw [if_neg h1, if_pos rfl]
        rw [eT, eH] at k
        rw [eB]
        have hlen : (tSealed t (w.pub "s")).length = 16 + nkOv t.key := by rw [tSealed_len, r2]
        refine ite_no (no_not rfl) ?_
        repeat ((fail_if_success (with_reducible refine sd_if ?_)); walk_at "d")
        refine xs_join [some (.ref p), some (.str "s"), some (bys (tSealed t (w.pub "s") ++ rest)), some (.int ((16 + nkOv t.key : Nat) : Int)), none] (hM pt p t h M0) ?_ ?_
        · walk_at "w"
          refine ite_yes (yes_dec rfl) ?_
          walk_at "w"
          refine ⟨pt, t, 0, rfl, rfl, ?_⟩
          walk_at "w"
          cases hk : t.key with
          | none =>
            refine ite_no (fun z => by cases z) ?_
            walk_at "w"
            exact ⟨rfl, rfl⟩
          | some b =>
            refine ite_yes rfl ?_
            refine xs_aug rfl ?_
            walk_at "w"
            refine op_ip ?_
            exact ⟨rfl, rfl⟩
        generalize hn' : 16 + nkOv t.key = n
        walk_at "w"
        refine sl_lstD ?_
        rw [cutD_to, ← List.map_take, List.take_append_of_le_length (by omega), List.take_of_length_le (by omega)]
        walk_at "w"
        refine ite_no (no_dec h1) ?_
        walk_at "w"
        refine ⟨pt, t, w.pub "s", _, rfl, rfl, o, he, r1, by omega, ?_⟩
        walk_at "w"
        refine ⟨w.pub "s", rfl, r1, r2, ?_⟩
        walk_at "w"
        refine ite_no (by rw [r3]; decide) ?_
        walk_at "w"
        refine ⟨pt, p, tSeal t (w.pub "s"), { h with peer := some (w.pub "s") }, "s", w.pub "s", M0, rfl, rfl, o.sealed _ hn, he, r1, by omega, ?_⟩
        walk_at "w"
        walk_at "r"
        refine sl_lstD ?_
        rw [cutD_from, ← List.map_drop, List.drop_append_of_le_length (by omega), List.drop_eq_nil_of_le (by omega), List.nil_append]
        have e9 : mixE h.psk.isSome (tSeal t (w.pub "s")) "s" (w.pub "s") = tSeal t (w.pub "s") := if_neg (fun z => h1 z.1)
        rw [← e9] at k
        exact k
      · rw [if_neg (fun z => z.elim h1 h2)] at hr0
        have eB : tokB w t x = [] := by unfold tokB; rw [if_neg h1, if_neg h2]
        have eH : hRd w h x = h := by unfold hRd; rw [if_neg h1, if_neg h2]
        rw [eH] at k
        rw [eB, List.nil_append]
        refine ite_yes (yes_not h2) ?_
        walk_at "w"
        refine ⟨w, pt, p, t, h, x, M0, rfl, rfl, o, he, hx, h1, h2, hr0, ?_⟩
        walk_at "w"
        walk_at "r"
        exact k
end
section
variable {P : Program} {w : World} {K : PySem.W.Frag} {mg : Str → Option Value} {base : Heap}
theorem sc_Handshake_read : FnScope N_Handshake_read ["self", "message"] (defScope s_Handshake_read) := ⟨rfl, rfl, rfl, by decide +kernel, rfl, by decide +kernel, by decide +kernel⟩
theorem ok_Handshake_read (C : Cxt K mg) (h_Transcript_open_sealed : Me P w K mg base CX0 "Transcript" "open_sealed" 8 ["self", "sealed"] R_Transcript_open_sealed) (h_Handshake_read_token : Me P w K mg base CX0 "Handshake" "read_token" 9 ["self", "token", "rest"] R_Handshake_read_token) (h_Transcript_twin : Me P w K mg base CX0 "Transcript" "twin" 8 ["self"] R_Transcript_twin) (h_Handshake_overhead : Me P w K mg base CX0 "Handshake" "overhead" 3 ["self"] R_Handshake_overhead) (h_Handshake_writes_next : Me P w K mg base CX0 "Handshake" "writes_next" 2 ["self"] R_Handshake_writes_next) (h_Handshake_is_done : Me P w K mg base CX0 "Handshake" "is_done" 1 ["self"] R_Handshake_is_done) : Me P w K mg base (L2.CX P w) "Handshake" "read" 10 ["self", "message"] (R_Handshake_read K) := by
  refine Me.ofX C 75 d_Handshake_read rfl rfl rfl rfl (by decide +kernel) (by decide +kernel) sc_Handshake_read (fun _ _ _ _ _ _ us hl => match us, hl with | [_, _], _ => rfl) (fun ds M q ex h => ?len) (fun cdv A outer s H E hr => ⟨_, (pss_cons (ps_if (PW.pt (pw_or (pt_val (pe_me0 h_Handshake_is_done hr (by decide) (pv 0))) (pw_or1 (pt_val (pe_me0 h_Handshake_writes_next hr (by decide) (pv 0)))))) (pss_one (ps_raise rfl (takes_of rfl rfl rfl rfl) (pmk_own PySem.F.excBase_ValueError (C.exX "OutOfOrder") (C.glo "OutOfOrder") (C.exK "OutOfOrder") (raises_own (C.exB "OutOfOrder") (C.exT "OutOfOrder")) rfl))) pss_nil)
      (pss_cons (ps_if (PW.pt (pw_or (pt_cmpR op_gt (pe_callB call_len rfl (C.free "len") boot_len (pa_cons (pv 1) pa_nil)) (pe_gint rfl (C.int "MESSAGE_SIZE" 65535)) (nomark _)) (pw_or1 (pt_cmpR op_lt (pe_callB call_len rfl (C.free "len") boot_len (pa_cons (pv 1) pa_nil)) (pe_me0 h_Handshake_overhead hr (by decide) (pv 0)) (nomark _))))) (pss_one ps_never) pss_nil)
      (pss_cons (ps_par3 (i := 2) (j := 3) (l := 4) rfl sc_Handshake_read.nd rfl rfl rfl (by decide) (by decide) (by decide) rfl rfl rfl (pa_cons (pe_me0 h_Transcript_twin hr (by decide) (pe_fld (pv 0) rfl)) (pa_cons (pe_fld (pv 0) rfl) (pa_cons (pe_fld (pv 0) rfl) pa_nil))) (by rfl))
      (pss_cons (ps_try_thru0 (pss_cons (ps_set (i := 5) sc_Handshake_read.nd rfl (Or.inl rfl) (pe_callTy call_list_of rfl (C.free "list") boot_list (pa_cons (pv 1) pa_nil)))
      (pss_cons (ps_for PassesOwn.never rfl (pi_seq (pe_ix ix_seq (pe_ix ix_seq (pe_fld (pe_fld (pv 0) rfl) rfl) (pe_fld (pv 0) rfl) (fun _ _ => rfl)) pe_int (fun _ _ => rfl))) (pg_name (i := 6) sc_Handshake_read.nd rfl (Or.inl rfl)) (pss_one (ps_set (i := 5) sc_Handshake_read.nd rfl (Or.inl rfl) (pe_me h_Handshake_read_token hr (by decide) (pv 0) (pa_cons (pv 6) (pa_cons (pv 5) pa_nil))))))
      (pss_one (ps_set (i := 7) sc_Handshake_read.nd rfl (Or.inl rfl) (pe_me h_Transcript_open_sealed hr (by decide) (pe_fld (pv 0) rfl) (pa_cons (pv 5) pa_nil)))))))
      (pss_cons (ps_fldaug (pv 0) pe_int in_add)
      (pss_one (ps_ret (pv 7)))))))), fun ds M q ex h => ?main⟩)
  case len => obtain ⟨_, _, _, _, _, _, rfl, _⟩ := h; rfl
  case main =>
    obtain ⟨pt, p, t, h, msg, M0, rfl, rfl, o, he, hn, oh, hi, k1, k2⟩ := h
    have hsz : sizeLine = 16777216 := rfl
    walk_at "s"
    walk_at "w"
    refine ⟨pt, p, t, h, M0, rfl, rfl, ?_⟩
    walk_at "w"
    by_cases hd : h.idx = h.ms.length
    · refine ite_yes (yes_dec hd) ?_
      refine ite_yes rfl ?_
      exact xs_raise (k2 (.inl hd))
    refine ite_no (no_dec hd) ?_
    walk_at "w"
    refine ⟨pt, p, t, h, M0, rfl, rfl, hi, ?_⟩
    walk_at "w"
    cases hw : wrNext h with
    | true =>
      refine ite_yes rfl ?_
      exact xs_raise (k2 (.inr hw))
    | false =>
    obtain ⟨w, m, pay, hm, hrok, hup, hp16, rfl, hpay, hpl, k⟩ := k1 ⟨by omega, hw⟩
    have hlt : h.idx < h.ms.length := by omega
    have htok := oh.om.tok m (List.mem_of_getElem? hm)
    have hms : atI (h.ms.map msgD) (h.idx : Nat) = some (msgD m) := atI_natD (by rw [List.getElem?_map, hm]; rfl)
    have hlen := ov_len w hp16 t m.2 pay
    have hovh : ovH h t = ovM w.up t.key.isSome m.2 := by unfold ovH; rw [hm, hup]
    have hovb : ovM w.up t.key.isSome m.2 ≤ 1000 := by
      have key : ∀ (ts : List Str) (s : Nat × Bool), (ts.foldl (ovTok w.up) s).1 ≤ s.1 + 24 * ts.length := by
        intro ts
        induction ts with
        | nil => intro s; exact Nat.le_add_right _ _
        | cons x r ih =>
          intro s
          have h1 := ih (ovTok w.up s x)
          have h2 : (ovTok w.up s x).1 ≤ s.1 + 24 := by unfold ovTok; dsimp only; split <;> split <;> omega
          rw [List.length_cons]
          show (List.foldl _ (ovTok w.up s x) r).1 ≤ _
          omega
      have h1 := key m.2 (0, t.key.isSome)
      have h2 := htok.2.1
      unfold ovM ovFin
      split <;> (dsimp only at h1 ⊢; omega)
    refine ite_no (fun z => by cases z) ?_
    walk_at "w"
    rw [List.length_map]
    refine ite_no (no_dec (by omega)) ?_
    walk_at "w"
    refine ⟨pt, p, t, h, M0, rfl, rfl, hi, ?_⟩
    walk_at "w"
    rw [List.length_map]
    refine ite_no (no_dec (by rw [hovh]; omega)) ?_
    walk_at "w"
    refine ⟨pt, t, _, rfl, rfl, o, fun p2 hp2 => ?_⟩
    walk_at "w"
    refine sd_forget 0 rfl ?_
    walk_at "w"
    refine xs_forR m.2 D.str (runRd w) ((h, t) : HSt × TSt) (fun i s Γ M' => M' = hM pt p s.2 s.1 M0 ∧ okT s.2 ∧ s.2.ended = false ∧ s.2.num ≤ 900000 + i ∧ rokL w s.1 (m.2.drop i) ∧ s.1.psk = h.psk ∧
      ∃ x2 x3 x4 x6 x7 y, Γ = [some (.ref p), y, x2, x3, x4, some (bys ((msgR w ([], s.2) (m.2.drop i)).1 ++ tSealed (msgR w ([], s.2) (m.2.drop i)).2 pay)), x6, x7]) ?_
    refine it_seq ?_
    walk_at "w"
    refine ix_tupD hms ?_
    walk_at "w"
    refine ix_tupD (d := strsT m.2) rfl ?_
    refine ⟨_, .inr rfl, rfl, ⟨rfl, o, he, by walk_at "d_o", hrok, rfl, _, _, _, _, _, _, rfl⟩, ?_, ?_⟩
    · rintro i x ⟨h', t'⟩ Γ' M' hx hr0 ⟨rfl, o', he', hn', hrk, hpk, x2, x3, x4, x6, x7, y, rfl⟩
      have hi : i < m.2.length := (List.getElem?_eq_some_iff.mp hx).1
      have h8 := htok.2.1
      dsimp only at o' he' hn' hrk hpk
      have ed : m.2.drop i = x :: m.2.drop (i + 1) := by
        obtain ⟨hl, ex⟩ := List.getElem?_eq_some_iff.mp hx
        rw [← ex]; exact List.drop_eq_getElem_cons hl
      rw [ed] at hrk ⊢
      dsimp only
      rw [msgR_cons]
      dsimp only
      rw [List.append_assoc]
      have hnum := tokT_num (w := w) (x := x) o'
      walk_at "w"
      refine ⟨w, pt, p, t', h', x, _, M0, rfl, rfl, o', he', by omega, by rw [hup, hpk], htok.2.2 x (List.mem_of_getElem? hx), hrk.1, ?_⟩
      walk_at "w"
      exact ⟨_, hr0, rfl, tokT_ok o' (by dsimp only; omega), by rw [tokT_end]; exact he', by dsimp only; omega, hrk.2, by rw [(hRd_same w h' x).1]; exact hpk, _, _, _, _, _, _, rfl⟩
    · rintro ⟨h', t'⟩ Γ' M' hr0 ⟨rfl, o', he', hn', hrk, hpk, x2, x3, x4, x6, x7, y, rfl⟩
      have hr0 : (h', t') = runRd w (h, t) m.2 := hr0
      rw [runRd_eq] at hr0
      have h8 := htok.2.1
      dsimp only at o' he' hn' hrk hpk
      rw [List.drop_length]
      dsimp only [msgR]
      rw [List.nil_append]
      unfold msgT at k
      have e1 : h' = hRdL w h m.2 := congrArg Prod.fst hr0
      have e2 : t' = (msgR w ([], t) m.2).2 := congrArg Prod.snd hr0
      rw [← e1, ← e2] at k
      have e3 : h.idx = h'.idx := by rw [e1, (hRdL_same w m.2 h).2.2.1]
      rw [e3] at k
      walk_at "w"
      refine ⟨pt, t', pay, _, rfl, rfl, o', he', hpay, by omega, ?_⟩
      walk_at "w"
      refine sd_fldaug C.tx (fun q hq => ev_var rfl hq) (j := 1) rfl (by decide +kernel) rfl rfl (by decide) ?_
      walk_at "w"
      refine ⟨rfl, op_i0 (fun _ => .int _) ⟨rfl, ?_⟩⟩
      walk_at "r"
      exact k
end
section
def labelS (n : Str) : Str := Str.empty ++ "Noise_" ++ n ++ "_" ++ "127_Mix_Mix"
def pick (nd : Bool) (v : Option (List Int)) : Option (List Int) := if nd = true then v else none
def partOk (nd : Bool) (v : Option (List Int)) (n : Nat) : Prop := nd = true → ∃ b, v = some b ∧ isBy b ∧ b.length = n
/-- what a new handshake holds -/
def hNew (n : Str) (b : Bef) (ms : List Msg) (op : Bool) (sec eph peer peerE psk : Option (List Int)) : HSt :=
  ⟨n, b, ms, op, pick (nSec b ms (!op)) sec, pick (nEph b ms (!op)) eph, pick (decide (("s" : Str) ∈ befOf b op)) peer, pick (decide (("e" : Str) ∈ befOf b op)) peerE, pick (usesPsk ms) psk, 0⟩
def start0 (n : Str) : TSt := ⟨startH (labelS n), startH (labelS n), none, 0, false⟩
theorem start_ok {S : List Int} (h : isBy S) (hl : S.length = 16) : okT ⟨S, S, none, 0, false⟩ := { h1 := h, h2 := hl, c1 := h, c2 := hl, k := fun _ z => (by cases z), n0 := Int.le_refl 0, n1 := (by decide : (0 : Int) ≤ 1000000) }
theorem start0_ok {n : Str} (h : isBy (codesM (labelS n))) : okT (start0 n) := start_ok (startH_by h) (startH_len (labelS n))
def R_Handshake___init__ (K : PySem.W.Frag) : SpR := fun ds M q ex => ∃ (p : Addr) (n : Str) (b : Bef) (ms : List Msg) (op : Bool) (pro : D) (sec eph peer peerE psk : Option (List Int)) (M0 : Mem),
  ds = [.ref p, suiteD, patD n b ms, .bl op, pro, keyD sec, keyD eph, keyD peer, keyD peerE, keyD psk] ∧ M = (p, .obj "Handshake" [] []) :: M0 ∧ okB b ∧ okM ms ∧
  ((brokenM b ms = true ∨ lacks [sec, eph, peer, peerE, psk] (needs b ms (!op)) = true) → ex (.ref (He.ga K "Refused")) M) ∧
  ((brokenM b ms = false ∧ lacks [sec, eph, peer, peerE, psk] (needs b ms (!op)) = false) → ∃ (pub : Bool → Str → List Int) (pl : List Int), pro = bys pl ∧ isBy pl ∧ pl.length ≤ 1024 ∧ n.length ≤ 100 ∧ isBy (codesM (labelS n)) ∧
    partOk (nSec b ms (!op)) sec 16 ∧ partOk (nEph b ms (!op)) eph 16 ∧ partOk (decide (("s" : Str) ∈ befOf b op)) peer 16 ∧ partOk (decide (("e" : Str) ∈ befOf b op)) peerE 16 ∧ partOk (usesPsk ms) psk 32 ∧
    (∀ x, (hNew n b ms op sec eph peer peerE psk).peer = some x → weakM x = false) ∧ (∀ x, (hNew n b ms op sec eph peer peerE psk).peerE = some x → weakM x = false) ∧
    befOk pub (hNew n b ms op sec eph peer peerE psk) ∧ ∀ pt, pt ∉ dom M → q .non (hM pt p (befT pub (hNew n b ms op sec eph peer peerE psk).psk.isSome b (tMix (start0 n) pl)) (hNew n b ms op sec eph peer peerE psk) M0))
theorem pick_ok {nd : Bool} {v : Option (List Int)} {n : Nat} (h : partOk nd v n) : ∀ b, pick nd v = some b → isBy b ∧ b.length = n := by
  intro b hb
  unfold pick at hb
  split at hb
  · rename_i hn
    obtain ⟨c, rfl, h1, h2⟩ := h hn
    cases hb
    exact ⟨h1, h2⟩
  · cases hb
end
section
variable {P : Program} {w : World} {K : PySem.W.Frag} {mg : Str → Option Value} {base : Heap}
theorem sc_Handshake___init__ : FnScope N_Handshake___init__ ["self", "suite", "pattern", "opener", "prologue", "secret", "ephemeral", "peer", "peer_ephemeral", "psk"] (defScope s_Handshake___init__) := ⟨rfl, rfl, rfl, by decide +kernel, rfl, by decide +kernel, by decide +kernel⟩
theorem ok_Handshake___init__ (C : Cxt K mg) (h_Handshake_mix_before : Me P w K mg base CX0 "Handshake" "mix_before" 9 ["self", "before"] R_Handshake_mix_before) (h_Transcript_mix_data : Me P w K mg base CX0 "Transcript" "mix_data" 6 ["self", "data"] R_Transcript_mix_data) (h_Transcript___init__ : Ma P w K mg base CX0 "Transcript" 6 ["self", "suite", "label"] R_Transcript___init__) (h_SmallSuite_is_weak : Me P w K mg base CX0 "SmallSuite" "is_weak" 3 ["self", "public"] R_SmallSuite_is_weak) (h_check_part : Fn P w K mg base CX0 "check_part" 1 ["value", "needed", "size"] R_check_part) (h_needed_parts : Fn P w K mg base (L2.CX P w) "needed_parts" 4 ["pattern", "opener", "keys"] (R_needed_parts K)) : Mh P w K mg base 10 (R_Handshake___init__ K) := by
  refine Mh.of C sc_Handshake___init__ (fun ds M q ex h => ?len) (fun cdv A outer s H E hr => ⟨_, (pss_cons (ps_set (i := 10) sc_Handshake___init__.nd rfl (Or.inl rfl) (pe_fnX h_needed_parts hr (by decide) rfl (takes_of rfl rfl rfl rfl) (pa_cons (pv 2) (pa_cons (pv 3) (pa_cons (pe_tup (pa_cons (pv 5) (pa_cons (pv 6) (pa_cons (pv 7) (pa_cons (pv 8) (pa_cons (pv 9) pa_nil)))))) pa_nil)))))
      (pss_cons (ps_if (pt_cmpR op_gt (pe_callB call_len rfl (C.free "len") boot_len (pa_cons (pv 4) pa_nil)) (pe_gint rfl (C.int "PROLOGUE_SIZE" 1024)) (nomark _)) (pss_one ps_never) pss_nil)
      (pss_cons (ps_set (i := 11) sc_Handshake___init__.nd rfl (Or.inl rfl) (pe_fld (pv 1) rfl))
      (pss_cons (ps_fld (pv 0) (pv 1) rfl)
      (pss_cons (ps_fld (pv 0) (pv 2) rfl)
      (pss_cons (ps_fld (pv 0) (pv 3) rfl)
      (pss_cons (ps_fld (pv 0) (pe_fn h_check_part hr (by decide) rfl (pa_cons (pv 5) (pa_cons (pe_ix ix_seq (pv 10) pe_int (fun _ _ => rfl)) (pa_cons (pv 11) pa_nil)))) rfl)
      (pss_cons (ps_fld (pv 0) (pe_fn h_check_part hr (by decide) rfl (pa_cons (pv 6) (pa_cons (pe_ix ix_seq (pv 10) pe_int (fun _ _ => rfl)) (pa_cons (pv 11) pa_nil)))) rfl)
      (pss_cons (ps_fld (pv 0) (pe_fn h_check_part hr (by decide) rfl (pa_cons (pv 7) (pa_cons (pe_ix ix_seq (pv 10) pe_int (fun _ _ => rfl)) (pa_cons (pv 11) pa_nil)))) rfl)
      (pss_cons (ps_fld (pv 0) (pe_fn h_check_part hr (by decide) rfl (pa_cons (pv 8) (pa_cons (pe_ix ix_seq (pv 10) pe_int (fun _ _ => rfl)) (pa_cons (pv 11) pa_nil)))) rfl)
      (pss_cons (ps_fld (pv 0) (pe_fn h_check_part hr (by decide) rfl (pa_cons (pv 9) (pa_cons (pe_ix ix_seq (pv 10) pe_int (fun _ _ => rfl)) (pa_cons (pe_gint rfl (C.int "PSK_SIZE" 32)) pa_nil)))) rfl)
      (pss_cons (ps_for (passes_of rfl) rfl (pi_seq (pe_tup (pa_cons (pe_fld (pv 0) rfl) (pa_cons (pe_fld (pv 0) rfl) pa_nil)))) (pg_name (i := 12) sc_Handshake___init__.nd rfl (Or.inl rfl)) (pss_one (ps_if (PW.pt (pw_and (pt_cmpR opIsNotU (pv 12) pe_non (nomark _)) (pw_and1 (pt_val (pe_me h_SmallSuite_is_weak hr (by decide) (pv 1) (pa_cons (pv 12) pa_nil)))))) (pss_one ps_never) pss_nil)))
      (pss_cons (ps_fld (pv 0) pe_int rfl)
      (pss_cons (ps_fld (pv 0) (pe_ma h_Transcript___init__ hr (by decide) rfl (pa_cons (pv 1) (pa_cons (pe_joined (.cons pe_str (.cons (pe_fmt (pe_fld (pv 2) rfl)) (.cons pe_str (.cons (pe_fmt (pe_fld (pv 1) rfl)) .nil))))) pa_nil))) rfl)
      (pss_cons (ps_expr (pe_me h_Transcript_mix_data hr (by decide) (pe_fld (pv 0) rfl) (pa_cons (pv 4) pa_nil)))
      (pss_one (ps_expr (pe_me h_Handshake_mix_before hr (by decide) (pv 0) (pa_cons (pe_fld (pv 2) rfl) pa_nil))))))))))))))))))), fun ds M q ex h => ?main⟩)
  case len => obtain ⟨_, _, _, _, _, _, _, _, _, _, _, _, rfl, _⟩ := h; rfl
  case main =>
    obtain ⟨p, n, b, ms, op, pro, sec, eph, peer, peerE, psk, M0, rfl, rfl, ob, om, k1, k2⟩ := h
    have hsz : sizeLine = 16777216 := rfl
    walk_at "s"
    walk_at "d"
    refine xx_asg (evx_call ?_)
    walk_at "w"
    refine ⟨n, b, ms, op, [sec, eph, peer, peerE, psk], rfl, ob, om, rfl, fun hg => ?_, fun hb => k1 hb⟩
    obtain ⟨pub, pl, rfl, hpl, hpl2, hn, hcodes, p1, p2, p3, p4, p5, w1, w2, hbef, k⟩ := k2 hg
    have hnd : (needs b ms (!op)).map D.bl = [.bl (nSec b ms (!op)), .bl (nEph b ms (!op)), .bl (decide (("s" : Str) ∈ befOf b op)), .bl (decide (("e" : Str) ∈ befOf b op)), .bl (usesPsk ms)] := by
      unfold needs; rw [Bool.not_not]; rfl
    rw [hnd]
    walk_at "w"
    rw [List.length_map]
    refine ite_no (no_dec (by omega)) ?_
    walk_at "w"
    refine ix_tupD (i := 0) rfl ?_
    walk_at "w"
    refine ⟨sec, nSec b ms (!op), 16, rfl, fun z => by obtain ⟨c, c1, _, c2⟩ := p1 z; exact ⟨c, c1, c2⟩, ?_⟩
    walk_at "w"
    refine ix_tupD (i := 1) rfl ?_
    walk_at "w"
    refine ⟨eph, nEph b ms (!op), 16, rfl, fun z => by obtain ⟨c, c1, _, c2⟩ := p2 z; exact ⟨c, c1, c2⟩, ?_⟩
    walk_at "w"
    refine ix_tupD (i := 2) rfl ?_
    walk_at "w"
    refine ⟨peer, decide (("s" : Str) ∈ befOf b op), 16, rfl, fun z => by obtain ⟨c, c1, _, c2⟩ := p3 z; exact ⟨c, c1, c2⟩, ?_⟩
    walk_at "w"
    refine ix_tupD (i := 3) rfl ?_
    walk_at "w"
    refine ⟨peerE, decide (("e" : Str) ∈ befOf b op), 16, rfl, fun z => by obtain ⟨c, c1, _, c2⟩ := p4 z; exact ⟨c, c1, c2⟩, ?_⟩
    walk_at "w"
    refine ix_tupD (i := 4) rfl ?_
    walk_at "w"
    refine ⟨psk, usesPsk ms, 32, rfl, fun z => by obtain ⟨c, c1, _, c2⟩ := p5 z; exact ⟨c, c1, c2⟩, ?_⟩
    walk_at "w"
    generalize hh : hNew n b ms op sec eph peer peerE psk = h at w1 w2 hbef k
    have hsec : pick (nSec b ms (!op)) sec = h.sec := by rw [← hh]; rfl
    have heph : pick (nEph b ms (!op)) eph = h.eph := by rw [← hh]; rfl
    have hpeer : pick (decide (("s" : Str) ∈ befOf b op)) peer = h.peer := by rw [← hh]; rfl
    have hpeerE : pick (decide (("e" : Str) ∈ befOf b op)) peerE = h.peerE := by rw [← hh]; rfl
    have hpsk : pick (usesPsk ms) psk = h.psk := by rw [← hh]; rfl
    have hk3 : ∀ c, h.peer = some c → isBy c ∧ c.length = 16 := by rw [← hpeer]; exact pick_ok p3
    have hk4 : ∀ c, h.peerE = some c → isBy c ∧ c.length = 16 := by rw [← hpeerE]; exact pick_ok p4
    refine sd_perm ((p, .obj "Handshake" ["_suite", "_pattern", "_opener", "_secret", "_ephemeral", "_peer", "_peer_ephemeral", "_psk"] [suiteD, patD n b ms, .bl op, keyD (pick (nSec b ms (!op)) sec), keyD (pick (nEph b ms (!op)) eph), keyD (pick (decide (("s" : Str) ∈ befOf b op)) peer), keyD (pick (decide (("e" : Str) ∈ befOf b op)) peerE), keyD (pick (usesPsk ms) psk)]) :: M0) (List.Perm.refl _) ?_
    rw [hsec, heph, hpeer, hpeerE, hpsk]
    refine xs_forR [h.peer, h.peerE] keyD (fun (_ : Unit) _ => ()) () (fun i _ Γ M' => M' = (p, .obj "Handshake" ["_suite", "_pattern", "_opener", "_secret", "_ephemeral", "_peer", "_peer_ephemeral", "_psk"] [suiteD, patD n b ms, .bl op, keyD h.sec, keyD h.eph, keyD h.peer, keyD h.peerE, keyD h.psk]) :: M0 ∧
      ∃ x y, Γ = [some (.ref p), some suiteD, some (patD n b ms), some (.bl op), some (bys pl), some (keyD sec), some (keyD eph), some (keyD peer), some (keyD peerE), some (keyD psk), y, some (.int 16), x]) ?_
    refine it_seq ?_
    walk_at "w"
    refine ⟨_, .inr rfl, rfl, ⟨rfl, _, _, rfl⟩, ?_, ?_⟩
    · rintro i v _ Γ' M' hv _ ⟨rfl, x, y, rfl⟩
      have hv : (v = h.peer ∨ v = h.peerE) := by
        have := List.mem_of_getElem? hv
        rcases List.mem_cons.mp this with z | z
        · exact .inl z
        · exact .inr (List.mem_singleton.mp z)
      have hvw : ∀ c, v = some c → isBy c ∧ c.length = 16 ∧ weakM c = false := by
        intro c hc
        rcases hv with rfl | rfl
        · exact ⟨(hk3 c hc).1, (hk3 c hc).2, w1 c hc⟩
        · exact ⟨(hk4 c hc).1, (hk4 c hc).2, w2 c hc⟩
      walk_at "w"
      cases v with
      | none =>
        refine isNotU_non ?_
        walk_at "w"
        refine ite_no (by decide) ?_
        refine ite_no (by decide) ?_
        walk_at "w"
        exact ⟨(), rfl, rfl, _, _, rfl⟩
      | some c =>
        obtain ⟨v1, v2, v3⟩ := hvw c rfl
        refine isNotU_some not_non_lst ?_
        walk_at "w"
        refine ite_yes rfl ?_
        walk_at "w"
        refine ⟨c, rfl, v1, v2, ?_⟩
        walk_at "w"
        refine ite_no (by rw [v3]; decide) ?_
        walk_at "w"
        exact ⟨(), rfl, rfl, _, _, rfl⟩
    · rintro _ Γ' M' _ ⟨rfl, x, y, rfl⟩
      have slen : ∀ a b : Str, (a ++ b).length = a.length + b.length := fun a b => by
        have := congrArg List.length (TL.tl_append a b)
        rw [List.length_append] at this
        show (a ++ b).cps.size = a.cps.size + b.cps.size
        rw [← Array.length_toList, ← Array.length_toList, ← Array.length_toList]
        exact this
      have l0 : (Str.empty : Str).length = 0 := rfl
      have l1 : ("Noise_" : Str).length = 6 := by decide +kernel
      have l2 : ("_" : Str).length = 1 := by decide +kernel
      have l3 : ("127_Mix_Mix" : Str).length = 11 := by decide +kernel
      have l4 : (codesM (labelS n)).length ≤ 1000 := by
        rw [codes_len]
        show (labelS n).cps.toList.length ≤ 1000
        rw [Array.length_toList]
        show (labelS n).length ≤ 1000
        unfold labelS
        rw [slen, slen, slen, slen]
        omega
      walk_at "w"
      refine ev_make ?_
      walk_at "w"
      refine ev_js ?_
      refine ej_cons (ev_str ⟨_, rfl, by rw [slen]; omega, ?_⟩)
      refine ej_cons (ev_fmt ?_)
      repeat ((fail_if_success (with_reducible show (_ ++ _ : Str).length ≤ sizeLine ∧ _)); walk_at "d")
      refine ⟨by omega, _, rfl, by rw [slen, slen]; omega, ?_⟩
      refine ej_cons (ev_str ⟨_, rfl, by rw [slen, slen, slen]; omega, ?_⟩)
      refine ej_cons (ev_fmt ?_)
      repeat ((fail_if_success (with_reducible show (_ ++ _ : Str).length ≤ sizeLine ∧ _)); walk_at "d")
      refine ⟨by rw [slen, slen, slen, slen]; omega, ?_⟩
      refine ej_nil ?_
      walk_at "w"
      intro pt hpt
      refine ⟨pt, labelS n, _, rfl, rfl, hcodes, l4, rfl, ?_⟩
      have o0 : okT (start0 n) := start0_ok hcodes
      unfold start0 at k o0
      generalize startH (labelS n) = S0 at k o0 ⊢
      generalize hT0 : (⟨S0, S0, none, 0, false⟩ : TSt) = T0 at k o0 ⊢
      have he0 : T0.ended = false := by rw [← hT0]
      walk_at "w"
      refine ⟨pt, T0, pl, _, rfl, rfl, o0, he0, hpl, by omega, ?_⟩
      have hop : h.op = op := by rw [← hh]; rfl
      have hnm : h.nm = n := by rw [← hh]; rfl
      have hbf : h.bef = b := by rw [← hh]; rfl
      have hms : h.ms = ms := by rw [← hh]; rfl
      have hix : h.idx = 0 := by rw [← hh]; rfl
      have eh : hsD h pt = .obj "Handshake" ["_suite", "_pattern", "_opener", "_secret", "_ephemeral", "_peer", "_peer_ephemeral", "_psk", "_index", "_transcript"]
          [suiteD, patD n b ms, .bl op, keyD h.sec, keyD h.eph, keyD h.peer, keyD h.peerE, keyD h.psk, .int 0, .ref pt] := by
        unfold hsD; rw [hop, hnm, hbf, hms, hix]; rfl
      refine sd_perm ((pt, trD (tMix T0 pl)) :: (p, hsD h pt) :: M0) (by rw [eh]; exact List.Perm.refl _) ?_
      walk_at "w"
      refine ⟨pub, pt, p, tMix T0 pl, h, M0, by rw [hbf], rfl, o0.mix _, he0, hbef, ?_⟩
      walk_at "w"
      rw [hbf]
      exact k pt hpt
end
section
abbrev scrD (xs : List Int) : D := .scr (xs.map D.int)
def R__law_cell : SpR := fun ds M q _ => ∃ (xs : List Int) (k : Nat), ds = [scrD xs, .int k] ∧ ∀ i : Int, q (.int i) M
abbrev stD (a b : Int) : D := .lst [.int a, .int b]
def okG (a : Int) : Prop := a.natAbs < 2 ^ 40
def R__law_pick : SpR := fun ds M q _ => ∃ (p : Addr) (a b n : Int) (M0 : Mem), ds = [.ref p, .int n] ∧ M = (p, stD a b) :: M0 ∧ okG a ∧ 0 < n ∧ ∀ d a' : Int, 0 ≤ d → d < n → okG a' → q (.int d) ((p, stD a' b) :: M0)
def R__law_digit : SpR := fun ds M q _ => ∃ (p : Addr) (a b n : Int) (M0 : Mem), ds = [.ref p, .int n] ∧ M = (p, stD a b) :: M0 ∧ okG a ∧ 0 < n ∧ n < 1000000 ∧ ∀ d a' b' : Int, 0 ≤ d → d < n → okG a' → q (.int d) ((p, stD a' b') :: M0)
def R__law_state : SpR := fun ds M q _ => ∃ (c s : Int), ds = [.int c, .int s] ∧ 0 ≤ s ∧ s ≤ 1000 ∧ ∀ (p : Addr) (a b : Int), p ∉ dom M → okG a → q (.ref p) ((p, stD a b) :: M)
def R__law_before : SpR := fun ds M q _ => ∃ (p : Addr) (a b : Int) (M0 : Mem), ds = [.ref p] ∧ M = (p, stD a b) :: M0 ∧ okG a ∧ ∀ (x : List Str) (a' b' : Int), x ∈ BEF → okG a' → q (strsT x) ((p, stD a' b') :: M0)
def okX (n : Nat) (ts : List Str) : Prop := ts ≠ [] ∧ ts.length ≤ n ∧ ∀ t ∈ ts, t ∈ TOK
def TOK8 : List Str := ["e", "s", "ee", "es", "se", "ss", "psk", "e"]
def R__law_tokens : SpR := fun ds M q _ => ∃ (p : Addr) (a b : Int) (M0 : Mem), ds = [.ref p] ∧ M = (p, stD a b) :: M0 ∧ okG a ∧ ∀ (x : List Str) (a' b' : Int), okX 8 x → okG a' → q (strsT x) ((p, stD a' b') :: M0)
structure okE (n : Nat) (ms : List Msg) : Prop where
  ne : ms ≠ []
  le : ms.length ≤ 12
  tok : ∀ m ∈ ms, okX n m.2
  al : alt ms = true
theorem okE.up {n m : Nat} {ms : List Msg} (o : okE n ms) (h : n ≤ m) : okE m ms := ⟨o.ne, o.le, fun x hx => ⟨(o.tok x hx).1, Nat.le_trans (o.tok x hx).2.1 h, (o.tok x hx).2.2⟩, o.al⟩
theorem okE.okM {ms : List Msg} (o : okE 8 ms) : okM ms := ⟨o.ne, o.le, fun m hm => ⟨(o.tok m hm).1, (o.tok m hm).2.1, (o.tok m hm).2.2⟩, o.al⟩
theorem alt_snoc : ∀ {ms : List Msg} {m : Msg}, alt ms = true → (∀ l, ms.getLast? = some l → l.1 ≠ m.1) → alt (ms ++ [m]) = true
  | [], _, _, _ => rfl
  | [a], m, _, h => by
    have := h a rfl
    show (a.1 != m.1 && true) = true
    simpa using this
  | a :: b :: r, m, h1, h2 => by
    have h1 : (a.1 != b.1 && alt (b :: r)) = true := h1
    rw [Bool.and_eq_true] at h1
    show (a.1 != b.1 && alt (b :: r ++ [m])) = true
    rw [Bool.and_eq_true]
    exact ⟨h1.1, alt_snoc h1.2 (fun l hl => h2 l (by rw [List.getLast?_cons_cons]; exact hl))⟩
def R__law_messages : SpR := fun ds M q _ => ∃ (p : Addr) (a b : Int) (M0 : Mem), ds = [.ref p] ∧ M = (p, stD a b) :: M0 ∧ okG a ∧ ∀ (ms : List Msg) (a' b' : Int), okE 8 ms → okG a' → q (msgsD ms) ((p, stD a' b') :: M0)
end
section
variable {P : Program} {w : World} {K : PySem.W.Frag} {mg : Str → Option Value} {base : Heap}
theorem sc__law_cell : FnScope N__law_cell ["_law_script", "_law_k"] (defScope s__law_cell) := ⟨rfl, rfl, rfl, by decide +kernel, rfl, by decide +kernel, by decide +kernel⟩
theorem ok__law_cell (C : Cxt K mg) : Fn P w K mg base CX0 "_law_cell" 1 ["_law_script", "_law_k"] R__law_cell := by
  refine Fn.of C 80 d__law_cell rfl rfl rfl rfl (by decide +kernel) sc__law_cell (fun _ _ _ _ _ _ us hl => match us, hl with | [_, _], _ => rfl) (fun ds M q ex h => ?len) (fun cdv A outer s H E hr => ⟨_, (pss_cons (ps_if (pt_cmpR op_lt (pv 1) (pe_callB call_len rfl (C.free "len") boot_len (pa_cons (pv 0) pa_nil)) (nomark _)) (pss_one (ps_ret (pe_ix ix_seq (pv 0) (pv 1) (fun _ _ => rfl)))) pss_nil)
      (pss_one (ps_ret pe_int))), fun ds M q ex h => ?main⟩)
  case len => obtain ⟨_, _, rfl, _⟩ := h; rfl
  case main =>
    obtain ⟨xs, k, rfl, k0⟩ := h
    walk_at "s"
    walk_at "w"
    refine cb_len len_scr ?_
    walk_at "w"
    rw [List.length_map]
    by_cases hk : k < xs.length
    · refine ite_yes (yes_dec (by omega)) ?_
      walk_at "r"
      refine ix_scrD (d := .int xs[k]) (atI_natD (by rw [List.getElem?_map, List.getElem?_eq_getElem hk]; rfl)) ?_
      exact k0 _
    · refine ite_no (no_dec (by omega)) ?_
      walk_at "w"
      walk_at "r"
      exact k0 0
theorem sc__law_pick : FnScope N__law_pick ["_law_state_here", "_law_many"] (defScope s__law_pick) := ⟨rfl, rfl, rfl, by decide +kernel, rfl, by decide +kernel, by decide +kernel⟩
theorem ok__law_pick (C : Cxt K mg) : Fn P w K mg base CX0 "_law_pick" 1 ["_law_state_here", "_law_many"] R__law_pick := by
  refine Fn.of C 81 d__law_pick rfl rfl rfl rfl (by decide +kernel) sc__law_pick (fun _ _ _ _ _ _ us hl => match us, hl with | [_, _], _ => rfl) (fun ds M q ex h => ?len) (fun cdv A outer s H E hr => ⟨_, (pss_cons (ps_asg (pe_op op_mod (pe_op opAddU (pe_op opMulU (pe_ix ix_seq (pv 0) pe_int (fun _ _ => rfl)) pe_int) pe_int) pe_int) (pg_sub (pv 0) pe_int set_list))
      (pss_one (ps_ret (pe_op op_mod (pe_op op_fdiv (pe_ix ix_seq (pv 0) pe_int (fun _ _ => rfl)) pe_int) (pv 1))))), fun ds M q ex h => ?main⟩)
  case len => obtain ⟨_, _, _, _, _, rfl, _⟩ := h; rfl
  case main =>
    obtain ⟨p, a, b, n, M0, rfl, rfl, ha, hn, k⟩ := h
    unfold okG at ha
    walk_at "s"
    walk_at "w"
    refine ix_cellD (j := 0) rfl (d := .int a) rfl ?_
    walk_at "w"
    refine mulU_int (wide_mul (a := 40) (b := 16) ha (by decide) (by decide) (by decide) (by decide)) ?_
    walk_at "w"
    refine gt_sub ?_
    walk_at "w"
    refine sto_list (j := 0) rfl (n := 0) rfl ?_
    walk_at "r"
    refine ix_cellD (j := 0) rfl (d := .int ((a * 48271 + 11) % 2147483647)) rfl ?_
    walk_at "w"
    refine op_i (show CDiv _ 7 from ⟨by decide, by decide⟩) (fun _ => .int _) ?_
    walk_at "w"
    refine op_i hn (fun _ => .int _) ?_
    refine k _ _ (Int.emod_nonneg _ (by omega)) (Int.emod_lt_of_pos _ hn) ?_
    have h1 := Int.emod_nonneg (a * 48271 + 11) (show (2147483647 : Int) ≠ 0 by decide)
    have h2 := Int.emod_lt_of_pos (a * 48271 + 11) (show (0 : Int) < 2147483647 by decide)
    unfold okG
    omega
theorem sc__law_digit : FnScope N__law_digit ["_law_state_here", "_law_many"] (defScope s__law_digit) := ⟨rfl, rfl, rfl, by decide +kernel, rfl, by decide +kernel, by decide +kernel⟩
theorem ok__law_digit (C : Cxt K mg) (h__law_pick : Fn P w K mg base CX0 "_law_pick" 1 ["_law_state_here", "_law_many"] R__law_pick) : Fn P w K mg base CX0 "_law_digit" 2 ["_law_state_here", "_law_many"] R__law_digit := by
  refine Fn.of C 82 d__law_digit rfl rfl rfl rfl (by decide +kernel) sc__law_digit (fun _ _ _ _ _ _ us hl => match us, hl with | [_, _], _ => rfl) (fun ds M q ex h => ?len) (fun cdv A outer s H E hr => ⟨_, (pss_cons (ps_if (pt_cmpR op_gt (pe_ix ix_seq (pv 0) pe_int (fun _ _ => rfl)) pe_int (nomark _)) (pss_cons (ps_set (i := 2) sc__law_digit.nd rfl (Or.inl rfl) (pe_op op_mod (pe_ix ix_seq (pv 0) pe_int (fun _ _ => rfl)) (pv 1)))
      (pss_cons (ps_asg (pe_op op_fdiv (pe_ix ix_seq (pv 0) pe_int (fun _ _ => rfl)) (pv 1)) (pg_sub (pv 0) pe_int set_list))
      (pss_one (ps_ret (pv 2))))) pss_nil)
      (pss_one (ps_ret (pe_fn h__law_pick hr (by decide) rfl (pa_cons (pv 0) (pa_cons (pv 1) pa_nil)))))), fun ds M q ex h => ?main⟩)
  case len => obtain ⟨_, _, _, _, _, rfl, _⟩ := h; rfl
  case main =>
    obtain ⟨p, a, b, n, M0, rfl, rfl, ha, hn, hn2, k⟩ := h
    walk_at "s"
    walk_at "w"
    refine ix_cellD (j := 0) rfl (d := .int b) rfl ?_
    walk_at "w"
    by_cases hb : 0 < b
    · refine ite_yes (yes_dec hb) ?_
      walk_at "w"
      refine ix_cellD (j := 0) rfl (d := .int b) rfl ?_
      walk_at "w"
      refine op_i hn (fun _ => .int _) ?_
      walk_at "w"
      refine ix_cellD (j := 0) rfl (d := .int b) rfl ?_
      walk_at "w"
      refine op_i (show CDiv _ n from ⟨hn, by omega⟩) (fun _ => .int _) ?_
      refine gt_sub ?_
      walk_at "w"
      refine sto_list (j := 0) rfl (n := 1) rfl ?_
      walk_at "r"
      exact k _ _ _ (Int.emod_nonneg _ (by omega)) (Int.emod_lt_of_pos _ hn) ha
    · refine ite_no (no_dec hb) ?_
      walk_at "w"
      walk_at "r"
      exact ⟨p, a, b, n, M0, rfl, rfl, ha, hn, fun d a' h1 h2 h3 => k d a' b h1 h2 h3⟩
theorem sc__law_state : FnScope N__law_state ["_law_cell_here", "_law_salt"] (defScope s__law_state) := ⟨rfl, rfl, rfl, by decide +kernel, rfl, by decide +kernel, by decide +kernel⟩
theorem ok__law_state (C : Cxt K mg) : Fn P w K mg base CX0 "_law_state" 1 ["_law_cell_here", "_law_salt"] R__law_state := by
  refine Fn.of C 83 d__law_state rfl rfl rfl rfl (by decide +kernel) sc__law_state (fun _ _ _ _ _ _ us hl => match us, hl with | [_, _], _ => rfl) (fun ds M q ex h => ?len) (fun cdv A outer s H E hr => ⟨_, (pss_cons (ps_set (i := 2) sc__law_state.nd rfl (Or.inl rfl) (pe_callB call_abs rfl (C.free "abs") boot_abs (pa_cons (pv 0) pa_nil)))
      (pss_cons (ps_if (pt_cmpR op_ge (pv 2) (pe_op op_pow pe_int pe_int) (nomark _)) (pss_one (ps_ret (pe_lst (pa_cons (pe_op opAddU (pe_op op_mod (pv 2) pe_int) (pv 1)) (pa_cons (pe_op op_sub (pv 2) (pe_op op_pow pe_int pe_int)) pa_nil))))) pss_nil)
      (pss_one (ps_ret (pe_lst (pa_cons (pe_op op_mod (pe_op opAddU (pe_op opAddU (pe_op opMulU (pv 2) pe_int) (pe_op opMulU (pv 1) pe_int)) pe_int) pe_int) (pa_cons pe_int pa_nil))))))), fun ds M q ex h => ?main⟩)
  case len => obtain ⟨_, _, rfl, _⟩ := h; rfl
  case main =>
    obtain ⟨c, s', rfl, s0, s1, k⟩ := h
    have e18 : (10 : Int) ^ Int.toNat 18 = 1000000000000000000 := by decide
    walk_at "s"
    walk_at "w"
    refine cb_abs ?_
    generalize hr0 : (if c < 0 then -c else c) = r
    have r0 : 0 ≤ r := by rw [← hr0]; split <;> omega
    walk_at "w"
    refine op_i (show CPow 10 18 from ⟨by decide, by decide, by decide⟩) (fun _ => .int _) ?_
    walk_at "w"
    rw [e18]
    by_cases h : 1000000000000000000 ≤ r
    · refine ite_yes (yes_dec h) ?_
      refine xs_ret (ev_lstC ?_)
      walk_at "w"
      refine op_i (show CPow 10 18 from ⟨by decide, by decide, by decide⟩) (fun _ => .int _) ?_
      walk_at "w"
      intro p hp
      refine k p _ _ hp ?_
      have h1 := Int.emod_nonneg r (show (2147483629 : Int) ≠ 0 by decide)
      have h2 := Int.emod_lt_of_pos r (show (0 : Int) < 2147483629 by decide)
      unfold okG
      omega
    · refine ite_no (no_dec h) ?_
      walk_at "w"
      refine xs_ret (ev_lstC ?_)
      walk_at "w"
      refine mulU_int (wide_mul (a := 64) (b := 17) (by omega) (by decide) (by decide) (by decide) (by decide)) ?_
      walk_at "w"
      refine mulU_int (wide_mul (a := 64) (b := 17) (by omega) (by decide) (by decide) (by decide) (by decide)) ?_
      walk_at "w"
      intro p hp
      refine k p _ _ hp ?_
      have h1 := Int.emod_nonneg (r * 69621 + s' * 16807 + 5) (show (2147483647 : Int) ≠ 0 by decide)
      have h2 := Int.emod_lt_of_pos (r * 69621 + s' * 16807 + 5) (show (0 : Int) < 2147483647 by decide)
      unfold okG
      omega
end
section
variable {P : Program} {w : World} {K : PySem.W.Frag} {mg : Str → Option Value} {base : Heap}
theorem sc__law_before : FnScope N__law_before ["_law_state_here"] (defScope s__law_before) := ⟨rfl, rfl, rfl, by decide +kernel, rfl, by decide +kernel, by decide +kernel⟩
theorem ok__law_before (C : Cxt K mg) (h__law_digit : Fn P w K mg base CX0 "_law_digit" 2 ["_law_state_here", "_law_many"] R__law_digit) : Fn P w K mg base CX0 "_law_before" 3 ["_law_state_here"] R__law_before := by
  refine Fn.of C 84 d__law_before rfl rfl rfl rfl (by decide +kernel) sc__law_before (fun _ _ _ _ _ _ us hl => match us, hl with | [_], _ => rfl) (fun ds M q ex h => ?len) (fun cdv A outer s H E hr => ⟨_, (pss_one (ps_ret (pe_ix ix_seq (pe_lst (pa_cons (pe_tup pa_nil) (pa_cons (pe_tup (pa_cons pe_str pa_nil)) (pa_cons (pe_tup (pa_cons pe_str pa_nil)) (pa_cons (pe_tup (pa_cons pe_str (pa_cons pe_str pa_nil))) pa_nil))))) (pe_fn h__law_digit hr (by decide) rfl (pa_cons (pv 0) (pa_cons pe_int pa_nil))) (fun _ _ => rfl)))), fun ds M q ex h => ?main⟩)
  case len => obtain ⟨_, _, _, _, rfl, _⟩ := h; rfl
  case main =>
    obtain ⟨p, a, b, M0, rfl, rfl, ha, k⟩ := h
    walk_at "s"
    walk_at "r"
    refine ev_lst ?_
    walk_at "w"
    refine ⟨p, a, b, 4, M0, rfl, rfl, ha, by decide, by decide, fun d a' b' d0 d1 ha' => ?_⟩
    have hd : d = 0 ∨ d = 1 ∨ d = 2 ∨ d = 3 := by omega
    rcases hd with rfl | rfl | rfl | rfl
    · exact ix_lstD (d := strsT []) rfl (k _ a' b' (by decide +kernel) ha')
    · exact ix_lstD (d := strsT ["e"]) rfl (k _ a' b' (by decide +kernel) ha')
    · exact ix_lstD (d := strsT ["s"]) rfl (k _ a' b' (by decide +kernel) ha')
    · exact ix_lstD (d := strsT ["e", "s"]) rfl (k _ a' b' (by decide +kernel) ha')
theorem sc__law_tokens : FnScope N__law_tokens ["_law_state_here"] (defScope s__law_tokens) := ⟨rfl, rfl, rfl, by decide +kernel, rfl, by decide +kernel, by decide +kernel⟩
theorem ok__law_tokens (C : Cxt K mg) (h__law_digit : Fn P w K mg base CX0 "_law_digit" 2 ["_law_state_here", "_law_many"] R__law_digit) : Fn P w K mg base CX0 "_law_tokens" 3 ["_law_state_here"] R__law_tokens := by
  refine Fn.of C 85 d__law_tokens rfl rfl rfl rfl (by decide +kernel) sc__law_tokens (fun _ _ _ _ _ _ us hl => match us, hl with | [_], _ => rfl) (fun ds M q ex h => ?len) (fun cdv A outer s H E hr => ⟨_, (pss_cons (ps_set (i := 1) sc__law_tokens.nd rfl (Or.inr rfl) (pe_lst (pa_cons pe_str (pa_cons pe_str (pa_cons pe_str (pa_cons pe_str (pa_cons pe_str (pa_cons pe_str (pa_cons pe_str (pa_cons pe_str pa_nil))))))))))
      (pss_one (ps_ret (pe_callTy call_tuple_of rfl (C.free "tuple") boot_tuple (pa_cons (pe_lc (own := [("_law_k", 2)]) rfl sc__law_tokens.nd (pi_range1 rfl (C.free "range") (pa_cons (pe_op opAddU pe_int (pe_fn h__law_digit hr (by decide) rfl (pa_cons (pv 0) (pa_cons pe_int pa_nil)))) pa_nil)) (blkOk_by (N := N__law_tokens) (sc := defScope s__law_tokens) (by decide +kernel)) (fun _ _ _ _ _ => (pg_name (i := 2) sc__law_tokens.nd rfl (Or.inl rfl))) (fun _ _ _ _ _ => pts_nil) (fun _ _ _ _ _ => (pe_ix (ix_seqK (K := K) rfl) (pv 1) (pe_fnK (K := K) rfl h__law_digit hr (by decide) rfl (pa_cons (pv 0) (pa_cons pe_int pa_nil))) (fun _ _ => rfl)))) pa_nil))))), fun ds M q ex h => ?main⟩)
  case len => obtain ⟨_, _, _, _, rfl, _⟩ := h; rfl
  case main =>
    obtain ⟨p, a, b, M0, rfl, rfl, ha, k⟩ := h
    walk_at "s"
    walk_at "w"
    refine ev_lst ?_
    walk_at "w"
    walk_at "r"
    refine ev_lc (fun ds i acc M' => ∃ (a b : Int) (x : List Str), M' = (p, stD a b) :: M0 ∧ okG a ∧ acc = x.map D.str ∧ x.length = i ∧ ∀ t ∈ x, t ∈ TOK) (own_name (by decide)) ?_
    refine it_rng1 ?_
    walk_at "w"
    refine ⟨p, a, b, 8, M0, rfl, rfl, ha, by decide, by decide, fun d a' b' d0 d1 ha' => ?_⟩
    walk_at "w"
    have hl : (rngD 0 1 (1 + d).toNat).length = (1 + d).toNat := by simp [rngD]
    have hsz : sizeLine = 16777216 := rfl
    refine ⟨by omega, by omega, by rw [hl]; omega, ⟨a', b', [], rfl, ha', rfl, rfl, fun _ z => by cases z⟩, ?_, ?_⟩
    · rintro i e acc M' he ⟨a2, b2, x, rfl, ha2, rfl, hx1, hx2⟩
      walk_at "w"
      refine ite_yes rfl ?_
      walk_at "w"
      refine ⟨p, a2, b2, 8, M0, rfl, rfl, ha2, by decide, by decide, fun d3 a3 b3 e0 e1 ha3 => ?_⟩
      have hd : ∃ t, TOK8[d3.toNat]? = some t := ⟨_, List.getElem?_eq_getElem (show d3.toNat < TOK8.length from by show d3.toNat < 8; omega)⟩
      obtain ⟨t, ht⟩ := hd
      have htm : t ∈ TOK := by
        have : TOK8.all (fun t => decide (t ∈ TOK)) = true := by decide +kernel
        exact of_decide_eq_true (List.all_eq_true.mp this t (List.mem_of_getElem? ht))
      have hat : atI (TOK8.map D.str) d3 = some (.str t) := by
        have := atI_natD (ds := TOK8.map D.str) (j := d3.toNat) (d := .str t) (by rw [List.getElem?_map, ht]; rfl)
        rwa [Int.toNat_of_nonneg e0] at this
      refine ix_lstD (d := .str t) hat ?_
      refine ⟨a3, b3, x ++ [t], rfl, ha3, by rw [List.map_append]; rfl, by rw [List.length_append, hx1]; rfl, ?_⟩
      intro u hu
      rcases List.mem_append.mp hu with hu | hu
      · exact hx2 u hu
      · cases List.mem_singleton.mp hu; exact htm
    · rintro acc M' ⟨a2, b2, x, rfl, ha2, rfl, hx1, hx2⟩
      rw [hl] at hx1
      walk_at "w"
      refine cb_tuple ?_
      exact k x a2 b2 ⟨fun z => by rw [z] at hx1; simp at hx1; omega, by omega, hx2⟩ ha2
end
section
variable {P : Program} {w : World} {K : PySem.W.Frag} {mg : Str → Option Value} {base : Heap}
theorem sc__law_messages : FnScope N__law_messages ["_law_state_here"] (defScope s__law_messages) := ⟨rfl, rfl, rfl, by decide +kernel, rfl, by decide +kernel, by decide +kernel⟩
theorem ok__law_messages (C : Cxt K mg) (h__law_digit : Fn P w K mg base CX0 "_law_digit" 2 ["_law_state_here", "_law_many"] R__law_digit) (h__law_tokens : Fn P w K mg base CX0 "_law_tokens" 3 ["_law_state_here"] R__law_tokens) : Fn P w K mg base CX0 "_law_messages" 4 ["_law_state_here"] R__law_messages := by
  refine Fn.of C 86 d__law_messages rfl rfl rfl rfl (by decide +kernel) sc__law_messages (fun _ _ _ _ _ _ us hl => match us, hl with | [_], _ => rfl) (fun ds M q ex h => ?len) (fun cdv A outer s H E hr => ⟨_, (pss_cons (ps_set (i := 1) sc__law_messages.nd rfl (Or.inl rfl) (pe_ix ix_seq (pe_lst (pa_cons pe_str (pa_cons pe_str pa_nil))) (pe_op op_fdiv (pe_fn h__law_digit hr (by decide) rfl (pa_cons (pv 0) (pa_cons pe_int pa_nil))) pe_int) (fun _ _ => rfl)))
      (pss_cons (ps_set (i := 2) sc__law_messages.nd rfl (Or.inl rfl) (pe_lst pa_nil))
      (pss_cons (ps_for PassesOwn.never rfl (pi_range1 rfl (C.free "range") (pa_cons (pe_op opAddU pe_int (pe_fn h__law_digit hr (by decide) rfl (pa_cons (pv 0) (pa_cons pe_int pa_nil)))) pa_nil)) (pg_name (i := 3) sc__law_messages.nd rfl (Or.inl rfl)) (pss_cons (ps_expr (pe_bm PySem.F.plainAttrs_list PySem.F.slot_list_append PySem.F.type_list_append mt_append (pv 2) (pa_cons (pe_tup (pa_cons (pv 1) (pa_cons (pe_fn h__law_tokens hr (by decide) rfl (pa_cons (pv 0) pa_nil)) pa_nil))) pa_nil)))
      (pss_one (ps_set (i := 1) sc__law_messages.nd rfl (Or.inl rfl) (pe_ix ix_seq (pe_lst (pa_cons pe_str (pa_cons pe_str pa_nil))) (pe_callTy call_int1 rfl (C.free "int") boot_int (pa_cons (pe_cmpR (opEqU hr.units) (pv 1) pe_str (nomark _)) pa_nil)) (fun _ _ => rfl))))))
      (pss_one (ps_ret (pe_callTy call_tuple_of rfl (C.free "tuple") boot_tuple (pa_cons (pv 2) pa_nil))))))), fun ds M q ex h => ?main⟩)
  case len => obtain ⟨_, _, _, _, rfl, _⟩ := h; rfl
  case main =>
    obtain ⟨p, a, b, M0, rfl, rfl, ha, k⟩ := h
    have hsz : sizeLine = 16777216 := rfl
    walk_at "s"
    walk_at "w"
    refine ev_lst ?_
    walk_at "w"
    refine ⟨p, a, b, 8, M0, rfl, rfl, ha, by decide, by decide, fun d a' b' d0 d1 ha' => ?_⟩
    walk_at "w"
    refine op_i (show CDiv _ 7 from ⟨by decide, by decide⟩) (fun _ => .int _) ?_
    have hd : d / 7 = 0 ∨ d / 7 = 1 := by omega
    obtain ⟨s0, hs0⟩ : ∃ s0 : Bool, atI [D.str "->", D.str "<-"] (d / 7) = some (arD s0) := by
      rcases hd with h | h
      · exact ⟨false, by rw [h]; rfl⟩
      · exact ⟨true, by rw [h]; rfl⟩
    refine ix_lstD hs0 ?_
    walk_at "w"
    refine ev_lstC (ea_nil ⟨by decide, fun pm hpm => ?_⟩)
    walk_at "w"
    refine sd_perm ((p, stD a' b') :: (pm, .lst []) :: M0) (List.Perm.swap _ _ _) ?_
    refine xs_for (fun ds i Γ M' => ∃ (a b : Int) (ms : List Msg) (s : Bool), M' = (p, stD a b) :: (pm, .lst (ms.map msgD)) :: M0 ∧ okG a ∧ ms.length = i ∧ (∀ m ∈ ms, okX 8 m.2) ∧ alt ms = true ∧ (∀ l, ms.getLast? = some l → l.1 ≠ s) ∧ ∃ x, Γ = [some (.ref p), some (arD s), some (.ref pm), x]) ?_
    refine it_rng1 ?_
    walk_at "w"
    refine ⟨p, a', b', 12, _, rfl, rfl, ha', by decide, by decide, fun d2 a2 b2 e0 e1 ha2 => ?_⟩
    walk_at "w"
    have hl : (rngD 0 1 (1 + d2).toNat).length = (1 + d2).toNat := by simp [rngD]
    refine ⟨by omega, by omega, ⟨a2, b2, [], s0, rfl, ha2, rfl, (fun _ z => by cases z), rfl, (fun _ z => by cases z), _, rfl⟩, ?_, ?_⟩
    · rintro i e Γ' M' he ⟨a3, b3, ms, s, rfl, ha3, hm1, hm2, hm3, hm4, x, rfl⟩
      have hi : i < (1 + d2).toNat := by have := (List.getElem?_eq_some_iff.mp he).1; rwa [hl] at this
      walk_at "w"
      refine ⟨ty_cell (j := 1) rfl, ?_⟩
      walk_at "w"
      refine ⟨p, a3, b3, _, rfl, rfl, ha3, fun ts a4 b4 hts ha4 => ?_⟩
      walk_at "w"
      refine bm_app (f := msgD) (x := (s, ts)) 1 rfl (by omega) ?_
      walk_at "w"
      refine ev_lst ?_
      walk_at "w"
      refine cb_int ?_
      have hs1 : atI [D.str "->", D.str "<-"] (if decide (arrow s = "->") = true then 1 else 0) = some (arD (!s)) := by cases s <;> rfl
      refine ix_lstD hs1 ?_
      walk_at "w"
      refine ⟨a4, b4, ms ++ [(s, ts)], !s, rfl, ha4, by rw [List.length_append, hm1]; rfl, ?_, alt_snoc hm3 hm4, ?_, _, rfl⟩
      · intro m hm
        rcases List.mem_append.mp hm with hm | hm
        · exact hm2 m hm
        · cases List.mem_singleton.mp hm; exact hts
      · intro l hl2
        rw [List.getLast?_append] at hl2
        have : l = (s, ts) := by simpa using hl2.symm
        rw [this]
        cases s <;> simp
    · rintro Γ' M' ⟨a3, b3, ms, s, rfl, ha3, hm1, hm2, hm3, hm4, x, rfl⟩
      rw [hl] at hm1
      refine sd_frz (i := 2) (j := 1) rfl rfl ?_
      walk_at "r"
      refine cb_tuple ?_
      exact k ms a3 b3 ⟨fun z => by rw [z] at hm1; simp at hm1; omega, by omega, hm2, hm3⟩ ha3
end
section
def BASES : List (Bef × List Msg) := [(([], []), [(false, ["e"]), (true, ["e", "ee"])]), (([], ["s"]), [(false, ["e", "es"]), (true, ["e", "ee"])]), ((["s"], []), [(false, ["e"]), (true, ["e", "ee", "se"])]), ((["s"], ["s"]), [(false, ["e", "es", "ss"]), (true, ["e", "ee", "se"])]),
  (([], []), [(false, ["e"]), (true, ["e", "ee", "s", "es"]), (false, ["s", "se"])]), (([], ["s"]), [(false, ["e", "es", "s", "ss"]), (true, ["e", "ee", "se"])]), (([], ["s"]), [(false, ["e", "es"]), (true, ["e", "ee"]), (false, ["s"]), (true, ["se"])]), ((["s"], ["s"]), [(false, ["e", "es", "ss"])]),
  ((["e"], []), [(true, ["e", "ee", "s", "es"]), (false, ["s", "se"])]), (([], []), [(false, ["psk", "e"]), (true, ["e", "ee", "psk"])]), (([], []), [(false, ["e", "s"]), (true, ["e", "ee", "se", "s"]), (false, ["es", "psk"])]), (([], ["s"]), [(false, ["e", "es", "s", "ss", "psk"])])]
theorem bases_ok : ∀ x ∈ BASES, okB x.1 ∧ okE 5 x.2 := by
  have h : (BASES.all fun x => (decide (x.1.1 ∈ BEF) && decide (x.1.2 ∈ BEF)) && (decide (x.2 ≠ []) && (decide (x.2.length ≤ 12) && ((x.2.all fun m => decide (m.2 ≠ []) && (decide (m.2.length ≤ 5) && m.2.all fun t => decide (t ∈ TOK))) && alt x.2)))) = true := by decide +kernel
  intro x hx
  have := List.all_eq_true.mp h x hx
  simp only [Bool.and_eq_true, decide_eq_true_eq] at this
  obtain ⟨⟨h1, h2⟩, h3, h4, h5, h6⟩ := this
  refine ⟨⟨h1, h2⟩, h3, h4, fun m hm => ?_, h6⟩
  have := List.all_eq_true.mp h5 m hm
  simp only [Bool.and_eq_true, decide_eq_true_eq] at this
  exact ⟨this.1, this.2.1, fun t ht => of_decide_eq_true (List.all_eq_true.mp this.2.2 t ht)⟩
def R__law_base : SpR := fun ds M q _ => ∃ (d : Int), ds = [.int d] ∧ 0 ≤ d ∧ d < 12 ∧ ∀ (b : Bef) (ms : List Msg), okB b → okE 5 ms → q (.tup [befD b, msgsD ms]) M
theorem alt_put : ∀ {ms : List Msg} {i : Nat} {m m' : Msg}, alt ms = true → ms[i]? = some m → m'.1 = m.1 → alt (ms.take i ++ ([m'] ++ ms.drop (i + 1))) = true
  | [], _, _, _, _, h, _ => by simp at h
  | [a], 0, m, m', _, h, e => rfl
  | [a], i + 1, _, _, _, h, _ => by simp at h
  | a :: b :: r, 0, m, m', h1, h, e => by
    have h1 : (a.1 != b.1 && alt (b :: r)) = true := h1
    have : a = m := by simpa using h
    subst this
    show (m'.1 != b.1 && alt (b :: r)) = true
    rw [e]; exact h1
  | a :: b :: r, 1, m, m', h1, h, e => by
    have h1 : (a.1 != b.1 && alt (b :: r)) = true := h1
    rw [Bool.and_eq_true] at h1
    have hb : b = m := by simpa using h
    have ih := alt_put (ms := b :: r) (i := 0) h1.2 (by simpa using h) e
    show (a.1 != m'.1 && alt (m' :: r)) = true
    rw [Bool.and_eq_true]
    exact ⟨by rw [e, ← hb]; exact h1.1, ih⟩
  | a :: b :: r, i + 2, m, m', h1, h, e => by
    have h1 : (a.1 != b.1 && alt (b :: r)) = true := h1
    rw [Bool.and_eq_true] at h1
    have ih := alt_put (ms := b :: r) (i := i + 1) h1.2 (by simpa using h) e
    show (a.1 != b.1 && alt (b :: (r.take i ++ ([m'] ++ r.drop (i + 1))))) = true
    rw [Bool.and_eq_true]
    exact ⟨h1.1, ih⟩
theorem okE.put {n : Nat} {ms : List Msg} {i : Nat} {m : Msg} {ts : List Str} (o : okE n ms) (h : ms[i]? = some m) (ht : okX (n + 1) ts) : okE (n + 1) (ms.take i ++ ([(m.1, ts)] ++ ms.drop (i + 1))) := by
  have hi : i < ms.length := (List.getElem?_eq_some_iff.mp h).1
  refine ⟨by simp, ?_, fun x hx => ?_, alt_put o.al h rfl⟩
  · have := o.le
    simp; omega
  · rcases List.mem_append.mp hx with hx | hx
    · obtain ⟨h1, h2, h3⟩ := o.tok x (List.mem_of_mem_take hx)
      exact ⟨h1, by omega, h3⟩
    · rcases List.mem_append.mp hx with hx | hx
      · cases List.mem_singleton.mp hx; exact ht
      · obtain ⟨h1, h2, h3⟩ := o.tok x (List.mem_of_mem_drop hx)
        exact ⟨h1, by omega, h3⟩
def TOK7 : List Str := ["e", "s", "ee", "es", "se", "ss", "psk"]
def R__law_edit : SpR := fun ds M q _ => ∃ (n : Nat) (ms : List Msg) (p : Addr) (a b : Int) (M0 : Mem), ds = [.ref p, msgsD ms] ∧ M = (p, stD a b) :: M0 ∧ okG a ∧ okE n ms ∧ n ≤ 7 ∧ ∀ (ms' : List Msg) (a' b' : Int), okE (n + 1) ms' → okG a' → q (msgsD ms') ((p, stD a' b') :: M0)
end
section
variable {P : Program} {w : World} {K : PySem.W.Frag} {mg : Str → Option Value} {base : Heap}
theorem sc__law_base : FnScope N__law_base ["_law_number"] (defScope s__law_base) := ⟨rfl, rfl, rfl, by decide +kernel, rfl, by decide +kernel, by decide +kernel⟩
theorem ok__law_base (C : Cxt K mg) : Fn P w K mg base CX0 "_law_base" 1 ["_law_number"] R__law_base := by
  refine Fn.of C 87 d__law_base rfl rfl rfl rfl (by decide +kernel) sc__law_base (fun _ _ _ _ _ _ us hl => match us, hl with | [_], _ => rfl) (fun ds M q ex h => ?len) (fun cdv A outer s H E hr => ⟨_, (pss_cons (ps_set (i := 1) sc__law_base.nd rfl (Or.inl rfl) (pe_lst (pa_cons (pe_tup (pa_cons (pe_tup pa_nil) (pa_cons (pe_tup pa_nil) pa_nil))) (pa_cons (pe_tup (pa_cons (pe_tup (pa_cons pe_str (pa_cons (pe_tup (pa_cons pe_str pa_nil)) pa_nil))) (pa_cons (pe_tup (pa_cons pe_str (pa_cons (pe_tup (pa_cons pe_str (pa_cons pe_str pa_nil))) pa_nil))) pa_nil))) (pa_cons (pe_tup (pa_cons (pe_tup pa_nil) (pa_cons (pe_tup (pa_cons pe_str pa_nil)) pa_nil))) (pa_cons (pe_tup (pa_cons (pe_tup (pa_cons pe_str (pa_cons (pe_tup (pa_cons pe_str (pa_cons pe_str pa_nil))) pa_nil))) (pa_cons (pe_tup (pa_cons pe_str (pa_cons (pe_tup (pa_cons pe_str (pa_cons pe_str pa_nil))) pa_nil))) pa_nil))) (pa_cons (pe_tup (pa_cons (pe_tup (pa_cons pe_str pa_nil)) (pa_cons (pe_tup pa_nil) pa_nil))) (pa_cons (pe_tup (pa_cons (pe_tup (pa_cons pe_str (pa_cons (pe_tup (pa_cons pe_str pa_nil)) pa_nil))) (pa_cons (pe_tup (pa_cons pe_str (pa_cons (pe_tup (pa_cons pe_str (pa_cons pe_str (pa_cons pe_str pa_nil)))) pa_nil))) pa_nil))) (pa_cons (pe_tup (pa_cons (pe_tup (pa_cons pe_str pa_nil)) (pa_cons (pe_tup (pa_cons pe_str pa_nil)) pa_nil))) (pa_cons (pe_tup (pa_cons (pe_tup (pa_cons pe_str (pa_cons (pe_tup (pa_cons pe_str (pa_cons pe_str (pa_cons pe_str pa_nil)))) pa_nil))) (pa_cons (pe_tup (pa_cons pe_str (pa_cons (pe_tup (pa_cons pe_str (pa_cons pe_str (pa_cons pe_str pa_nil)))) pa_nil))) pa_nil))) (pa_cons (pe_tup (pa_cons (pe_tup pa_nil) (pa_cons (pe_tup pa_nil) pa_nil))) (pa_cons (pe_tup (pa_cons (pe_tup (pa_cons pe_str (pa_cons (pe_tup (pa_cons pe_str pa_nil)) pa_nil))) (pa_cons (pe_tup (pa_cons pe_str (pa_cons (pe_tup (pa_cons pe_str (pa_cons pe_str (pa_cons pe_str (pa_cons pe_str pa_nil))))) pa_nil))) (pa_cons (pe_tup (pa_cons pe_str (pa_cons (pe_tup (pa_cons pe_str (pa_cons pe_str pa_nil))) pa_nil))) pa_nil)))) (pa_cons (pe_tup (pa_cons (pe_tup pa_nil) (pa_cons (pe_tup (pa_cons pe_str pa_nil)) pa_nil))) (pa_cons (pe_tup (pa_cons (pe_tup (pa_cons pe_str (pa_cons (pe_tup (pa_cons pe_str (pa_cons pe_str (pa_cons pe_str (pa_cons pe_str pa_nil))))) pa_nil))) (pa_cons (pe_tup (pa_cons pe_str (pa_cons (pe_tup (pa_cons pe_str (pa_cons pe_str (pa_cons pe_str pa_nil)))) pa_nil))) pa_nil))) (pa_cons (pe_tup (pa_cons (pe_tup pa_nil) (pa_cons (pe_tup (pa_cons pe_str pa_nil)) pa_nil))) (pa_cons (pe_tup (pa_cons (pe_tup (pa_cons pe_str (pa_cons (pe_tup (pa_cons pe_str (pa_cons pe_str pa_nil))) pa_nil))) (pa_cons (pe_tup (pa_cons pe_str (pa_cons (pe_tup (pa_cons pe_str (pa_cons pe_str pa_nil))) pa_nil))) (pa_cons (pe_tup (pa_cons pe_str (pa_cons (pe_tup (pa_cons pe_str pa_nil)) pa_nil))) (pa_cons (pe_tup (pa_cons pe_str (pa_cons (pe_tup (pa_cons pe_str pa_nil)) pa_nil))) pa_nil))))) (pa_cons (pe_tup (pa_cons (pe_tup (pa_cons pe_str pa_nil)) (pa_cons (pe_tup (pa_cons pe_str pa_nil)) pa_nil))) (pa_cons (pe_tup (pa_cons (pe_tup (pa_cons pe_str (pa_cons (pe_tup (pa_cons pe_str (pa_cons pe_str (pa_cons pe_str pa_nil)))) pa_nil))) pa_nil)) (pa_cons (pe_tup (pa_cons (pe_tup (pa_cons pe_str pa_nil)) (pa_cons (pe_tup pa_nil) pa_nil))) (pa_cons (pe_tup (pa_cons (pe_tup (pa_cons pe_str (pa_cons (pe_tup (pa_cons pe_str (pa_cons pe_str (pa_cons pe_str (pa_cons pe_str pa_nil))))) pa_nil))) (pa_cons (pe_tup (pa_cons pe_str (pa_cons (pe_tup (pa_cons pe_str (pa_cons pe_str pa_nil))) pa_nil))) pa_nil))) (pa_cons (pe_tup (pa_cons (pe_tup pa_nil) (pa_cons (pe_tup pa_nil) pa_nil))) (pa_cons (pe_tup (pa_cons (pe_tup (pa_cons pe_str (pa_cons (pe_tup (pa_cons pe_str (pa_cons pe_str pa_nil))) pa_nil))) (pa_cons (pe_tup (pa_cons pe_str (pa_cons (pe_tup (pa_cons pe_str (pa_cons pe_str (pa_cons pe_str pa_nil)))) pa_nil))) pa_nil))) (pa_cons (pe_tup (pa_cons (pe_tup pa_nil) (pa_cons (pe_tup pa_nil) pa_nil))) (pa_cons (pe_tup (pa_cons (pe_tup (pa_cons pe_str (pa_cons (pe_tup (pa_cons pe_str (pa_cons pe_str pa_nil))) pa_nil))) (pa_cons (pe_tup (pa_cons pe_str (pa_cons (pe_tup (pa_cons pe_str (pa_cons pe_str (pa_cons pe_str (pa_cons pe_str pa_nil))))) pa_nil))) (pa_cons (pe_tup (pa_cons pe_str (pa_cons (pe_tup (pa_cons pe_str (pa_cons pe_str pa_nil))) pa_nil))) pa_nil)))) (pa_cons (pe_tup (pa_cons (pe_tup pa_nil) (pa_cons (pe_tup (pa_cons pe_str pa_nil)) pa_nil))) (pa_cons (pe_tup (pa_cons (pe_tup (pa_cons pe_str (pa_cons (pe_tup (pa_cons pe_str (pa_cons pe_str (pa_cons pe_str (pa_cons pe_str (pa_cons pe_str pa_nil)))))) pa_nil))) pa_nil)) pa_nil))))))))))))))))))))))))))
      (pss_one (ps_ret (pe_tup (pa_cons (pe_ix ix_seq (pv 1) (pe_op opMulU pe_int (pv 0)) (fun _ _ => rfl)) (pa_cons (pe_ix ix_seq (pv 1) (pe_op opAddU (pe_op opMulU pe_int (pv 0)) pe_int) (fun _ _ => rfl)) pa_nil)))))), fun ds M q ex h => ?main⟩)
  case len => obtain ⟨_, rfl, _⟩ := h; rfl
  case main =>
    obtain ⟨d, rfl, d0, d1, k⟩ := h
    have e : (BASES.flatMap fun x => [befD x.1, msgsD x.2]) = (BASES.map fun x => [befD x.1, msgsD x.2]).flatten := rfl
    obtain ⟨n, rfl, hn⟩ : ∃ n : Nat, d = n ∧ n < 12 := ⟨d.toNat, by omega, by omega⟩
    have hx : BASES[n]? = some BASES[n] := List.getElem?_eq_getElem (by show n < 12; exact hn)
    obtain ⟨ob, oe⟩ := bases_ok _ (List.mem_of_getElem? hx)
    have g1 : (BASES.flatMap fun x => [befD x.1, msgsD x.2])[2 * n]? = some (befD BASES[n].1) := by
      have : n = 0 ∨ n = 1 ∨ n = 2 ∨ n = 3 ∨ n = 4 ∨ n = 5 ∨ n = 6 ∨ n = 7 ∨ n = 8 ∨ n = 9 ∨ n = 10 ∨ n = 11 := by omega
      rcases this with rfl | rfl | rfl | rfl | rfl | rfl | rfl | rfl | rfl | rfl | rfl | rfl <;> rfl
    have g2 : (BASES.flatMap fun x => [befD x.1, msgsD x.2])[2 * n + 1]? = some (msgsD BASES[n].2) := by
      have : n = 0 ∨ n = 1 ∨ n = 2 ∨ n = 3 ∨ n = 4 ∨ n = 5 ∨ n = 6 ∨ n = 7 ∨ n = 8 ∨ n = 9 ∨ n = 10 ∨ n = 11 := by omega
      rcases this with rfl | rfl | rfl | rfl | rfl | rfl | rfl | rfl | rfl | rfl | rfl | rfl <;> rfl
    walk_at "s"
    walk_at "w"
    refine ev_lst ?_
    walk_at "w"
    walk_at "r"
    refine mulU_int (wide_mul (a := 2) (b := 4) (by decide) (by omega) (by decide) (by decide) (by decide)) ?_
    refine ix_lstD (d := befD BASES[n].1) (by
      have : (2 : Int) * (n : Nat) = ((2 * n : Nat) : Int) := by omega
      rw [this]
      exact atI_natD g1) ?_
    walk_at "w"
    refine mulU_int (wide_mul (a := 2) (b := 4) (by decide) (by omega) (by decide) (by decide) (by decide)) ?_
    walk_at "w"
    refine ix_lstD (d := msgsD BASES[n].2) (by
      have : (2 : Int) * (n : Nat) + 1 = ((2 * n + 1 : Nat) : Int) := by omega
      rw [this]
      exact atI_natD g2) ?_
    walk_at "w"
    exact k _ _ ob oe
end
section
variable {P : Program} {w : World} {K : PySem.W.Frag} {mg : Str → Option Value} {base : Heap}
theorem sc__law_edit : FnScope N__law_edit ["_law_state_here", "_law_messages_here"] (defScope s__law_edit) := ⟨rfl, rfl, rfl, by decide +kernel, rfl, by decide +kernel, by decide +kernel⟩
theorem ok__law_edit (C : Cxt K mg) (h__law_digit : Fn P w K mg base CX0 "_law_digit" 2 ["_law_state_here", "_law_many"] R__law_digit) : Fn P w K mg base CX0 "_law_edit" 3 ["_law_state_here", "_law_messages_here"] R__law_edit := by
  refine Fn.of C 88 d__law_edit rfl rfl rfl rfl (by decide +kernel) sc__law_edit (fun _ _ _ _ _ _ us hl => match us, hl with | [_, _], _ => rfl) (fun ds M q ex h => ?len) (fun cdv A outer s H E hr => ⟨_, (pss_cons (ps_set (i := 2) sc__law_edit.nd rfl (Or.inl rfl) (pe_lst (pa_cons pe_str (pa_cons pe_str (pa_cons pe_str (pa_cons pe_str (pa_cons pe_str (pa_cons pe_str (pa_cons pe_str pa_nil)))))))))
      (pss_cons (ps_set (i := 3) sc__law_edit.nd rfl (Or.inl rfl) (pe_op op_mod (pe_fn h__law_digit hr (by decide) rfl (pa_cons (pv 0) (pa_cons pe_int pa_nil))) (pe_callB call_len rfl (C.free "len") boot_len (pa_cons (pv 1) pa_nil))))
      (pss_cons (ps_asg (pe_ix ix_seq (pv 1) (pv 3) (fun _ _ => rfl)) (pg_tup rfl (pgs_cons (pg_name (i := 4) sc__law_edit.nd rfl (Or.inl rfl)) (pgs_cons (pg_name (i := 5) sc__law_edit.nd rfl (Or.inl rfl)) pgs_nil))))
      (pss_cons (ps_set (i := 6) sc__law_edit.nd rfl (Or.inl rfl) (pe_op op_mod (pe_fn h__law_digit hr (by decide) rfl (pa_cons (pv 0) (pa_cons pe_int pa_nil))) (pe_op opAddU (pe_callB call_len rfl (C.free "len") boot_len (pa_cons (pv 5) pa_nil)) pe_int)))
      (pss_cons (ps_set (i := 7) sc__law_edit.nd rfl (Or.inl rfl) (pe_fn h__law_digit hr (by decide) rfl (pa_cons (pv 0) (pa_cons pe_int pa_nil))))
      (pss_cons (ps_set (i := 8) sc__law_edit.nd rfl (Or.inl rfl) (pe_ix ix_seq (pv 2) (pe_fn h__law_digit hr (by decide) rfl (pa_cons (pv 0) (pa_cons pe_int pa_nil))) (fun _ _ => rfl)))
      (pss_cons (ps_if (PW.pt (pw_and (pt_cmpR (opEqU hr.units) (pv 7) pe_int (nomark _)) (pw_and1 (pt_cmpR op_gt (pe_callB call_len rfl (C.free "len") boot_len (pa_cons (pv 5) pa_nil)) pe_int (nomark _))))) (pss_one (ps_set (i := 5) sc__law_edit.nd rfl (Or.inl rfl) (pe_op opAddU (pe_slice slU (pv 5) po_none (po_some (pv 6))) (pe_slice slU (pv 5) (po_some (pe_op opAddU (pv 6) pe_int)) po_none)))) (pss_one (ps_if (pt_cmpR (opEqU hr.units) (pv 7) pe_int (nomark _)) (pss_one (ps_set (i := 5) sc__law_edit.nd rfl (Or.inl rfl) (pe_op opAddU (pe_op opAddU (pe_slice slU (pv 5) po_none (po_some (pv 6))) (pe_tup (pa_cons (pv 8) pa_nil))) (pe_slice slU (pv 5) (po_some (pe_op opAddU (pv 6) pe_int)) po_none)))) (pss_one (ps_if (PW.pt (pw_and (pt_cmpR (opEqU hr.units) (pv 7) pe_int (nomark _)) (pw_and1 (pt_cmpR op_lt (pe_callB call_len rfl (C.free "len") boot_len (pa_cons (pv 1) pa_nil)) pe_int (nomark _))))) (pss_cons (ps_set (i := 9) sc__law_edit.nd rfl (Or.inl rfl) (pe_ix ix_seq (pe_lst (pa_cons pe_str (pa_cons pe_str pa_nil))) (pe_callTy call_int1 rfl (C.free "int") boot_int (pa_cons (pe_cmpR (opEqU hr.units) (pe_ix ix_seq (pe_ix ix_seq (pv 1) (pe_un un_neg pe_int) (fun _ _ => rfl)) pe_int (fun _ _ => rfl)) pe_str (nomark _)) pa_nil)) (fun _ _ => rfl)))
      (pss_one (ps_ret (pe_op opAddU (pv 1) (pe_tup (pa_cons (pe_tup (pa_cons (pv 9) (pa_cons (pe_tup (pa_cons (pv 8) pa_nil)) pa_nil))) pa_nil)))))) (pss_one (ps_if (pt_cmpR op_lt (pe_callB call_len rfl (C.free "len") boot_len (pa_cons (pv 5) pa_nil)) pe_int (nomark _)) (pss_one (ps_set (i := 5) sc__law_edit.nd rfl (Or.inl rfl) (pe_op opAddU (pe_op opAddU (pe_slice slU (pv 5) po_none (po_some (pv 6))) (pe_tup (pa_cons (pv 8) pa_nil))) (pe_slice slU (pv 5) (po_some (pv 6)) po_none)))) pss_nil)))))))
      (pss_one (ps_ret (pe_op opAddU (pe_op opAddU (pe_slice slU (pv 1) po_none (po_some (pv 3))) (pe_tup (pa_cons (pe_tup (pa_cons (pv 4) (pa_cons (pv 5) pa_nil))) pa_nil))) (pe_slice slU (pv 1) (po_some (pe_op opAddU (pv 3) pe_int)) po_none))))))))))), fun ds M q ex h => ?main⟩)
  case len => obtain ⟨_, _, _, _, _, _, rfl, _⟩ := h; rfl
  case main =>
    obtain ⟨n, ms, p, a, b, M0, rfl, rfl, ha, o, hn, k⟩ := h
    have hsz : sizeLine = 16777216 := rfl
    have hle := o.le
    have hpos : 0 < ms.length := List.length_pos_iff.mpr o.ne
    walk_at "s"
    walk_at "w"
    refine ev_lst ?_
    walk_at "w"
    refine ⟨p, a, b, 12, M0, rfl, rfl, ha, by decide, by decide, fun d1 a1 b1 d10 d11 ha1 => ?_⟩
    walk_at "w"
    rw [List.length_map]
    refine op_i (show (0 : Int) < (ms.length : Nat) by omega) (fun _ => .int _) ?_
    have hat0 := Int.emod_nonneg d1 (show ((ms.length : Nat) : Int) ≠ 0 by omega)
    have hat1 := Int.emod_lt_of_pos d1 (show (0 : Int) < (ms.length : Nat) by omega)
    obtain ⟨i, hi, hil⟩ : ∃ i : Nat, d1 % (ms.length : Nat) = i ∧ i < ms.length := ⟨(d1 % (ms.length : Nat)).toNat, by omega, by omega⟩
    rw [hi]
    obtain ⟨m, hm⟩ : ∃ m, ms[i]? = some m := ⟨_, List.getElem?_eq_getElem hil⟩
    obtain ⟨t1, t2, t3⟩ := o.tok m (List.mem_of_getElem? hm)
    walk_at "w"
    refine ix_tupD (d := msgD m) (atI_natD (by rw [List.getElem?_map, hm]; rfl)) ?_
    walk_at "w"
    refine ⟨p, a1, b1, 9, M0, rfl, rfl, ha1, by decide, by decide, fun d2 a2 b2 d20 d21 ha2 => ?_⟩
    walk_at "w"
    rw [List.length_map]
    refine op_i (show (0 : Int) < (m.2.length : Nat) + 1 by omega) (fun _ => .int _) ?_
    have hp0 := Int.emod_nonneg d2 (show (((m.2.length : Nat) : Int) + 1) ≠ 0 by omega)
    have hp1 := Int.emod_lt_of_pos d2 (show (0 : Int) < (m.2.length : Nat) + 1 by omega)
    obtain ⟨j, hj, hjl⟩ : ∃ j : Nat, d2 % ((m.2.length : Nat) + 1) = j ∧ j ≤ m.2.length := ⟨(d2 % ((m.2.length : Nat) + 1)).toNat, by omega, by omega⟩
    rw [hj]
    walk_at "w"
    refine ⟨p, a2, b2, 4, M0, rfl, rfl, ha2, by decide, by decide, fun kd a3 b3 d30 d31 ha3 => ?_⟩
    walk_at "w"
    refine ⟨p, a3, b3, 7, M0, rfl, rfl, ha3, by decide, by decide, fun d4 a4 b4 d40 d41 ha4 => ?_⟩
    obtain ⟨nm, hnm⟩ : ∃ t, TOK7[d4.toNat]? = some t := ⟨_, List.getElem?_eq_getElem (show d4.toNat < TOK7.length from by show d4.toNat < 7; omega)⟩
    have hnm2 : nm ∈ TOK := List.mem_of_getElem? hnm
    have hat : atI (TOK7.map D.str) d4 = some (.str nm) := by
      have := atI_natD (ds := TOK7.map D.str) (j := d4.toNat) (d := .str nm) (by rw [List.getElem?_map, hnm]; rfl)
      rwa [Int.toNat_of_nonneg d40] at this
    refine ix_lstD (d := .str nm) hat ?_
    walk_at "d"
    walk_at "d"
    -- the end: the message replaced
    have e1 : ((i : Nat) : Int) + 1 = ((i + 1 : Nat) : Int) := by omega
    have e2 : ((j : Nat) : Int) + 1 = ((j + 1 : Nat) : Int) := by omega
    have fin : ∀ (ts : List Str) (G : Gm), okX (n + 1) ts → G[1]? = some (some (msgsD ms)) → G[3]? = some (some (.int (i : Nat))) → G[4]? = some (some (arD m.1)) → G[5]? = some (some (strsT ts)) →
        StD K W0 (tRet (tOp (rAddU K) (tOp (rAddU K) (tSl (rSlU K) (tVar 1) tNoPart (tPart (tVar 3))) (tTup (tCons (tTup (tCons (tVar 4) (tCons (tVar 5) tNil))) tNil))) (tSl (rSlU K) (tVar 1) (tPart (tOp (rAddU K) (tVar 3) (tC (.int 1)))) tNoPart))) G ((p, stD a4 b4) :: M0)
          ⟨fun _ M' => q .non M', q, fun _ _ => False, fun _ _ => False, fun _ _ _ => False⟩ := by
      intro ts G hts g1 g3 g4 g5
      refine xs_ret (ev_op ?_)
      refine ev_op (ev_sl (ev_var g1 (po_nil (po_val (ev_var g3 ⟨_, rfl, ?_⟩)))))
      refine sl_tupD ?_
      rw [cutD_to, ← List.map_take]
      refine ev_tup (ea_cons (ev_tup (ea_cons (ev_var g4 (ea_cons (ev_var g5 (ea_nil ⟨(show 2 ≤ sizeLine by decide), ?_⟩))))))) 
      refine ea_nil ⟨(show 1 ≤ sizeLine by decide), ?_⟩
      refine addU_tup (by rw [List.length_map, List.length_take]; show _ + 1 ≤ _; omega) ?_
      refine ev_sl (ev_var g1 (po_val (ev_op (ev_var g3 (ev_int (addU_int ⟨_, rfl, po_nil ?_⟩))))))
      refine sl_tupD ?_
      rw [e1, cutD_from, ← List.map_drop]
      refine addU_tup (by rw [List.length_append, List.length_map, List.length_take, List.length_map, List.length_drop]; show _ + 1 + _ ≤ _; omega) ?_
      have e3 : List.map msgD (ms.take i) ++ [D.tup [.str (arrow m.1), strsT ts]] ++ List.map msgD (ms.drop (i + 1)) = (ms.take i ++ ([(m.1, ts)] ++ ms.drop (i + 1))).map msgD := by
        rw [List.append_assoc, List.map_append, List.map_append]; rfl
      rw [e3]
      exact k _ a4 b4 (o.put hm hts) ha4
    walk_at "w"
    by_cases hk0 : kd = 0
    · refine ite_yes (yes_dec hk0) ?_
      walk_at "w"
      rw [List.length_map]
      by_cases hl1 : 1 < m.2.length
      · refine ite_yes (yes_dec (by omega)) ?_
        walk_at "w"
        refine sl_tupD ?_
        rw [cutD_to, ← List.map_take]
        walk_at "w"
        refine sl_tupD ?_
        rw [e2, cutD_from, ← List.map_drop]
        refine addU_tup (by rw [List.length_map, List.length_take, List.length_map, List.length_drop]; omega) ?_
        rw [← List.map_append]
        walk_at "d"
        refine fin (m.2.take j ++ m.2.drop (j + 1)) _ ⟨?_, ?_, ?_⟩ rfl rfl rfl rfl
        · intro z
          have := congrArg List.length z
          rw [List.length_append, List.length_take, List.length_drop, List.length_nil] at this
          omega
        · rw [List.length_append, List.length_take, List.length_drop]; omega
        · intro t ht
          rcases List.mem_append.mp ht with ht | ht
          · exact t3 t (List.mem_of_mem_take ht)
          · exact t3 t (List.mem_of_mem_drop ht)
      · refine ite_no (no_dec (by omega)) ?_
        walk_at "w"
        refine ite_no (no_dec (by omega)) ?_
        walk_at "w"
        refine ite_no (no_dec (by omega)) ?_
        refine ite_no (by decide) ?_
        walk_at "w"
        rw [List.length_map]
        refine ite_yes (yes_dec (by omega)) ?_
        walk_at "w"
        refine sl_tupD ?_
        rw [cutD_to, ← List.map_take]
        walk_at "w"
        refine addU_tup (by rw [List.length_map, List.length_take]; show _ + 1 ≤ _; omega) ?_
        walk_at "w"
        refine sl_tupD ?_
        rw [cutD_from, ← List.map_drop]
        refine addU_tup (by rw [List.length_append, List.length_map, List.length_take, List.length_map, List.length_drop]; show _ + 1 + _ ≤ _; omega) ?_
        have e4 : List.map D.str (m.2.take j) ++ [D.str nm] ++ List.map D.str (m.2.drop j) = (m.2.take j ++ ([nm] ++ m.2.drop j)).map D.str := by
          rw [List.append_assoc, List.map_append, List.map_append]; rfl
        rw [e4]
        walk_at "d"
        refine fin (m.2.take j ++ ([nm] ++ m.2.drop j)) _ ⟨by simp, ?_, ?_⟩ rfl rfl rfl rfl
        · simp only [List.length_append, List.length_take, List.length_drop, List.length_cons, List.length_nil]; omega
        · intro t ht
          rcases List.mem_append.mp ht with ht | ht
          · exact t3 t (List.mem_of_mem_take ht)
          · rcases List.mem_append.mp ht with ht | ht
            · cases List.mem_singleton.mp ht; exact hnm2
            · exact t3 t (List.mem_of_mem_drop ht)
    refine ite_no (no_dec hk0) ?_
    refine ite_no (by decide) ?_
    walk_at "w"
    by_cases hk1 : kd = 1
    · refine ite_yes (yes_dec hk1) ?_
      walk_at "w"
      refine sl_tupD ?_
      rw [cutD_to, ← List.map_take]
      walk_at "w"
      refine addU_tup (by rw [List.length_map, List.length_take]; show _ + 1 ≤ _; omega) ?_
      walk_at "w"
      refine sl_tupD ?_
      rw [e2, cutD_from, ← List.map_drop]
      refine addU_tup (by rw [List.length_append, List.length_map, List.length_take, List.length_map, List.length_drop]; show _ + 1 + _ ≤ _; omega) ?_
      have e4 : List.map D.str (m.2.take j) ++ [D.str nm] ++ List.map D.str (m.2.drop (j + 1)) = (m.2.take j ++ ([nm] ++ m.2.drop (j + 1))).map D.str := by
        rw [List.append_assoc, List.map_append, List.map_append]; rfl
      rw [e4]
      walk_at "d"
      refine fin (m.2.take j ++ ([nm] ++ m.2.drop (j + 1))) _ ⟨by simp, ?_, ?_⟩ rfl rfl rfl rfl
      · simp only [List.length_append, List.length_take, List.length_drop, List.length_cons, List.length_nil]; omega
      · intro t ht
        rcases List.mem_append.mp ht with ht | ht
        · exact t3 t (List.mem_of_mem_take ht)
        · rcases List.mem_append.mp ht with ht | ht
          · cases List.mem_singleton.mp ht; exact hnm2
          · exact t3 t (List.mem_of_mem_drop ht)
    refine ite_no (no_dec hk1) ?_
    walk_at "w"
    have addOne : ∀ (M1 : Mem), True := fun _ => trivial
    by_cases hk2 : kd = 2
    · refine ite_yes (yes_dec hk2) ?_
      walk_at "w"
      rw [List.length_map]
      by_cases hl2 : ms.length < 12
      · refine ite_yes (yes_dec (by omega)) ?_
        walk_at "w"
        refine ev_lst ?_
        walk_at "w"
        obtain ⟨l, hlast⟩ : ∃ l, ms.getLast? = some l := by
          cases hg : ms.getLast? with
          | none => exact absurd (List.getLast?_eq_none_iff.mp hg) o.ne
          | some l => exact ⟨l, rfl⟩
        have hln : ms[ms.length - 1]? = some l := by rw [← List.getLast?_eq_getElem?]; exact hlast
        refine ev_neg ?_
        walk_at "w"
        have hneg : atI (ms.map msgD) (-1) = some (msgD l) := by
          unfold atI ixN
          rw [List.length_map, if_neg (by decide), if_pos (by omega)]
          show (ms.map msgD)[(-1 + ((ms.length : Nat) : Int)).toNat]? = _
          rw [show (-1 + ((ms.length : Nat) : Int)).toNat = ms.length - 1 by omega, List.getElem?_map, hln]; rfl
        refine ix_tupD (d := msgD l) hneg ?_
        walk_at "w"
        refine ix_tupD (d := arD l.1) rfl ?_
        walk_at "w"
        refine cb_int ?_
        have hs1 : atI [D.str "->", D.str "<-"] (if decide (arrow l.1 = "->") = true then 1 else 0) = some (arD (!l.1)) := by cases l.1 <;> rfl
        refine ix_lstD hs1 ?_
        walk_at "w"
        walk_at "r"
        refine addU_tup (by rw [List.length_map]; show _ + 1 ≤ _; omega) ?_
        have e5 : List.map msgD ms ++ [D.tup [arD (!l.1), .tup [.str nm]]] = (ms ++ [(!l.1, [nm])]).map msgD := by rw [List.map_append]; rfl
        rw [e5]
        refine k _ a4 b4 ⟨by simp, by rw [List.length_append]; show _ + 1 ≤ 12; omega, fun x hx => ?_, alt_snoc o.al (fun l2 hl2 => ?_)⟩ ha4
        · rcases List.mem_append.mp hx with hx | hx
          · obtain ⟨h1, h2, h3⟩ := o.tok x hx
            exact ⟨h1, by omega, h3⟩
          · cases List.mem_singleton.mp hx
            refine ⟨by simp, by show 1 ≤ n + 1; omega, fun t ht => ?_⟩
            cases List.mem_singleton.mp ht; exact hnm2
        · rw [hlast] at hl2
          cases hl2
          simp
      · refine ite_no (no_dec (by omega)) ?_
        walk_at "w"
        rw [List.length_map]
        by_cases hl8 : m.2.length < 8
        · refine ite_yes (yes_dec (by omega)) ?_
          walk_at "w"
          refine sl_tupD ?_
          rw [cutD_to, ← List.map_take]
          walk_at "w"
          refine addU_tup (by rw [List.length_map, List.length_take]; show _ + 1 ≤ _; omega) ?_
          walk_at "w"
          refine sl_tupD ?_
          rw [cutD_from, ← List.map_drop]
          refine addU_tup (by rw [List.length_append, List.length_map, List.length_take, List.length_map, List.length_drop]; show _ + 1 + _ ≤ _; omega) ?_
          have e4 : List.map D.str (m.2.take j) ++ [D.str nm] ++ List.map D.str (m.2.drop j) = (m.2.take j ++ ([nm] ++ m.2.drop j)).map D.str := by
            rw [List.append_assoc, List.map_append, List.map_append]; rfl
          rw [e4]
          walk_at "d"
          refine fin (m.2.take j ++ ([nm] ++ m.2.drop j)) _ ⟨by simp, ?_, ?_⟩ rfl rfl rfl rfl
          · simp only [List.length_append, List.length_take, List.length_drop, List.length_cons, List.length_nil]; omega
          · intro t ht
            rcases List.mem_append.mp ht with ht | ht
            · exact t3 t (List.mem_of_mem_take ht)
            · rcases List.mem_append.mp ht with ht | ht
              · cases List.mem_singleton.mp ht; exact hnm2
              · exact t3 t (List.mem_of_mem_drop ht)
        · refine ite_no (no_dec (by omega)) ?_
          walk_at "d"
          exact fin m.2 _ ⟨t1, by omega, t3⟩ rfl rfl rfl rfl
    refine ite_no (no_dec hk2) ?_
    refine ite_no (by decide) ?_
    walk_at "w"
    rw [List.length_map]
    by_cases hl8 : m.2.length < 8
    · refine ite_yes (yes_dec (by omega)) ?_
      walk_at "w"
      refine sl_tupD ?_
      rw [cutD_to, ← List.map_take]
      walk_at "w"
      refine addU_tup (by rw [List.length_map, List.length_take]; show _ + 1 ≤ _; omega) ?_
      walk_at "w"
      refine sl_tupD ?_
      rw [cutD_from, ← List.map_drop]
      refine addU_tup (by rw [List.length_append, List.length_map, List.length_take, List.length_map, List.length_drop]; show _ + 1 + _ ≤ _; omega) ?_
      have e4 : List.map D.str (m.2.take j) ++ [D.str nm] ++ List.map D.str (m.2.drop j) = (m.2.take j ++ ([nm] ++ m.2.drop j)).map D.str := by
        rw [List.append_assoc, List.map_append, List.map_append]; rfl
      rw [e4]
      walk_at "d"
      refine fin (m.2.take j ++ ([nm] ++ m.2.drop j)) _ ⟨by simp, ?_, ?_⟩ rfl rfl rfl rfl
      · simp only [List.length_append, List.length_take, List.length_drop, List.length_cons, List.length_nil]; omega
      · intro t ht
        rcases List.mem_append.mp ht with ht | ht
        · exact t3 t (List.mem_of_mem_take ht)
        · rcases List.mem_append.mp ht with ht | ht
          · cases List.mem_singleton.mp ht; exact hnm2
          · exact t3 t (List.mem_of_mem_drop ht)
    · refine ite_no (no_dec (by omega)) ?_
      walk_at "d"
      exact fin m.2 _ ⟨t1, by omega, t3⟩ rfl rfl rfl rfl
end
section
def R__law_drawn : SpR := fun ds M q _ => ∃ (c s : Int), ds = [.int c, .int s] ∧ 0 ≤ s ∧ s ≤ 1000 ∧ ∀ (b : Bef) (ms : List Msg), okB b → okM ms → q (.tup [befD b, msgsD ms]) M
def NAMES : List Str := ["", "XX", "KK", "NN", "IKpsk2", "XXfallback+psk1", "x", "K1X1"]
def R__law_pattern_name : SpR := fun ds M q _ => ∃ (c : Int), ds = [.int c] ∧ ∀ n ∈ NAMES, q (.str n) M
def R__law_bytes : SpR := fun ds M q _ => ∃ (p : Addr) (a b : Int) (n : Nat) (M0 : Mem), ds = [.ref p, .int n] ∧ M = (p, stD a b) :: M0 ∧ okG a ∧ n ≤ 1000 ∧ ∀ (xs : List Int) (a' b' : Int), isBy xs → xs.length = n → okG a' → q (bys xs) ((p, stD a' b') :: M0)
end
section
variable {P : Program} {w : World} {K : PySem.W.Frag} {mg : Str → Option Value} {base : Heap}
theorem sc__law_drawn : FnScope N__law_drawn ["_law_cell_here", "_law_salt"] (defScope s__law_drawn) := ⟨rfl, rfl, rfl, by decide +kernel, rfl, by decide +kernel, by decide +kernel⟩
theorem ok__law_drawn (C : Cxt K mg) (h__law_digit : Fn P w K mg base CX0 "_law_digit" 2 ["_law_state_here", "_law_many"] R__law_digit) (h__law_edit : Fn P w K mg base CX0 "_law_edit" 3 ["_law_state_here", "_law_messages_here"] R__law_edit) (h__law_before : Fn P w K mg base CX0 "_law_before" 3 ["_law_state_here"] R__law_before) (h__law_base : Fn P w K mg base CX0 "_law_base" 1 ["_law_number"] R__law_base) (h__law_messages : Fn P w K mg base CX0 "_law_messages" 4 ["_law_state_here"] R__law_messages) (h__law_state : Fn P w K mg base CX0 "_law_state" 1 ["_law_cell_here", "_law_salt"] R__law_state) : Fn P w K mg base CX0 "_law_drawn" 5 ["_law_cell_here", "_law_salt"] R__law_drawn := by
  refine Fn.of C 89 d__law_drawn rfl rfl rfl rfl (by decide +kernel) sc__law_drawn (fun _ _ _ _ _ _ us hl => match us, hl with | [_, _], _ => rfl) (fun ds M q ex h => ?len) (fun cdv A outer s H E hr => ⟨_, (pss_cons (ps_set (i := 2) sc__law_drawn.nd rfl (Or.inl rfl) (pe_fn h__law_state hr (by decide) rfl (pa_cons (pv 0) (pa_cons (pv 1) pa_nil))))
      (pss_cons (ps_set (i := 3) sc__law_drawn.nd rfl (Or.inl rfl) (pe_fn h__law_digit hr (by decide) rfl (pa_cons (pv 2) (pa_cons pe_int pa_nil))))
      (pss_cons (ps_if (pt_cmpR (opEqU hr.units) (pv 3) pe_int (nomark _)) (pss_cons (ps_set (i := 4) sc__law_drawn.nd rfl (Or.inl rfl) (pe_tup (pa_cons (pe_fn h__law_before hr (by decide) rfl (pa_cons (pv 2) pa_nil)) (pa_cons (pe_fn h__law_before hr (by decide) rfl (pa_cons (pv 2) pa_nil)) pa_nil))))
      (pss_one (ps_ret (pe_tup (pa_cons (pv 4) (pa_cons (pe_fn h__law_messages hr (by decide) rfl (pa_cons (pv 2) pa_nil)) pa_nil)))))) pss_nil)
      (pss_cons (ps_asg (pe_fn h__law_base hr (by decide) rfl (pa_cons (pe_fn h__law_digit hr (by decide) rfl (pa_cons (pv 2) (pa_cons pe_int pa_nil))) pa_nil)) (pg_tup rfl (pgs_cons (pg_name (i := 4) sc__law_drawn.nd rfl (Or.inl rfl)) (pgs_cons (pg_name (i := 5) sc__law_drawn.nd rfl (Or.inl rfl)) pgs_nil))))
      (pss_cons (ps_if (PW.pt (pw_and (pt_cmpR (opEqU hr.units) (pv 3) pe_int (nomark _)) (pw_and1 (pt_cmpR (opEqU hr.units) (pe_fn h__law_digit hr (by decide) rfl (pa_cons (pv 2) (pa_cons pe_int pa_nil))) pe_int (nomark _))))) (pss_one (ps_set (i := 4) sc__law_drawn.nd rfl (Or.inl rfl) (pe_tup (pa_cons (pe_fn h__law_before hr (by decide) rfl (pa_cons (pv 2) pa_nil)) (pa_cons (pe_fn h__law_before hr (by decide) rfl (pa_cons (pv 2) pa_nil)) pa_nil))))) pss_nil)
      (pss_cons (ps_for PassesOwn.never rfl (pi_range1 rfl (C.free "range") (pa_cons (pe_fn h__law_digit hr (by decide) rfl (pa_cons (pv 2) (pa_cons pe_int pa_nil))) pa_nil)) (pg_name (i := 6) sc__law_drawn.nd rfl (Or.inl rfl)) (pss_one (ps_set (i := 5) sc__law_drawn.nd rfl (Or.inl rfl) (pe_fn h__law_edit hr (by decide) rfl (pa_cons (pv 2) (pa_cons (pv 5) pa_nil))))))
      (pss_one (ps_ret (pe_tup (pa_cons (pv 4) (pa_cons (pv 5) pa_nil))))))))))), fun ds M q ex h => ?main⟩)
  case len => obtain ⟨_, _, rfl, _⟩ := h; rfl
  case main =>
    obtain ⟨c, s', rfl, s0, s1, k⟩ := h
    walk_at "s"
    walk_at "w"
    refine ⟨c, s', rfl, s0, s1, fun p a b hp ha => ?_⟩
    walk_at "w"
    refine ⟨p, a, b, 4, _, rfl, rfl, ha, by decide, by decide, fun kd a1 b1 d0 d1 ha1 => ?_⟩
    walk_at "w"
    by_cases hk : kd = 3
    · refine ite_yes (yes_dec hk) ?_
      walk_at "w"
      refine ⟨p, a1, b1, _, rfl, rfl, ha1, fun x a2 b2 hx ha2 => ?_⟩
      walk_at "w"
      refine ⟨p, a2, b2, _, rfl, rfl, ha2, fun y a3 b3 hy ha3 => ?_⟩
      walk_at "w"
      refine xs_ret (ev_forget ?_)
      walk_at "w"
      refine ⟨p, a3, b3, _, rfl, rfl, ha3, fun ms a4 b4 hms ha4 => ?_⟩
      walk_at "w"
      exact ⟨0, p, _, rfl, k (x, y) ms ⟨hx, hy⟩ hms.okM⟩
    refine ite_no (no_dec hk) ?_
    walk_at "w"
    refine ⟨p, a1, b1, 12, _, rfl, rfl, ha1, by decide, by decide, fun d a2 b2 e0 e1 ha2 => ?_⟩
    walk_at "w"
    refine ⟨d, rfl, e0, e1, fun bf ms obf oms => ?_⟩
    repeat ((fail_if_success (with_reducible refine sd_if ?_)); walk_at "d")
    refine xs_joinP (fun Γ' M' => ∃ (a b : Int) (bf : Bef), okG a ∧ okB bf ∧ M' = (p, stD a b) :: M ∧ Γ' = [some (.int c), some (.int s'), some (.ref p), some (.int kd), some (befD bf), some (msgsD ms), none]) ?_ ?_
    · walk_at "w"
      by_cases hk2 : kd = 2
      · refine ite_yes (yes_dec hk2) ?_
        walk_at "w"
        refine ⟨p, a2, b2, 3, _, rfl, rfl, ha2, by decide, by decide, fun d2 a3 b3 f0 f1 ha3 => ?_⟩
        walk_at "w"
        by_cases hd2 : d2 = 1
        · refine ite_yes (yes_dec hd2) ?_
          walk_at "w"
          refine ⟨p, a3, b3, _, rfl, rfl, ha3, fun x a4 b4 hx ha4 => ?_⟩
          walk_at "w"
          refine ⟨p, a4, b4, _, rfl, rfl, ha4, fun y a5 b5 hy ha5 => ?_⟩
          walk_at "w"
          exact ⟨a5, b5, (x, y), ha5, ⟨hx, hy⟩, rfl, rfl⟩
        · refine ite_no (no_dec hd2) ?_
          walk_at "w"
          exact ⟨a3, b3, bf, ha3, obf, rfl, rfl⟩
      · refine ite_no (no_dec hk2) ?_
        refine ite_no (by decide) ?_
        walk_at "w"
        exact ⟨a2, b2, bf, ha2, obf, rfl, rfl⟩
    · rintro Γ' M' ⟨a3, b3, bf, ha3, obf, rfl, rfl⟩
      walk_at "w"
      refine xs_for (fun ds i Γ M' => ∃ (a b : Int) (ms : List Msg), okG a ∧ okE (5 + i) ms ∧ M' = (p, stD a b) :: M ∧ ∃ x, Γ = [some (.int c), some (.int s'), some (.ref p), some (.int kd), some (befD bf), some (msgsD ms), x]) ?_
      refine it_rng1 ?_
      walk_at "w"
      refine ⟨p, a3, b3, 4, _, rfl, rfl, ha3, by decide, by decide, fun d3 a4 b4 f0 f1 ha4 => ?_⟩
      walk_at "w"
      have hl : (rngD 0 1 d3.toNat).length = d3.toNat := by simp [rngD]
      refine ⟨by omega, by omega, ⟨a4, b4, ms, ha4, oms, rfl, _, rfl⟩, ?_, ?_⟩
      · rintro i e Γ' M' he ⟨a5, b5, ms5, ha5, oms5, rfl, x, rfl⟩
        have hi : i < d3.toNat := by have := (List.getElem?_eq_some_iff.mp he).1; rwa [hl] at this
        walk_at "w"
        refine ⟨5 + i, ms5, p, a5, b5, _, rfl, rfl, ha5, oms5, by omega, fun ms6 a6 b6 oms6 ha6 => ?_⟩
        walk_at "w"
        exact ⟨a6, b6, ms6, ha6, oms6, rfl, _, rfl⟩
      · rintro Γ' M' ⟨a5, b5, ms5, ha5, oms5, rfl, x, rfl⟩
        rw [hl] at oms5
        refine sd_forget 0 rfl ?_
        walk_at "w"
        walk_at "r"
        exact k bf ms5 obf (oms5.up (by omega)).okM
end
section
variable {P : Program} {w : World} {K : PySem.W.Frag} {mg : Str → Option Value} {base : Heap}
theorem sc__law_pattern_name : FnScope N__law_pattern_name ["_law_cell_here"] (defScope s__law_pattern_name) := ⟨rfl, rfl, rfl, by decide +kernel, rfl, by decide +kernel, by decide +kernel⟩
theorem ok__law_pattern_name (C : Cxt K mg) : Fn P w K mg base CX0 "_law_pattern_name" 1 ["_law_cell_here"] R__law_pattern_name := by
  refine Fn.of C 99 d__law_pattern_name rfl rfl rfl rfl (by decide +kernel) sc__law_pattern_name (fun _ _ _ _ _ _ us hl => match us, hl with | [_], _ => rfl) (fun ds M q ex h => ?len) (fun cdv A outer s H E hr => ⟨_, (pss_cons (ps_set (i := 1) sc__law_pattern_name.nd rfl (Or.inl rfl) (pe_lst (pa_cons pe_str (pa_cons pe_str (pa_cons pe_str (pa_cons pe_str (pa_cons pe_str (pa_cons pe_str (pa_cons pe_str (pa_cons pe_str pa_nil))))))))))
      (pss_one (ps_ret (pe_ix ix_seq (pv 1) (pe_op op_mod (pe_op op_fdiv (pe_callB call_abs rfl (C.free "abs") boot_abs (pa_cons (pv 0) pa_nil)) pe_int) pe_int) (fun _ _ => rfl))))), fun ds M q ex h => ?main⟩)
  case len => obtain ⟨_, rfl, _⟩ := h; rfl
  case main =>
    obtain ⟨c, rfl, k⟩ := h
    walk_at "s"
    walk_at "w"
    refine ev_lst ?_
    walk_at "w"
    walk_at "r"
    refine cb_abs ?_
    walk_at "w"
    refine op_i (show CDiv _ 11 from ⟨by decide, by decide⟩) (fun _ => .int _) ?_
    walk_at "w"
    have h1 := Int.emod_nonneg ((if c < 0 then -c else c) / 11) (show (8 : Int) ≠ 0 by decide)
    have h2 := Int.emod_lt_of_pos ((if c < 0 then -c else c) / 11) (show (0 : Int) < 8 by decide)
    generalize (if c < 0 then -c else c) / 11 % 8 = d at h1 h2 ⊢
    obtain ⟨n, hn⟩ : ∃ n, NAMES[d.toNat]? = some n := ⟨_, List.getElem?_eq_getElem (show d.toNat < NAMES.length from by show d.toNat < 8; omega)⟩
    have hat : atI (NAMES.map D.str) d = some (.str n) := by
      have := atI_natD (ds := NAMES.map D.str) (j := d.toNat) (d := .str n) (by rw [List.getElem?_map, hn]; rfl)
      rwa [Int.toNat_of_nonneg h1] at this
    exact ix_lstD hat (k n (List.mem_of_getElem? hn))
theorem sc__law_bytes : FnScope N__law_bytes ["_law_state_here", "_law_count"] (defScope s__law_bytes) := ⟨rfl, rfl, rfl, by decide +kernel, rfl, by decide +kernel, by decide +kernel⟩
theorem ok__law_bytes (C : Cxt K mg) (h__law_digit : Fn P w K mg base CX0 "_law_digit" 2 ["_law_state_here", "_law_many"] R__law_digit) : Fn P w K mg base CX0 "_law_bytes" 3 ["_law_state_here", "_law_count"] R__law_bytes := by
  refine Fn.of C 101 d__law_bytes rfl rfl rfl rfl (by decide +kernel) sc__law_bytes (fun _ _ _ _ _ _ us hl => match us, hl with | [_, _], _ => rfl) (fun ds M q ex h => ?len) (fun cdv A outer s H E hr => ⟨_, (pss_one (ps_ret (pe_lc (own := [("_law_k", 2)]) rfl sc__law_bytes.nd (pi_range1 rfl (C.free "range") (pa_cons (pv 1) pa_nil)) (blkOk_by (N := N__law_bytes) (sc := defScope s__law_bytes) (by decide +kernel)) (fun _ _ _ _ _ => (pg_name (i := 2) sc__law_bytes.nd rfl (Or.inl rfl))) (fun _ _ _ _ _ => pts_nil) (fun _ _ _ _ _ => (pe_fnK (K := K) rfl h__law_digit hr (by decide) rfl (pa_cons (pv 0) (pa_cons pe_int pa_nil))))))), fun ds M q ex h => ?main⟩)
  case len => obtain ⟨_, _, _, _, _, rfl, _⟩ := h; rfl
  case main =>
    obtain ⟨p, a, b, n, M0, rfl, rfl, ha, hn, k⟩ := h
    have hsz : sizeLine = 16777216 := rfl
    have hl : (rngD 0 1 ((n : Nat) : Int).toNat).length = n := by simp [rngD]
    walk_at "s"
    walk_at "r"
    refine ev_lc (fun ds i acc M' => ∃ (a b : Int) (x : List Int), M' = (p, stD a b) :: M0 ∧ okG a ∧ acc = x.map D.int ∧ x.length = i ∧ isBy x) (own_name (by decide)) ?_
    refine it_rng1 ?_
    walk_at "w"
    refine ⟨by omega, by omega, by rw [hl]; omega, ⟨a, b, [], rfl, ha, rfl, rfl, fun _ z => by cases z⟩, ?_, ?_⟩
    · rintro i e acc M' he ⟨a2, b2, x, rfl, ha2, rfl, hx1, hx2⟩
      walk_at "w"
      refine ite_yes rfl ?_
      walk_at "w"
      refine ⟨p, a2, b2, 256, M0, rfl, rfl, ha2, by decide, by decide, fun d a3 b3 e0 e1 ha3 => ?_⟩
      exact ⟨a3, b3, x ++ [d], rfl, ha3, by rw [List.map_append]; rfl, by rw [List.length_append, hx1]; rfl, hx2.app (isBy.one e0 e1)⟩
    · rintro acc M' ⟨a2, b2, x, rfl, ha2, rfl, hx1, hx2⟩
      rw [hl] at hx1
      exact k x a2 b2 hx2 hx1 ha2
end
section
def R__law_text : SpR := fun ds M q _ => ∃ (b : Bef) (ms : List Msg), ds = [befD b, msgsD ms] ∧ okB b ∧ okM ms ∧ q (.str (textS b ms)) M
theorem line_eq {m : Msg} : arrow m.1 ++ " " ++ Txt.join ", " m.2 = lineS m := by
  have e1 : arrow m.1 = SX.S (tl (arrow m.1)) := (SX.S_tl _).symm
  have e2 : (" " : Str) = SX.S [32] := by decide +kernel
  have e3 : (", " : Str) = SX.S [44, 32] := by decide +kernel
  have e4 : m.2 = (m.2.map tl).map SX.S := (map_tl _).symm
  rw [e1, e2, e3]
  conv => lhs; rw [e4, SX.join_S, SX.S_cat, SX.S_cat, List.append_assoc]
  rfl
theorem text_eq {b : Bef} {ms : List Msg} : Txt.join "\n" (patLines b ms) = textS b ms := by
  have e1 : ("\n" : Str) = SX.S [10] := by decide +kernel
  have e4 : patLines b ms = ((patLines b ms).map tl).map SX.S := (map_tl _).symm
  rw [e1]
  conv => lhs; rw [e4, SX.join_S]
  rfl
theorem join_small {m : Msg} (o : okL m) : (m.2.map (·.length)).sum + m.2.length * (2 : Nat) ≤ 100 := by
  have h1 : ∀ (l : List Str), (∀ t ∈ l, t ∈ TOK) → (l.map (·.length)).sum ≤ 3 * l.length := by
    intro l
    induction l with
    | nil => intro _; exact Nat.le_refl _
    | cons x r ih =>
      intro h
      have h1 := (tok_tl x (h x List.mem_cons_self)).2.2
      have h2 := ih (fun t ht => h t (List.mem_cons_of_mem _ ht))
      have e : x.length = (tl x).length := SX.S_len (tl x) ▸ (by rw [show SX.S (tl x) = x from SX.S_tl x])
      rw [List.map_cons, List.sum_cons, List.length_cons, e]
      omega
  have h2 := h1 m.2 o.tok
  have h3 := o.le
  omega
end
section
variable {P : Program} {w : World} {K : PySem.W.Frag} {mg : Str → Option Value} {base : Heap}
theorem sc__law_text : FnScope N__law_text ["_law_before_here", "_law_messages_here"] (defScope s__law_text) := ⟨rfl, rfl, rfl, by decide +kernel, rfl, by decide +kernel, by decide +kernel⟩
theorem ok__law_text (C : Cxt K mg) : Fn P w K mg base CX0 "_law_text" 1 ["_law_before_here", "_law_messages_here"] R__law_text := by
  refine Fn.of C 100 d__law_text rfl rfl rfl rfl (by decide +kernel) sc__law_text (fun _ _ _ _ _ _ us hl => match us, hl with | [_, _], _ => rfl) (fun ds M q ex h => ?len) (fun cdv A outer s H E hr => ⟨_, (pss_cons (ps_set (i := 2) sc__law_text.nd rfl (Or.inl rfl) (pe_lst pa_nil))
      (pss_cons (ps_for PassesOwn.never rfl (pi_seq (pe_lst (pa_cons (pe_tup (pa_cons pe_str (pa_cons (pe_ix ix_seq (pv 0) pe_int (fun _ _ => rfl)) pa_nil))) (pa_cons (pe_tup (pa_cons pe_str (pa_cons (pe_ix ix_seq (pv 0) pe_int (fun _ _ => rfl)) pa_nil))) pa_nil)))) (pg_tup rfl (pgs_cons (pg_name (i := 3) sc__law_text.nd rfl (Or.inl rfl)) (pgs_cons (pg_name (i := 4) sc__law_text.nd rfl (Or.inl rfl)) pgs_nil))) (pss_one (ps_if (pt_cmpR op_gt (pe_callB call_len rfl (C.free "len") boot_len (pa_cons (pv 4) pa_nil)) pe_int (nomark _)) (pss_one (ps_expr (pe_bm PySem.F.plainAttrs_list PySem.F.slot_list_append PySem.F.type_list_append mt_append (pv 2) (pa_cons (pe_op opAddU (pe_op opAddU (pv 3) pe_str) (pe_bm PySem.F.plainAttrs_str PySem.F.slot_str_join PySem.F.type_str_join mt_join pe_str (pa_cons (pv 4) pa_nil))) pa_nil)))) pss_nil)))
      (pss_cons (ps_if (pt_cmpR op_gt (pe_callB call_len rfl (C.free "len") boot_len (pa_cons (pv 2) pa_nil)) pe_int (nomark _)) (pss_one (ps_expr (pe_bm PySem.F.plainAttrs_list PySem.F.slot_list_append PySem.F.type_list_append mt_append (pv 2) (pa_cons pe_str pa_nil)))) pss_nil)
      (pss_cons (ps_for PassesOwn.never rfl (pi_seq (pv 1)) (pg_tup rfl (pgs_cons (pg_name (i := 5) sc__law_text.nd rfl (Or.inl rfl)) (pgs_cons (pg_name (i := 4) sc__law_text.nd rfl (Or.inl rfl)) pgs_nil))) (pss_one (ps_expr (pe_bm PySem.F.plainAttrs_list PySem.F.slot_list_append PySem.F.type_list_append mt_append (pv 2) (pa_cons (pe_op opAddU (pe_op opAddU (pv 5) pe_str) (pe_bm PySem.F.plainAttrs_str PySem.F.slot_str_join PySem.F.type_str_join mt_join pe_str (pa_cons (pv 4) pa_nil))) pa_nil)))))
      (pss_one (ps_ret (pe_bm PySem.F.plainAttrs_str PySem.F.slot_str_join PySem.F.type_str_join mt_join pe_str (pa_cons (pv 2) pa_nil)))))))), fun ds M q ex h => ?main⟩)
  case len => obtain ⟨_, _, rfl, _⟩ := h; rfl
  case main =>
    obtain ⟨b, ms, rfl, ob, om, k⟩ := h
    have hsz : sizeLine = 16777216 := rfl
    have hle := om.le
    have slen : ∀ a b : Str, (a ++ b).length = a.length + b.length := fun a b => by
      have := congrArg List.length (TL.tl_append a b)
      rw [List.length_append] at this
      show (a ++ b).cps.size = a.cps.size + b.cps.size
      rw [← Array.length_toList, ← Array.length_toList, ← Array.length_toList]
      exact this
    have al : ∀ e : Bool, (arrow e).length = 2 := fun e => by cases e <;> decide +kernel
    have l1 : (" " : Str).length = 1 := by decide +kernel
    have l2 : (", " : Str).length = 2 := by decide +kernel
    have bl := bef_lines_len b
    -- one line, appended
    walk_at "s"
    walk_at "w"
    refine ev_lstC (ea_nil ⟨by decide, fun p hp => ?_⟩)
    walk_at "w"
    refine xs_forR [(false, b.1), (true, b.2)] msgD (fun (acc : List Str) (r : List Msg) => acc ++ ((r.filter fun m => decide (m.2 ≠ [])).map lineS)) ([] : List Str) (fun i acc Γ M' => M' = (p, .lst (acc.map D.str)) :: M ∧ acc.length ≤ i ∧ ∃ x3 x4 x5, Γ = [some (befD b), some (msgsD ms), some (.ref p), x3, x4, x5]) ?_
    refine it_seq ?_
    refine ev_lst ?_
    walk_at "w"
    refine ix_tupD (i := 0) rfl ?_
    walk_at "w"
    refine ix_tupD (i := 1) rfl ?_
    walk_at "w"
    refine ⟨_, .inl rfl, rfl, ⟨rfl, Nat.le_refl _, _, _, _, rfl⟩, ?_, ?_⟩
    · rintro i m acc Γ' M' hm hr0 ⟨rfl, hal, x3, x4, x5, rfl⟩
      have hi : i < 2 := (List.getElem?_eq_some_iff.mp hm).1
      have hmb : m.2 ∈ BEF := by
        have := List.mem_of_getElem? hm
        rcases List.mem_cons.mp this with rfl | this
        · exact ob.1
        · cases List.mem_singleton.mp this; exact ob.2
      have hr0 : acc ++ (((m :: [(false, b.1), (true, b.2)].drop (i + 1)).filter fun m => decide (m.2 ≠ [])).map lineS) = _ := hr0
      walk_at "w"
      rw [List.length_map]
      by_cases hne : m.2 = []
      · refine ite_no (no_dec (by rw [hne]; simp)) ?_
        walk_at "w"
        rw [List.filter_cons_of_neg (by simp [hne])] at hr0
        exact ⟨acc, hr0, rfl, by omega, _, _, _, rfl⟩
      · have ol : okL m := by have := bef_line hmb hne m.1; exact this
        have hjs := join_small ol
        refine ite_yes (yes_dec (by have := List.length_pos_iff.mpr hne; omega)) ?_
        walk_at "w"
        refine ⟨ty_cell (j := 0) rfl, ?_⟩
        walk_at "w"
        refine addU_str (by rw [al, l1]; omega) ?_
        walk_at "w"
        refine ⟨ty_str, ?_⟩
        walk_at "w"
        refine bm_join (.inr rfl) (by rw [l2]; omega) ?_
        refine addU_str ?_ ?_
        · have := congrArg Str.length (line_eq (m := m))
          rw [slen] at this
          have h2 : (lineS m).length ≤ 100 := by unfold lineS; rw [SX.S_len]; exact line_len ol
          omega
        · rw [line_eq]
          walk_at "w"
          refine bm_app (f := D.str) (x := lineS m) 0 rfl (by omega) ?_
          walk_at "w"
          rw [List.filter_cons_of_pos (by simp [hne])] at hr0
          refine ⟨acc ++ [lineS m], ?_, rfl, by rw [List.length_append]; show _ + 1 ≤ _; omega, _, _, _, rfl⟩
          rw [← hr0]; simp
    · rintro acc Γ' M' hr0 ⟨rfl, hal, x3, x4, x5, rfl⟩
      have hacc : acc = (befLines b).map lineS := by
        have h1 : acc = _ := (by simpa using hr0 : acc = _)
        rw [h1]
        unfold befLines
        by_cases h1 : b.1 = [] <;> by_cases h2 : b.2 = [] <;> simp [h1, h2]
      subst hacc
      clear hr0
      have hal2 : ((befLines b).map lineS).length ≤ 2 := by rw [List.length_map]; exact bl
      repeat ((fail_if_success (with_reducible refine sd_if ?_)); walk_at "d")
      refine xs_join [some (befD b), some (msgsD ms), some (.ref p), x3, x4, x5] ((p, .lst ((if befLines b = [] then [] else (befLines b).map lineS ++ [dots]).map D.str)) :: M) ?_ ?_
      · walk_at "w"
        refine cb_len (len_cell (j := 0) rfl) ?_
        walk_at "w"
        rw [List.length_map, List.length_map]
        by_cases hb : befLines b = []
        · rw [if_pos hb]
          refine ite_no (no_dec (by rw [hb]; simp)) ?_
          walk_at "w"
          rw [hb]
          exact ⟨rfl, rfl⟩
        · rw [if_neg hb]
          refine ite_yes (yes_dec (by have := List.length_pos_iff.mpr hb; omega)) ?_
          walk_at "w"
          refine ⟨ty_cell (j := 0) rfl, ?_⟩
          walk_at "w"
          refine bm_app (f := D.str) (x := dots) 0 rfl (by omega) ?_
          walk_at "w"
          exact ⟨rfl, rfl⟩
      · generalize hA : (if befLines b = [] then [] else (befLines b).map lineS ++ [dots]) = A0
        have hAl : A0.length ≤ 3 := by
          rw [← hA]
          split
          · exact Nat.zero_le _
          · rw [List.length_append]; show _ + 1 ≤ 3; omega
        walk_at "w"
        refine xs_forR ms msgD (fun (acc : List Str) (r : List Msg) => acc ++ r.map lineS) A0 (fun i acc Γ M' => M' = (p, .lst (acc.map D.str)) :: M ∧ acc.length ≤ 3 + i ∧ ∃ x3 x4 x5, Γ = [some (befD b), some (msgsD ms), some (.ref p), x3, x4, x5]) ?_
        refine it_seq ?_
        walk_at "w"
        refine ⟨_, .inr rfl, rfl, ⟨rfl, hAl, _, _, _, rfl⟩, ?_, ?_⟩
        · rintro i m acc Γ' M' hm hr0 ⟨rfl, hal, x3, x4, x5, rfl⟩
          have hi : i < ms.length := (List.getElem?_eq_some_iff.mp hm).1
          have ol := om.line (List.mem_of_getElem? hm)
          have hjs := join_small ol
          walk_at "w"
          refine ⟨ty_cell (j := 0) rfl, ?_⟩
          walk_at "w"
          refine addU_str (by rw [al, l1]; omega) ?_
          walk_at "w"
          refine ⟨ty_str, ?_⟩
          walk_at "w"
          refine bm_join (.inr rfl) (by rw [l2]; omega) ?_
          refine addU_str ?_ ?_
          · have := congrArg Str.length (line_eq (m := m))
            rw [slen] at this
            have h2 : (lineS m).length ≤ 100 := by unfold lineS; rw [SX.S_len]; exact line_len ol
            omega
          · rw [line_eq]
            walk_at "w"
            refine bm_app (f := D.str) (x := lineS m) 0 rfl (by omega) ?_
            walk_at "w"
            refine ⟨acc ++ [lineS m], ?_, rfl, by rw [List.length_append]; show _ + 1 ≤ _; omega, _, _, _, rfl⟩
            rw [← hr0]; simp
        · rintro acc Γ' M' hr0 ⟨rfl, hal, x3, x4, x5, rfl⟩
          have hr0 : acc = A0 ++ ms.map lineS := by simpa using hr0
          have hacc : acc = patLines b ms := by rw [hr0, ← hA]; rfl
          subst hacc
          refine sd_frz (i := 2) (j := 0) rfl rfl ?_
          walk_at "r"
          refine ⟨ty_str, ?_⟩
          walk_at "w"
          have hs : ((patLines b ms).map (·.length)).sum ≤ 100 * (patLines b ms).length := by
            have : ∀ (l : List Str), (∀ x ∈ l, x.length ≤ 100) → (l.map (·.length)).sum ≤ 100 * l.length := by
              intro l
              induction l with
              | nil => intro _; exact Nat.le_refl _
              | cons x r ih =>
                intro h
                have h1 := h x List.mem_cons_self
                have h2 := ih (fun t ht => h t (List.mem_cons_of_mem _ ht))
                rw [List.map_cons, List.sum_cons, List.length_cons]
                omega
            exact this _ (fun x hx => by
              have := (pat_lines_ok ob om x hx).2.2
              have e : x.length = (tl x).length := SX.S_len (tl x) ▸ (by rw [show SX.S (tl x) = x from SX.S_tl x])
              omega)
          have hpl := (pat_lines_len (b := b) om).1
          refine bm_join (.inl rfl) (by have : ("\n" : Str).length = 1 := by decide +kernel
                                        rw [this]; omega) ?_
          rw [text_eq]
          exact k
end
section
/-- a token in its place: sender, token, last of its message -/
abbrev Fl := Bool × Str × Bool
abbrev flD (x : Fl) : D := .tup [arD x.1, .str x.2.1, .bl x.2.2]
def flat1 (e : Bool) : List Str → List Fl
  | [] => []
  | [t] => [(e, t, true)]
  | t :: u :: r => (e, t, false) :: flat1 e (u :: r)
def flatM (ms : List Msg) : List Fl := ms.flatMap fun m => flat1 m.1 m.2
theorem flat1_len (e : Bool) : ∀ ts : List Str, (flat1 e ts).length = ts.length
  | [] => rfl
  | [_] => rfl
  | t :: u :: r => by show (flat1 e (u :: r)).length + 1 = _; rw [flat1_len e (u :: r)]; rfl
theorem flat1_get (e : Bool) : ∀ (ts : List Str) (i : Nat) (t : Str), ts[i]? = some t → (flat1 e ts)[i]? = some (e, t, decide (i + 1 = ts.length))
  | [], _, _, h => by simp at h
  | [a], 0, t, h => by
    have : a = t := by simpa using h
    subst this; rfl
  | [a], i + 1, t, h => by simp at h
  | a :: b :: r, 0, t, h => by
    have : a = t := by simpa using h
    subst this
    show some (e, a, false) = _
    rw [decide_eq_false (by simp)]
  | a :: b :: r, i + 1, t, h => by
    have ih := flat1_get e (b :: r) i t (by simpa using h)
    show (flat1 e (b :: r))[i]? = _
    rw [ih]
    have : decide (i + 1 = (b :: r).length) = decide (i + 1 + 1 = (a :: b :: r).length) := by simp
    rw [this]
def R__law_flat : SpR := fun ds M q _ => ∃ (ms : List Msg), ds = [msgsD ms] ∧ okM ms ∧ q (.lst ((flatM ms).map flD)) M
abbrev sdI (e : Bool) : Int := if e = true then 1 else 0
/-- the end e has sent the letter x -/
def sentM (b : Bef) (fl : List Fl) (e : Bool) (x : Str) : Bool := decide (x ∈ befOf b e) || fl.any fun y => y.1 == e && decide (y.2.1 = x)
theorem ar_ix (e : Bool) : atI [D.str "->", D.str "<-"] (sdI e) = some (arD e) := by cases e <;> rfl
theorem bef_ix (b : Bef) (e : Bool) : atI [strsT b.1, strsT b.2] (sdI e) = some (strsT (befOf b e)) := by cases e <;> rfl
def R__law_sent : SpR := fun ds M q _ => ∃ (b : Bef) (fl : List Fl) (e : Bool) (x : Str), ds = [befD b, .lst (fl.map flD), .int (sdI e), .str x] ∧ okB b ∧ PyData.strOk x = true ∧ q (.bl (sentM b fl e x)) M
def mixedM (fl : List Fl) : List Str := (fl.filter fun y => decide (y.2.1 ∉ (["e", "s"] : List Str))).map (·.2.1)
def okF (fl : List Fl) : Prop := fl.length ≤ 100 ∧ ∀ y ∈ fl, y.2.1 ∈ TOK
def R__law_mixed : SpR := fun ds M q _ => ∃ (fl : List Fl), ds = [.lst (fl.map flD)] ∧ okF fl ∧ q (strsL (mixedM fl)) M
end
section
variable {P : Program} {w : World} {K : PySem.W.Frag} {mg : Str → Option Value} {base : Heap}
theorem sc__law_flat : FnScope N__law_flat ["_law_messages_here"] (defScope s__law_flat) := ⟨rfl, rfl, rfl, by decide +kernel, rfl, by decide +kernel, by decide +kernel⟩
theorem ok__law_flat (C : Cxt K mg) : Fn P w K mg base CX0 "_law_flat" 1 ["_law_messages_here"] R__law_flat := by
  refine Fn.of C 90 d__law_flat rfl rfl rfl rfl (by decide +kernel) sc__law_flat (fun _ _ _ _ _ _ us hl => match us, hl with | [_], _ => rfl) (fun ds M q ex h => ?len) (fun cdv A outer s H E hr => ⟨_, (pss_cons (ps_set (i := 1) sc__law_flat.nd rfl (Or.inl rfl) (pe_lst pa_nil))
      (pss_cons (ps_for PassesOwn.never rfl (pi_seq (pv 0)) (pg_tup rfl (pgs_cons (pg_name (i := 2) sc__law_flat.nd rfl (Or.inl rfl)) (pgs_cons (pg_name (i := 3) sc__law_flat.nd rfl (Or.inl rfl)) pgs_nil))) (pss_one (ps_for PassesOwn.never rfl (pi_range1 rfl (C.free "range") (pa_cons (pe_callB call_len rfl (C.free "len") boot_len (pa_cons (pv 3) pa_nil)) pa_nil)) (pg_name (i := 4) sc__law_flat.nd rfl (Or.inl rfl)) (pss_one (ps_expr (pe_bm PySem.F.plainAttrs_list PySem.F.slot_list_append PySem.F.type_list_append mt_append (pv 1) (pa_cons (pe_tup (pa_cons (pv 2) (pa_cons (pe_ix ix_seq (pv 3) (pv 4) (fun _ _ => rfl)) (pa_cons (pe_cmpR (opEqU hr.units) (pv 4) (pe_op op_sub (pe_callB call_len rfl (C.free "len") boot_len (pa_cons (pv 3) pa_nil)) pe_int) (nomark _)) pa_nil)))) pa_nil)))))))
      (pss_one (ps_ret (pv 1))))), fun ds M q ex h => ?main⟩)
  case len => obtain ⟨_, rfl, _⟩ := h; rfl
  case main =>
    obtain ⟨ms, rfl, om, k⟩ := h
    have hsz : sizeLine = 16777216 := rfl
    have hle := om.le
    walk_at "s"
    walk_at "w"
    refine ev_lstC (ea_nil ⟨by decide, fun p hp => ?_⟩)
    walk_at "w"
    refine xs_forR ms msgD (fun (acc : List Fl) (r : List Msg) => acc ++ flatM r) ([] : List Fl) (fun i acc Γ M' => M' = (p, .lst (acc.map flD)) :: M ∧ acc.length ≤ 8 * i ∧ ∃ x2 x3 x4, Γ = [some (msgsD ms), some (.ref p), x2, x3, x4]) ?_
    refine it_seq ?_
    walk_at "w"
    refine ⟨_, .inr rfl, rfl, ⟨rfl, Nat.le_refl _, _, _, _, rfl⟩, ?_, ?_⟩
    · rintro i m acc Γ' M' hm hr0 ⟨rfl, hal, x2, x3, x4, rfl⟩
      have hi : i < ms.length := (List.getElem?_eq_some_iff.mp hm).1
      obtain ⟨t1, t2, t3⟩ := om.tok m (List.mem_of_getElem? hm)
      have hr0 : acc ++ (flat1 m.1 m.2 ++ flatM (ms.drop (i + 1))) = [] ++ flatM ms := hr0
      have hfl := flat1_len m.1 m.2
      walk_at "w"
      refine xs_for (fun ds j Γ M' => ds.length = m.2.length → M' = (p, .lst ((acc ++ (flat1 m.1 m.2).take j).map flD)) :: M ∧ ∃ x4, Γ = [some (msgsD ms), some (.ref p), some (arD m.1), some (strsT m.2), x4]) ?_
      refine it_rng1 ?_
      walk_at "w"
      rw [List.length_map]
      have hl : (rngD 0 1 ((m.2.length : Nat) : Int).toNat).length = m.2.length := by simp [rngD]
      refine ⟨by omega, by omega, fun _ => ⟨by rw [List.take_zero, List.append_nil], _, rfl⟩, ?_, ?_⟩
      · rintro j e Γ' M' he hp'
        obtain ⟨rfl, x4, rfl⟩ := hp' hl
        obtain ⟨hj, rfl⟩ := rngD_get he
        have hj : j < m.2.length := by simpa using hj
        have hg : m.2[j]? = some m.2[j] := List.getElem?_eq_getElem hj
        have hf := flat1_get m.1 m.2 j _ hg
        have e0 : (0 : Int) + (j : Nat) * 1 = (j : Nat) := by omega
        rw [e0]
        walk_at "w"
        refine ⟨ty_cell (j := 0) rfl, ?_⟩
        walk_at "w"
        refine ix_tupD (d := .str m.2[j]) (atI_natD (by rw [List.getElem?_map, hg]; rfl)) ?_
        walk_at "w"
        rw [List.length_map]
        have e1 : decide (((j : Nat) : Int) = ((m.2.length : Nat) : Int) - 1) = decide (j + 1 = m.2.length) := by
          by_cases h : j + 1 = m.2.length
          · rw [decide_eq_true h, decide_eq_true (by omega)]
          · rw [decide_eq_false h, decide_eq_false (by omega)]
        rw [e1]
        refine bm_app (f := flD) (x := (m.1, m.2[j], decide (j + 1 = m.2.length))) 0 rfl (by rw [List.length_append, List.length_take]; omega) ?_
        walk_at "w"
        intro _
        refine ⟨?_, _, rfl⟩
        rw [List.take_succ, hf, List.append_assoc]; rfl
      · rintro Γ' M' hp'
        obtain ⟨rfl, x4, rfl⟩ := hp' hl
        rw [hl, List.take_of_length_le (by omega)]
        refine ⟨acc ++ flat1 m.1 m.2, by rw [List.append_assoc]; exact hr0, rfl, by rw [List.length_append]; omega, _, _, _, rfl⟩
    · rintro acc Γ' M' hr0 ⟨rfl, hal, x2, x3, x4, rfl⟩
      have hr0 : acc = flatM ms := by simpa [flatM] using hr0
      rw [hr0]
      refine sd_frz (i := 1) (j := 0) rfl rfl ?_
      walk_at "r"
      exact k
end
section
variable {P : Program} {w : World} {K : PySem.W.Frag} {mg : Str → Option Value} {base : Heap}
theorem sc__law_sent : FnScope N__law_sent ["_law_before_here", "_law_flat_here", "_law_side", "_law_letter"] (defScope s__law_sent) := ⟨rfl, rfl, rfl, by decide +kernel, rfl, by decide +kernel, by decide +kernel⟩
theorem ok__law_sent (C : Cxt K mg) : Fn P w K mg base CX0 "_law_sent" 1 ["_law_before_here", "_law_flat_here", "_law_side", "_law_letter"] R__law_sent := by
  refine Fn.of C 91 d__law_sent rfl rfl rfl rfl (by decide +kernel) sc__law_sent (fun _ _ _ _ _ _ us hl => match us, hl with | [_, _, _, _], _ => rfl) (fun ds M q ex h => ?len) (fun cdv A outer s H E hr => ⟨_, (pss_cons (ps_set (i := 4) sc__law_sent.nd rfl (Or.inl rfl) (pe_ix ix_seq (pe_lst (pa_cons pe_str (pa_cons pe_str pa_nil))) (pv 2) (fun _ _ => rfl)))
      (pss_cons (ps_if (pt_cmpR (opInU (u65 hr)) (pv 3) (pe_ix ix_seq (pv 0) (pv 2) (fun _ _ => rfl)) (by rfl)) (pss_one (ps_ret pe_bl)) pss_nil)
      (pss_cons (ps_for PassesOwn.never rfl (pi_seq (pv 1)) (pg_name (i := 5) sc__law_sent.nd rfl (Or.inl rfl)) (pss_one (ps_if (PW.pt (pw_and (pt_cmpR (opEqU hr.units) (pe_ix ix_seq (pv 5) pe_int (fun _ _ => rfl)) (pv 4) (nomark _)) (pw_and1 (pt_cmpR (opEqU hr.units) (pe_ix ix_seq (pv 5) pe_int (fun _ _ => rfl)) (pv 3) (nomark _))))) (pss_one (ps_ret pe_bl)) pss_nil)))
      (pss_one (ps_ret pe_bl))))), fun ds M q ex h => ?main⟩)
  case len => obtain ⟨_, _, _, _, rfl, _⟩ := h; rfl
  case main =>
    obtain ⟨b, fl, e, x, rfl, ob, hx, k⟩ := h
    unfold sentM at k
    walk_at "s"
    walk_at "w"
    refine ev_lst ?_
    walk_at "w"
    refine ix_lstD (ar_ix e) ?_
    walk_at "w"
    refine ix_tupD (bef_ix b e) ?_
    refine inU_strT hx (befOf_ok ob e) ?_
    walk_at "w"
    by_cases h : x ∈ befOf b e
    · rw [decide_eq_true h] at k
      refine ite_yes (yes_dec h) ?_
      walk_at "r"
      exact k
    rw [decide_eq_false h, Bool.false_or] at k
    refine ite_no (no_dec h) ?_
    walk_at "w"
    refine xs_forR fl flD (fun (_ : Unit) (r : List Fl) => r.any fun y => y.1 == e && decide (y.2.1 = x)) () (fun i _ Γ M' => M' = M ∧ ∃ x5, Γ = [some (befD b), some (.lst (fl.map flD)), some (.int (sdI e)), some (.str x), some (arD e), x5]) ?_
    refine it_seq ?_
    walk_at "w"
    refine ⟨_, .inl rfl, rfl, ⟨rfl, _, rfl⟩, ?_, ?_⟩
    · rintro i y _ Γ' M' hy hr0 ⟨rfl, x5, rfl⟩
      have hr0 : ((y.1 == e && decide (y.2.1 = x)) || ((fl.drop (i + 1)).any fun y => y.1 == e && decide (y.2.1 = x))) = _ := hr0
      walk_at "w"
      refine ix_tupD (i := 0) (d := arD y.1) rfl ?_
      walk_at "w"
      by_cases h1 : y.1 = e
      · refine ite_yes (yes_dec (by rw [h1])) ?_
        walk_at "w"
        refine ix_tupD (i := 1) (d := .str y.2.1) rfl ?_
        walk_at "w"
        by_cases h2 : y.2.1 = x
        · refine ite_yes (yes_dec h2) ?_
          walk_at "r"
          rw [← hr0] at k
          simpa [h1, h2] using k
        · refine ite_no (no_dec h2) ?_
          walk_at "w"
          refine ⟨(), ?_, rfl, _, rfl⟩
          rw [← hr0]; simp [h2]
      · refine ite_no (no_dec (fun z => h1 (arrow_inj.mp z))) ?_
        refine ite_no (by decide) ?_
        walk_at "w"
        refine ⟨(), ?_, rfl, _, rfl⟩
        rw [← hr0]; simp [h1]
    · rintro _ Γ' M' hr0 ⟨rfl, x5, rfl⟩
      have hr0 : false = fl.any fun y => y.1 == e && decide (y.2.1 = x) := hr0
      walk_at "r"
      rw [← hr0] at k
      exact k
end
section
variable {P : Program} {w : World} {K : PySem.W.Frag} {mg : Str → Option Value} {base : Heap}
theorem sc__law_mixed : FnScope N__law_mixed ["_law_flat_here"] (defScope s__law_mixed) := ⟨rfl, rfl, rfl, by decide +kernel, rfl, by decide +kernel, by decide +kernel⟩
theorem ok__law_mixed (C : Cxt K mg) : Fn P w K mg base CX0 "_law_mixed" 1 ["_law_flat_here"] R__law_mixed := by
  refine Fn.of C 92 d__law_mixed rfl rfl rfl rfl (by decide +kernel) sc__law_mixed (fun _ _ _ _ _ _ us hl => match us, hl with | [_], _ => rfl) (fun ds M q ex h => ?len) (fun cdv A outer s H E hr => ⟨_, (pss_one (ps_ret (pe_lc (own := [("_law_place", 1)]) rfl sc__law_mixed.nd (pi_seq (pv 0)) (blkOk_by (N := N__law_mixed) (sc := defScope s__law_mixed) (by decide +kernel)) (fun _ _ _ _ _ => (pg_name (i := 1) sc__law_mixed.nd rfl (Or.inl rfl))) (fun _ _ _ _ _ => (pts_one (pt_cmpR (opNotInUK (K := K) rfl (u65 hr)) (pe_ix (ix_seqK (K := K) rfl) (pv 1) pe_int (fun _ _ => rfl)) (pe_tup (pa_cons pe_str (pa_cons pe_str pa_nil))) (by rfl)))) (fun _ _ _ _ _ => (pe_ix (ix_seqK (K := K) rfl) (pv 1) pe_int (fun _ _ => rfl)))))), fun ds M q ex h => ?main⟩)
  case len => obtain ⟨_, rfl, _⟩ := h; rfl
  case main =>
    obtain ⟨fl, rfl, ⟨hl, ht⟩, k⟩ := h
    have hsz : sizeLine = 16777216 := rfl
    walk_at "s"
    walk_at "r"
    refine ev_lcF fl flD (fun y => decide (y.2.1 ∉ (["e", "s"] : List Str))) (fun y => .str y.2.1) (own_name (by decide)) ?_
    refine it_seq ?_
    walk_at "w"
    refine ⟨_, .inl rfl, rfl, by omega, ?_, ?_⟩
    · intro i y hy
      have hty := tok_ok _ (ht y (List.mem_of_getElem? hy))
      walk_at "w"
      refine ix_tupD (i := 1) (d := .str y.2.1) rfl ?_
      walk_at "w"
      refine notInU_strT (xs := ["e", "s"]) hty (fun a ha => tok_ok a (by rcases List.mem_cons.mp ha with rfl | ha <;> first | exact List.mem_cons_self | (cases List.mem_singleton.mp ha; exact List.mem_cons_of_mem _ List.mem_cons_self))) ?_
      walk_at "w"
      refine ⟨by rw [decide_not], rfl, fun _ => ?_⟩
      walk_at "w"
      refine ix_tupD (i := 1) (d := .str y.2.1) rfl ?_
      exact ⟨rfl, rfl⟩
    · unfold mixedM at k
      rw [show strsL = fun xs : List Str => D.lst (xs.map D.str) from rfl] at k
      dsimp only at k
      rw [List.map_map] at k
      exact k
end
section
/-- where something is sealed: the place, the end -/
def encP : Nat → List Fl → List Fl → List (Nat × Bool)
  | _, _, [] => []
  | k, pre, y :: r => (if y.2.1 = "s" ∧ mixedM pre ≠ [] then [(k, y.1)] else []) ++ ((if y.2.2 = true ∧ mixedM (pre ++ [y]) ≠ [] then [(k + 1, y.1)] else []) ++ encP (k + 1) (pre ++ [y]) r)
theorem encP_cons (k : Nat) (pre : List Fl) (y : Fl) (r : List Fl) : encP k pre (y :: r) = (if y.2.1 = "s" ∧ mixedM pre ≠ [] then [(k, y.1)] else []) ++ ((if y.2.2 = true ∧ mixedM (pre ++ [y]) ≠ [] then [(k + 1, y.1)] else []) ++ encP (k + 1) (pre ++ [y]) r) := rfl
def encF (n : Nat) (ms : List Msg) : List (Nat × Bool) := match ms with
  | [] => []
  | [m] => [(n, m.1)]
  | m :: m2 :: _ => [(n, m.1), (n, m2.1)]
def encM (ms : List Msg) : List (Nat × Bool) := encP 0 [] (flatM ms) ++ (if mixedM (flatM ms) ≠ [] then encF (flatM ms).length ms else [])
abbrev plD (x : Nat × Bool) : D := .tup [.int (x.1 : Nat), arD x.2]
theorem flat_ok {ms : List Msg} (o : okM ms) : okF (flatM ms) := by
  have h1 : ∀ (l : List Msg), (∀ m ∈ l, m.2.length ≤ 8 ∧ ∀ t ∈ m.2, t ∈ TOK) → (flatM l).length ≤ 8 * l.length ∧ ∀ y ∈ flatM l, y.2.1 ∈ TOK := by
    intro l
    induction l with
    | nil => intro _; exact ⟨Nat.le_refl _, fun _ z => by cases z⟩
    | cons m r ih =>
      intro h
      obtain ⟨a1, a2⟩ := h m List.mem_cons_self
      obtain ⟨b1, b2⟩ := ih (fun x hx => h x (List.mem_cons_of_mem _ hx))
      have e : flatM (m :: r) = flat1 m.1 m.2 ++ flatM r := rfl
      have f1 := flat1_len m.1 m.2
      rw [e]
      refine ⟨by rw [List.length_append, List.length_cons]; omega, fun y hy => ?_⟩
      rcases List.mem_append.mp hy with hy | hy
      · have : ∀ (ts : List Str), (∀ t ∈ ts, t ∈ TOK) → ∀ y ∈ flat1 m.1 ts, y.2.1 ∈ TOK := by
          intro ts
          induction ts with
          | nil => intro _ y hy; cases hy
          | cons t r2 ih2 =>
            intro h3 y hy
            cases r2 with
            | nil => cases List.mem_singleton.mp hy; exact h3 t List.mem_cons_self
            | cons u r3 =>
              rcases List.mem_cons.mp hy with rfl | hy
              · exact h3 t List.mem_cons_self
              · exact ih2 (fun x hx => h3 x (List.mem_cons_of_mem _ hx)) y hy
        exact this m.2 a2 y hy
      · exact b2 y hy
  have h := h1 ms (fun m hm => ⟨(o.tok m hm).2.1, (o.tok m hm).2.2⟩)
  have := o.le
  exact ⟨by omega, h.2⟩
theorem okF.take {fl : List Fl} (o : okF fl) (n : Nat) : okF (fl.take n) := ⟨by have := o.1; rw [List.length_take]; omega, fun y hy => o.2 y (List.mem_of_mem_take hy)⟩
def R__law_encryptions : SpR := fun ds M q _ => ∃ (ms : List Msg), ds = [msgsD ms] ∧ okM ms ∧ q (.lst ((encM ms).map plD)) M
def brkKey (b : Bef) : List Fl → List Fl → Bool
  | _, [] => false
  | pre, y :: r => if y.2.1 ∈ SEC ∧ (sentM b pre false (chr0 y.2.1) && sentM b pre true (chr1 y.2.1)) = false then true else brkKey b (pre ++ [y]) r
theorem brkKey_cons (b : Bef) (pre : List Fl) (y : Fl) (r : List Fl) : brkKey b pre (y :: r) = if y.2.1 ∈ SEC ∧ (sentM b pre false (chr0 y.2.1) && sentM b pre true (chr1 y.2.1)) = false then true else brkKey b (pre ++ [y]) r := rfl
def R__law_breaks_keys : SpR := fun ds M q _ => ∃ (b : Bef) (fl : List Fl), ds = [befD b, .lst (fl.map flD)] ∧ okB b ∧ okF fl ∧ q (.bl (brkKey b [] fl)) M
end
section
variable {P : Program} {w : World} {K : PySem.W.Frag} {mg : Str → Option Value} {base : Heap}
theorem sc__law_encryptions : FnScope N__law_encryptions ["_law_messages_here"] (defScope s__law_encryptions) := ⟨rfl, rfl, rfl, by decide +kernel, rfl, by decide +kernel, by decide +kernel⟩
theorem ok__law_encryptions (C : Cxt K mg) (h__law_mixed : Fn P w K mg base CX0 "_law_mixed" 1 ["_law_flat_here"] R__law_mixed) (h__law_flat : Fn P w K mg base CX0 "_law_flat" 1 ["_law_messages_here"] R__law_flat) : Fn P w K mg base CX0 "_law_encryptions" 2 ["_law_messages_here"] R__law_encryptions := by
  refine Fn.of C 93 d__law_encryptions rfl rfl rfl rfl (by decide +kernel) sc__law_encryptions (fun _ _ _ _ _ _ us hl => match us, hl with | [_], _ => rfl) (fun ds M q ex h => ?len) (fun cdv A outer s H E hr => ⟨_, (pss_cons (ps_set (i := 1) sc__law_encryptions.nd rfl (Or.inl rfl) (pe_fn h__law_flat hr (by decide) rfl (pa_cons (pv 0) pa_nil)))
      (pss_cons (ps_set (i := 2) sc__law_encryptions.nd rfl (Or.inl rfl) (pe_lst pa_nil))
      (pss_cons (ps_for PassesOwn.never rfl (pi_range1 rfl (C.free "range") (pa_cons (pe_callB call_len rfl (C.free "len") boot_len (pa_cons (pv 1) pa_nil)) pa_nil)) (pg_name (i := 3) sc__law_encryptions.nd rfl (Or.inl rfl)) (pss_cons (ps_if (PW.pt (pw_and (pt_cmpR (opEqU hr.units) (pe_ix ix_seq (pe_ix ix_seq (pv 1) (pv 3) (fun _ _ => rfl)) pe_int (fun _ _ => rfl)) pe_str (nomark _)) (pw_and1 (pt_cmpR op_gt (pe_callB call_len rfl (C.free "len") boot_len (pa_cons (pe_fn h__law_mixed hr (by decide) rfl (pa_cons (pe_slice slU (pv 1) po_none (po_some (pv 3))) pa_nil)) pa_nil)) pe_int (nomark _))))) (pss_one (ps_expr (pe_bm PySem.F.plainAttrs_list PySem.F.slot_list_append PySem.F.type_list_append mt_append (pv 2) (pa_cons (pe_tup (pa_cons (pv 3) (pa_cons (pe_ix ix_seq (pe_ix ix_seq (pv 1) (pv 3) (fun _ _ => rfl)) pe_int (fun _ _ => rfl)) pa_nil))) pa_nil)))) pss_nil)
      (pss_one (ps_if (PW.pt (pw_and (pt_val (pe_ix ix_seq (pe_ix ix_seq (pv 1) (pv 3) (fun _ _ => rfl)) pe_int (fun _ _ => rfl))) (pw_and1 (pt_cmpR op_gt (pe_callB call_len rfl (C.free "len") boot_len (pa_cons (pe_fn h__law_mixed hr (by decide) rfl (pa_cons (pe_slice slU (pv 1) po_none (po_some (pe_op opAddU (pv 3) pe_int))) pa_nil)) pa_nil)) pe_int (nomark _))))) (pss_one (ps_expr (pe_bm PySem.F.plainAttrs_list PySem.F.slot_list_append PySem.F.type_list_append mt_append (pv 2) (pa_cons (pe_tup (pa_cons (pe_op opAddU (pv 3) pe_int) (pa_cons (pe_ix ix_seq (pe_ix ix_seq (pv 1) (pv 3) (fun _ _ => rfl)) pe_int (fun _ _ => rfl)) pa_nil))) pa_nil)))) pss_nil))))
      (pss_cons (ps_if (pt_cmpR op_gt (pe_callB call_len rfl (C.free "len") boot_len (pa_cons (pe_fn h__law_mixed hr (by decide) rfl (pa_cons (pv 1) pa_nil)) pa_nil)) pe_int (nomark _)) (pss_cons (ps_expr (pe_bm PySem.F.plainAttrs_list PySem.F.slot_list_append PySem.F.type_list_append mt_append (pv 2) (pa_cons (pe_tup (pa_cons (pe_callB call_len rfl (C.free "len") boot_len (pa_cons (pv 1) pa_nil)) (pa_cons (pe_ix ix_seq (pe_ix ix_seq (pv 0) pe_int (fun _ _ => rfl)) pe_int (fun _ _ => rfl)) pa_nil))) pa_nil)))
      (pss_one (ps_if (pt_cmpR op_gt (pe_callB call_len rfl (C.free "len") boot_len (pa_cons (pv 0) pa_nil)) pe_int (nomark _)) (pss_one (ps_expr (pe_bm PySem.F.plainAttrs_list PySem.F.slot_list_append PySem.F.type_list_append mt_append (pv 2) (pa_cons (pe_tup (pa_cons (pe_callB call_len rfl (C.free "len") boot_len (pa_cons (pv 1) pa_nil)) (pa_cons (pe_ix ix_seq (pe_ix ix_seq (pv 0) pe_int (fun _ _ => rfl)) pe_int (fun _ _ => rfl)) pa_nil))) pa_nil)))) pss_nil))) pss_nil)
      (pss_one (ps_ret (pv 2))))))), fun ds M q ex h => ?main⟩)
  case len => obtain ⟨_, rfl, _⟩ := h; rfl
  case main =>
    obtain ⟨ms, rfl, om, k0⟩ := h
    have hsz : sizeLine = 16777216 := rfl
    have of := flat_ok om
    have hfl := of.1
    walk_at "s"
    walk_at "w"
    refine ⟨ms, rfl, om, ?_⟩
    unfold encM at k0
    generalize flatM ms = fl at of hfl k0 ⊢
    walk_at "w"
    refine ev_lstC (ea_nil ⟨by decide, fun p hp => ?_⟩)
    walk_at "w"
    refine xs_for (fun ds i Γ M' => ds.length = fl.length → ∃ acc, acc ++ encP i (fl.take i) (fl.drop i) = encP 0 [] fl ∧ acc.length ≤ 2 * i ∧ M' = (p, .lst (acc.map plD)) :: M ∧ ∃ x, Γ = [some (msgsD ms), some (.lst (fl.map flD)), some (.ref p), x]) ?_
    refine it_rng1 ?_
    walk_at "w"
    rw [List.length_map]
    have hl : (rngD 0 1 ((fl.length : Nat) : Int).toNat).length = fl.length := by simp [rngD]
    refine ⟨by omega, by omega, fun _ => ⟨[], rfl, Nat.le_refl _, rfl, _, rfl⟩, ?_, ?_⟩
    · rintro i e Γ' M' he hp'
      obtain ⟨acc, ha1, ha2, rfl, x, rfl⟩ := hp' hl
      obtain ⟨hi, rfl⟩ := rngD_get he
      have hi : i < fl.length := by simpa using hi
      obtain ⟨y, hy⟩ : ∃ y, fl[i]? = some y := ⟨_, List.getElem?_eq_getElem hi⟩
      have ed : fl.drop i = y :: fl.drop (i + 1) := by
        obtain ⟨hl, ex⟩ := List.getElem?_eq_some_iff.mp hy
        rw [← ex]; exact List.drop_eq_getElem_cons hl
      have et : fl.take i ++ [y] = fl.take (i + 1) := by rw [List.take_succ, hy]; rfl
      rw [ed] at ha1
      rw [encP_cons] at ha1
      rw [et] at ha1
      have hat : atI (fl.map flD) ((i : Nat) : Int) = some (flD y) := atI_natD (by rw [List.getElem?_map, hy]; rfl)
      have e0 : (0 : Int) + (i : Nat) * 1 = (i : Nat) := by omega
      have e2 : ((i : Nat) : Int) + 1 = ((i + 1 : Nat) : Int) := by omega
      rw [e0]
      walk_at "d"
      walk_at "d"
      -- the token s, sealed
      refine xs_join [some (msgsD ms), some (.lst (fl.map flD)), some (.ref p), some (.int (i : Nat))] ((p, .lst ((acc ++ (if y.2.1 = "s" ∧ mixedM (fl.take i) ≠ [] then [(i, y.1)] else [])).map plD)) :: M) ?_ ?_
      · walk_at "w"
        refine ix_lstD hat ?_
        walk_at "w"
        refine ix_tupD (i := 1) (d := .str y.2.1) rfl ?_
        walk_at "w"
        by_cases h1 : y.2.1 = "s"
        · refine ite_yes (yes_dec h1) ?_
          walk_at "w"
          refine sl_lstD ?_
          rw [cutD_to, ← List.map_take]
          walk_at "w"
          refine ⟨_, rfl, of.take i, ?_⟩
          walk_at "w"
          rw [List.length_map]
          by_cases h2 : mixedM (fl.take i) = []
          · refine ite_no (no_dec (by rw [h2]; simp)) ?_
            walk_at "w"
            exact ⟨rfl, by rw [if_neg (fun z => z.2 h2), List.append_nil]⟩
          · refine ite_yes (yes_dec (by have := List.length_pos_iff.mpr h2; omega)) ?_
            walk_at "w"
            refine ⟨ty_cell (j := 0) rfl, ?_⟩
            walk_at "w"
            refine ix_lstD hat ?_
            walk_at "w"
            refine ix_tupD (i := 0) (d := arD y.1) rfl ?_
            walk_at "w"
            refine bm_app (f := plD) (x := (i, y.1)) 0 rfl (by omega) ?_
            walk_at "w"
            exact ⟨rfl, by rw [if_pos ⟨h1, h2⟩] <;> rfl⟩
        · refine ite_no (no_dec h1) ?_
          refine ite_no (by decide) ?_
          walk_at "w"
          exact ⟨rfl, by rw [if_neg (fun z => h1 z.1), List.append_nil]⟩
      · generalize hA : acc ++ (if y.2.1 = "s" ∧ mixedM (fl.take i) ≠ [] then [(i, y.1)] else []) = A1
        have hA1 : A1.length ≤ 2 * i + 1 := by rw [← hA, List.length_append]; split <;> simp <;> omega
        rw [← List.append_assoc, hA] at ha1
        refine xs_join [some (msgsD ms), some (.lst (fl.map flD)), some (.ref p), some (.int (i : Nat))] ((p, .lst ((A1 ++ (if y.2.2 = true ∧ mixedM (fl.take (i + 1)) ≠ [] then [(i + 1, y.1)] else [])).map plD)) :: M) ?_ ?_
        · walk_at "w"
          refine ix_lstD hat ?_
          walk_at "w"
          refine ix_tupD (i := 2) (d := .bl y.2.2) rfl ?_
          walk_at "w"
          cases h1 : y.2.2 with
          | true =>
            refine ite_yes rfl ?_
            walk_at "w"
            refine sl_lstD ?_
            rw [e2, cutD_to, ← List.map_take]
            walk_at "w"
            refine ⟨_, rfl, of.take (i + 1), ?_⟩
            walk_at "w"
            rw [List.length_map]
            by_cases h2 : mixedM (fl.take (i + 1)) = []
            · refine ite_no (no_dec (by rw [h2]; simp)) ?_
              walk_at "w"
              exact ⟨rfl, by rw [if_neg (fun z => z.2 h2), List.append_nil]⟩
            · refine ite_yes (yes_dec (by have := List.length_pos_iff.mpr h2; omega)) ?_
              walk_at "w"
              refine ⟨ty_cell (j := 0) rfl, ?_⟩
              walk_at "w"
              refine ix_lstD hat ?_
              walk_at "w"
              refine ix_tupD (i := 0) (d := arD y.1) rfl ?_
              walk_at "w"
              rw [e2]
              refine bm_app (f := plD) (x := (i + 1, y.1)) 0 rfl (by omega) ?_
              walk_at "w"
              exact ⟨rfl, by rw [if_pos ⟨rfl, h2⟩] <;> rfl⟩
          | false =>
            refine ite_no (fun z => by cases z) ?_
            refine ite_no (by decide) ?_
            walk_at "w"
            exact ⟨rfl, by rw [if_neg (fun z => by cases z.1), List.append_nil]⟩
        · intro _
          refine ⟨_, ?_, ?_, rfl, _, rfl⟩
          · rw [List.append_assoc]; exact ha1
          · rw [List.length_append]; split <;> simp <;> omega
    · rintro Γ' M' hp'
      obtain ⟨acc, ha1, ha2, rfl, x, rfl⟩ := hp' hl
      rw [hl] at ha1 ha2
      rw [List.drop_length] at ha1
      have ha1 : acc = encP 0 [] fl := by rw [← ha1]; show acc = acc ++ []; rw [List.append_nil]
      rw [← ha1] at k0
      walk_at "w"
      refine ⟨_, rfl, of, ?_⟩
      walk_at "w"
      rw [List.length_map]
      by_cases h2 : mixedM fl = []
      · rw [if_neg (fun z => z h2), List.append_nil] at k0
        refine ite_no (no_dec (by rw [h2]; simp)) ?_
        walk_at "w"
        refine sd_frz (i := 2) (j := 0) rfl rfl ?_
        walk_at "r"
        exact k0
      · rw [if_pos h2] at k0
        refine ite_yes (yes_dec (by have := List.length_pos_iff.mpr h2; omega)) ?_
        walk_at "w"
        refine ⟨ty_cell (j := 0) rfl, ?_⟩
        walk_at "w"
        rw [List.length_map]
        match ms, om, k0 with
        | [], om, _ => exact absurd rfl om.ne
        | [m], om, k0 =>
          refine ix_tupD (i := 0) (d := msgD m) rfl ?_
          walk_at "w"
          refine ix_tupD (i := 0) (d := arD m.1) rfl ?_
          walk_at "w"
          refine bm_app (f := plD) (x := (fl.length, m.1)) 0 rfl (by omega) ?_
          walk_at "w"
          refine ite_no (no_dec (by simp)) ?_
          walk_at "w"
          refine sd_frz (i := 2) (j := 0) rfl rfl ?_
          walk_at "r"
          exact k0
        | m :: m2 :: r, om, k0 =>
          refine ix_tupD (i := 0) (d := msgD m) (atI_natD (j := 0) rfl) ?_
          walk_at "w"
          refine ix_tupD (i := 0) (d := arD m.1) rfl ?_
          walk_at "w"
          refine bm_app (f := plD) (x := (fl.length, m.1)) 0 rfl (by omega) ?_
          walk_at "w"
          refine ite_yes (yes_dec (by simp only [List.length_map, List.length_cons]; omega)) ?_
          walk_at "w"
          refine ⟨ty_cell (j := 0) rfl, ?_⟩
          walk_at "w"
          rw [List.length_map]
          refine ix_tupD (i := 1) (d := msgD m2) (atI_natD (j := 1) rfl) ?_
          walk_at "w"
          refine ix_tupD (i := 0) (d := arD m2.1) rfl ?_
          walk_at "w"
          refine bm_app (f := plD) (x := (fl.length, m2.1)) 0 rfl (by rw [List.length_append]; simp only [List.length_cons, List.length_nil]; omega) ?_
          walk_at "w"
          refine sd_frz (i := 2) (j := 0) rfl rfl ?_
          walk_at "r"
          rw [List.append_assoc]
          exact k0
end
section
variable {P : Program} {w : World} {K : PySem.W.Frag} {mg : Str → Option Value} {base : Heap}
theorem sc__law_breaks_keys : FnScope N__law_breaks_keys ["_law_before_here", "_law_flat_here"] (defScope s__law_breaks_keys) := ⟨rfl, rfl, rfl, by decide +kernel, rfl, by decide +kernel, by decide +kernel⟩
theorem ok__law_breaks_keys (C : Cxt K mg) (h__law_sent : Fn P w K mg base CX0 "_law_sent" 1 ["_law_before_here", "_law_flat_here", "_law_side", "_law_letter"] R__law_sent) : Fn P w K mg base CX0 "_law_breaks_keys" 2 ["_law_before_here", "_law_flat_here"] R__law_breaks_keys := by
  refine Fn.of C 95 d__law_breaks_keys rfl rfl rfl rfl (by decide +kernel) sc__law_breaks_keys (fun _ _ _ _ _ _ us hl => match us, hl with | [_, _], _ => rfl) (fun ds M q ex h => ?len) (fun cdv A outer s H E hr => ⟨_, (pss_cons (ps_for PassesOwn.never rfl (pi_range1 rfl (C.free "range") (pa_cons (pe_callB call_len rfl (C.free "len") boot_len (pa_cons (pv 1) pa_nil)) pa_nil)) (pg_name (i := 2) sc__law_breaks_keys.nd rfl (Or.inl rfl)) (pss_cons (ps_set (i := 3) sc__law_breaks_keys.nd rfl (Or.inl rfl) (pe_ix ix_seq (pe_ix ix_seq (pv 1) (pv 2) (fun _ _ => rfl)) pe_int (fun _ _ => rfl)))
      (pss_one (ps_if (pt_cmpR (opInU (u65 hr)) (pv 3) (pe_tup (pa_cons pe_str (pa_cons pe_str (pa_cons pe_str (pa_cons pe_str pa_nil))))) (by rfl)) (pss_cons (ps_set (i := 4) sc__law_breaks_keys.nd rfl (Or.inl rfl) (pe_and (pe_fn h__law_sent hr (by decide) rfl (pa_cons (pv 0) (pa_cons (pe_slice slU (pv 1) po_none (po_some (pv 2))) (pa_cons pe_int (pa_cons (pe_ix ix_seq (pv 3) pe_int (fun _ _ => rfl)) pa_nil))))) (pe_one (pe_fn h__law_sent hr (by decide) rfl (pa_cons (pv 0) (pa_cons (pe_slice slU (pv 1) po_none (po_some (pv 2))) (pa_cons pe_int (pa_cons (pe_ix ix_seq (pv 3) pe_int (fun _ _ => rfl)) pa_nil))))))))
      (pss_one (ps_if (pt_not (pt_val (pv 4))) (pss_one (ps_ret pe_bl)) pss_nil))) pss_nil))))
      (pss_one (ps_ret pe_bl))), fun ds M q ex h => ?main⟩)
  case len => obtain ⟨_, _, rfl, _⟩ := h; rfl
  case main =>
    obtain ⟨b, fl, rfl, ob, of, k⟩ := h
    have hfl := of.1
    walk_at "s"
    walk_at "w"
    refine xs_for (fun ds i Γ M' => ds.length = fl.length → brkKey b (fl.take i) (fl.drop i) = brkKey b [] fl ∧ M' = M ∧ ∃ x3 x4 x5, Γ = [some (befD b), some (.lst (fl.map flD)), x3, x4, x5]) ?_
    refine it_rng1 ?_
    walk_at "w"
    rw [List.length_map]
    have hl : (rngD 0 1 ((fl.length : Nat) : Int).toNat).length = fl.length := by simp [rngD]
    refine ⟨by omega, by omega, fun _ => ⟨rfl, rfl, _, _, _, rfl⟩, ?_, ?_⟩
    · rintro i e Γ' M' he hp'
      obtain ⟨ha1, rfl, x3, x4, x5, rfl⟩ := hp' hl
      obtain ⟨hi, rfl⟩ := rngD_get he
      have hi : i < fl.length := by simpa using hi
      obtain ⟨y, hy⟩ : ∃ y, fl[i]? = some y := ⟨_, List.getElem?_eq_getElem hi⟩
      have ed : fl.drop i = y :: fl.drop (i + 1) := by
        obtain ⟨hl, ex⟩ := List.getElem?_eq_some_iff.mp hy
        rw [← ex]; exact List.drop_eq_getElem_cons hl
      have et : fl.take i ++ [y] = fl.take (i + 1) := by rw [List.take_succ, hy]; rfl
      rw [ed] at ha1
      rw [brkKey_cons] at ha1
      rw [et] at ha1
      have hty := tok_ok _ (of.2 y (List.mem_of_getElem? hy))
      have hat : atI (fl.map flD) ((i : Nat) : Int) = some (flD y) := atI_natD (by rw [List.getElem?_map, hy]; rfl)
      have e0 : (0 : Int) + (i : Nat) * 1 = (i : Nat) := by omega
      rw [e0]
      walk_at "w"
      refine ix_lstD hat ?_
      walk_at "w"
      refine ix_tupD (i := 1) (d := .str y.2.1) rfl ?_
      walk_at "w"
      refine inU_strT (xs := SEC) hty sec_ok ?_
      walk_at "w"
      by_cases h1 : y.2.1 ∈ SEC
      · obtain ⟨c1, c2, c3, c4, c5⟩ := chr_ok _ h1
        refine ite_yes (yes_dec h1) ?_
        walk_at "d"
        walk_at "d"
        refine ev_join (.bl (sentM b (fl.take i) false (chr0 y.2.1) && sentM b (fl.take i) true (chr1 y.2.1))) ?_ ?_
        · refine ev_andV ?_
          walk_at "w"
          refine sl_lstD ?_
          rw [cutD_to, ← List.map_take]
          walk_at "w"
          refine ix_strD c3 c4 ?_
          walk_at "w"
          refine ⟨b, fl.take i, false, chr0 y.2.1, rfl, ob, c1, ?_⟩
          walk_at "w"
          cases hs : sentM b (fl.take i) false (chr0 y.2.1) with
          | false =>
            refine ite_no (fun z => by cases z) ?_
            exact ⟨rfl, rfl⟩
          | true =>
            refine ite_yes rfl ?_
            walk_at "w"
            refine sl_lstD ?_
            rw [cutD_to, ← List.map_take]
            walk_at "w"
            refine ix_strD c3 c5 ?_
            walk_at "w"
            exact ⟨b, fl.take i, true, chr1 y.2.1, rfl, ob, c2, rfl, rfl⟩
        · walk_at "w"
          cases hs : (sentM b (fl.take i) false (chr0 y.2.1) && sentM b (fl.take i) true (chr1 y.2.1)) with
          | false =>
            rw [if_pos ⟨h1, hs⟩] at ha1
            refine ite_yes rfl ?_
            walk_at "r"
            rw [← ha1] at k
            exact k
          | true =>
            rw [if_neg (fun z => by rw [hs] at z; cases z.2)] at ha1
            refine ite_no (fun z => by cases z) ?_
            walk_at "w"
            exact fun _ => ⟨ha1, rfl, _, _, _, rfl⟩
      · rw [if_neg (fun z => h1 z.1)] at ha1
        refine ite_no (no_dec h1) ?_
        walk_at "w"
        exact fun _ => ⟨ha1, rfl, _, _, _, rfl⟩
    · rintro Γ' M' hp'
      obtain ⟨ha1, rfl, x3, x4, x5, rfl⟩ := hp' hl
      rw [hl, List.drop_length] at ha1
      have ha1 : false = brkKey b [] fl := ha1
      walk_at "r"
      rw [← ha1] at k
      exact k
end
section
def cX (b : Bef) (fl : List Fl) (e : Bool) (x : Str) : Bool := decide (1 < ((befOf b e).filter fun t => decide (t = x)).length + (fl.filter fun y => decide (arrow y.1 = arrow e) && decide (y.2.1 = x)).length)
def cnt1 (b : Bef) (fl : List Fl) : Bool := [false, true].any fun e => (["e", "s"] : List Str).any fun x => cX b fl e x
def cY (fl : List Fl) (t : Str) : Bool := decide (1 < (fl.filter fun y => decide (y.2.1 = t)).length)
def cnt2 (fl : List Fl) : Bool := SEC.any fun t => cY fl t
def R__law_breaks_counts : SpR := fun ds M q _ => ∃ (b : Bef) (fl : List Fl) (r : Int), ds = [befD b, .lst (fl.map flD), .int r] ∧ okB b ∧ okF fl ∧ (r = 1 ∨ r = 2) ∧ q (.bl (if r = 1 then cnt1 b fl else cnt2 fl)) M
def R__law_breaks_psk : SpR := fun ds M q _ => ∃ (ms : List Msg), ds = [msgsD ms] ∧ okM ms ∧ q (.bl (misPsk 0 ms)) M
theorem inner_iff (i : Nat) (ts : List Str) : ("psk" : Str) ∈ inner i ts ↔ ∃ j : Nat, j + 1 < ts.length ∧ ts[j]? = some ("psk" : Str) ∧ (0 < i ∨ 0 < j) := by
  unfold inner
  by_cases hi : i = 0
  · rw [if_pos hi, List.mem_iff_getElem?]
    constructor
    · rintro ⟨j, hj⟩
      rw [List.getElem?_drop, List.getElem?_take] at hj
      split at hj
      · rename_i h
        exact ⟨1 + j, by omega, hj, .inr (by omega)⟩
      · cases hj
    · rintro ⟨j, h1, h2, h3⟩
      refine ⟨j - 1, ?_⟩
      rw [List.getElem?_drop, List.getElem?_take, if_pos (by omega), show 1 + (j - 1) = j by omega]
      exact h2
  · rw [if_neg hi, List.mem_iff_getElem?]
    constructor
    · rintro ⟨j, hj⟩
      rw [List.getElem?_take] at hj
      split at hj
      · rename_i h
        exact ⟨j, by omega, hj, .inl (by omega)⟩
      · cases hj
    · rintro ⟨j, h1, h2, h3⟩
      refine ⟨j, ?_⟩
      rw [List.getElem?_take, if_pos (by omega)]
      exact h2
end
section
variable {P : Program} {w : World} {K : PySem.W.Frag} {mg : Str → Option Value} {base : Heap}
theorem sc__law_breaks_counts : FnScope N__law_breaks_counts ["_law_before_here", "_law_flat_here", "_law_rule"] (defScope s__law_breaks_counts) := ⟨rfl, rfl, rfl, by decide +kernel, rfl, by decide +kernel, by decide +kernel⟩
theorem ok__law_breaks_counts (C : Cxt K mg) : Fn P w K mg base CX0 "_law_breaks_counts" 1 ["_law_before_here", "_law_flat_here", "_law_rule"] R__law_breaks_counts := by
  refine Fn.of C 94 d__law_breaks_counts rfl rfl rfl rfl (by decide +kernel) sc__law_breaks_counts (fun _ _ _ _ _ _ us hl => match us, hl with | [_, _, _], _ => rfl) (fun ds M q ex h => ?len) (fun cdv A outer s H E hr => ⟨_, (pss_cons (ps_for PassesOwn.never rfl (pi_range1 rfl (C.free "range") (pa_cons pe_int pa_nil)) (pg_name (i := 3) sc__law_breaks_counts.nd rfl (Or.inr rfl)) (pss_one (ps_for PassesOwn.never rfl (pi_seq (pe_tup (pa_cons pe_str (pa_cons pe_str pa_nil)))) (pg_name (i := 4) sc__law_breaks_counts.nd rfl (Or.inr rfl)) (pss_cons (ps_set (i := 6) sc__law_breaks_counts.nd rfl (Or.inl rfl) (pe_callB call_len rfl (C.free "len") boot_len (pa_cons (pe_lc (own := [("_law_token", 5)]) rfl sc__law_breaks_counts.nd (pi_seq (pe_ix ix_seq (pv 0) (pv 3) (fun _ _ => rfl))) (blkOk_by (N := N__law_breaks_counts) (sc := defScope s__law_breaks_counts) (by decide +kernel)) (fun _ _ _ _ _ => (pg_name (i := 5) sc__law_breaks_counts.nd rfl (Or.inl rfl))) (fun _ _ _ _ _ => (pts_one (pt_cmpR (opEqUK (K := K) rfl hr.units) (pv 5) (pv 4) (nomark _)))) (fun _ _ _ _ _ => pe_int)) pa_nil)))
      (pss_cons (ps_set (i := 6) sc__law_breaks_counts.nd rfl (Or.inl rfl) (pe_op opAddU (pv 6) (pe_callB call_len rfl (C.free "len") boot_len (pa_cons (pe_lc (own := [("_law_place", 7)]) rfl sc__law_breaks_counts.nd (pi_seq (pv 1)) (blkOk_by (N := N__law_breaks_counts) (sc := defScope s__law_breaks_counts) (by decide +kernel)) (fun _ _ _ _ _ => (pg_name (i := 7) sc__law_breaks_counts.nd rfl (Or.inl rfl))) (fun _ _ _ _ _ => (pts_one (PW.pt (pw_and (pt_cmpR (opEqUK (K := K) rfl hr.units) (pe_ix (ix_seqK (K := K) rfl) (pv 7) pe_int (fun _ _ => rfl)) (pe_ix (ix_seqK (K := K) rfl) (pe_lst (pa_cons pe_str (pa_cons pe_str pa_nil))) (pv 3) (fun _ _ => rfl)) (nomark _)) (pw_and1 (pt_cmpR (opEqUK (K := K) rfl hr.units) (pe_ix (ix_seqK (K := K) rfl) (pv 7) pe_int (fun _ _ => rfl)) (pv 4) (nomark _))))))) (fun _ _ _ _ _ => pe_int)) pa_nil))))
      (pss_one (ps_if (PW.pt (pw_and (pt_cmpR (opEqU hr.units) (pv 2) pe_int (nomark _)) (pw_and1 (pt_cmpR op_gt (pv 6) pe_int (nomark _))))) (pss_one (ps_ret pe_bl)) pss_nil)))))))
      (pss_cons (ps_for PassesOwn.never rfl (pi_seq (pe_tup (pa_cons pe_str (pa_cons pe_str (pa_cons pe_str (pa_cons pe_str pa_nil)))))) (pg_name (i := 5) sc__law_breaks_counts.nd rfl (Or.inr rfl)) (pss_one (ps_if (PW.pt (pw_and (pt_cmpR (opEqU hr.units) (pv 2) pe_int (nomark _)) (pw_and1 (pt_cmpR op_gt (pe_callB call_len rfl (C.free "len") boot_len (pa_cons (pe_lc (own := [("_law_place", 7)]) rfl sc__law_breaks_counts.nd (pi_seq (pv 1)) (blkOk_by (N := N__law_breaks_counts) (sc := defScope s__law_breaks_counts) (by decide +kernel)) (fun _ _ _ _ _ => (pg_name (i := 7) sc__law_breaks_counts.nd rfl (Or.inl rfl))) (fun _ _ _ _ _ => (pts_one (pt_cmpR (opEqUK (K := K) rfl hr.units) (pe_ix (ix_seqK (K := K) rfl) (pv 7) pe_int (fun _ _ => rfl)) (pv 5) (nomark _)))) (fun _ _ _ _ _ => pe_int)) pa_nil)) pe_int (nomark _))))) (pss_one (ps_ret pe_bl)) pss_nil)))
      (pss_one (ps_ret pe_bl)))), fun ds M q ex h => ?main⟩)
  case len => obtain ⟨_, _, _, rfl, _⟩ := h; rfl
  case main =>
    obtain ⟨b, fl, r, rfl, ob, of, hr2, k⟩ := h
    have hsz : sizeLine = 16777216 := rfl
    have hfl := of.1
    walk_at "s"
    walk_at "w"
    refine xs_forR [false, true] (fun e => .int (sdI e)) (fun (_ : Unit) (l : List Bool) => decide (r = 1) && l.any fun e => (["e", "s"] : List Str).any fun x => cX b fl e x) ()
      (fun i _ Γ M' => M' = M ∧ ∃ x3 x4 x5 x6 x7, Γ = [some (befD b), some (.lst (fl.map flD)), some (.int r), x3, x4, x5, x6, x7]) ?_
    refine it_rng1 ?_
    walk_at "w"
    refine ⟨by decide, by decide, rfl, ⟨rfl, _, _, _, _, _, rfl⟩, ?_, ?_⟩
    · rintro i e _ Γ' M' he hr0 ⟨rfl, x3, x4, x5, x6, x7, rfl⟩
      walk_at "w"
      refine xs_forR (["e", "s"] : List Str) D.str (fun (_ : Unit) (l : List Str) => decide (r = 1) && l.any fun x => cX b fl e x) ()
        (fun j _ Γ M'' => M'' = M' ∧ ∃ x4 x5 x6 x7, Γ = [some (befD b), some (.lst (fl.map flD)), some (.int r), some (.int (sdI e)), x4, x5, x6, x7]) ?_
      refine it_seq ?_
      walk_at "w"
      refine ⟨_, .inr rfl, rfl, ⟨rfl, _, _, _, _, rfl⟩, ?_, ?_⟩
      · rintro j x _ Γ' M' hx hr1 ⟨rfl, x4, x5, x6, x7, rfl⟩
        walk_at "w"
        refine ev_lcF (befOf b e) D.str (fun t => decide (t = x)) (fun _ => .int 0) (own_name (by decide)) ?_
        refine it_seq ?_
        walk_at "w"
        refine ix_tupD (bef_ix b e) ?_
        have hbl : (befOf b e).length ≤ 2 := by
          cases e
          · exact (bef_tok _ ob.1).1
          · exact (bef_tok _ ob.2).1
        refine ⟨_, .inr rfl, rfl, by omega, ?_, ?_⟩
        · intro i2 t ht
          walk_at "w"
          refine ⟨rfl, rfl, fun _ => ?_⟩
          walk_at "w"
          exact ⟨rfl, rfl⟩
        walk_at "w"
        rw [List.length_map]
        refine ev_lcF fl flD (fun y => decide (arrow y.1 = arrow e) && decide (y.2.1 = x)) (fun _ => .int 0) (own_name (by decide)) ?_
        refine it_seq ?_
        walk_at "w"
        refine ⟨_, .inl rfl, rfl, by omega, ?_, ?_⟩
        · intro i2 y hy
          walk_at "w"
          refine ix_tupD (i := 0) (d := arD y.1) rfl ?_
          walk_at "w"
          refine ev_lst ?_
          walk_at "w"
          refine ix_lstD (ar_ix e) ?_
          walk_at "w"
          by_cases h1 : arrow y.1 = arrow e
          · refine ite_yes (yes_dec h1) ?_
            walk_at "w"
            refine ix_tupD (i := 1) (d := .str y.2.1) rfl ?_
            walk_at "w"
            refine ⟨by rw [decide_eq_true h1, Bool.true_and], rfl, fun _ => ?_⟩
            walk_at "w"
            exact ⟨rfl, rfl⟩
          · refine ite_no (no_dec h1) ?_
            exact ⟨by rw [decide_eq_false h1, Bool.false_and], rfl, fun z => by cases z⟩
        walk_at "w"
        rw [List.length_map]
        have hcx : cX b fl e x = decide (1 < ((befOf b e).filter fun t => decide (t = x)).length + (fl.filter fun y => decide (arrow y.1 = arrow e) && decide (y.2.1 = x)).length) := rfl
        generalize ((befOf b e).filter fun t => decide (t = x)).length = A1 at hcx ⊢
        generalize (fl.filter fun y => decide (arrow y.1 = arrow e) && decide (y.2.1 = x)).length = B1 at hcx ⊢
        have hr1 : (decide (r = 1) && (cX b fl e x || ((["e", "s"] : List Str).drop (j + 1)).any fun x => cX b fl e x)) = (decide (r = 1) && (["e", "s"] : List Str).any fun x => cX b fl e x) := hr1
        have hr0 : (decide (r = 1) && (((["e", "s"] : List Str).any fun x => cX b fl e x) || (([false, true] : List Bool).drop (i + 1)).any fun e => (["e", "s"] : List Str).any fun x => cX b fl e x)) = (decide (r = 1) && cnt1 b fl) := hr0
        by_cases h1 : r = 1
        · refine ite_yes (yes_dec h1) ?_
          walk_at "w"
          rw [decide_eq_true h1, Bool.true_and, Bool.true_and] at hr1 hr0
          by_cases h2 : 1 < A1 + B1
          · rw [hcx, decide_eq_true h2, Bool.true_or] at hr1
            rw [← hr1, Bool.true_or] at hr0
            rw [if_pos h1, ← hr0] at k
            refine ite_yes (yes_dec (by omega)) ?_
            walk_at "r"
            exact k
          · rw [hcx, decide_eq_false h2, Bool.false_or] at hr1
            refine ite_no (no_dec (by omega)) ?_
            walk_at "w"
            refine ⟨(), ?_, rfl, _, _, _, _, rfl⟩
            rw [decide_eq_true h1, Bool.true_and, Bool.true_and]
            exact hr1
        · refine ite_no (no_dec h1) ?_
          refine ite_no (by decide) ?_
          walk_at "w"
          refine ⟨(), ?_, rfl, _, _, _, _, rfl⟩
          rw [decide_eq_false h1, Bool.false_and, Bool.false_and]
      · rintro _ Γ' M' hr1 ⟨rfl, x4, x5, x6, x7, rfl⟩
        refine ⟨(), ?_, rfl, _, _, _, _, _, rfl⟩
        have hr1 : (decide (r = 1) && false) = (decide (r = 1) && (["e", "s"] : List Str).any fun x => cX b fl e x) := hr1
        have hr0 : (decide (r = 1) && (((["e", "s"] : List Str).any fun x => cX b fl e x) || (([false, true] : List Bool).drop (i + 1)).any fun e => (["e", "s"] : List Str).any fun x => cX b fl e x)) = (decide (r = 1) && cnt1 b fl) := hr0
        by_cases h1 : r = 1
        · rw [decide_eq_true h1, Bool.true_and, Bool.true_and] at hr1 hr0
          rw [← hr1, Bool.false_or] at hr0
          rw [decide_eq_true h1, Bool.true_and, Bool.true_and]
          exact hr0
        · rw [decide_eq_false h1, Bool.false_and, Bool.false_and]
    · rintro _ Γ' M' hr0 ⟨rfl, x3, x4, x5, x6, x7, rfl⟩
      have hr0 : (decide (r = 1) && false) = (decide (r = 1) && cnt1 b fl) := hr0
      have c1 : r = 1 → cnt1 b fl = false := fun h => by rw [decide_eq_true h] at hr0; simpa using hr0.symm
      walk_at "w"
      refine xs_forR SEC D.str (fun (_ : Unit) (l : List Str) => decide (r = 2) && l.any fun t => cY fl t) () (fun i _ Γ M'' => M'' = M' ∧ ∃ x3 x4 x5 x6 x7, Γ = [some (befD b), some (.lst (fl.map flD)), some (.int r), x3, x4, x5, x6, x7]) ?_
      refine it_seq ?_
      walk_at "w"
      refine ⟨_, .inr rfl, rfl, ⟨rfl, _, _, _, _, _, rfl⟩, ?_, ?_⟩
      · rintro i t _ Γ' M' ht hr1 ⟨rfl, x3, x4, x5, x6, x7, rfl⟩
        have hr1 : (decide (r = 2) && (cY fl t || (SEC.drop (i + 1)).any fun t => cY fl t)) = (decide (r = 2) && cnt2 fl) := hr1
        walk_at "w"
        by_cases h2 : r = 2
        · refine ite_yes (yes_dec h2) ?_
          walk_at "w"
          refine ev_lcF fl flD (fun y => decide (y.2.1 = t)) (fun _ => .int 0) (own_name (by decide)) ?_
          refine it_seq ?_
          walk_at "w"
          refine ⟨_, .inl rfl, rfl, by omega, ?_, ?_⟩
          · intro i2 y hy
            walk_at "w"
            refine ix_tupD (i := 1) (d := .str y.2.1) rfl ?_
            walk_at "w"
            refine ⟨rfl, rfl, fun _ => ?_⟩
            walk_at "w"
            exact ⟨rfl, rfl⟩
          walk_at "w"
          rw [List.length_map]
          rw [decide_eq_true h2, Bool.true_and, Bool.true_and] at hr1
          have hcy : cY fl t = decide (1 < (fl.filter fun y => decide (y.2.1 = t)).length) := rfl
          by_cases h3 : 1 < (fl.filter fun y => decide (y.2.1 = t)).length
          · rw [hcy, decide_eq_true h3, Bool.true_or] at hr1
            rw [if_neg (by omega), ← hr1] at k
            refine ite_yes (yes_dec (by omega)) ?_
            walk_at "r"
            exact k
          · rw [hcy, decide_eq_false h3, Bool.false_or] at hr1
            refine ite_no (no_dec (by omega)) ?_
            walk_at "w"
            refine ⟨(), ?_, rfl, _, _, _, _, _, rfl⟩
            rw [decide_eq_true h2, Bool.true_and, Bool.true_and]
            exact hr1
        · refine ite_no (no_dec h2) ?_
          refine ite_no (by decide) ?_
          walk_at "w"
          refine ⟨(), ?_, rfl, _, _, _, _, _, rfl⟩
          rw [decide_eq_false h2, Bool.false_and, Bool.false_and]
      · rintro _ Γ' M' hr1 ⟨rfl, x3, x4, x5, x6, x7, rfl⟩
        have hr1 : (decide (r = 2) && false) = (decide (r = 2) && cnt2 fl) := hr1
        walk_at "r"
        rcases hr2 with h | h
        · rw [if_pos h, c1 h] at k
          exact k
        · rw [decide_eq_true h] at hr1
          rw [if_neg (by omega), show cnt2 fl = false by simpa using hr1.symm] at k
          exact k
end
section
variable {P : Program} {w : World} {K : PySem.W.Frag} {mg : Str → Option Value} {base : Heap}
theorem sc__law_breaks_psk : FnScope N__law_breaks_psk ["_law_messages_here"] (defScope s__law_breaks_psk) := ⟨rfl, rfl, rfl, by decide +kernel, rfl, by decide +kernel, by decide +kernel⟩
theorem ok__law_breaks_psk (C : Cxt K mg) : Fn P w K mg base CX0 "_law_breaks_psk" 1 ["_law_messages_here"] R__law_breaks_psk := by
  refine Fn.of C 97 d__law_breaks_psk rfl rfl rfl rfl (by decide +kernel) sc__law_breaks_psk (fun _ _ _ _ _ _ us hl => match us, hl with | [_], _ => rfl) (fun ds M q ex h => ?len) (fun cdv A outer s H E hr => ⟨_, (pss_cons (ps_for PassesOwn.never rfl (pi_range1 rfl (C.free "range") (pa_cons (pe_callB call_len rfl (C.free "len") boot_len (pa_cons (pv 0) pa_nil)) pa_nil)) (pg_name (i := 1) sc__law_breaks_psk.nd rfl (Or.inl rfl)) (pss_cons (ps_set (i := 2) sc__law_breaks_psk.nd rfl (Or.inl rfl) (pe_ix ix_seq (pe_ix ix_seq (pv 0) (pv 1) (fun _ _ => rfl)) pe_int (fun _ _ => rfl)))
      (pss_one (ps_for PassesOwn.never rfl (pi_range1 rfl (C.free "range") (pa_cons (pe_op op_sub (pe_callB call_len rfl (C.free "len") boot_len (pa_cons (pv 2) pa_nil)) pe_int) pa_nil)) (pg_name (i := 3) sc__law_breaks_psk.nd rfl (Or.inl rfl)) (pss_one (ps_if (PW.pt (pw_and (pt_cmpR (opEqU hr.units) (pe_ix ix_seq (pv 2) (pv 3) (fun _ _ => rfl)) pe_str (nomark _)) (pw_and1 (PW.pt (pw_or (pt_cmpR op_gt (pv 1) pe_int (nomark _)) (pw_or1 (pt_cmpR op_gt (pv 3) pe_int (nomark _)))))))) (pss_one (ps_ret pe_bl)) pss_nil))))))
      (pss_one (ps_ret pe_bl))), fun ds M q ex h => ?main⟩)
  case len => obtain ⟨_, rfl, _⟩ := h; rfl
  case main =>
    obtain ⟨ms, rfl, om, k⟩ := h
    have hle := om.le
    walk_at "s"
    walk_at "w"
    refine xs_for (fun ds i Γ M' => ds.length = ms.length → misPsk i (ms.drop i) = misPsk 0 ms ∧ M' = M ∧ ∃ x1 x2 x3, Γ = [some (msgsD ms), x1, x2, x3]) ?_
    refine it_rng1 ?_
    walk_at "w"
    rw [List.length_map]
    have hl : (rngD 0 1 ((ms.length : Nat) : Int).toNat).length = ms.length := by simp [rngD]
    refine ⟨by omega, by omega, fun _ => ⟨rfl, rfl, _, _, _, rfl⟩, ?_, ?_⟩
    · rintro i e Γ' M' he hp'
      obtain ⟨ha1, rfl, x1, x2, x3, rfl⟩ := hp' hl
      obtain ⟨hi, rfl⟩ := rngD_get he
      have hi : i < ms.length := by simpa using hi
      obtain ⟨m, hm⟩ : ∃ m, ms[i]? = some m := ⟨_, List.getElem?_eq_getElem hi⟩
      have ed : ms.drop i = m :: ms.drop (i + 1) := by
        obtain ⟨hl, ex⟩ := List.getElem?_eq_some_iff.mp hm
        rw [← ex]; exact List.drop_eq_getElem_cons hl
      obtain ⟨t1, t2, t3⟩ := om.tok m (List.mem_of_getElem? hm)
      have hlp : 0 < m.2.length := List.length_pos_iff.mpr t1
      rw [ed] at ha1
      have ha1 : (if ("psk" : Str) ∈ inner i m.2 then true else misPsk (i + 1) (ms.drop (i + 1))) = misPsk 0 ms := ha1
      have e0 : (0 : Int) + (i : Nat) * 1 = (i : Nat) := by omega
      rw [e0]
      walk_at "w"
      refine ix_tupD (d := msgD m) (atI_natD (by rw [List.getElem?_map, hm]; rfl)) ?_
      walk_at "w"
      refine ix_tupD (i := 1) (d := strsT m.2) rfl ?_
      walk_at "w"
      refine xs_for (fun ds j Γ M'' => ds.length = m.2.length - 1 → (∀ j' : Nat, j' < j → m.2[j']? = some ("psk" : Str) → ¬ (0 < i ∨ 0 < j')) ∧ M'' = M' ∧ ∃ x3, Γ = [some (msgsD ms), some (.int (i : Nat)), some (strsT m.2), x3]) ?_
      refine it_rng1 ?_
      walk_at "w"
      rw [List.length_map]
      have hl2 : (rngD 0 1 (((m.2.length : Nat) : Int) - 1).toNat).length = m.2.length - 1 := by simp [rngD]
      refine ⟨by omega, by omega, fun _ => ⟨fun j' z => by omega, rfl, _, rfl⟩, ?_, ?_⟩
      · rintro j e Γ' M'' he hp''
        obtain ⟨hb1, rfl, x3, rfl⟩ := hp'' hl2
        obtain ⟨hj, rfl⟩ := rngD_get he
        have hj : j + 1 < m.2.length := by omega
        obtain ⟨t, ht⟩ : ∃ t, m.2[j]? = some t := ⟨_, List.getElem?_eq_getElem (by omega)⟩
        have e0 : (0 : Int) + (j : Nat) * 1 = (j : Nat) := by omega
        rw [e0]
        walk_at "w"
        refine ix_tupD (d := .str t) (atI_natD (by rw [List.getElem?_map, ht]; rfl)) ?_
        walk_at "w"
        have found : t = "psk" → (0 < i ∨ 0 < j) → q (.bl true) M'' := fun h1 h2 => by
          rw [if_pos ((inner_iff i m.2).mpr ⟨j, hj, by rw [ht, h1], h2⟩)] at ha1
          rw [← ha1] at k
          exact k
        have step : ¬ (t = "psk" ∧ (0 < i ∨ 0 < j)) → ∀ j' : Nat, j' < j + 1 → m.2[j']? = some ("psk" : Str) → ¬ (0 < i ∨ 0 < j') := fun h1 j' hj' h2 h3 => by
          by_cases hjj : j' = j
          · subst hjj
            rw [ht] at h2
            exact h1 ⟨Option.some.inj h2, h3⟩
          · exact hb1 j' (by omega) h2 h3
        by_cases h1 : t = "psk"
        · refine ite_yes (yes_dec h1) ?_
          walk_at "w"
          by_cases h2 : 0 < i
          · refine ite_yes (yes_dec (by omega)) ?_
            refine ite_yes rfl ?_
            walk_at "r"
            exact found h1 (.inl h2)
          · refine ite_no (no_dec (by omega)) ?_
            walk_at "w"
            by_cases h3 : 0 < j
            · refine ite_yes (yes_dec (by omega)) ?_
              walk_at "r"
              exact found h1 (.inr h3)
            · refine ite_no (no_dec (by omega)) ?_
              walk_at "w"
              exact fun _ => ⟨step (fun z => by have := z.2; omega), rfl, _, rfl⟩
        · refine ite_no (no_dec h1) ?_
          refine ite_no (by decide) ?_
          walk_at "w"
          exact fun _ => ⟨step (fun z => h1 z.1), rfl, _, rfl⟩
      · rintro Γ' M'' hp''
        obtain ⟨hb1, rfl, x3, rfl⟩ := hp'' hl2
        rw [hl2] at hb1
        rw [if_neg (fun z => by
          obtain ⟨j, j1, j2, j3⟩ := (inner_iff i m.2).mp z
          exact hb1 j (by omega) j2 j3)] at ha1
        exact fun _ => ⟨ha1, rfl, _, _, _, rfl⟩
    · rintro Γ' M' hp'
      obtain ⟨ha1, rfl, x1, x2, x3, rfl⟩ := hp' hl
      rw [hl, List.drop_length] at ha1
      have ha1 : false = misPsk 0 ms := ha1
      walk_at "r"
      rw [← ha1] at k
      exact k
end
section
def bad4 (mx : List Str) (e : Bool) : Bool := (decide (ownS e ∈ mx) && decide (("ee" : Str) ∉ mx)) || (decide (("ss" : Str) ∈ mx) && decide (bothS e ∉ mx))
def bad6 (b : Bef) (pre : List Fl) (e : Bool) : Bool := decide (("psk" : Str) ∈ mixedM pre) && !sentM b pre e "e"
def brkEnc (b : Bef) (ms : List Msg) (r : Int) : Bool := (encM ms).any fun x => if r = 4 then bad4 (mixedM ((flatM ms).take x.1)) x.2 else bad6 b ((flatM ms).take x.1) x.2
theorem mixed_ok {fl : List Fl} (o : okF fl) : ∀ t ∈ mixedM fl, PyData.strOk t = true := fun t ht => by
  unfold mixedM at ht
  obtain ⟨y, hy, rfl⟩ := List.mem_map.mp ht
  exact tok_ok _ (o.2 y (List.mem_filter.mp hy).1)
theorem sd_ix (e : Bool) : (if decide (arrow e = ("<-" : Str)) = true then (1 : Int) else 0) = sdI e := by cases e <;> rfl
theorem own_ix (e : Bool) : atI [D.str "se", D.str "es"] (sdI e) = some (.str (ownS e)) := by cases e <;> rfl
theorem both_ix (e : Bool) : atI [D.str "es", D.str "se"] (sdI e) = some (.str (bothS e)) := by cases e <;> rfl
theorem encP_len : ∀ (r : List Fl) (k : Nat) (pre : List Fl), (encP k pre r).length ≤ 2 * r.length
  | [], _, _ => Nat.le_refl _
  | y :: r, k, pre => by
    have h := encP_len r (k + 1) (pre ++ [y])
    rw [encP_cons, List.length_append, List.length_append, List.length_cons]
    have h1 : (if y.2.1 = "s" ∧ mixedM pre ≠ [] then [(k, y.1)] else ([] : List (Nat × Bool))).length ≤ 1 := by split <;> simp
    have h2 : (if y.2.2 = true ∧ mixedM (pre ++ [y]) ≠ [] then [(k + 1, y.1)] else ([] : List (Nat × Bool))).length ≤ 1 := by split <;> simp
    omega
def R__law_breaks_encryption : SpR := fun ds M q _ => ∃ (b : Bef) (ms : List Msg) (r : Int), ds = [befD b, msgsD ms, .int r] ∧ okB b ∧ okM ms ∧ (r = 4 ∨ r = 6) ∧ q (.bl (brkEnc b ms r)) M
def lawBroken (b : Bef) (ms : List Msg) : Bool := cnt1 b (flatM ms) || (cnt2 (flatM ms) || (brkKey b [] (flatM ms) || (brkEnc b ms 4 || (misPsk 0 ms || brkEnc b ms 6))))
def R__law_broken : SpR := fun ds M q _ => ∃ (b : Bef) (ms : List Msg), ds = [befD b, msgsD ms] ∧ okB b ∧ okM ms ∧ ∀ r : Int, (0 < r ↔ lawBroken b ms = true) → q (.int r) M
/-- the end e shows its static key -/
def showsM (b : Bef) (ms : List Msg) (e : Bool) (bh : Bool) : Bool := decide (("s" : Str) ∈ befOf b e) || (!bh && sends "s" e ms)
def R__law_shows : SpR := fun ds M q _ => ∃ (b : Bef) (ms : List Msg) (e bh : Bool), ds = [befD b, msgsD ms, .int (sdI e), .bl bh] ∧ okB b ∧ okM ms ∧ q (.bl (showsM b ms e bh)) M
end
section
variable {P : Program} {w : World} {K : PySem.W.Frag} {mg : Str → Option Value} {base : Heap}
theorem sc__law_breaks_encryption : FnScope N__law_breaks_encryption ["_law_before_here", "_law_messages_here", "_law_rule"] (defScope s__law_breaks_encryption) := ⟨rfl, rfl, rfl, by decide +kernel, rfl, by decide +kernel, by decide +kernel⟩
theorem ok__law_breaks_encryption (C : Cxt K mg) (h__law_encryptions : Fn P w K mg base CX0 "_law_encryptions" 2 ["_law_messages_here"] R__law_encryptions) (h__law_sent : Fn P w K mg base CX0 "_law_sent" 1 ["_law_before_here", "_law_flat_here", "_law_side", "_law_letter"] R__law_sent) (h__law_mixed : Fn P w K mg base CX0 "_law_mixed" 1 ["_law_flat_here"] R__law_mixed) (h__law_flat : Fn P w K mg base CX0 "_law_flat" 1 ["_law_messages_here"] R__law_flat) : Fn P w K mg base CX0 "_law_breaks_encryption" 3 ["_law_before_here", "_law_messages_here", "_law_rule"] R__law_breaks_encryption := by
  refine Fn.of C 96 d__law_breaks_encryption rfl rfl rfl rfl (by decide +kernel) sc__law_breaks_encryption (fun _ _ _ _ _ _ us hl => match us, hl with | [_, _, _], _ => rfl) (fun ds M q ex h => ?len) (fun cdv A outer s H E hr => ⟨_, (pss_cons (ps_set (i := 3) sc__law_breaks_encryption.nd rfl (Or.inl rfl) (pe_fn h__law_flat hr (by decide) rfl (pa_cons (pv 1) pa_nil)))
      (pss_cons (ps_for PassesOwn.never rfl (pi_seq (pe_fn h__law_encryptions hr (by decide) rfl (pa_cons (pv 1) pa_nil))) (pg_tup rfl (pgs_cons (pg_name (i := 4) sc__law_breaks_encryption.nd rfl (Or.inl rfl)) (pgs_cons (pg_name (i := 5) sc__law_breaks_encryption.nd rfl (Or.inl rfl)) pgs_nil))) (pss_cons (ps_set (i := 6) sc__law_breaks_encryption.nd rfl (Or.inl rfl) (pe_fn h__law_mixed hr (by decide) rfl (pa_cons (pe_slice slU (pv 3) po_none (po_some (pv 4))) pa_nil)))
      (pss_cons (ps_set (i := 7) sc__law_breaks_encryption.nd rfl (Or.inl rfl) (pe_callTy call_int1 rfl (C.free "int") boot_int (pa_cons (pe_cmpR (opEqU hr.units) (pv 5) pe_str (nomark _)) pa_nil)))
      (pss_cons (ps_set (i := 8) sc__law_breaks_encryption.nd rfl (Or.inl rfl) (pe_ix ix_seq (pe_lst (pa_cons pe_str (pa_cons pe_str pa_nil))) (pv 7) (fun _ _ => rfl)))
      (pss_cons (ps_if (PW.pt (pw_and (pt_cmpR (opEqU hr.units) (pv 2) pe_int (nomark _)) (pw_and (pt_cmpR (opInU (u65 hr)) (pv 8) (pv 6) (by rfl)) (pw_and1 (pt_cmpR (opNotInU (u65 hr)) pe_str (pv 6) (by rfl)))))) (pss_one (ps_ret pe_bl)) pss_nil)
      (pss_cons (ps_if (PW.pt (pw_and (pt_cmpR (opEqU hr.units) (pv 2) pe_int (nomark _)) (pw_and (pt_cmpR (opInU (u65 hr)) pe_str (pv 6) (by rfl)) (pw_and1 (pt_cmpR (opNotInU (u65 hr)) (pe_ix ix_seq (pe_lst (pa_cons pe_str (pa_cons pe_str pa_nil))) (pv 7) (fun _ _ => rfl)) (pv 6) (by rfl)))))) (pss_one (ps_ret pe_bl)) pss_nil)
      (pss_one (ps_if (PW.pt (pw_and (pt_cmpR (opEqU hr.units) (pv 2) pe_int (nomark _)) (pw_and (pt_cmpR (opInU (u65 hr)) pe_str (pv 6) (by rfl)) (pw_and1 (pt_not (pt_val (pe_fn h__law_sent hr (by decide) rfl (pa_cons (pv 0) (pa_cons (pe_slice slU (pv 3) po_none (po_some (pv 4))) (pa_cons (pv 7) (pa_cons pe_str pa_nil))))))))))) (pss_one (ps_ret pe_bl)) pss_nil))))))))
      (pss_one (ps_ret pe_bl)))), fun ds M q ex h => ?main⟩)
  case len => obtain ⟨_, _, _, rfl, _⟩ := h; rfl
  case main =>
    obtain ⟨b, ms, r, rfl, ob, om, hr4, k⟩ := h
    have of := flat_ok om
    walk_at "s"
    walk_at "w"
    refine ⟨ms, rfl, om, ?_⟩
    walk_at "w"
    unfold brkEnc at k
    generalize hfl : flatM ms = fl at of k ⊢
    refine xs_forR (encM ms) plD (fun (_ : Unit) (l : List (Nat × Bool)) => l.any fun x => if r = 4 then bad4 (mixedM (fl.take x.1)) x.2 else bad6 b (fl.take x.1) x.2) () (fun i _ Γ M' => M' = M ∧ ∃ x4 x5 x6 x7 x8, Γ = [some (befD b), some (msgsD ms), some (.int r), some (.lst (fl.map flD)), x4, x5, x6, x7, x8]) ?_
    refine it_seq ?_
    walk_at "w"
    refine ⟨ms, rfl, om, ?_⟩
    refine ⟨_, .inl rfl, rfl, ⟨rfl, _, _, _, _, _, rfl⟩, ?_, ?_⟩
    · rintro i ⟨n, e⟩ _ Γ' M' hx hr0 ⟨rfl, x4, x5, x6, x7, x8, rfl⟩
      have hr0 : ((if r = 4 then bad4 (mixedM (fl.take n)) e else bad6 b (fl.take n) e) || (((encM ms).drop (i + 1)).any fun x => if r = 4 then bad4 (mixedM (fl.take x.1)) x.2 else bad6 b (fl.take x.1) x.2)) = _ := hr0
      have ofn := of.take n
      have hmx := mixed_ok ofn
      obtain ⟨o1, o2⟩ := ownS_ok e
      walk_at "w"
      refine sl_lstD ?_
      rw [cutD_to, ← List.map_take]
      walk_at "w"
      refine ⟨_, rfl, ofn, ?_⟩
      walk_at "w"
      refine cb_int ?_
      dsimp only
      rw [sd_ix]
      walk_at "w"
      refine ev_lst ?_
      walk_at "w"
      refine ix_lstD (own_ix e) ?_
      walk_at "w"
      have done : ∀ (G : Gm), (∃ x4 x5 x6 x7 x8, G = [some (befD b), some (msgsD ms), some (.int r), some (.lst (fl.map flD)), x4, x5, x6, x7, x8]) → (if r = 4 then bad4 (mixedM (fl.take n)) e else bad6 b (fl.take n) e) = false →
          ∃ b' : Unit, (((encM ms).drop (i + 1)).any fun x => if r = 4 then bad4 (mixedM (fl.take x.1)) x.2 else bad6 b (fl.take x.1) x.2) = ((encM ms).any fun x => if r = 4 then bad4 (mixedM (fl.take x.1)) x.2 else bad6 b (fl.take x.1) x.2) ∧ M' = M' ∧ ∃ x4 x5 x6 x7 x8, G = [some (befD b), some (msgsD ms), some (.int r), some (.lst (fl.map flD)), x4, x5, x6, x7, x8] := fun G hG hb => by
        rw [hb, Bool.false_or] at hr0
        exact ⟨(), hr0, rfl, hG⟩
      have hit : (if r = 4 then bad4 (mixedM (fl.take n)) e else bad6 b (fl.take n) e) = true → q (.bl true) M' := fun hb => by
        rw [hb, Bool.true_or] at hr0
        rw [← hr0] at k
        exact k
      rcases hr4 with h4 | h6
      · have n6 : ¬ r = 6 := by omega
        rw [if_pos h4] at done hit
        unfold bad4 at done hit
        refine ite_yes (yes_dec h4) ?_
        walk_at "w"
        refine inU_strL o1 hmx ?_
        walk_at "w"
        by_cases a1 : ownS e ∈ mixedM (fl.take n) ∧ ("ee" : Str) ∉ mixedM (fl.take n)
        · refine ite_yes (yes_dec a1.1) ?_
          walk_at "w"
          refine notInU_strL (by decide +kernel) hmx ?_
          walk_at "w"
          refine ite_yes (yes_not a1.2) ?_
          walk_at "r"
          exact hit (by rw [decide_eq_true a1.1, decide_eq_true a1.2]; rfl)
        · have z1 : (decide (ownS e ∈ mixedM (fl.take n)) && decide (("ee" : Str) ∉ mixedM (fl.take n))) = false := by
            rw [Bool.and_eq_false_iff, decide_eq_false_iff_not, decide_eq_false_iff_not]
            by_cases z : ownS e ∈ mixedM (fl.take n)
            · exact .inr fun z2 => a1 ⟨z, z2⟩
            · exact .inl z
          rw [z1, Bool.false_or] at done hit
          by_cases a2 : ownS e ∈ mixedM (fl.take n)
          · have a3 : ("ee" : Str) ∈ mixedM (fl.take n) := Classical.byContradiction fun z => a1 ⟨a2, z⟩
            refine ite_yes (yes_dec a2) ?_
            walk_at "w"
            refine notInU_strL (by decide +kernel) hmx ?_
            walk_at "w"
            refine ite_no (no_not a3) ?_
            walk_at "w"
            refine ite_yes (yes_dec h4) ?_
            walk_at "w"
            refine inU_strL (by decide +kernel) hmx ?_
            walk_at "w"
            by_cases b1 : ("ss" : Str) ∈ mixedM (fl.take n)
            · rw [decide_eq_true b1, Bool.true_and] at done hit
              refine ite_yes (yes_dec b1) ?_
              walk_at "w"
              refine ev_lst ?_
              walk_at "w"
              refine ix_lstD (both_ix e) ?_
              walk_at "w"
              refine notInU_strL o2 hmx ?_
              walk_at "w"
              by_cases b2 : bothS e ∈ mixedM (fl.take n)
              · refine ite_no (no_not b2) ?_
                walk_at "w"
                refine ite_no (no_dec n6) ?_
                refine ite_no (by decide) ?_
                walk_at "w"
                exact done _ ⟨_, _, _, _, _, rfl⟩ (decide_eq_false (fun z => z b2))
              · refine ite_yes (yes_not b2) ?_
                walk_at "r"
                exact hit (decide_eq_true b2)
            · refine ite_no (no_dec b1) ?_
              refine ite_no (by decide) ?_
              walk_at "w"
              refine ite_no (no_dec n6) ?_
              refine ite_no (by decide) ?_
              walk_at "w"
              exact done _ ⟨_, _, _, _, _, rfl⟩ (by rw [decide_eq_false b1]; rfl)
          · refine ite_no (no_dec a2) ?_
            refine ite_no (by decide) ?_
            walk_at "w"
            refine ite_yes (yes_dec h4) ?_
            walk_at "w"
            refine inU_strL (by decide +kernel) hmx ?_
            walk_at "w"
            by_cases b1 : ("ss" : Str) ∈ mixedM (fl.take n)
            · rw [decide_eq_true b1, Bool.true_and] at done hit
              refine ite_yes (yes_dec b1) ?_
              walk_at "w"
              refine ev_lst ?_
              walk_at "w"
              refine ix_lstD (both_ix e) ?_
              walk_at "w"
              refine notInU_strL o2 hmx ?_
              walk_at "w"
              by_cases b2 : bothS e ∈ mixedM (fl.take n)
              · refine ite_no (no_not b2) ?_
                walk_at "w"
                refine ite_no (no_dec n6) ?_
                refine ite_no (by decide) ?_
                walk_at "w"
                exact done _ ⟨_, _, _, _, _, rfl⟩ (decide_eq_false (fun z => z b2))
              · refine ite_yes (yes_not b2) ?_
                walk_at "r"
                exact hit (decide_eq_true b2)
            · refine ite_no (no_dec b1) ?_
              refine ite_no (by decide) ?_
              walk_at "w"
              refine ite_no (no_dec n6) ?_
              refine ite_no (by decide) ?_
              walk_at "w"
              exact done _ ⟨_, _, _, _, _, rfl⟩ (by rw [decide_eq_false b1]; rfl)
      · have n4 : ¬ r = 4 := by omega
        rw [if_neg n4] at done hit
        unfold bad6 at done hit
        refine ite_no (no_dec n4) ?_
        refine ite_no (by decide) ?_
        walk_at "w"
        refine ite_no (no_dec n4) ?_
        refine ite_no (by decide) ?_
        walk_at "w"
        refine ite_yes (yes_dec h6) ?_
        walk_at "w"
        refine inU_strL (by decide +kernel) hmx ?_
        walk_at "w"
        by_cases a1 : ("psk" : Str) ∈ mixedM (fl.take n)
        · rw [decide_eq_true a1, Bool.true_and] at done hit
          refine ite_yes (yes_dec a1) ?_
          walk_at "w"
          refine sl_lstD ?_
          rw [cutD_to, ← List.map_take]
          walk_at "w"
          refine ⟨b, fl.take n, e, "e", rfl, ob, by decide +kernel, ?_⟩
          walk_at "w"
          cases hs : sentM b (fl.take n) e "e" with
          | true =>
            refine ite_no (fun z => by cases z) ?_
            walk_at "w"
            exact done _ ⟨_, _, _, _, _, rfl⟩ (by rw [hs]; rfl)
          | false =>
            refine ite_yes rfl ?_
            walk_at "r"
            exact hit (by rw [hs]; rfl)
        · refine ite_no (no_dec a1) ?_
          refine ite_no (by decide) ?_
          walk_at "w"
          exact done _ ⟨_, _, _, _, _, rfl⟩ (by rw [decide_eq_false a1]; rfl)
    · rintro _ Γ' M' hr0 ⟨rfl, x4, x5, x6, x7, x8, rfl⟩
      have hr0 : false = ((encM ms).any fun x => if r = 4 then bad4 (mixedM (fl.take x.1)) x.2 else bad6 b (fl.take x.1) x.2) := hr0
      walk_at "r"
      rw [← hr0] at k
      exact k
end
section
variable {P : Program} {w : World} {K : PySem.W.Frag} {mg : Str → Option Value} {base : Heap}
theorem sc__law_broken : FnScope N__law_broken ["_law_before_here", "_law_messages_here"] (defScope s__law_broken) := ⟨rfl, rfl, rfl, by decide +kernel, rfl, by decide +kernel, by decide +kernel⟩
theorem ok__law_broken (C : Cxt K mg) (h__law_breaks_encryption : Fn P w K mg base CX0 "_law_breaks_encryption" 3 ["_law_before_here", "_law_messages_here", "_law_rule"] R__law_breaks_encryption) (h__law_breaks_psk : Fn P w K mg base CX0 "_law_breaks_psk" 1 ["_law_messages_here"] R__law_breaks_psk) (h__law_breaks_keys : Fn P w K mg base CX0 "_law_breaks_keys" 2 ["_law_before_here", "_law_flat_here"] R__law_breaks_keys) (h__law_breaks_counts : Fn P w K mg base CX0 "_law_breaks_counts" 1 ["_law_before_here", "_law_flat_here", "_law_rule"] R__law_breaks_counts) (h__law_flat : Fn P w K mg base CX0 "_law_flat" 1 ["_law_messages_here"] R__law_flat) : Fn P w K mg base CX0 "_law_broken" 4 ["_law_before_here", "_law_messages_here"] R__law_broken := by
  refine Fn.of C 98 d__law_broken rfl rfl rfl rfl (by decide +kernel) sc__law_broken (fun _ _ _ _ _ _ us hl => match us, hl with | [_, _], _ => rfl) (fun ds M q ex h => ?len) (fun cdv A outer s H E hr => ⟨_, (pss_cons (ps_set (i := 2) sc__law_broken.nd rfl (Or.inl rfl) (pe_fn h__law_flat hr (by decide) rfl (pa_cons (pv 1) pa_nil)))
      (pss_cons (ps_for PassesOwn.never rfl (pi_seq (pe_tup (pa_cons pe_int (pa_cons pe_int pa_nil)))) (pg_name (i := 3) sc__law_broken.nd rfl (Or.inl rfl)) (pss_one (ps_if (pt_val (pe_fn h__law_breaks_counts hr (by decide) rfl (pa_cons (pv 0) (pa_cons (pv 2) (pa_cons (pv 3) pa_nil))))) (pss_one (ps_ret (pv 3))) pss_nil)))
      (pss_cons (ps_if (pt_val (pe_fn h__law_breaks_keys hr (by decide) rfl (pa_cons (pv 0) (pa_cons (pv 2) pa_nil)))) (pss_one (ps_ret pe_int)) pss_nil)
      (pss_cons (ps_if (pt_val (pe_fn h__law_breaks_encryption hr (by decide) rfl (pa_cons (pv 0) (pa_cons (pv 1) (pa_cons pe_int pa_nil))))) (pss_one (ps_ret pe_int)) pss_nil)
      (pss_cons (ps_if (pt_val (pe_fn h__law_breaks_psk hr (by decide) rfl (pa_cons (pv 1) pa_nil))) (pss_one (ps_ret pe_int)) pss_nil)
      (pss_one (ps_ret (pe_op opMulU pe_int (pe_callTy call_int1 rfl (C.free "int") boot_int (pa_cons (pe_fn h__law_breaks_encryption hr (by decide) rfl (pa_cons (pv 0) (pa_cons (pv 1) (pa_cons pe_int pa_nil)))) pa_nil)))))))))), fun ds M q ex h => ?main⟩)
  case len => obtain ⟨_, _, rfl, _⟩ := h; rfl
  case main =>
    obtain ⟨b, ms, rfl, ob, om, k⟩ := h
    have of := flat_ok om
    unfold lawBroken at k
    walk_at "s"
    walk_at "w"
    refine ⟨ms, rfl, om, ?_⟩
    walk_at "w"
    generalize hfl : flatM ms = fl at of k ⊢
    refine xs_for (fun ds i Γ M' => ds = [.int 1, .int 2] → (0 < i → cnt1 b fl = false) ∧ (1 < i → cnt2 fl = false) ∧ M' = M ∧ ∃ x3, Γ = [some (befD b), some (msgsD ms), some (.lst (fl.map flD)), x3]) ?_
    refine it_seq ?_
    walk_at "w"
    refine ⟨_, .inr rfl, fun _ => ⟨fun z => by omega, fun z => by omega, rfl, _, rfl⟩, ?_, ?_⟩
    · rintro i d Γ' M' hd hp'
      obtain ⟨c1, c2, rfl, x3, rfl⟩ := hp' rfl
      have hi : i < 2 := (List.getElem?_eq_some_iff.mp hd).1
      have hcase : (i = 0 ∧ d = .int 1) ∨ (i = 1 ∧ d = .int 2) := by
        have : i = 0 ∨ i = 1 := by omega
        rcases this with rfl | rfl
        · exact .inl ⟨rfl, (Option.some.inj hd).symm⟩
        · exact .inr ⟨rfl, (Option.some.inj hd).symm⟩
      rcases hcase with ⟨rfl, rfl⟩ | ⟨rfl, rfl⟩
      · walk_at "w"
        refine ⟨b, fl, 1, rfl, ob, of, .inl rfl, ?_⟩
        rw [if_pos rfl]
        walk_at "w"
        cases hc : cnt1 b fl with
        | true =>
          refine ite_yes rfl ?_
          walk_at "r"
          exact k 1 ⟨fun _ => by rw [hc]; rfl, fun _ => by decide⟩
        | false =>
          refine ite_no (fun z => by cases z) ?_
          walk_at "w"
          exact fun _ => ⟨fun _ => rfl, fun z => by omega, rfl, _, rfl⟩
      · walk_at "w"
        refine ⟨b, fl, 2, rfl, ob, of, .inr rfl, ?_⟩
        rw [if_neg (by decide)]
        walk_at "w"
        cases hc : cnt2 fl with
        | true =>
          refine ite_yes rfl ?_
          walk_at "r"
          exact k 2 ⟨fun _ => by rw [hc, c1 (by omega)]; rfl, fun _ => by decide⟩
        | false =>
          refine ite_no (fun z => by cases z) ?_
          walk_at "w"
          exact fun _ => ⟨fun _ => c1 (by omega), fun _ => rfl, rfl, _, rfl⟩
    · rintro Γ' M' hp'
      obtain ⟨c1, c2, rfl, x3, rfl⟩ := hp' rfl
      rw [c1 (by decide), c2 (by decide), Bool.false_or, Bool.false_or] at k
      walk_at "w"
      refine ⟨b, fl, rfl, ob, of, ?_⟩
      walk_at "w"
      cases h3 : brkKey b [] fl with
      | true =>
        refine ite_yes rfl ?_
        walk_at "r"
        exact k 3 ⟨fun _ => by rw [h3]; rfl, fun _ => by decide⟩
      | false =>
      rw [h3, Bool.false_or] at k
      refine ite_no (fun z => by cases z) ?_
      walk_at "w"
      refine ⟨b, ms, 4, rfl, ob, om, .inl rfl, ?_⟩
      walk_at "w"
      cases h4 : brkEnc b ms 4 with
      | true =>
        refine ite_yes rfl ?_
        walk_at "r"
        exact k 4 ⟨fun _ => by rw [h4]; rfl, fun _ => by decide⟩
      | false =>
      rw [h4, Bool.false_or] at k
      refine ite_no (fun z => by cases z) ?_
      walk_at "w"
      refine ⟨ms, rfl, om, ?_⟩
      walk_at "w"
      cases h5 : misPsk 0 ms with
      | true =>
        refine ite_yes rfl ?_
        walk_at "r"
        exact k 5 ⟨fun _ => by rw [h5]; rfl, fun _ => by decide⟩
      | false =>
      rw [h5, Bool.false_or] at k
      refine ite_no (fun z => by cases z) ?_
      walk_at "w"
      walk_at "r"
      refine ⟨b, ms, 6, rfl, ob, om, .inr rfl, ?_⟩
      walk_at "w"
      refine cb_int ?_
      cases h6 : brkEnc b ms 6 with
      | true =>
        refine mulU_int (wide_mul (a := 3) (b := 2) (by decide) (by decide) (by decide) (by decide) (by decide)) ?_
        exact k _ ⟨fun _ => h6, fun _ => by decide⟩
      | false =>
        refine mulU_int (wide_mul (a := 3) (b := 2) (by decide) (by decide) (by decide) (by decide) (by decide)) ?_
        exact k _ ⟨fun z => by simp at z, fun z => by rw [h6] at z; cases z⟩
end
section
variable {P : Program} {w : World} {K : PySem.W.Frag} {mg : Str → Option Value} {base : Heap}
theorem sc__law_shows : FnScope N__law_shows ["_law_before_here", "_law_messages_here", "_law_side", "_law_beforehand"] (defScope s__law_shows) := ⟨rfl, rfl, rfl, by decide +kernel, rfl, by decide +kernel, by decide +kernel⟩
theorem ok__law_shows (C : Cxt K mg) : Fn P w K mg base CX0 "_law_shows" 1 ["_law_before_here", "_law_messages_here", "_law_side", "_law_beforehand"] R__law_shows := by
  refine Fn.of C 102 d__law_shows rfl rfl rfl rfl (by decide +kernel) sc__law_shows (fun _ _ _ _ _ _ us hl => match us, hl with | [_, _, _, _], _ => rfl) (fun ds M q ex h => ?len) (fun cdv A outer s H E hr => ⟨_, (pss_cons (ps_if (pt_cmpR (opInU (u65 hr)) pe_str (pe_ix ix_seq (pv 0) (pv 2) (fun _ _ => rfl)) (by rfl)) (pss_one (ps_ret pe_bl)) pss_nil)
      (pss_cons (ps_if (pt_val (pv 3)) (pss_one (ps_ret pe_bl)) pss_nil)
      (pss_one (ps_ret (pe_cmpR op_gt (pe_callB call_len rfl (C.free "len") boot_len (pa_cons (pe_lc (own := [("_law_message_here", 4)]) rfl sc__law_shows.nd (pi_seq (pv 1)) (blkOk_by (N := N__law_shows) (sc := defScope s__law_shows) (by decide +kernel)) (fun _ _ _ _ _ => (pg_name (i := 4) sc__law_shows.nd rfl (Or.inl rfl))) (fun _ _ _ _ _ => (pts_one (PW.pt (pw_and (pt_cmpR (opEqUK (K := K) rfl hr.units) (pe_ix (ix_seqK (K := K) rfl) (pv 4) pe_int (fun _ _ => rfl)) (pe_ix (ix_seqK (K := K) rfl) (pe_lst (pa_cons pe_str (pa_cons pe_str pa_nil))) (pv 2) (fun _ _ => rfl)) (nomark _)) (pw_and1 (pt_cmpR (opInUK (K := K) rfl (u65 hr)) pe_str (pe_ix (ix_seqK (K := K) rfl) (pv 4) pe_int (fun _ _ => rfl)) (by rfl))))))) (fun _ _ _ _ _ => pe_int)) pa_nil)) pe_int (nomark _)))))), fun ds M q ex h => ?main⟩)
  case len => obtain ⟨_, _, _, _, rfl, _⟩ := h; rfl
  case main =>
    obtain ⟨b, ms, e, bh, rfl, ob, om, k⟩ := h
    have hsz : sizeLine = 16777216 := rfl
    have hle := om.le
    unfold showsM at k
    walk_at "s"
    walk_at "w"
    refine ix_tupD (bef_ix b e) ?_
    refine inU_strT (by decide +kernel) (befOf_ok ob e) ?_
    walk_at "w"
    by_cases h1 : ("s" : Str) ∈ befOf b e
    · rw [decide_eq_true h1] at k
      refine ite_yes (yes_dec h1) ?_
      walk_at "r"
      exact k
    rw [decide_eq_false h1, Bool.false_or] at k
    refine ite_no (no_dec h1) ?_
    walk_at "w"
    cases bh with
    | true =>
      refine ite_yes rfl ?_
      walk_at "r"
      exact k
    | false =>
    refine ite_no (fun z => by cases z) ?_
    walk_at "w"
    walk_at "r"
    refine ev_lcF ms msgD (fun m => m.1 == e && decide (("s" : Str) ∈ m.2)) (fun _ => .int 0) (own_name (by decide)) ?_
    refine it_seq ?_
    walk_at "w"
    refine ⟨_, .inr rfl, rfl, by omega, ?_, ?_⟩
    · intro i m hm
      have htok := tok_strOk _ (om.tok m (List.mem_of_getElem? hm)).2.2
      walk_at "w"
      refine ix_tupD (i := 0) (d := arD m.1) rfl ?_
      walk_at "w"
      refine ev_lst ?_
      walk_at "w"
      refine ix_lstD (ar_ix e) ?_
      walk_at "w"
      by_cases h2 : m.1 = e
      · refine ite_yes (yes_dec (by rw [h2])) ?_
        walk_at "w"
        refine ix_tupD (i := 1) (d := strsT m.2) rfl ?_
        refine inU_strT (by decide +kernel) htok ?_
        walk_at "w"
        refine ⟨by simp [h2], rfl, fun _ => ?_⟩
        walk_at "w"
        exact ⟨rfl, rfl⟩
      · refine ite_no (no_dec (fun z => h2 (arrow_inj.mp z))) ?_
        exact ⟨by simp [h2], rfl, fun z => by cases z⟩
    · walk_at "w"
      rw [List.length_map]
      have e9 : decide ((0 : Int) < ((ms.filter fun m => m.1 == e && decide (("s" : Str) ∈ m.2)).length : Nat)) = sends "s" e ms := by
        unfold sends
        by_cases h : ∃ m ∈ ms, (m.1 == e && decide (("s" : Str) ∈ m.2)) = true
        · obtain ⟨m, hm, hc⟩ := h
          have : m ∈ ms.filter fun m => m.1 == e && decide (("s" : Str) ∈ m.2) := List.mem_filter.mpr ⟨hm, hc⟩
          have hp := List.length_pos_of_mem this
          rw [decide_eq_true (by omega)]
          exact (List.any_eq_true.mpr ⟨m, hm, hc⟩).symm
        · have : (ms.filter fun m => m.1 == e && decide (("s" : Str) ∈ m.2)) = [] := List.filter_eq_nil_iff.mpr fun m hm hc => h ⟨m, hm, hc⟩
          rw [this]
          cases ha : (ms.any fun m => m.1 == e && decide (("s" : Str) ∈ m.2)) with
          | false => rfl
          | true =>
            obtain ⟨m, hm, hc⟩ := List.any_eq_true.mp ha
            exact absurd ⟨m, hm, hc⟩ h
      rw [e9]
      exact k
end
section
abbrev lineD (t : TSt) (up : Bool) : D := .dic ["hash", "chain", "key", "number", "psk"] [bys t.hash, bys t.chain, keyD t.key, .int t.num, .bl up]
def R__law_mix : SpR := fun ds M q _ => ∃ (pl : Addr) (t : TSt) (up : Bool) (d : List Int) (M0 : Mem), ds = [suiteD, .ref pl, bys d] ∧ M = (pl, lineD t up) :: M0 ∧ okT t ∧ isBy d ∧ d.length ≤ 10000 ∧ q .non ((pl, lineD (tMix t d) up) :: M0)
def tKB (t : TSt) (d : List Int) (both : Bool) : TSt := if both = true then tBoth t d else tKey t d
def R__law_mix_key : SpR := fun ds M q _ => ∃ (pl : Addr) (t : TSt) (up : Bool) (d : List Int) (both : Bool) (M0 : Mem), ds = [suiteD, .ref pl, bys d, .bl both] ∧ M = (pl, lineD t up) :: M0 ∧ okT t ∧ isBy d ∧ d.length ≤ 10000 ∧ q .non ((pl, lineD (tKB t d both) up) :: M0)
def R__law_public : SpR := fun ds M q _ => ∃ (pl : Addr) (t : TSt) (up : Bool) (d : List Int) (M0 : Mem), ds = [suiteD, .ref pl, bys d] ∧ M = (pl, lineD t up) :: M0 ∧ okT t ∧ isBy d ∧ d.length ≤ 10000 ∧ q .non ((pl, lineD (mixE up (tMix t d) "e" d) up) :: M0)
def R__law_seal : SpR := fun ds M q _ => ∃ (pl : Addr) (t : TSt) (up : Bool) (d : List Int) (M0 : Mem), ds = [suiteD, .ref pl, bys d] ∧ M = (pl, lineD t up) :: M0 ∧ okT t ∧ t.num < 1000000 ∧ isBy d ∧ d.length ≤ 1000 ∧ q (bys (tSealed t d)) ((pl, lineD (tSeal t d) up) :: M0)
/-- all the keys: by end (true: the answerer) and kind (true: ephemeral) -/
structure Keys where
  s : Bool → Bool → List Int
  psk : List Int
  pro : List Int
structure okKeys (k : Keys) : Prop where
  s : ∀ e x, isBy (k.s e x) ∧ (k.s e x).length = 16
  psk : isBy k.psk ∧ k.psk.length = 32
  pro : isBy k.pro ∧ k.pro.length ≤ 1024
abbrev keysD (k : Keys) : D := .dic ["secret", "public", "psk", "prologue"] [.lst [bys (k.s false false), bys (k.s false true), bys (k.s true false), bys (k.s true true)],
  .lst [bys (pubM (k.s false false)), bys (pubM (k.s false true)), bys (pubM (k.s true false)), bys (pubM (k.s true true))], bys k.psk, bys k.pro]
def isE (x : Str) : Bool := decide (x = ("e" : Str))
def pubK (k : Keys) (e : Bool) (x : Str) : List Int := pubM (k.s e (isE x))
def dhK (k : Keys) (x : Str) : List Int := exM (k.s false (isE (chr0 x))) (pubM (k.s true (isE (chr1 x))))
def wdK (k : Keys) (up e : Bool) : Wd := ⟨pubK k e, dhK k, k.psk, up⟩
theorem kx_e (k : Keys) (e : Bool) : atI [bys (pubM (k.s false false)), bys (pubM (k.s false true)), bys (pubM (k.s true false)), bys (pubM (k.s true true))] (2 * sdI e + 1) = some (bys (pubK k e "e")) := by cases e <;> rfl
theorem kx_s (k : Keys) (e : Bool) : atI [bys (pubM (k.s false false)), bys (pubM (k.s false true)), bys (pubM (k.s true false)), bys (pubM (k.s true true))] (2 * sdI e) = some (bys (pubK k e "s")) := by cases e <;> rfl
theorem kx_f (k : Keys) (x : Str) : atI [bys (k.s false false), bys (k.s false true), bys (k.s true false), bys (k.s true true)] (if decide (x = ("e" : Str)) = true then 1 else 0) = some (bys (k.s false (isE x))) := by
  unfold isE; cases decide (x = ("e" : Str)) <;> rfl
theorem kx_g (k : Keys) (x : Str) : atI [bys (pubM (k.s false false)), bys (pubM (k.s false true)), bys (pubM (k.s true false)), bys (pubM (k.s true true))] (2 + (if decide (x = ("e" : Str)) = true then 1 else 0)) = some (bys (pubM (k.s true (isE x)))) := by
  unfold isE; cases decide (x = ("e" : Str)) <;> rfl
/-- no public key is weak -/
def Strong : Prop := ∀ s : List Int, weakM (pubM s) = false
def R__law_message : SpR := fun ds M q _ => ∃ (pl : Addr) (t : TSt) (up : Bool) (m : Msg) (pay : List Int) (kk : Keys) (M0 : Mem), ds = [suiteD, .ref pl, msgD m, bys pay, keysD kk] ∧ M = (pl, lineD t up) :: M0 ∧ okT t ∧ t.num ≤ 900000 ∧ okL m ∧ isBy pay ∧ pay.length ≤ 100 ∧ okKeys kk ∧ Strong ∧
  q (bys (msgB (wdK kk up m.1) t m.2 pay)) ((pl, lineD (msgT (wdK kk up m.1) t m.2 pay) up) :: M0)
end
section
variable {P : Program} {w : World} {K : PySem.W.Frag} {mg : Str → Option Value} {base : Heap}
theorem sc__law_mix : FnScope N__law_mix ["_law_suite", "_law_line_here", "_law_data"] (defScope s__law_mix) := ⟨rfl, rfl, rfl, by decide +kernel, rfl, by decide +kernel, by decide +kernel⟩
theorem ok__law_mix (C : Cxt K mg) (h_SmallSuite_digest : Me P w K mg base CX0 "SmallSuite" "digest" 5 ["self", "data"] R_SmallSuite_digest) : Fn P w K mg base CX0 "_law_mix" 6 ["_law_suite", "_law_line_here", "_law_data"] R__law_mix := by
  refine Fn.of C 107 d__law_mix rfl rfl rfl rfl (by decide +kernel) sc__law_mix (fun _ _ _ _ _ _ us hl => match us, hl with | [_, _, _], _ => rfl) (fun ds M q ex h => ?len) (fun cdv A outer s H E hr => ⟨_, (pss_one (ps_dput (hu_of hr) (pv 1) pe_str (pe_me h_SmallSuite_digest hr (by decide) (pv 0) (pa_cons (pe_op opAddU (pe_dget (hu_of hr) (pv 1) pe_str (fun _ _ => rfl)) (pv 2)) pa_nil)) rfl)), fun ds M q ex h => ?main⟩)
  case len => obtain ⟨_, _, _, _, _, rfl, _⟩ := h; rfl
  case main =>
    obtain ⟨pl, t, up, d, M0, rfl, rfl, o, hd, hl, k⟩ := h
    have hh := o.h2
    walk_at "s"
    walk_at "w"
    refine ⟨_, rfl, o.h1.app hd, by rw [List.length_append]; omega, ?_⟩
    walk_at "w"
    exact k
theorem sc__law_mix_key : FnScope N__law_mix_key ["_law_suite", "_law_line_here", "_law_data", "_law_both"] (defScope s__law_mix_key) := ⟨rfl, rfl, rfl, by decide +kernel, rfl, by decide +kernel, by decide +kernel⟩
theorem ok__law_mix_key (C : Cxt K mg) (h_SmallSuite_keyed : Me P w K mg base CX0 "SmallSuite" "keyed" 5 ["self", "key", "data"] R_SmallSuite_keyed) (h__law_mix : Fn P w K mg base CX0 "_law_mix" 6 ["_law_suite", "_law_line_here", "_law_data"] R__law_mix) : Fn P w K mg base CX0 "_law_mix_key" 7 ["_law_suite", "_law_line_here", "_law_data", "_law_both"] R__law_mix_key := by
  refine Fn.of C 108 d__law_mix_key rfl rfl rfl rfl (by decide +kernel) sc__law_mix_key (fun _ _ _ _ _ _ us hl => match us, hl with | [_, _, _, _], _ => rfl) (fun ds M q ex h => ?len) (fun cdv A outer s H E hr => ⟨_, (pss_cons (ps_set (i := 4) sc__law_mix_key.nd rfl (Or.inl rfl) (pe_me h_SmallSuite_keyed hr (by decide) (pv 0) (pa_cons (pe_dget (hu_of hr) (pv 1) pe_str (fun _ _ => rfl)) (pa_cons (pv 2) pa_nil))))
      (pss_cons (ps_set (i := 5) sc__law_mix_key.nd rfl (Or.inl rfl) (pe_me h_SmallSuite_keyed hr (by decide) (pv 0) (pa_cons (pv 4) (pa_cons (pe_lst (pa_cons pe_int pa_nil)) pa_nil))))
      (pss_cons (ps_set (i := 6) sc__law_mix_key.nd rfl (Or.inl rfl) (pe_me h_SmallSuite_keyed hr (by decide) (pv 0) (pa_cons (pv 4) (pa_cons (pe_op opAddU (pv 5) (pe_lst (pa_cons pe_int pa_nil))) pa_nil))))
      (pss_cons (ps_dput (hu_of hr) (pv 1) pe_str (pv 5) rfl)
      (pss_cons (ps_dput (hu_of hr) (pv 1) pe_str (pv 6) rfl)
      (pss_cons (ps_dput (hu_of hr) (pv 1) pe_str pe_int rfl)
      (pss_one (ps_if (pt_val (pv 3)) (pss_cons (ps_expr (pe_fn h__law_mix hr (by decide) rfl (pa_cons (pv 0) (pa_cons (pv 1) (pa_cons (pv 6) pa_nil)))))
      (pss_one (ps_dput (hu_of hr) (pv 1) pe_str (pe_me h_SmallSuite_keyed hr (by decide) (pv 0) (pa_cons (pv 4) (pa_cons (pe_op opAddU (pv 6) (pe_lst (pa_cons pe_int pa_nil))) pa_nil))) rfl))) pss_nil)))))))), fun ds M q ex h => ?main⟩)
  case len => obtain ⟨_, _, _, _, _, _, rfl, _⟩ := h; rfl
  case main =>
    obtain ⟨pl, t, up, d, both, M0, rfl, rfl, o, hd, hl, k⟩ := h
    have hc := o.c2
    unfold tKB at k
    walk_at "s"
    walk_at "w"
    refine ⟨_, _, rfl, o.c1, by omega, hd, by omega, ?_⟩
    walk_at "w"
    refine ⟨_, [1], rfl, keyM_by _ _, by simp, isBy.one (by decide) (by decide), by decide, ?_⟩
    walk_at "w"
    refine ⟨_, _, rfl, keyM_by _ _, by simp, (keyM_by _ _).app (isBy.one (by decide) (by decide)), by simp, ?_⟩
    walk_at "w"
    cases both with
    | false =>
      rw [if_neg (fun z => by cases z)] at k
      refine ite_no (fun z => by cases z) ?_
      walk_at "w"
      exact k
    | true =>
      rw [if_pos rfl] at k
      refine ite_yes rfl ?_
      walk_at "w"
      refine ⟨pl, tKey t d, up, (twoM t.chain d).2, M0, rfl, rfl, o.keyed d, keyM_by _ _, by rw [show (twoM t.chain d).2.length = 16 from keyM_len _ _]; decide, ?_⟩
      walk_at "w"
      refine ⟨_, _, rfl, keyM_by _ _, by simp, (keyM_by _ _).app (isBy.one (by decide) (by decide)), by simp, ?_⟩
      walk_at "w"
      exact k
theorem sc__law_public : FnScope N__law_public ["_law_suite", "_law_line_here", "_law_public_here"] (defScope s__law_public) := ⟨rfl, rfl, rfl, by decide +kernel, rfl, by decide +kernel, by decide +kernel⟩
theorem ok__law_public (C : Cxt K mg) (h__law_mix_key : Fn P w K mg base CX0 "_law_mix_key" 7 ["_law_suite", "_law_line_here", "_law_data", "_law_both"] R__law_mix_key) (h__law_mix : Fn P w K mg base CX0 "_law_mix" 6 ["_law_suite", "_law_line_here", "_law_data"] R__law_mix) : Fn P w K mg base CX0 "_law_public" 8 ["_law_suite", "_law_line_here", "_law_public_here"] R__law_public := by
  refine Fn.of C 109 d__law_public rfl rfl rfl rfl (by decide +kernel) sc__law_public (fun _ _ _ _ _ _ us hl => match us, hl with | [_, _, _], _ => rfl) (fun ds M q ex h => ?len) (fun cdv A outer s H E hr => ⟨_, (pss_cons (ps_expr (pe_fn h__law_mix hr (by decide) rfl (pa_cons (pv 0) (pa_cons (pv 1) (pa_cons (pe_callTy call_list_of rfl (C.free "list") boot_list (pa_cons (pv 2) pa_nil)) pa_nil)))))
      (pss_one (ps_if (pt_val (pe_dget (hu_of hr) (pv 1) pe_str (fun _ _ => rfl))) (pss_one (ps_expr (pe_fn h__law_mix_key hr (by decide) rfl (pa_cons (pv 0) (pa_cons (pv 1) (pa_cons (pe_callTy call_list_of rfl (C.free "list") boot_list (pa_cons (pv 2) pa_nil)) (pa_cons pe_bl pa_nil))))))) pss_nil))), fun ds M q ex h => ?main⟩)
  case len => obtain ⟨_, _, _, _, _, rfl, _⟩ := h; rfl
  case main =>
    obtain ⟨pl, t, up, d, M0, rfl, rfl, o, hd, hl, k⟩ := h
    unfold mixE at k
    walk_at "s"
    walk_at "w"
    refine ⟨pl, t, up, d, M0, rfl, rfl, o, hd, hl, ?_⟩
    walk_at "w"
    cases up with
    | true =>
      rw [if_pos ⟨rfl, rfl⟩] at k
      refine ite_yes rfl ?_
      walk_at "w"
      refine ⟨pl, tMix t d, true, d, false, M0, rfl, rfl, o.mix d, hd, hl, ?_⟩
      walk_at "w"
      exact k
    | false =>
      rw [if_neg (fun z => by cases z.2)] at k
      refine ite_no (fun z => by cases z) ?_
      walk_at "w"
      exact k
end
section
variable {P : Program} {w : World} {K : PySem.W.Frag} {mg : Str → Option Value} {base : Heap}
theorem sc__law_seal : FnScope N__law_seal ["_law_suite", "_law_line_here", "_law_text_here"] (defScope s__law_seal) := ⟨rfl, rfl, rfl, by decide +kernel, rfl, by decide +kernel, by decide +kernel⟩
theorem ok__law_seal (C : Cxt K mg) (h__law_mix : Fn P w K mg base CX0 "_law_mix" 6 ["_law_suite", "_law_line_here", "_law_data"] R__law_mix) (h_SmallSuite_seal : Me P w K mg base CX0 "SmallSuite" "seal" 6 ["self", "key", "number", "data", "text"] R_SmallSuite_seal) : Fn P w K mg base CX0 "_law_seal" 7 ["_law_suite", "_law_line_here", "_law_text_here"] R__law_seal := by
  refine Fn.of C 111 d__law_seal rfl rfl rfl rfl (by decide +kernel) sc__law_seal (fun _ _ _ _ _ _ us hl => match us, hl with | [_, _, _], _ => rfl) (fun ds M q ex h => ?len) (fun cdv A outer s H E hr => ⟨_, (pss_cons (ps_set (i := 3) sc__law_seal.nd rfl (Or.inl rfl) (pe_callTy call_list_of rfl (C.free "list") boot_list (pa_cons (pv 2) pa_nil)))
      (pss_cons (ps_if (pt_cmpR opIsNotU (pe_dget (hu_of hr) (pv 1) pe_str (fun _ _ => rfl)) pe_non (nomark _)) (pss_cons (ps_set (i := 3) sc__law_seal.nd rfl (Or.inl rfl) (pe_me h_SmallSuite_seal hr (by decide) (pv 0) (pa_cons (pe_callTy call_list_of rfl (C.free "list") boot_list (pa_cons (pe_dget (hu_of hr) (pv 1) pe_str (fun _ _ => rfl)) pa_nil)) (pa_cons (pe_dget (hu_of hr) (pv 1) pe_str (fun _ _ => rfl)) (pa_cons (pe_callTy call_list_of rfl (C.free "list") boot_list (pa_cons (pe_dget (hu_of hr) (pv 1) pe_str (fun _ _ => rfl)) pa_nil)) (pa_cons (pe_callTy call_list_of rfl (C.free "list") boot_list (pa_cons (pv 2) pa_nil)) pa_nil))))))
      (pss_one (ps_dput (hu_of hr) (pv 1) pe_str (pe_op opAddU (pe_dget (hu_of hr) (pv 1) pe_str (fun _ _ => rfl)) pe_int) rfl))) pss_nil)
      (pss_cons (ps_expr (pe_fn h__law_mix hr (by decide) rfl (pa_cons (pv 0) (pa_cons (pv 1) (pa_cons (pv 3) pa_nil)))))
      (pss_one (ps_ret (pv 3)))))), fun ds M q ex h => ?main⟩)
  case len => obtain ⟨_, _, _, _, _, rfl, _⟩ := h; rfl
  case main =>
    obtain ⟨pl, t, up, d, M0, rfl, rfl, o, hnum, hd, hl, k⟩ := h
    have n0 := o.n0
    have n1 := o.n1
    have hh := o.h2
    have hov : nkOv t.key ≤ 8 := by unfold nkOv; split <;> omega
    walk_at "s"
    repeat ((fail_if_success (with_reducible refine sd_if ?_)); walk_at "d")
    refine xs_join [some suiteD, some (.ref pl), some (bys d), some (bys (tSealed t d))] ((pl, lineD { t with num := nkNext t.key t.num } up) :: M0) ?_ ?_
    · walk_at "w"
      have hcase : t.key = none ∨ ∃ b, t.key = some b := by cases t.key <;> simp
      rcases hcase with hk | ⟨b, hk⟩
      · have e1 : keyD t.key = .non := by rw [hk]; rfl
        have e2 : nkNext t.key t.num = t.num := by unfold nkNext; rw [hk]
        have e3 : tSealed t d = d := by unfold tSealed nkSeal; rw [hk]
        rw [e1]
        refine isNotU_non ?_
        walk_at "w"
        refine ite_no (by decide) ?_
        walk_at "w"
        rw [e2, e3]
        exact ⟨rfl, rfl⟩
      · have e1 : keyD t.key = bys b := by rw [hk]; rfl
        have e2 : nkNext t.key t.num = t.num + 1 := by unfold nkNext; rw [hk]
        have e3 : tSealed t d = sealM b t.num t.hash d := by unfold tSealed nkSeal; rw [hk]
        obtain ⟨b1, b2⟩ := o.k b hk
        rw [e1]
        refine isNotU_some not_non_lst ?_
        walk_at "w"
        refine ite_yes rfl ?_
        walk_at "w"
        rw [e1]
        walk_at "w"
        refine ⟨b, t.num, t.hash, d, rfl, b1, b2, n0, by omega, o.h1, by omega, hd, by omega, ?_⟩
        walk_at "w"
        rw [e2, e3]
        exact ⟨rfl, rfl⟩
    · walk_at "w"
      have o2 : okT { t with num := nkNext t.key t.num } := ⟨o.h1, o.h2, o.c1, o.c2, o.k, by dsimp only; unfold nkNext; split <;> omega, by dsimp only; unfold nkNext; split <;> omega⟩
      refine ⟨pl, { t with num := nkNext t.key t.num }, up, tSealed t d, M0, rfl, rfl, o2, nkSeal_by hd, by rw [tSealed_len]; omega, ?_⟩
      walk_at "w"
      walk_at "r"
      exact k
end
section
variable {P : Program} {w : World} {K : PySem.W.Frag} {mg : Str → Option Value} {base : Heap}
theorem sc__law_message : FnScope N__law_message ["_law_suite", "_law_line_here", "_law_message_here", "_law_payload", "_law_keys_here"] (defScope s__law_message) := ⟨rfl, rfl, rfl, by decide +kernel, rfl, by decide +kernel, by decide +kernel⟩
theorem ok__law_message (C : Cxt K mg) (h__law_seal : Fn P w K mg base CX0 "_law_seal" 7 ["_law_suite", "_law_line_here", "_law_text_here"] R__law_seal) (h__law_public : Fn P w K mg base CX0 "_law_public" 8 ["_law_suite", "_law_line_here", "_law_public_here"] R__law_public) (h__law_mix_key : Fn P w K mg base CX0 "_law_mix_key" 7 ["_law_suite", "_law_line_here", "_law_data", "_law_both"] R__law_mix_key) (h_SmallSuite_exchange : Me P w K mg base CX0 "SmallSuite" "exchange" 4 ["self", "secret", "public"] R_SmallSuite_exchange) : Fn P w K mg base CX0 "_law_message" 9 ["_law_suite", "_law_line_here", "_law_message_here", "_law_payload", "_law_keys_here"] R__law_message := by
  refine Fn.of C 112 d__law_message rfl rfl rfl rfl (by decide +kernel) sc__law_message (fun _ _ _ _ _ _ us hl => match us, hl with | [_, _, _, _, _], _ => rfl) (fun ds M q ex h => ?len) (fun cdv A outer s H E hr => ⟨_, (pss_cons (ps_set (i := 5) sc__law_message.nd rfl (Or.inl rfl) (pe_callTy call_int1 rfl (C.free "int") boot_int (pa_cons (pe_cmpR (opEqU hr.units) (pe_ix ix_seq (pv 2) pe_int (fun _ _ => rfl)) pe_str (nomark _)) pa_nil)))
      (pss_cons (ps_set (i := 6) sc__law_message.nd rfl (Or.inl rfl) (pe_lst pa_nil))
      (pss_cons (ps_for PassesOwn.never rfl (pi_seq (pe_ix ix_seq (pv 2) pe_int (fun _ _ => rfl))) (pg_name (i := 7) sc__law_message.nd rfl (Or.inl rfl)) (pss_one (ps_if (pt_cmpR (opEqU hr.units) (pv 7) pe_str (nomark _)) (pss_cons (ps_set (i := 6) sc__law_message.nd rfl (Or.inl rfl) (pe_op opAddU (pv 6) (pe_ix ix_seq (pe_dget (hu_of hr) (pv 4) pe_str (fun _ _ => rfl)) (pe_op opAddU (pe_op opMulU pe_int (pv 5)) pe_int) (fun _ _ => rfl))))
      (pss_one (ps_expr (pe_fn h__law_public hr (by decide) rfl (pa_cons (pv 0) (pa_cons (pv 1) (pa_cons (pe_ix ix_seq (pe_dget (hu_of hr) (pv 4) pe_str (fun _ _ => rfl)) (pe_op opAddU (pe_op opMulU pe_int (pv 5)) pe_int) (fun _ _ => rfl)) pa_nil))))))) (pss_one (ps_if (pt_cmpR (opEqU hr.units) (pv 7) pe_str (nomark _)) (pss_one (ps_set (i := 6) sc__law_message.nd rfl (Or.inl rfl) (pe_op opAddU (pv 6) (pe_fn h__law_seal hr (by decide) rfl (pa_cons (pv 0) (pa_cons (pv 1) (pa_cons (pe_ix ix_seq (pe_dget (hu_of hr) (pv 4) pe_str (fun _ _ => rfl)) (pe_op opMulU pe_int (pv 5)) (fun _ _ => rfl)) pa_nil))))))) (pss_one (ps_if (pt_cmpR (opEqU hr.units) (pv 7) pe_str (nomark _)) (pss_one (ps_expr (pe_fn h__law_mix_key hr (by decide) rfl (pa_cons (pv 0) (pa_cons (pv 1) (pa_cons (pe_callTy call_list_of rfl (C.free "list") boot_list (pa_cons (pe_dget (hu_of hr) (pv 4) pe_str (fun _ _ => rfl)) pa_nil)) (pa_cons pe_bl pa_nil))))))) (pss_cons (ps_set (i := 8) sc__law_message.nd rfl (Or.inl rfl) (pe_ix ix_seq (pe_dget (hu_of hr) (pv 4) pe_str (fun _ _ => rfl)) (pe_callTy call_int1 rfl (C.free "int") boot_int (pa_cons (pe_cmpR (opEqU hr.units) (pe_ix ix_seq (pv 7) pe_int (fun _ _ => rfl)) pe_str (nomark _)) pa_nil)) (fun _ _ => rfl)))
      (pss_cons (ps_set (i := 9) sc__law_message.nd rfl (Or.inl rfl) (pe_ix ix_seq (pe_dget (hu_of hr) (pv 4) pe_str (fun _ _ => rfl)) (pe_op opAddU pe_int (pe_callTy call_int1 rfl (C.free "int") boot_int (pa_cons (pe_cmpR (opEqU hr.units) (pe_ix ix_seq (pv 7) pe_int (fun _ _ => rfl)) pe_str (nomark _)) pa_nil))) (fun _ _ => rfl)))
      (pss_one (ps_expr (pe_fn h__law_mix_key hr (by decide) rfl (pa_cons (pv 0) (pa_cons (pv 1) (pa_cons (pe_me h_SmallSuite_exchange hr (by decide) (pv 0) (pa_cons (pe_callTy call_list_of rfl (C.free "list") boot_list (pa_cons (pv 8) pa_nil)) (pa_cons (pe_callTy call_list_of rfl (C.free "list") boot_list (pa_cons (pv 9) pa_nil)) pa_nil))) (pa_cons pe_bl pa_nil))))))))))))))))
      (pss_one (ps_ret (pe_op opAddU (pv 6) (pe_fn h__law_seal hr (by decide) rfl (pa_cons (pv 0) (pa_cons (pv 1) (pa_cons (pv 3) pa_nil)))))))))), fun ds M q ex h => ?main⟩)
  case len => obtain ⟨_, _, _, _, _, _, _, rfl, _⟩ := h; rfl
  case main =>
    obtain ⟨pl, t, up, m, pay, kk, M0, rfl, rfl, o, hn, ol, hp, hpl, ok, strong, k⟩ := h
    have hsz : sizeLine = 16777216 := rfl
    have h8 := ol.le
    walk_at "s"
    walk_at "w"
    refine ix_tupD (i := 0) (d := arD m.1) rfl ?_
    walk_at "w"
    refine cb_int ?_
    rw [sd_ix]
    walk_at "w"
    refine ev_lst (ea_nil ⟨by decide, ?_⟩)
    walk_at "w"
    refine xs_forR m.2 D.str (msgR (wdK kk up m.1)) (([], t) : List Int × TSt) (fun i s Γ M' => M' = (pl, lineD s.2 up) :: M0 ∧ okT s.2 ∧ s.2.num ≤ 900000 + i ∧ isBy s.1 ∧ s.1.length ≤ 24 * i ∧ ∃ x7 x8 x9, Γ = [some suiteD, some (.ref pl), some (msgD m), some (bys pay), some (keysD kk), some (.int (sdI m.1)), some (bys s.1), x7, x8, x9]) ?_
    refine it_seq ?_
    walk_at "w"
    refine ix_tupD (i := 1) (d := strsT m.2) rfl ?_
    refine ⟨_, .inr rfl, rfl, ⟨rfl, o, by walk_at "d_o", (fun _ z => by cases z), Nat.le_refl _, _, _, _, rfl⟩, ?_, ?_⟩
    · rintro i x ⟨ms, t'⟩ Γ' M' hx hr0 ⟨rfl, o', hn', hb', hl', x7, x8, x9, rfl⟩
      have hi : i < m.2.length := (List.getElem?_eq_some_iff.mp hx).1
      have hxt := ol.tok x (List.mem_of_getElem? hx)
      dsimp only at o' hn' hb' hl'
      have hr0 : msgR (wdK kk up m.1) (ms ++ tokB (wdK kk up m.1) t' x, tokT (wdK kk up m.1) t' x) (m.2.drop (i + 1)) = msgR (wdK kk up m.1) ([], t) m.2 := hr0
      have hnum := tokT_num (w := wdK kk up m.1) (x := x) o'
      have hok := tokT_ok (w := wdK kk up m.1) (x := x) o' (by omega)
      have hbl := tokB_len (w := wdK kk up m.1) (t := t') (x := x) (fun _ => pubM_len _)
      have hpb : ∀ y, isBy ((wdK kk up m.1).pub y) := fun y => pubM_by _
      have hbb : isBy (tokB (wdK kk up m.1) t' x) := by
        unfold tokB
        split
        · exact hpb _
        · split
          · exact nkSeal_by (hpb _)
          · exact fun _ z => by cases z
      have fin : ∀ (Γ' : Gm), (∃ x7 x8 x9, Γ' = [some suiteD, some (.ref pl), some (msgD m), some (bys pay), some (keysD kk), some (.int (sdI m.1)), some (bys (ms ++ tokB (wdK kk up m.1) t' x)), x7, x8, x9]) → ∃ b', msgR (wdK kk up m.1) b' (m.2.drop (i + 1)) = msgR (wdK kk up m.1) ([], t) m.2 ∧ ((pl, lineD (tokT (wdK kk up m.1) t' x) up) :: M0 = (pl, lineD b'.2 up) :: M0 ∧ okT b'.2 ∧ b'.2.num ≤ 900000 + ((i + 1 : Nat) : Int) ∧ isBy b'.1 ∧ b'.1.length ≤ 24 * (i + 1) ∧ ∃ x7 x8 x9, Γ' = [some suiteD, some (.ref pl), some (msgD m), some (bys pay), some (keysD kk), some (.int (sdI m.1)), some (bys b'.1), x7, x8, x9]) :=
        fun Γ' hg => ⟨_, hr0, rfl, hok, by dsimp only; omega, hb'.app hbb, by rw [List.length_append]; omega, hg⟩
      have m2 : (2 : Int) * sdI m.1 = 2 * sdI m.1 := rfl
      have mulc : CMulW 2 (sdI m.1) := wide_mul (a := 2) (b := 2) (by decide) (by cases m.1 <;> decide) (by decide) (by decide) (by decide)
      walk_at "w"
      by_cases h1 : x = "e"
      · subst h1
        have eT : tokT (wdK kk up m.1) t' "e" = mixE up (tMix t' (pubK kk m.1 "e")) "e" (pubK kk m.1 "e") := if_pos rfl
        have eB : tokB (wdK kk up m.1) t' "e" = pubK kk m.1 "e" := if_pos rfl
        rw [eT, eB] at fin
        refine ite_yes rfl ?_
        walk_at "w"
        refine mulU_int mulc ?_
        walk_at "w"
        refine ix_lstD (kx_e kk m.1) ?_
        refine addU_bys (by rw [show (pubK kk m.1 "e").length = 16 from pubM_len _]; walk_at "d_o") ?_
        walk_at "w"
        refine mulU_int mulc ?_
        walk_at "w"
        refine ix_lstD (kx_e kk m.1) ?_
        walk_at "w"
        refine ⟨pl, t', up, pubK kk m.1 "e", M0, rfl, rfl, o', pubM_by _, by rw [show (pubK kk m.1 "e").length = 16 from pubM_len _]; decide, ?_⟩
        walk_at "w"
        exact fin _ ⟨_, _, _, rfl⟩
      · refine ite_no (no_dec h1) ?_
        walk_at "w"
        by_cases h2 : x = "s"
        · subst h2
          have eT : tokT (wdK kk up m.1) t' "s" = tSeal t' (pubK kk m.1 "s") := by unfold tokT; rw [if_neg h1, if_pos rfl]; rfl
          have eB : tokB (wdK kk up m.1) t' "s" = tSealed t' (pubK kk m.1 "s") := by unfold tokB; rw [if_neg h1, if_pos rfl]; rfl
          rw [eT, eB] at fin
          rw [eB] at hbl
          refine ite_yes rfl ?_
          walk_at "w"
          refine mulU_int mulc ?_
          refine ix_lstD (kx_s kk m.1) ?_
          walk_at "w"
          refine ⟨pl, t', up, pubK kk m.1 "s", M0, rfl, rfl, o', by omega, pubM_by _, by rw [show (pubK kk m.1 "s").length = 16 from pubM_len _]; decide, ?_⟩
          refine addU_bys (by walk_at "d_o") ?_
          walk_at "w"
          exact fin _ ⟨_, _, _, rfl⟩
        · refine ite_no (no_dec h2) ?_
          walk_at "w"
          have eB : tokB (wdK kk up m.1) t' x = [] := by unfold tokB; rw [if_neg h1, if_neg h2]
          rw [eB, List.append_nil] at fin
          by_cases h3 : x = "psk"
          · have eT : tokT (wdK kk up m.1) t' x = tBoth t' kk.psk := by unfold tokT; rw [if_neg h1, if_neg h2, if_pos h3]; rfl
            rw [eT] at fin
            refine ite_yes (yes_dec h3) ?_
            walk_at "w"
            refine ⟨pl, t', up, kk.psk, true, M0, rfl, rfl, o', ok.psk.1, by rw [ok.psk.2]; decide, ?_⟩
            walk_at "w"
            exact fin _ ⟨_, _, _, rfl⟩
          · obtain ⟨c1, c2, c3, c4, c5⟩ := chr_ok x (tok_sec hxt h1 h2 h3)
            have eT : tokT (wdK kk up m.1) t' x = tKey t' (dhK kk x) := by unfold tokT; rw [if_neg h1, if_neg h2, if_neg h3]; rfl
            rw [eT] at fin
            refine ite_no (no_dec h3) ?_
            walk_at "w"
            refine ix_strD c3 c4 ?_
            walk_at "w"
            refine cb_int ?_
            refine ix_lstD (kx_f kk (chr0 x)) ?_
            walk_at "w"
            refine ix_strD c3 c5 ?_
            walk_at "w"
            refine cb_int ?_
            walk_at "w"
            refine ix_lstD (kx_g kk (chr1 x)) ?_
            walk_at "w"
            obtain ⟨s1, s2⟩ := ok.s false (isE (chr0 x))
            refine ⟨_, _, rfl, s1, s2, pubM_by _, pubM_len _, strong _, ?_⟩
            walk_at "w"
            refine ⟨pl, t', up, dhK kk x, false, M0, rfl, rfl, o', exM_by _ _, by rw [show (dhK kk x).length = 16 from exM_len _ _]; decide, ?_⟩
            walk_at "w"
            exact fin _ ⟨_, _, _, rfl⟩
    · rintro ⟨ms, t'⟩ Γ' M' hr0 ⟨rfl, o', hn', hb', hl', x7, x8, x9, rfl⟩
      have hr0 : (ms, t') = msgR (wdK kk up m.1) ([], t) m.2 := hr0
      dsimp only at o' hn' hb' hl'
      unfold msgB msgT at k
      rw [← hr0] at k
      have hov2 : nkOv t'.key ≤ 8 := by unfold nkOv; split <;> omega
      walk_at "r"
      refine ⟨pl, t', up, pay, M0, rfl, rfl, o', by omega, hp, by omega, ?_⟩
      refine addU_bys (by rw [tSealed_len]; walk_at "d_o") ?_
      exact k
end
section
abbrev partsD (b : Bef) (ms : List Msg) : D := .tup [befD b, msgsD ms]
def lab2 (n : Str) : Str := "Noise_" ++ n ++ "_127_Mix_Mix"
theorem name_ok : ∀ n ∈ NAMES, n.length ≤ 100 ∧ isBy (codesM (labelS n)) ∧ (lab2 n).length ≤ 100 ∧ codesM (lab2 n) = codesM (labelS n) ∧ 16 < (codesM (labelS n)).length ∧ (codesM (labelS n)).length ≤ 1000 ∧ PyData.strOk n = true := by
  have h : (NAMES.all fun n => decide (n.length ≤ 100) && (((codesM (labelS n)).all fun x => decide (0 ≤ x) && decide (x < 256)) && (decide ((lab2 n).length ≤ 100) && (decide (codesM (lab2 n) = codesM (labelS n)) && (decide (16 < (codesM (labelS n)).length) && (decide ((codesM (labelS n)).length ≤ 1000) && PyData.strOk n)))))) = true := by decide +kernel
  intro n hn
  have := List.all_eq_true.mp h n hn
  simp only [Bool.and_eq_true, decide_eq_true_eq] at this
  obtain ⟨h1, h2, h3, h4, h5, h6, h7⟩ := this
  refine ⟨h1, fun x hx => ?_, h3, h4, h5, h6, h7⟩
  have := List.all_eq_true.mp h2 x hx
  simpa using this
def lineT (kk : Keys) (n : Str) (b : Bef) (ms : List Msg) : TSt := befT (pubK kk) (usesPsk ms) b (tMix (start0 n) kk.pro)
def R__law_line : SpR := fun ds M q _ => ∃ (n : Str) (b : Bef) (ms : List Msg) (kk : Keys), ds = [suiteD, .str n, partsD b ms, keysD kk] ∧ n ∈ NAMES ∧ okB b ∧ okM ms ∧ okKeys kk ∧ ∀ pl, pl ∉ dom M → q (.ref pl) ((pl, lineD (lineT kk n b ms) (usesPsk ms)) :: M)
def R__law_keys : SpR := fun ds M q _ => ∃ (c : Int), ds = [suiteD, .int c] ∧ ∀ kk, okKeys kk → q (keysD kk) M
end
section
variable {P : Program} {w : World} {K : PySem.W.Frag} {mg : Str → Option Value} {base : Heap}
theorem sc__law_line : FnScope N__law_line ["_law_suite", "_law_name", "_law_parts", "_law_keys_here"] (defScope s__law_line) := ⟨rfl, rfl, rfl, by decide +kernel, rfl, by decide +kernel, by decide +kernel⟩
theorem ok__law_line (C : Cxt K mg) (h__law_public : Fn P w K mg base CX0 "_law_public" 8 ["_law_suite", "_law_line_here", "_law_public_here"] R__law_public) (h__law_mix : Fn P w K mg base CX0 "_law_mix" 6 ["_law_suite", "_law_line_here", "_law_data"] R__law_mix) (h_SmallSuite_digest : Me P w K mg base CX0 "SmallSuite" "digest" 5 ["self", "data"] R_SmallSuite_digest) : Fn P w K mg base CX0 "_law_line" 9 ["_law_suite", "_law_name", "_law_parts", "_law_keys_here"] R__law_line := by
  refine Fn.of C 110 d__law_line rfl rfl rfl rfl (by decide +kernel) sc__law_line (fun _ _ _ _ _ _ us hl => match us, hl with | [_, _, _, _], _ => rfl) (fun ds M q ex h => ?len) (fun cdv A outer s H E hr => ⟨_, (pss_cons (ps_setLc (i := 4) (own := [("_law_sign", 8)]) rfl sc__law_line.nd rfl rfl (sw_true rfl rfl rfl (by decide +kernel)) (pi_str (pe_op opAddU (pe_op opAddU pe_str (pv 1)) pe_str)) (blkOk_by (N := N__law_line) (sc := defScope s__law_line) (by decide +kernel)) (fun _ _ _ _ _ => (pg_name (i := 8) sc__law_line.nd rfl (Or.inl rfl))) (fun _ _ _ _ _ => pts_nil) (fun _ _ _ _ _ => (pe_callB call_ord rfl (C.free "ord") boot_ord (pa_cons (pv 8) pa_nil))))
      (pss_cons (ps_if (pt_cmpR op_gt (pe_callB call_len rfl (C.free "len") boot_len (pa_cons (pv 4) pa_nil)) pe_int (nomark _)) (pss_one (ps_set (i := 4) sc__law_line.nd rfl (Or.inl rfl) (pe_me h_SmallSuite_digest hr (by decide) (pv 0) (pa_cons (pv 4) pa_nil)))) pss_nil)
      (pss_cons (ps_set (i := 4) sc__law_line.nd rfl (Or.inl rfl) (pe_op opAddU (pv 4) (pe_lc (own := [("_law_k", 9)]) rfl sc__law_line.nd (pi_range1 rfl (C.free "range") (pa_cons (pe_op op_sub pe_int (pe_callB call_len rfl (C.free "len") boot_len (pa_cons (pv 4) pa_nil))) pa_nil)) (blkOk_by (N := N__law_line) (sc := defScope s__law_line) (by decide +kernel)) (fun _ _ _ _ _ => (pg_name (i := 9) sc__law_line.nd rfl (Or.inl rfl))) (fun _ _ _ _ _ => pts_nil) (fun _ _ _ _ _ => pe_int))))
      (pss_cons (ps_set (i := 5) sc__law_line.nd rfl (Or.inl rfl) (pe_disp (pps_cons pe_str (pe_callTy call_list_of rfl (C.free "list") boot_list (pa_cons (pv 4) pa_nil)) (pps_cons pe_str (pe_callTy call_list_of rfl (C.free "list") boot_list (pa_cons (pv 4) pa_nil)) (pps_cons pe_str pe_non (pps_cons pe_str pe_int pps_nil)))) (by rfl) (by rfl) (fun z => by cases z) (by decide)))
      (pss_cons (ps_dput (hu_of hr) (pv 5) pe_str (pe_cmpR op_gt (pe_callB call_len rfl (C.free "len") boot_len (pa_cons (pe_lc (own := [("_law_message_here", 10)]) rfl sc__law_line.nd (pi_seq (pe_ix ix_seq (pv 2) pe_int (fun _ _ => rfl))) (blkOk_by (N := N__law_line) (sc := defScope s__law_line) (by decide +kernel)) (fun _ _ _ _ _ => (pg_name (i := 10) sc__law_line.nd rfl (Or.inl rfl))) (fun _ _ _ _ _ => (pts_one (pt_cmpR (opInUK (K := K) rfl (u65 hr)) pe_str (pe_ix (ix_seqK (K := K) rfl) (pv 10) pe_int (fun _ _ => rfl)) (by rfl)))) (fun _ _ _ _ _ => pe_int)) pa_nil)) pe_int (nomark _)) rfl)
      (pss_cons (ps_expr (pe_fn h__law_mix hr (by decide) rfl (pa_cons (pv 0) (pa_cons (pv 5) (pa_cons (pe_callTy call_list_of rfl (C.free "list") boot_list (pa_cons (pe_dget (hu_of hr) (pv 3) pe_str (fun _ _ => rfl)) pa_nil)) pa_nil)))))
      (pss_cons (ps_for PassesOwn.never rfl (pi_range1 rfl (C.free "range") (pa_cons pe_int pa_nil)) (pg_name (i := 6) sc__law_line.nd rfl (Or.inl rfl)) (pss_one (ps_for PassesOwn.never rfl (pi_seq (pe_ix ix_seq (pe_ix ix_seq (pv 2) pe_int (fun _ _ => rfl)) (pv 6) (fun _ _ => rfl))) (pg_name (i := 7) sc__law_line.nd rfl (Or.inl rfl)) (pss_one (ps_if (pt_cmpR (opEqU hr.units) (pv 7) pe_str (nomark _)) (pss_one (ps_expr (pe_fn h__law_public hr (by decide) rfl (pa_cons (pv 0) (pa_cons (pv 5) (pa_cons (pe_ix ix_seq (pe_dget (hu_of hr) (pv 3) pe_str (fun _ _ => rfl)) (pe_op opAddU (pe_op opMulU pe_int (pv 6)) pe_int) (fun _ _ => rfl)) pa_nil)))))) (pss_one (ps_expr (pe_fn h__law_mix hr (by decide) rfl (pa_cons (pv 0) (pa_cons (pv 5) (pa_cons (pe_callTy call_list_of rfl (C.free "list") boot_list (pa_cons (pe_ix ix_seq (pe_dget (hu_of hr) (pv 3) pe_str (fun _ _ => rfl)) (pe_op opMulU pe_int (pv 6)) (fun _ _ => rfl)) pa_nil)) pa_nil)))))))))))
      (pss_one (ps_ret (pv 5)))))))))), fun ds M q ex h => ?main⟩)
  case len => obtain ⟨_, _, _, _, rfl, _⟩ := h; rfl
  case main =>
    obtain ⟨n, b, ms, kk, rfl, hn, ob, om, ok, k⟩ := h
    have hsz : sizeLine = 16777216 := rfl
    have hle := om.le
    obtain ⟨n1, n2, n3, n4, n5, n6, n7⟩ := name_ok n hn
    have hlab : ("Noise_" : Str) ++ n ++ "_127_Mix_Mix" = lab2 n := rfl
    have slen : ∀ a b : Str, (a ++ b).length = a.length + b.length := fun a b => by
      have := congrArg List.length (TL.tl_append a b)
      rw [List.length_append] at this
      show (a ++ b).cps.size = a.cps.size + b.cps.size
      rw [← Array.length_toList, ← Array.length_toList, ← Array.length_toList]
      exact this
    have l1 : ("Noise_" : Str).length = 6 := by decide +kernel
    have l3 : ("_127_Mix_Mix" : Str).length = 12 := by decide +kernel
    walk_at "s"
    walk_at "w"
    refine ev_lcM (lab2 n).cps.toList (fun c => .str ⟨#[c]⟩) (fun c => .int ((c : Nat) : Int)) (own_name (by decide)) ?_
    refine it_str ?_
    walk_at "w"
    refine addU_str (by rw [l1]; omega) ?_
    walk_at "w"
    refine addU_str (by rw [slen, l1, l3]; omega) ?_
    rw [hlab]
    have hcl : (lab2 n).cps.toList.length = (codesM (labelS n)).length := by rw [← n4]; unfold codesM; rw [List.length_map]
    refine ⟨_, rfl, rfl, by omega, ?_, ?_⟩
    · intro i x hx
      walk_at "w"
      refine ⟨rfl, ?_⟩
      walk_at "w"
      exact cb_ord rfl ⟨rfl, rfl⟩
    have e0 : D.lst ((lab2 n).cps.toList.map fun c => D.int ((c : Nat) : Int)) = bys (codesM (labelS n)) := by
      rw [← n4]
      show _ = D.lst (((lab2 n).cps.toList.map fun c => ((c : Nat) : Int)).map D.int)
      rw [List.map_map]; rfl
    rw [e0]
    have hS : startH (labelS n) = digM (codesM (labelS n)) := if_neg (by omega)
    have o0 : okT (start0 n) := start0_ok n2
    have hs0 : start0 n = ⟨startH (labelS n), startH (labelS n), none, 0, false⟩ := rfl
    generalize codesM (labelS n) = cs at n2 n5 n6 hS ⊢
    walk_at "w"
    rw [List.length_map]
    refine ite_yes (yes_dec (by omega)) ?_
    walk_at "w"
    refine ⟨_, rfl, n2, by omega, ?_⟩
    rw [← hS]
    walk_at "w"
    have hSl : (startH (labelS n)).length = 16 := startH_len (labelS n)
    generalize startH (labelS n) = S0 at hs0 hSl ⊢
    refine ev_lcM ([] : List Nat) (fun i => .int (i : Nat)) (fun _ => .int 0) (own_name (by decide)) ?_
    refine it_rng1 ?_
    walk_at "w"
    rw [List.length_map, hSl]
    refine ⟨by decide, by decide, rfl, by decide, (fun i x hx => by simp at hx), ?_⟩
    refine addU_lst (by rw [List.length_map, hSl]; decide) ?_
    rw [List.map_nil, List.append_nil]
    walk_at "w"
    refine ev_disp fun pl hpl => ?_
    refine ep_cons ?_
    walk_at "w"
    refine ep_cons ?_
    walk_at "w"
    refine ep_cons ?_
    walk_at "w"
    refine ep_cons ?_
    walk_at "w"
    refine ep_nil ⟨by decide +kernel, by decide, 0, rfl, ?_⟩
    walk_at "w"
    have hps : D.bl (decide ((0 : Int) < ((ms.filter fun m => decide (("psk" : Str) ∈ m.2)).length : Nat))) = D.bl (usesPsk ms) := by
      refine congrArg D.bl ?_
      unfold usesPsk
      cases ha : (ms.any fun m => decide (("psk" : Str) ∈ m.2)) with
      | true =>
        obtain ⟨m, hm, hc⟩ := List.any_eq_true.mp ha
        have : m ∈ ms.filter fun m => decide (("psk" : Str) ∈ m.2) := List.mem_filter.mpr ⟨hm, hc⟩
        have hp := List.length_pos_of_mem this
        exact decide_eq_true (by omega)
      | false =>
        have : (ms.filter fun m => decide (("psk" : Str) ∈ m.2)) = [] := List.filter_eq_nil_iff.mpr fun m hm hc => by
          have := List.any_eq_false.mp ha m hm
          exact this hc
        rw [this]; rfl
    refine ev_lcF ms msgD (fun m => decide (("psk" : Str) ∈ m.2)) (fun _ => .int 0) (own_name (by decide)) ?_
    refine it_seq ?_
    walk_at "w"
    refine ix_tupD (i := 1) (d := msgsD ms) rfl ?_
    refine ⟨_, .inr rfl, rfl, by omega, ?_, ?_⟩
    · intro i m hm
      have htok := tok_strOk _ (om.tok m (List.mem_of_getElem? hm)).2.2
      walk_at "w"
      refine ix_tupD (i := 1) (d := strsT m.2) rfl ?_
      refine inU_strT (by decide +kernel) htok ?_
      walk_at "w"
      refine ⟨rfl, rfl, fun _ => ?_⟩
      walk_at "w"
      exact ⟨rfl, rfl⟩
    walk_at "w"
    rw [List.length_map, hps]
    generalize hup : usesPsk ms = up at k ⊢
    unfold lineT at k
    rw [hup] at k
    generalize hT : start0 n = T0 at hs0 o0 k
    subst hs0
    walk_at "w"
    refine ⟨pl, ⟨S0, S0, none, 0, false⟩, up, kk.pro, M, rfl, rfl, o0, ok.pro.1, by have := ok.pro.2; omega, ?_⟩
    walk_at "w"
    refine xs_forR [false, true] (fun e => .int (sdI e)) (fun (t : TSt) (r : List Bool) => r.foldl (fun t e => runP (pubK kk) up e t (befOf b e)) t) (tMix ⟨S0, S0, none, 0, false⟩ kk.pro) (fun i t Γ M' => M' = (pl, lineD t up) :: M ∧ okT t ∧ ∃ x4 x6 x7 x8 x9 x10, Γ = [some suiteD, some (.str n), some (partsD b ms), some (keysD kk), x4, some (.ref pl), x6, x7, x8, x9, x10]) ?_
    refine it_rng1 ?_
    walk_at "w"
    refine ⟨by decide, by decide, rfl, ⟨rfl, o0.mix _, _, _, _, _, _, _, rfl⟩, ?_, ?_⟩
    · rintro i e t Γ' M' he hr0 ⟨rfl, o1, x4, x6, x7, x8, x9, x10, rfl⟩
      have hr0 : List.foldl (fun t e => runP (pubK kk) up e t (befOf b e)) (runP (pubK kk) up e t (befOf b e)) _ = _ := hr0
      have hbe : befOf b e ∈ BEF := by cases e; exact ob.1; exact ob.2
      have hes : ∀ x ∈ befOf b e, x = "e" ∨ x = "s" := by
        have : (BEF.all fun l => l.all fun x => decide (x = ("e" : Str)) || decide (x = ("s" : Str))) = true := by decide +kernel
        intro x hx
        have := List.all_eq_true.mp (List.all_eq_true.mp this _ hbe) x hx
        simpa using this
      have mulc : CMulW 2 (sdI e) := wide_mul (a := 2) (b := 2) (by decide) (by cases e <;> decide) (by decide) (by decide) (by decide)
      walk_at "w"
      refine xs_forR (befOf b e) D.str (runP (pubK kk) up e) t (fun j t2 Γ M' => M' = (pl, lineD t2 up) :: M ∧ okT t2 ∧ ∃ x4 x7 x8 x9 x10, Γ = [some suiteD, some (.str n), some (partsD b ms), some (keysD kk), x4, some (.ref pl), some (.int (sdI e)), x7, x8, x9, x10]) ?_
      refine it_seq ?_
      walk_at "w"
      refine ix_tupD (i := 0) (d := befD b) rfl ?_
      walk_at "w"
      refine ix_tupD (bef_ix b e) ?_
      refine ⟨_, .inr rfl, rfl, ⟨rfl, o1, _, _, _, _, _, rfl⟩, ?_, ?_⟩
      · rintro j x t2 Γ' M' hx hr1 ⟨rfl, o2, x4, x7, x8, x9, x10, rfl⟩
        have hr1 : runP (pubK kk) up e (mixE up (tMix t2 (pubK kk e x)) x (pubK kk e x)) ((befOf b e).drop (j + 1)) = runP (pubK kk) up e t (befOf b e) := hr1
        walk_at "w"
        rcases hes x (List.mem_of_getElem? hx) with rfl | rfl
        · refine ite_yes rfl ?_
          walk_at "w"
          refine mulU_int mulc ?_
          walk_at "w"
          refine ix_lstD (kx_e kk e) ?_
          walk_at "w"
          refine ⟨pl, t2, up, pubK kk e "e", M, rfl, rfl, o2, pubM_by _, by rw [show (pubK kk e "e").length = 16 from pubM_len _]; decide, ?_⟩
          walk_at "w"
          exact ⟨_, hr1, rfl, mixE_ok (o2.mix _), _, _, _, _, _, rfl⟩
        · have e9 : mixE up (tMix t2 (pubK kk e "s")) "s" (pubK kk e "s") = tMix t2 (pubK kk e "s") := if_neg (fun z => absurd z.1 (by decide +kernel))
          rw [e9] at hr1
          refine ite_no (no_dec (by decide +kernel)) ?_
          walk_at "w"
          refine mulU_int mulc ?_
          refine ix_lstD (kx_s kk e) ?_
          walk_at "w"
          refine ⟨pl, t2, up, pubK kk e "s", M, rfl, rfl, o2, pubM_by _, by rw [show (pubK kk e "s").length = 16 from pubM_len _]; decide, ?_⟩
          walk_at "w"
          exact ⟨_, hr1, rfl, o2.mix _, _, _, _, _, _, rfl⟩
      · rintro t2 Γ' M' hr1 ⟨rfl, o2, x4, x7, x8, x9, x10, rfl⟩
        have hr1 : t2 = runP (pubK kk) up e t (befOf b e) := hr1
        rw [← hr1] at hr0
        exact ⟨_, hr0, rfl, o2, _, _, _, _, _, _, rfl⟩
    · rintro t Γ' M' hr0 ⟨rfl, o1, x4, x6, x7, x8, x9, x10, rfl⟩
      have hr0 : t = befT (pubK kk) up b (tMix ⟨S0, S0, none, 0, false⟩ kk.pro) := hr0
      walk_at "r"
      rw [hr0]
      exact k pl hpl
end
section
variable {P : Program} {w : World} {K : PySem.W.Frag} {mg : Str → Option Value} {base : Heap}
theorem sc__law_keys : FnScope N__law_keys ["_law_suite", "_law_cell_here"] (defScope s__law_keys) := ⟨rfl, rfl, rfl, by decide +kernel, rfl, by decide +kernel, by decide +kernel⟩
theorem ok__law_keys (C : Cxt K mg) (h__law_digit : Fn P w K mg base CX0 "_law_digit" 2 ["_law_state_here", "_law_many"] R__law_digit) (h__law_bytes : Fn P w K mg base CX0 "_law_bytes" 3 ["_law_state_here", "_law_count"] R__law_bytes) (h_SmallSuite_public : Me P w K mg base CX0 "SmallSuite" "public" 4 ["self", "secret"] R_SmallSuite_public) (h__law_state : Fn P w K mg base CX0 "_law_state" 1 ["_law_cell_here", "_law_salt"] R__law_state) : Fn P w K mg base CX0 "_law_keys" 5 ["_law_suite", "_law_cell_here"] R__law_keys := by
  refine Fn.of C 115 d__law_keys rfl rfl rfl rfl (by decide +kernel) sc__law_keys (fun _ _ _ _ _ _ us hl => match us, hl with | [_, _], _ => rfl) (fun ds M q ex h => ?len) (fun cdv A outer s H E hr => ⟨_, (pss_cons (ps_set (i := 2) sc__law_keys.nd rfl (Or.inr rfl) (pe_fn h__law_state hr (by decide) rfl (pa_cons (pv 1) (pa_cons pe_int pa_nil))))
      (pss_cons (ps_setLc (i := 3) (own := [("_law_k", 5)]) rfl sc__law_keys.nd rfl rfl (sw_true rfl rfl rfl (by decide +kernel)) (pi_range1 rfl (C.free "range") (pa_cons pe_int pa_nil)) (blkOk_by (N := N__law_keys) (sc := defScope s__law_keys) (by decide +kernel)) (fun _ _ _ _ _ => (pg_name (i := 5) sc__law_keys.nd rfl (Or.inl rfl))) (fun _ _ _ _ _ => pts_nil) (fun _ _ _ _ _ => (pe_fnK (K := K) rfl h__law_bytes hr (by decide) rfl (pa_cons (pv 2) (pa_cons pe_int pa_nil)))))
      (pss_cons (ps_set (i := 4) sc__law_keys.nd rfl (Or.inl rfl) (pe_disp (pps_cons pe_str (pv 3) (pps_cons pe_str (pe_lc (own := [("_law_secret", 6)]) rfl sc__law_keys.nd (pi_seq (pv 3)) (blkOk_by (N := N__law_keys) (sc := defScope s__law_keys) (by decide +kernel)) (fun _ _ _ _ _ => (pg_name (i := 6) sc__law_keys.nd rfl (Or.inl rfl))) (fun _ _ _ _ _ => pts_nil) (fun _ _ _ _ _ => (pe_meK (K := K) rfl h_SmallSuite_public hr (by decide) (pv 0) (pa_cons (pe_callTy (call_list_ofK (K := K) rfl) rfl (C.free "list") boot_list (pa_cons (pv 6) pa_nil)) pa_nil)))) pps_nil)) (by rfl) (by rfl) (fun z => by cases z) (by decide)))
      (pss_cons (ps_dput (hu_of hr) (pv 4) pe_str (pe_fn h__law_bytes hr (by decide) rfl (pa_cons (pv 2) (pa_cons pe_int pa_nil))) rfl)
      (pss_cons (ps_dput (hu_of hr) (pv 4) pe_str (pe_fn h__law_bytes hr (by decide) rfl (pa_cons (pv 2) (pa_cons (pe_fn h__law_digit hr (by decide) rfl (pa_cons (pv 2) (pa_cons pe_int pa_nil))) pa_nil))) rfl)
      (pss_cons (ps_if (pt_cmpR (opEqU hr.units) (pe_fn h__law_digit hr (by decide) rfl (pa_cons (pv 2) (pa_cons pe_int pa_nil))) pe_int (nomark _)) (pss_one (ps_dput (hu_of hr) (pv 4) pe_str (pe_op opAddU (pe_lst (pa_cons (pe_fn h__law_digit hr (by decide) rfl (pa_cons (pv 2) (pa_cons pe_int pa_nil))) pa_nil)) (pe_lc (own := [("_law_k", 5)]) rfl sc__law_keys.nd (pi_range1 rfl (C.free "range") (pa_cons pe_int pa_nil)) (blkOk_by (N := N__law_keys) (sc := defScope s__law_keys) (by decide +kernel)) (fun _ _ _ _ _ => (pg_name (i := 5) sc__law_keys.nd rfl (Or.inl rfl))) (fun _ _ _ _ _ => pts_nil) (fun _ _ _ _ _ => (pe_op op_mod (pv 5) pe_int)))) rfl)) pss_nil)
      (pss_one (ps_ret (pv 4))))))))), fun ds M q ex h => ?main⟩)
  case len => obtain ⟨_, rfl, _⟩ := h; rfl
  case main =>
    obtain ⟨c, rfl, k⟩ := h
    have hsz : sizeLine = 16777216 := rfl
    walk_at "s"
    walk_at "w"
    refine ⟨c, 3, rfl, by decide, by decide, fun p a b hp ha => ?_⟩
    walk_at "w"
    refine ev_lc (fun ds i acc M' => ∃ (a b : Int) (x : List (List Int)), M' = (p, stD a b) :: M ∧ okG a ∧ acc = x.map bys ∧ x.length = i ∧ ∀ y ∈ x, isBy y ∧ y.length = 16) (own_name (by decide)) ?_
    refine it_rng1 ?_
    walk_at "w"
    refine ⟨by decide, by decide, by decide, ⟨a, b, [], rfl, ha, rfl, rfl, fun _ z => by cases z⟩, ?_, ?_⟩
    · rintro i e acc M' he ⟨a2, b2, x, rfl, ha2, rfl, hx1, hx2⟩
      walk_at "w"
      refine ite_yes rfl ?_
      walk_at "w"
      refine ⟨p, a2, b2, 16, M, rfl, rfl, ha2, by decide, fun ys a3 b3 hy1 hy2 ha3 => ?_⟩
      refine ⟨a3, b3, x ++ [ys], rfl, ha3, by rw [List.map_append]; rfl, by rw [List.length_append, hx1]; rfl, ?_⟩
      intro y hy
      rcases List.mem_append.mp hy with hy | hy
      · exact hx2 y hy
      · cases List.mem_singleton.mp hy; exact ⟨hy1, hy2⟩
    · rintro acc M' ⟨a2, b2, x, rfl, ha2, rfl, hx1, hx2⟩
      have hx1 : x.length = 4 := hx1
      walk_at "w"
      refine ev_disp fun pk hpk => ?_
      refine ep_cons ?_
      walk_at "w"
      refine ep_cons ?_
      refine ev_lcM x bys (fun y => bys (pubM y)) (own_name (by decide)) ?_
      refine it_seq ?_
      walk_at "w"
      refine ⟨_, .inl rfl, rfl, by omega, ?_, ?_⟩
      · intro i y hy
        obtain ⟨y1, y2⟩ := hx2 y (List.mem_of_getElem? hy)
        walk_at "w"
        refine ⟨rfl, ?_⟩
        walk_at "w"
        exact ⟨y, rfl, y1, y2, rfl, rfl⟩
      refine ep_nil ⟨by decide +kernel, by decide, 0, rfl, ?_⟩
      walk_at "d"
      refine sd_perm ((p, stD a2 b2) :: (pk, .dic ["secret", "public"] [.lst (x.map bys), .lst (x.map fun y => bys (pubM y))]) :: M) (List.Perm.swap _ _ _) ?_
      walk_at "w"
      refine ⟨p, a2, b2, 32, _, rfl, rfl, ha2, by decide, fun ps a3 b3 hp1 hp2 ha3 => ?_⟩
      obtain ⟨x1, x2, x3, x4, rfl⟩ : ∃ x1 x2 x3 x4, x = [x1, x2, x3, x4] := by
        match x, hx1 with
        | [x1, x2, x3, x4], _ => exact ⟨x1, x2, x3, x4, rfl⟩
      have o1 := hx2 x1 (by simp)
      have o2 := hx2 x2 (by simp)
      have o3 := hx2 x3 (by simp)
      have o4 := hx2 x4 (by simp)
      have fin : ∀ (pr : List Int), isBy pr → pr.length ≤ 1024 → q (.dic ["secret", "public", "psk", "prologue"] [.lst ([x1, x2, x3, x4].map bys), .lst ([x1, x2, x3, x4].map fun y => bys (pubM y)), bys ps, bys pr]) M := fun pr h1 h2 =>
        k ⟨fun e x => match e, x with | false, false => x1 | false, true => x2 | true, false => x3 | true, true => x4, ps, pr⟩ ⟨fun e x => by cases e <;> cases x <;> assumption, ⟨hp1, hp2⟩, ⟨h1, h2⟩⟩
      walk_at "w"
      refine dp_new (j := 1) rfl rfl (by decide) ?_
      walk_at "w"
      refine ⟨p, a3, b3, 10, _, rfl, rfl, ha3, by decide, by decide, fun d a4 b4 d0 d1 ha4 => ?_⟩
      obtain ⟨dn, rfl⟩ : ∃ n : Nat, d = n := ⟨d.toNat, by omega⟩
      walk_at "w"
      refine ⟨p, a4, b4, dn, _, rfl, rfl, ha4, by omega, fun pr a5 b5 hr1 hr2 ha5 => ?_⟩
      walk_at "w"
      refine dp_new (j := 1) rfl rfl (by decide) ?_
      walk_at "w"
      refine ⟨p, a5, b5, 16, _, rfl, rfl, ha5, by decide, by decide, fun d2 a6 b6 e0 e1 ha6 => ?_⟩
      walk_at "w"
      by_cases h3 : d2 = 3
      · refine ite_yes (yes_dec h3) ?_
        walk_at "w"
        refine ev_lst ?_
        walk_at "w"
        refine ⟨p, a6, b6, 256, _, rfl, rfl, ha6, by decide, by decide, fun d3 a7 b7 f0 f1 ha7 => ?_⟩
        walk_at "w"
        refine ev_lcM (List.range 1023) (fun i => .int (0 + (i : Nat) * 1)) (fun i => .int ((0 + (i : Nat) * 1) % 251)) (own_name (by decide)) ?_
        refine it_rng1 ?_
        walk_at "w"
        refine ⟨by decide, by decide, rfl, by rw [List.length_range]; decide, ?_, ?_⟩
        · intro i x hx
          walk_at "w"
          refine ⟨rfl, ?_⟩
          walk_at "w"
          exact ⟨rfl, rfl⟩
        have e9 : ((List.range 1023).map fun i => D.int ((0 + ((i : Nat) : Int) * 1) % 251)) = ((List.range 1023).map fun i => ((0 + ((i : Nat) : Int) * 1) % 251)).map D.int := by rw [List.map_map]; rfl
        rw [e9]
        have hby : isBy ((List.range 1023).map fun i => ((0 + ((i : Nat) : Int) * 1) % 251)) := by
          intro z hz
          obtain ⟨i, _, rfl⟩ := List.mem_map.mp hz
          omega
        have hlen : ((List.range 1023).map fun i => ((0 + ((i : Nat) : Int) * 1) % 251)).length = 1023 := by rw [List.length_map, List.length_range]
        generalize ((List.range 1023).map fun i => ((0 + ((i : Nat) : Int) * 1) % 251)) = zs at hby hlen ⊢
        refine addU_bys (a := [d3]) (by rw [hlen]; show 1 + 1023 ≤ sizeLine; decide) ?_
        walk_at "w"
        refine dp_old (j := 1) rfl (by decide +kernel) rfl (by decide) ?_
        walk_at "w"
        refine sd_forget 0 rfl ?_
        refine sd_frz (i := 4) (j := 0) rfl rfl ?_
        walk_at "r"
        exact fin _ ((isBy.one f0 f1).app hby) (by rw [List.length_append, hlen]; show 1 + 1023 ≤ 1024; decide)
      · refine ite_no (no_dec h3) ?_
        walk_at "w"
        refine sd_forget 0 rfl ?_
        refine sd_frz (i := 4) (j := 0) rfl rfl ?_
        walk_at "r"
        exact fin pr hr1 (by omega)
end
section
/-- an end of the law -/
def hEnd (kk : Keys) (n : Str) (b : Bef) (ms : List Msg) (e : Bool) : HSt :=
  ⟨n, b, ms, !e, if nSec b ms e = true then some (kk.s e false) else none, if nEph b ms e = true then some (kk.s e true) else none, if ("s" : Str) ∈ befOf b (!e) then some (pubK kk (!e) "s") else none,
    if ("e" : Str) ∈ befOf b (!e) then some (pubK kk (!e) "e") else none, if usesPsk ms = true then some kk.psk else none, 0⟩
theorem hEnd_new (kk : Keys) (n : Str) (b : Bef) (ms : List Msg) (e : Bool) : hNew n b ms (!e) (if nSec b ms e = true then some (kk.s e false) else none) (some (kk.s e true)) (if ("s" : Str) ∈ befOf b (!e) then some (pubK kk (!e) "s") else none) (if ("e" : Str) ∈ befOf b (!e) then some (pubK kk (!e) "e") else none) (if usesPsk ms = true then some kk.psk else none) = hEnd kk n b ms e := by
  unfold hNew hEnd pick
  rw [Bool.not_not]
  congr 1
  · cases nSec b ms e <;> rfl
  · by_cases h : ("s" : Str) ∈ befOf b (!e) <;> simp [h]
  · by_cases h : ("e" : Str) ∈ befOf b (!e) <;> simp [h]
  · cases usesPsk ms <;> rfl
theorem bef_es {b : Bef} (o : okB b) (e : Bool) : ∀ x ∈ befOf b e, x = "e" ∨ x = "s" := by
  have hbe : befOf b e ∈ BEF := by cases e; exact o.1; exact o.2
  have : (BEF.all fun l => l.all fun x => decide (x = ("e" : Str)) || decide (x = ("s" : Str))) = true := by decide +kernel
  intro x hx
  have := List.all_eq_true.mp (List.all_eq_true.mp this _ hbe) x hx
  simpa using this
theorem hEnd_bef {kk : Keys} {n : Str} {b : Bef} {ms : List Msg} {e : Bool} (ob : okB b) (ok : okKeys kk) : befOk (pubK kk) (hEnd kk n b ms e) := by
  intro e2 x hx
  have hxb : x ∈ befOf b e2 := hx
  clear hx
  refine ⟨pubM_by _, pubM_len _, ?_⟩
  have hes := bef_es ob e2 x hxb
  by_cases h : e2 = e
  · rw [if_pos (by show e2 = !(!e); rw [Bool.not_not]; exact h)]
    subst h
    obtain ⟨s1, s2⟩ := ok.s e2 (isE x)
    refine ⟨kk.s e2 (isE x), ?_, s1, s2, rfl⟩
    rcases hes with rfl | rfl
    · show (if nEph b ms e2 = true then some (kk.s e2 true) else none) = _
      rw [if_pos (by unfold nEph; rw [decide_eq_true hxb]; rfl)]; rfl
    · show (if nSec b ms e2 = true then some (kk.s e2 false) else none) = _
      rw [if_pos (by unfold nSec; rw [decide_eq_true hxb]; rfl)]; rfl
  · have h2 : e2 = !e := by cases e2 <;> cases e <;> simp_all
    rw [if_neg (by show ¬ e2 = !(!e); rw [Bool.not_not]; exact h)]
    subst h2
    rcases hes with rfl | rfl
    · show (if ("e" : Str) ∈ befOf b (!e) then some (pubK kk (!e) "e") else none) = _
      rw [if_pos hxb]
    · show (if ("s" : Str) ∈ befOf b (!e) then some (pubK kk (!e) "s") else none) = _
      rw [if_pos hxb]
def R__law_end (K : PySem.W.Frag) : SpR := fun ds M q ex => ∃ (n : Str) (b : Bef) (ms : List Msg) (e wo : Bool) (kk : Keys), ds = [suiteD, patD n b ms, partsD b ms, .int (sdI e), keysD kk, .bl wo] ∧ n ∈ NAMES ∧ okB b ∧ okM ms ∧ okKeys kk ∧ Strong ∧ brokenM b ms = false ∧
  (((decide (("e" : Str) ∈ befOf b (!e)) && wo) = true) → ∀ p, p ∉ dom M → ex (.ref (He.ga K "Refused")) ((p, .obj "Handshake" [] []) :: M)) ∧
  (((decide (("e" : Str) ∈ befOf b (!e)) && wo) = false) → ∀ pt p, p ∉ dom M → pt ∉ dom ((p, .obj "Handshake" [] []) :: M) → q (.ref p) (hM pt p (lineT kk n b ms) (hEnd kk n b ms e) M))
end
section
variable {P : Program} {w : World} {K : PySem.W.Frag} {mg : Str → Option Value} {base : Heap}
theorem sc__law_end : FnScope N__law_end ["_law_suite", "_law_pattern", "_law_parts", "_law_side", "_law_keys_here", "_law_without"] (defScope s__law_end) := ⟨rfl, rfl, rfl, by decide +kernel, rfl, by decide +kernel, by decide +kernel⟩
theorem ok__law_end (C : Cxt K mg) (h_Handshake___init__ : Mh P w K mg base 10 (R_Handshake___init__ K)) (h__law_shows : Fn P w K mg base CX0 "_law_shows" 1 ["_law_before_here", "_law_messages_here", "_law_side", "_law_beforehand"] R__law_shows) : Fn P w K mg base (L2.CX P w) "_law_end" 12 ["_law_suite", "_law_pattern", "_law_parts", "_law_side", "_law_keys_here", "_law_without"] (R__law_end K) := by
  refine Fn.ofX C 103 d__law_end rfl rfl rfl rfl (by decide +kernel) sc__law_end (fun _ _ _ _ _ _ us hl => match us, hl with | [_, _, _, _, _, _], _ => rfl) (fun ds M q ex h => ?len) (fun cdv A outer s H E hr => ⟨_, (pss_cons (ps_asg (pv 2) (pg_tup rfl (pgs_cons (pg_name (i := 6) sc__law_end.nd rfl (Or.inl rfl)) (pgs_cons (pg_name (i := 7) sc__law_end.nd rfl (Or.inl rfl)) pgs_nil))))
      (pss_cons (ps_set (i := 8) sc__law_end.nd rfl (Or.inl rfl) (pe_lst (pa_cons pe_non (pa_cons pe_non (pa_cons pe_non (pa_cons pe_non pa_nil))))))
      (pss_cons (ps_if (pt_val (pe_fn h__law_shows hr (by decide) rfl (pa_cons (pv 6) (pa_cons (pv 7) (pa_cons (pv 3) (pa_cons pe_bl pa_nil)))))) (pss_one (ps_asg (pe_callTy call_list_of rfl (C.free "list") boot_list (pa_cons (pe_ix ix_seq (pe_dget (hu_of hr) (pv 4) pe_str (fun _ _ => rfl)) (pe_op opMulU pe_int (pv 3)) (fun _ _ => rfl)) pa_nil)) (pg_sub (pv 8) pe_int set_list))) pss_nil)
      (pss_cons (ps_if (pt_val (pe_fn h__law_shows hr (by decide) rfl (pa_cons (pv 6) (pa_cons (pv 7) (pa_cons (pe_op op_sub pe_int (pv 3)) (pa_cons pe_bl pa_nil)))))) (pss_one (ps_asg (pe_callTy call_list_of rfl (C.free "list") boot_list (pa_cons (pe_ix ix_seq (pe_dget (hu_of hr) (pv 4) pe_str (fun _ _ => rfl)) (pe_op op_sub pe_int (pe_op opMulU pe_int (pv 3))) (fun _ _ => rfl)) pa_nil)) (pg_sub (pv 8) pe_int set_list))) pss_nil)
      (pss_cons (ps_if (PW.pt (pw_and (pt_cmpR (opInU (u65 hr)) pe_str (pe_ix ix_seq (pv 6) (pe_op op_sub pe_int (pv 3)) (fun _ _ => rfl)) (by rfl)) (pw_and1 (pt_not (pt_val (pv 5)))))) (pss_one (ps_asg (pe_callTy call_list_of rfl (C.free "list") boot_list (pa_cons (pe_ix ix_seq (pe_dget (hu_of hr) (pv 4) pe_str (fun _ _ => rfl)) (pe_op op_sub pe_int (pe_op opMulU pe_int (pv 3))) (fun _ _ => rfl)) pa_nil)) (pg_sub (pv 8) pe_int set_list))) pss_nil)
      (pss_cons (ps_if (pt_cmpR op_gt (pe_callB call_len rfl (C.free "len") boot_len (pa_cons (pe_lc (own := [("_law_message_here", 9)]) rfl sc__law_end.nd (pi_seq (pv 7)) (blkOk_by (N := N__law_end) (sc := defScope s__law_end) (by decide +kernel)) (fun _ _ _ _ _ => (pg_name (i := 9) sc__law_end.nd rfl (Or.inl rfl))) (fun _ _ _ _ _ => (pts_one (pt_cmpR (opInUK (K := K) rfl (u65 hr)) pe_str (pe_ix (ix_seqK (K := K) rfl) (pv 9) pe_int (fun _ _ => rfl)) (by rfl)))) (fun _ _ _ _ _ => pe_int)) pa_nil)) pe_int (nomark _)) (pss_one (ps_asg (pe_callTy call_list_of rfl (C.free "list") boot_list (pa_cons (pe_dget (hu_of hr) (pv 4) pe_str (fun _ _ => rfl)) pa_nil)) (pg_sub (pv 8) pe_int set_list))) pss_nil)
      (pss_one (ps_ret (pe_ma7 h_Handshake___init__ hr (by decide) rfl (takes_of rfl rfl rfl rfl) (pa_cons (pv 0) (pa_cons (pv 1) pa_nil)) (pk_cons (pe_cmpR (opEqU hr.units) (pv 3) pe_int (nomark _)) (pk_cons (pe_callTy call_list_of rfl (C.free "list") boot_list (pa_cons (pe_dget (hu_of hr) (pv 4) pe_str (fun _ _ => rfl)) pa_nil)) (pk_cons (pe_ix ix_seq (pv 8) pe_int (fun _ _ => rfl)) (pk_cons (pe_callTy call_list_of rfl (C.free "list") boot_list (pa_cons (pe_ix ix_seq (pe_dget (hu_of hr) (pv 4) pe_str (fun _ _ => rfl)) (pe_op opAddU (pe_op opMulU pe_int (pv 3)) pe_int) (fun _ _ => rfl)) pa_nil)) (pk_cons (pe_ix ix_seq (pv 8) pe_int (fun _ _ => rfl)) (pk_cons (pe_ix ix_seq (pv 8) pe_int (fun _ _ => rfl)) (pk_cons (pe_ix ix_seq (pv 8) pe_int (fun _ _ => rfl)) pk_nil)))))))))))))))), fun ds M q ex h => ?main⟩)
  case len => obtain ⟨_, _, _, _, _, _, rfl, _⟩ := h; rfl
  case main =>
    obtain ⟨n, b, ms, e, wo, kk, rfl, hn, ob, om, ok, strong, hbr, k1, k2⟩ := h
    have hsz : sizeLine = 16777216 := rfl
    have hle := om.le
    have mulc : CMulW 2 (sdI e) := wide_mul (a := 2) (b := 2) (by decide) (by cases e <;> decide) (by decide) (by decide) (by decide)
    have e1m : (1 : Int) - sdI e = sdI (!e) := by cases e <;> rfl
    have e2m : (2 : Int) - 2 * sdI e = 2 * sdI (!e) := by cases e <;> rfl
    have e3m : (3 : Int) - 2 * sdI e = 2 * sdI (!e) + 1 := by cases e <;> rfl
    have ks : atI [bys (kk.s false false), bys (kk.s false true), bys (kk.s true false), bys (kk.s true true)] (2 * sdI e) = some (bys (kk.s e false)) := by cases e <;> rfl
    have ke : atI [bys (kk.s false false), bys (kk.s false true), bys (kk.s true false), bys (kk.s true true)] (2 * sdI e + 1) = some (bys (kk.s e true)) := by cases e <;> rfl
    walk_at "s"
    walk_at "w"
    refine ev_lstC ?_
    walk_at "w"
    intro pg hpg
    walk_at "d"
    walk_at "d"
    -- the four given keys
    let G : List D → Gm := fun l => [some suiteD, some (patD n b ms), some (partsD b ms), some (.int (sdI e)), some (keysD kk), some (.bl wo), some (befD b), some (msgsD ms), some (.ref pg), none]
    refine xs_join [some suiteD, some (patD n b ms), some (partsD b ms), some (.int (sdI e)), some (keysD kk), some (.bl wo), some (befD b), some (msgsD ms), some (.ref pg), none] ((pg, .lst [keyD (if nSec b ms e = true then some (kk.s e false) else none), .non, .non, .non]) :: M) ?_ ?_
    · walk_at "w"
      refine ⟨b, ms, e, false, rfl, ob, om, ?_⟩
      walk_at "w"
      have hsh : showsM b ms e false = nSec b ms e := by unfold showsM nSec; rw [Bool.not_false, Bool.true_and]
      rw [hsh]
      cases nSec b ms e with
      | true =>
        refine ite_yes rfl ?_
        walk_at "w"
        refine mulU_int mulc ?_
        refine ix_lstD ks ?_
        walk_at "w"
        refine gt_sub ?_
        walk_at "w"
        refine sto_list (j := 0) rfl (n := 0) rfl ?_
        exact ⟨rfl, rfl⟩
      | false =>
        refine ite_no (fun z => by cases z) ?_
        walk_at "w"
        exact ⟨rfl, rfl⟩
    generalize hv0 : (if nSec b ms e = true then some (kk.s e false) else none) = v0
    walk_at "d"
    refine xs_join [some suiteD, some (patD n b ms), some (partsD b ms), some (.int (sdI e)), some (keysD kk), some (.bl wo), some (befD b), some (msgsD ms), some (.ref pg), none] ((pg, .lst [keyD v0, keyD (if ("s" : Str) ∈ befOf b (!e) then some (pubK kk (!e) "s") else none), .non, .non]) :: M) ?_ ?_
    · walk_at "w"
      rw [e1m]
      refine ⟨b, ms, !e, true, rfl, ob, om, ?_⟩
      walk_at "w"
      have hsh : showsM b ms (!e) true = decide (("s" : Str) ∈ befOf b (!e)) := by unfold showsM; rw [Bool.not_true, Bool.false_and, Bool.or_false]
      rw [hsh]
      by_cases h : ("s" : Str) ∈ befOf b (!e)
      · rw [if_pos h]
        refine ite_yes (yes_dec h) ?_
        walk_at "w"
        refine mulU_int mulc ?_
        walk_at "w"
        rw [e2m]
        refine ix_lstD (kx_s kk (!e)) ?_
        walk_at "w"
        refine gt_sub ?_
        walk_at "w"
        refine sto_list (j := 0) rfl (n := 1) rfl ?_
        exact ⟨rfl, rfl⟩
      · rw [if_neg h]
        refine ite_no (no_dec h) ?_
        walk_at "w"
        exact ⟨rfl, rfl⟩
    generalize hv1 : (if ("s" : Str) ∈ befOf b (!e) then some (pubK kk (!e) "s") else none) = v1
    walk_at "d"
    refine xs_join [some suiteD, some (patD n b ms), some (partsD b ms), some (.int (sdI e)), some (keysD kk), some (.bl wo), some (befD b), some (msgsD ms), some (.ref pg), none] ((pg, .lst [keyD v0, keyD v1, keyD (if (decide (("e" : Str) ∈ befOf b (!e)) && !wo) = true then some (pubK kk (!e) "e") else none), .non]) :: M) ?_ ?_
    · walk_at "w"
      rw [e1m]
      refine ix_tupD (bef_ix b (!e)) ?_
      refine inU_strT (by decide +kernel) (befOf_ok ob (!e)) ?_
      walk_at "w"
      by_cases h : ("e" : Str) ∈ befOf b (!e)
      · rw [decide_eq_true h, Bool.true_and]
        refine ite_yes rfl ?_
        walk_at "w"
        cases wo with
        | false =>
          refine ite_yes rfl ?_
          walk_at "w"
          refine mulU_int mulc ?_
          walk_at "w"
          rw [e3m]
          refine ix_lstD (kx_e kk (!e)) ?_
          walk_at "w"
          refine gt_sub ?_
          walk_at "w"
          refine sto_list (j := 0) rfl (n := 2) rfl ?_
          exact ⟨rfl, rfl⟩
        | true =>
          refine ite_no (fun z => by cases z) ?_
          walk_at "w"
          exact ⟨rfl, rfl⟩
      · rw [decide_eq_false h, Bool.false_and]
        refine ite_no (fun z => by cases z) ?_
        refine ite_no (by decide) ?_
        walk_at "w"
        exact ⟨rfl, rfl⟩
    generalize hv2 : (if (decide (("e" : Str) ∈ befOf b (!e)) && !wo) = true then some (pubK kk (!e) "e") else none) = v2
    walk_at "d"
    refine xs_join [some suiteD, some (patD n b ms), some (partsD b ms), some (.int (sdI e)), some (keysD kk), some (.bl wo), some (befD b), some (msgsD ms), some (.ref pg), none] ((pg, .lst [keyD v0, keyD v1, keyD v2, keyD (if usesPsk ms = true then some kk.psk else none)]) :: M) ?_ ?_
    · walk_at "w"
      refine ev_lcF ms msgD (fun m => decide (("psk" : Str) ∈ m.2)) (fun _ => .int 0) (own_name (by decide)) ?_
      refine it_seq ?_
      walk_at "w"
      refine ⟨_, .inr rfl, rfl, by omega, ?_, ?_⟩
      · intro i m hm
        have htok := tok_strOk _ (om.tok m (List.mem_of_getElem? hm)).2.2
        walk_at "w"
        refine ix_tupD (i := 1) (d := strsT m.2) rfl ?_
        refine inU_strT (by decide +kernel) htok ?_
        walk_at "w"
        refine ⟨rfl, rfl, fun _ => ?_⟩
        walk_at "w"
        exact ⟨rfl, rfl⟩
      walk_at "w"
      rw [List.length_map]
      have hps : decide ((0 : Int) < ((ms.filter fun m => decide (("psk" : Str) ∈ m.2)).length : Nat)) = usesPsk ms := by
        unfold usesPsk
        cases ha : (ms.any fun m => decide (("psk" : Str) ∈ m.2)) with
        | true =>
          obtain ⟨m, hm, hc⟩ := List.any_eq_true.mp ha
          have : m ∈ ms.filter fun m => decide (("psk" : Str) ∈ m.2) := List.mem_filter.mpr ⟨hm, hc⟩
          have hp := List.length_pos_of_mem this
          exact decide_eq_true (by omega)
        | false =>
          have : (ms.filter fun m => decide (("psk" : Str) ∈ m.2)) = [] := List.filter_eq_nil_iff.mpr fun m hm hc => by
            have := List.any_eq_false.mp ha m hm
            exact this hc
          rw [this]; rfl
      rw [hps]
      cases usesPsk ms with
      | true =>
        refine ite_yes rfl ?_
        walk_at "w"
        refine gt_sub ?_
        walk_at "w"
        refine sto_list (j := 0) rfl (n := 3) rfl ?_
        exact ⟨rfl, rfl⟩
      | false =>
        refine ite_no (fun z => by cases z) ?_
        walk_at "w"
        exact ⟨rfl, rfl⟩
    generalize hv3 : (if usesPsk ms = true then some kk.psk else none) = v3
    refine sd_frz (i := 8) (j := 0) rfl rfl ?_
    refine xx_ret (evx_make (fun ds es => g7 ds es) rps_cat ?_)
    have eo : decide (sdI e = 0) = !e := by cases e <;> rfl
    have hlk : lacks [v0, some (kk.s e true), v1, v2, v3] (needs b ms (!(!e))) = (decide (("e" : Str) ∈ befOf b (!e)) && wo) := by
      rw [Bool.not_not, ← hv0, ← hv1, ← hv2, ← hv3]
      unfold needs
      show ((nSec b ms e && _) || ((nEph b ms e && false) || ((decide (("s" : Str) ∈ befOf b (!e)) && _) || ((decide (("e" : Str) ∈ befOf b (!e)) && _) || ((usesPsk ms && _) || false))))) = _
      rw [Bool.and_false, Bool.false_or, Bool.or_false]
      have a0 : (nSec b ms e && (if nSec b ms e = true then some (kk.s e false) else none).isNone) = false := by cases nSec b ms e <;> rfl
      have a1 : (decide (("s" : Str) ∈ befOf b (!e)) && (if ("s" : Str) ∈ befOf b (!e) then some (pubK kk (!e) "s") else none).isNone) = false := by by_cases h : ("s" : Str) ∈ befOf b (!e) <;> simp [h]
      have a3 : (usesPsk ms && (if usesPsk ms = true then some kk.psk else none).isNone) = false := by cases usesPsk ms <;> rfl
      rw [a0, a1, a3, Bool.false_or, Bool.false_or, Bool.or_false]
      by_cases h : ("e" : Str) ∈ befOf b (!e) <;> cases wo <;> simp [h]
    walk_at "w"
    refine ix_lstD (d := keyD v0) rfl ?_
    walk_at "w"
    refine mulU_int mulc ?_
    walk_at "w"
    refine ix_lstD ke ?_
    walk_at "w"
    refine ix_lstD (d := keyD v1) rfl ?_
    walk_at "w"
    refine ix_lstD (d := keyD v2) rfl ?_
    walk_at "w"
    refine ix_lstD (d := keyD v3) rfl ?_
    walk_at "w"
    rw [eo]
    refine ⟨rfl, rfl, fun p hp => ?_⟩
    refine ⟨p, n, b, ms, !e, bys kk.pro, v0, some (kk.s e true), v1, v2, v3, M, rfl, rfl, ob, om, fun hbad => ?_, fun hgood => ?_⟩
    · rw [hbr, hlk] at hbad
      exact k1 (hbad.resolve_left (fun z => by cases z)) p hp
    · have hw := hgood.2
      rw [hlk] at hw
      have hv2' : v2 = if ("e" : Str) ∈ befOf b (!e) then some (pubK kk (!e) "e") else none := by
        rw [← hv2]
        by_cases h : ("e" : Str) ∈ befOf b (!e) <;> cases wo <;> simp [h] at hw ⊢
      have hnew : hNew n b ms (!e) v0 (some (kk.s e true)) v1 v2 v3 = hEnd kk n b ms e := by
        rw [← hEnd_new, ← hv0, ← hv1, hv2', ← hv3]
      rw [hnew]
      obtain ⟨nm1, nm2, nm3, nm4, nm5, nm6, nm7⟩ := name_ok n hn
      refine ⟨pubK kk, kk.pro, rfl, ok.pro.1, ok.pro.2, nm1, nm2, ?_, ?_, ?_, ?_, ?_, ?_, ?_, hEnd_bef ob ok, fun pt hpt => ?_⟩
      · rw [Bool.not_not]
        intro z
        exact ⟨_, by rw [← hv0, if_pos z], (ok.s e false).1, (ok.s e false).2⟩
      · intro _
        exact ⟨_, rfl, (ok.s e true).1, (ok.s e true).2⟩
      · intro z
        exact ⟨pubK kk (!e) "s", by rw [← hv1, if_pos (of_decide_eq_true z)], pubM_by _, pubM_len _⟩
      · intro z
        exact ⟨pubK kk (!e) "e", by rw [hv2', if_pos (of_decide_eq_true z)], pubM_by _, pubM_len _⟩
      · intro z
        exact ⟨_, by rw [← hv3, if_pos z], ok.psk.1, ok.psk.2⟩
      · intro x hx
        have hx : (if ("s" : Str) ∈ befOf b (!e) then some (pubK kk (!e) "s") else none) = some x := hx
        split at hx
        · cases hx; exact strong _
        · cases hx
      · intro x hx
        have hx : (if ("e" : Str) ∈ befOf b (!e) then some (pubK kk (!e) "e") else none) = some x := hx
        split at hx
        · cases hx; exact strong _
        · cases hx
      · refine ⟨rfl, ?_⟩
        have hpsk : (hEnd kk n b ms e).psk.isSome = usesPsk ms := by unfold hEnd; cases usesPsk ms <;> rfl
        rw [hpsk]
        exact k2 hw pt p hp hpt
end
section
def R__law_refused : SpR := fun ds M q _ => ∃ (n : Str) (b : Bef) (ms : List Msg) (kk : Keys), ds = [suiteD, patD n b ms, keysD kk] ∧ okB b ∧ okM ms ∧ brokenM b ms = true ∧ q (.bl true) M
end
section
variable {P : Program} {w : World} {K : PySem.W.Frag} {mg : Str → Option Value} {base : Heap}
theorem sc__law_refused : FnScope N__law_refused ["_law_suite", "_law_pattern", "_law_keys_here"] (defScope s__law_refused) := ⟨rfl, rfl, rfl, by decide +kernel, rfl, by decide +kernel, by decide +kernel⟩
theorem ok__law_refused (C : Cxt K mg) (h_Handshake___init__ : Mh P w K mg base 10 (R_Handshake___init__ K)) : Fn P w K mg base CX0 "_law_refused" 12 ["_law_suite", "_law_pattern", "_law_keys_here"] R__law_refused := by
  refine Fn.of C 104 d__law_refused rfl rfl rfl rfl (by decide +kernel) sc__law_refused (fun _ _ _ _ _ _ us hl => match us, hl with | [_, _, _], _ => rfl) (fun ds M q ex h => ?len) (fun cdv A outer s H E hr => ⟨_, (pss_cons (ps_set (i := 3) sc__law_refused.nd rfl (Or.inl rfl) pe_int)
      (pss_cons (ps_for PassesOwn.never rfl (pi_range1 rfl (C.free "range") (pa_cons pe_int pa_nil)) (pg_name (i := 4) sc__law_refused.nd rfl (Or.inl rfl)) (pss_one (ps_tryK (K := K) rfl (i := 5) rfl rfl sc__law_refused.nd rfl rfl ⟨rfl, by decide, .inl (C.glo "HushError")⟩ takes0 (fun W pn xe tk po => (pss_one (ps_expr (pe_ma6K (K := K) rfl h_Handshake___init__ hr (by decide) rfl tk (pa_cons (pv 0) (pa_cons (pv 1) pa_nil)) (pk_cons (pe_cmpR (opEqUK (K := K) rfl hr.units) (pv 4) pe_int (nomark _)) (pk_cons (pe_callTy (call_list_ofK (K := K) rfl) rfl (C.free "list") boot_list (pa_cons (pe_ix (ix_seqK (K := K) rfl) (pe_dget (hu_of hr) (pv 2) pe_str (fun _ _ => rfl)) (pe_op opMulU pe_int (pv 4)) (fun _ _ => rfl)) pa_nil)) (pk_cons (pe_callTy (call_list_ofK (K := K) rfl) rfl (C.free "list") boot_list (pa_cons (pe_ix (ix_seqK (K := K) rfl) (pe_dget (hu_of hr) (pv 2) pe_str (fun _ _ => rfl)) (pe_op (opAddUK (K := K) rfl) (pe_op opMulU pe_int (pv 4)) pe_int) (fun _ _ => rfl)) pa_nil)) (pk_cons (pe_callTy (call_list_ofK (K := K) rfl) rfl (C.free "list") boot_list (pa_cons (pe_ix (ix_seqK (K := K) rfl) (pe_dget (hu_of hr) (pv 2) pe_str (fun _ _ => rfl)) (pe_op op_sub pe_int (pe_op opMulU pe_int (pv 4))) (fun _ _ => rfl)) pa_nil)) (pk_cons (pe_callTy (call_list_ofK (K := K) rfl) rfl (C.free "list") boot_list (pa_cons (pe_ix (ix_seqK (K := K) rfl) (pe_dget (hu_of hr) (pv 2) pe_str (fun _ _ => rfl)) (pe_op op_sub pe_int (pe_op opMulU pe_int (pv 4))) (fun _ _ => rfl)) pa_nil)) (pk_cons (pe_callTy (call_list_ofK (K := K) rfl) rfl (C.free "list") boot_list (pa_cons (pe_dget (hu_of hr) (pv 2) pe_str (fun _ _ => rfl)) pa_nil)) pk_nil))))))))))
      (fun a oe cls d pn hz hf => pss_when (K := K) (cls := cls) (d := d) (fun hg => (pss_one (ps_if (PW.pt (pw_and (pt_val (pe_callB (call_isEK (K := K) rfl hg.2.2 (zc_of hg hz) hf) rfl (C.free "isinstance") boot_isinstance (pa_cons (pv 5) (pa_cons (pe_gref rfl (C.glo "Refused")) pa_nil)))) (pw_and1 (pt_not (pt_val (pe_callB (call_isEK (K := K) rfl hg.2.2 (zc_of hg hz) hf) rfl (C.free "isinstance") boot_isinstance (pa_cons (pv 5) (pa_cons (pe_gref rfl (C.glo "OutOfOrder")) pa_nil)))))))) (pss_one (ps_set (i := 3) sc__law_refused.nd rfl (Or.inl rfl) (pe_op (opAddUK (K := K) rfl) (pv 3) pe_int))) pss_nil)))))))
      (pss_one (ps_ret (pe_cmpR (opEqU hr.units) (pv 3) pe_int (nomark _)))))), fun ds M q ex h => ?main⟩)
  case len => obtain ⟨_, _, _, _, rfl, _⟩ := h; rfl
  case main =>
    obtain ⟨n, b, ms, kk, rfl, ob, om, hbr, k⟩ := h
    obtain ⟨i1, i2, i3, i4, i5, i6⟩ := C.isi
    walk_at "s"
    walk_at "w"
    refine xs_forR [false, true] (fun e => .int (sdI e)) (fun (_ : Unit) _ => ()) () (fun i _ Γ M' => M' = M ∧ ∃ x4 x5, Γ = [some suiteD, some (patD n b ms), some (keysD kk), some (.int (i : Nat)), x4, x5]) ?_
    refine it_rng1 ?_
    walk_at "w"
    refine ⟨by decide, by decide, rfl, ⟨rfl, _, _, rfl⟩, ?_, ?_⟩
    · rintro i e _ Γ' M' he _ ⟨rfl, x4, x5, rfl⟩
      have mulc : CMulW 2 (sdI e) := wide_mul (a := 2) (b := 2) (by decide) (by cases e <;> decide) (by decide) (by decide) (by decide)
      have e2m : (2 : Int) - 2 * sdI e = 2 * sdI (!e) := by cases e <;> rfl
      have e3m : (3 : Int) - 2 * sdI e = 2 * sdI (!e) + 1 := by cases e <;> rfl
      have ks : atI [bys (kk.s false false), bys (kk.s false true), bys (kk.s true false), bys (kk.s true true)] (2 * sdI e) = some (bys (kk.s e false)) := by cases e <;> rfl
      have ke : atI [bys (kk.s false false), bys (kk.s false true), bys (kk.s true false), bys (kk.s true true)] (2 * sdI e + 1) = some (bys (kk.s e true)) := by cases e <;> rfl
      have eo : decide (sdI e = 0) = !e := by cases e <;> rfl
      walk_at "d"
      refine xs_tryT fun W' => ?_
      refine xx_drop (evx_make (fun ds es => g6 (.ref (hsPro K)) ds es) (fun r1 r2 => r1.app ((r2.take 1).app (.cons (.ref _) (r2.drop 1)))) ?_)
      walk_at "w"
      refine mulU_int mulc ?_
      refine ix_lstD ks ?_
      walk_at "w"
      refine mulU_int mulc ?_
      walk_at "w"
      refine ix_lstD ke ?_
      walk_at "w"
      refine mulU_int mulc ?_
      walk_at "w"
      rw [e2m]
      refine ix_lstD (kx_s kk (!e)) ?_
      walk_at "w"
      refine mulU_int mulc ?_
      walk_at "w"
      rw [e3m]
      refine ix_lstD (kx_e kk (!e)) ?_
      walk_at "w"
      rw [eo]
      refine ⟨rfl, rfl, fun p hp => ?_⟩
      refine ⟨p, n, b, ms, !e, .ref (hsPro K), some (kk.s e false), some (kk.s e true), some (pubK kk (!e) "s"), some (pubK kk (!e) "e"), some kk.psk, M', rfl, rfl, ob, om, fun _ => ?_, fun hg => by rw [hbr] at hg; cases hg.1⟩
      refine ⟨C.exm "Refused" (.inl rfl), fun a ha => ?_⟩
      refine xs_when ⟨rfl, rfl, i1⟩ ?_
      walk_at "w"
      refine ev_refc ?_
      walk_at "w"
      refine cb_isE (cv := .none) i3 ?_
      walk_at "w"
      refine ite_yes rfl ?_
      walk_at "w"
      refine ev_refc ?_
      walk_at "w"
      refine cb_isE (cv := .none) i4 ?_
      walk_at "w"
      refine ite_yes rfl ?_
      refine sd_forget 0 rfl ?_
      walk_at "w"
      exact ⟨(), rfl, rfl, _, _, rfl⟩
    · rintro _ Γ' M' _ ⟨rfl, x4, x5, rfl⟩
      walk_at "r"
      exact k
end
section
def R__law_out_of_order : SpR := fun ds M q _ => ∃ (pt p : Addr) (t : TSt) (h : HSt) (wh : Int) (M0 : Mem), ds = [.ref p, .int wh] ∧ M = hM pt p t h M0 ∧ okT t ∧ okH h ∧ h.idx ≤ h.ms.length ∧ t.num ≤ 900000 ∧
  ((wh = 0 ∧ wrNext h = false ∧ t.ended = false) ∨ (wh = 1 ∧ t.ended = false ∧ (h.idx = h.ms.length ∨ wrNext h = true)) ∨ (wh = 2 ∧ (h.idx ≠ h.ms.length ∨ t.ended = true))) ∧ q (.bl true) M
end
section
variable {P : Program} {w : World} {K : PySem.W.Frag} {mg : Str → Option Value} {base : Heap}
theorem sc__law_out_of_order : FnScope N__law_out_of_order ["_law_end_here", "_law_which"] (defScope s__law_out_of_order) := ⟨rfl, rfl, rfl, by decide +kernel, rfl, by decide +kernel, by decide +kernel⟩
theorem ok__law_out_of_order (C : Cxt K mg) (h_Handshake_write : Me P w K mg base (L2.CX P w) "Handshake" "write" 9 ["self", "payload"] (R_Handshake_write K)) (h_Handshake_read : Me P w K mg base (L2.CX P w) "Handshake" "read" 10 ["self", "message"] (R_Handshake_read K)) (h_Handshake_split : Me P w K mg base (L2.CX P w) "Handshake" "split" 8 ["self"] (R_Handshake_split K)) : Fn P w K mg base CX0 "_law_out_of_order" 11 ["_law_end_here", "_law_which"] R__law_out_of_order := by
  refine Fn.of C 106 d__law_out_of_order rfl rfl rfl rfl (by decide +kernel) sc__law_out_of_order (fun _ _ _ _ _ _ us hl => match us, hl with | [_, _], _ => rfl) (fun ds M q ex h => ?len) (fun cdv A outer s H E hr => ⟨_, (pss_cons (ps_tryK (K := K) rfl (i := 2) rfl rfl sc__law_out_of_order.nd rfl rfl ⟨rfl, by decide, .inl (C.glo "HushError")⟩ takes0 (fun W pn xe tk po => (pss_one (ps_if (pt_cmpR (opEqUK (K := K) rfl hr.units) (pv 1) pe_int (nomark _)) (pss_one (ps_expr (pe_meXK (K := K) rfl h_Handshake_write hr (by decide) tk (pv 0) (pa_cons (pe_lst pa_nil) pa_nil)))) (pss_one (ps_if (pt_cmpR (opEqUK (K := K) rfl hr.units) (pv 1) pe_int (nomark _)) (pss_one (ps_expr (pe_meXK (K := K) rfl h_Handshake_read hr (by decide) tk (pv 0) (pa_cons (pe_lc (own := [("_law_k", 3)]) rfl sc__law_out_of_order.nd (pi_range1 rfl (C.free "range") (pa_cons pe_int pa_nil)) (blkOk_by (N := N__law_out_of_order) (sc := defScope s__law_out_of_order) (by decide +kernel)) (fun _ _ _ _ _ => (pg_name (i := 3) sc__law_out_of_order.nd rfl (Or.inl rfl))) (fun _ _ _ _ _ => pts_nil) (fun _ _ _ _ _ => pe_int)) pa_nil)))) (pss_one (ps_expr (pe_meX0K (K := K) rfl h_Handshake_split hr (by decide) tk (pv 0)))))))))
      (fun a oe cls d pn hz hf => pss_when (K := K) (cls := cls) (d := d) (fun hg => (pss_one (ps_ret (pe_and (pe_callB (call_isEK (K := K) rfl hg.2.2 (zc_of hg hz) hf) rfl (C.free "isinstance") boot_isinstance (pa_cons (pv 2) (pa_cons (pe_gref rfl (C.glo "OutOfOrder")) pa_nil))) (pe_one (pe_not (pe_callB (call_isEK (K := K) rfl hg.2.2 (zc_of hg hz) hf) rfl (C.free "isinstance") boot_isinstance (pa_cons (pv 2) (pa_cons (pe_gref rfl (C.glo "Refused")) pa_nil)))))))))))
      (pss_one (ps_ret pe_bl))), fun ds M q ex h => ?main⟩)
  case len => obtain ⟨_, _, _, _, _, _, rfl, _⟩ := h; rfl
  case main =>
    obtain ⟨pt, p, t, h, wh, M0, rfl, rfl, o, oh, hi, hn, hcase, k⟩ := h
    obtain ⟨i1, i2, i3, i4, i5, i6⟩ := C.isi
    walk_at "s"
    walk_at "d"
    refine xs_tryT fun W' => ?_
    have fin : PySem.W.exmOne K (.ref (He.ga K "OutOfOrder")) (.ref (He.ga K "HushError")) = some true := C.exm "OutOfOrder" (.inr rfl)
    walk_at "w"
    rcases hcase with ⟨rfl, hw, he⟩ | ⟨rfl, he, hd⟩ | ⟨rfl, hd⟩
    · refine ite_yes (yes_dec rfl) ?_
      refine xx_drop (evx_meth ?_)
      walk_at "w"
      refine ev_lst (ea_nil ⟨by decide, ?_⟩)
      walk_at "w"
      refine ⟨pt, p, t, h, [], M0, rfl, rfl, o, he, hn, oh, hi, (fun _ z => by cases z), by decide, fun z => (by rw [hw] at z; cases z), fun _ => ?_⟩
      refine ⟨fin, fun a ha => ?_⟩
      refine xs_when ⟨rfl, rfl, i2⟩ ?_
      refine xs_ret (ev_andV ?_)
      walk_at "w"
      refine ev_refc ?_
      walk_at "w"
      refine cb_isE (cv := .none) i5 ?_
      walk_at "w"
      refine ite_yes rfl ?_
      walk_at "w"
      refine ev_refc ?_
      walk_at "w"
      refine cb_isE (cv := .none) i6 ?_
      walk_at "w"
      exact k
    · refine ite_no (no_dec (by decide)) ?_
      walk_at "w"
      refine ite_yes (yes_dec rfl) ?_
      refine xx_drop (evx_meth ?_)
      walk_at "w"
      refine ev_lcM (List.range 100) (fun i => .int (0 + (i : Nat) * 1)) (fun _ => .int 7) (own_name (by decide)) ?_
      refine it_rng1 ?_
      walk_at "w"
      refine ⟨by decide, by decide, rfl, by rw [List.length_range]; decide, ?_, ?_⟩
      · intro i x hx
        walk_at "w"
        refine ⟨rfl, ?_⟩
        walk_at "w"
        exact ⟨rfl, rfl⟩
      have e9 : ((List.range 100).map fun _ => D.int 7) = (List.replicate 100 (7 : Int)).map D.int := by simp [List.map_const']
      rw [e9]
      walk_at "w"
      refine ⟨pt, p, t, h, List.replicate 100 7, M0, rfl, rfl, o, he, hn, oh, hi, fun z => ?_, fun _ => ?_⟩
      · exfalso
        rcases hd with hd | hd
        · omega
        · rw [hd] at z; cases z.2
      refine ⟨fin, fun a ha => ?_⟩
      refine xs_when ⟨rfl, rfl, i2⟩ ?_
      refine xs_ret (ev_andV ?_)
      walk_at "w"
      refine ev_refc ?_
      walk_at "w"
      refine cb_isE (cv := .none) i5 ?_
      walk_at "w"
      refine ite_yes rfl ?_
      walk_at "w"
      refine ev_refc ?_
      walk_at "w"
      refine cb_isE (cv := .none) i6 ?_
      walk_at "w"
      exact k
    · refine ite_no (no_dec (by decide)) ?_
      walk_at "w"
      refine ite_no (no_dec (by decide)) ?_
      refine xx_drop (evx_meth ?_)
      walk_at "w"
      refine ⟨pt, p, t, h, M0, rfl, rfl, o, fun z => ?_, fun _ => ?_⟩
      · exfalso
        rcases hd with hd | hd
        · exact hd z.1
        · rw [hd] at z; cases z.2
      refine ⟨fin, fun a ha => ?_⟩
      refine xs_when ⟨rfl, rfl, i2⟩ ?_
      refine xs_ret (ev_andV ?_)
      walk_at "w"
      refine ev_refc ?_
      walk_at "w"
      refine cb_isE (cv := .none) i5 ?_
      walk_at "w"
      refine ite_yes rfl ?_
      walk_at "w"
      refine ev_refc ?_
      walk_at "w"
      refine cb_isE (cv := .none) i6 ?_
      walk_at "w"
      exact k
end
section
def R__law_lacks : SpR := fun ds M q _ => ∃ (n : Str) (b : Bef) (ms : List Msg) (kk : Keys), ds = [suiteD, patD n b ms, partsD b ms, keysD kk] ∧ n ∈ NAMES ∧ okB b ∧ okM ms ∧ okKeys kk ∧ Strong ∧ brokenM b ms = false ∧ q (.bl true) M
end
section
variable {P : Program} {w : World} {K : PySem.W.Frag} {mg : Str → Option Value} {base : Heap}
theorem sc__law_lacks : FnScope N__law_lacks ["_law_suite", "_law_pattern", "_law_parts", "_law_keys_here"] (defScope s__law_lacks) := ⟨rfl, rfl, rfl, by decide +kernel, rfl, by decide +kernel, by decide +kernel⟩
theorem ok__law_lacks (C : Cxt K mg) (h__law_end : Fn P w K mg base (L2.CX P w) "_law_end" 12 ["_law_suite", "_law_pattern", "_law_parts", "_law_side", "_law_keys_here", "_law_without"] (R__law_end K)) : Fn P w K mg base CX0 "_law_lacks" 13 ["_law_suite", "_law_pattern", "_law_parts", "_law_keys_here"] R__law_lacks := by
  refine Fn.of C 105 d__law_lacks rfl rfl rfl rfl (by decide +kernel) sc__law_lacks (fun _ _ _ _ _ _ us hl => match us, hl with | [_, _, _, _], _ => rfl) (fun ds M q ex h => ?len) (fun cdv A outer s H E hr => ⟨_, (pss_cons (ps_for PassesOwn.never rfl (pi_range1 rfl (C.free "range") (pa_cons pe_int pa_nil)) (pg_name (i := 4) sc__law_lacks.nd rfl (Or.inl rfl)) (pss_cons (ps_set (i := 5) sc__law_lacks.nd rfl (Or.inl rfl) (pe_cmpR (opNotInU (u65 hr)) pe_str (pe_ix ix_seq (pe_ix ix_seq (pv 2) pe_int (fun _ _ => rfl)) (pe_op op_sub pe_int (pv 4)) (fun _ _ => rfl)) (by rfl)))
      (pss_cons (ps_tryK (K := K) rfl (i := 6) rfl rfl sc__law_lacks.nd rfl rfl ⟨rfl, by decide, .inl (C.glo "HushError")⟩ takes0 (fun W pn xe tk po => (pss_one (ps_expr (pe_fnXK (K := K) rfl h__law_end hr (by decide) rfl tk (pa_cons (pv 0) (pa_cons (pv 1) (pa_cons (pv 2) (pa_cons (pv 4) (pa_cons (pv 3) (pa_cons pe_bl pa_nil))))))))))
      (fun a oe cls d pn hz hf => pss_when (K := K) (cls := cls) (d := d) (fun hg => (pss_cons (ps_if (PW.pt (pw_or (pt_val (pv 5)) (pw_or1 (pt_not (pt_val (pe_callB (call_isEK (K := K) rfl hg.2.2 (zc_of hg hz) hf) rfl (C.free "isinstance") boot_isinstance (pa_cons (pv 6) (pa_cons (pe_gref rfl (C.glo "Refused")) pa_nil)))))))) (pss_one (ps_ret pe_bl)) pss_nil)
      (pss_one (ps_set (i := 5) sc__law_lacks.nd rfl (Or.inl rfl) pe_bl))))))
      (pss_one (ps_if (pt_not (pt_val (pv 5))) (pss_one (ps_ret pe_bl)) pss_nil)))))
      (pss_one (ps_ret pe_bl))), fun ds M q ex h => ?main⟩)
  case len => obtain ⟨_, _, _, _, rfl, _⟩ := h; rfl
  case main =>
    obtain ⟨n, b, ms, kk, rfl, hn, ob, om, ok, strong, hbr, k⟩ := h
    obtain ⟨i1, i2, i3, i4, i5, i6⟩ := C.isi
    walk_at "s"
    walk_at "w"
    refine xs_forR [false, true] (fun e => .int (sdI e)) (fun (_ : Unit) _ => ()) () (fun i _ Γ M' => M' = M ∧ ∃ x4 x5 x6, Γ = [some suiteD, some (patD n b ms), some (partsD b ms), some (keysD kk), x4, x5, x6]) ?_
    refine it_rng1 ?_
    walk_at "w"
    refine ⟨by decide, by decide, rfl, ⟨rfl, _, _, _, rfl⟩, ?_, ?_⟩
    · rintro i e _ Γ' M' he _ ⟨rfl, x4, x5, x6, rfl⟩
      have e1m : (1 : Int) - sdI e = sdI (!e) := by cases e <;> rfl
      walk_at "w"
      refine ix_tupD (i := 0) (d := befD b) rfl ?_
      walk_at "w"
      rw [e1m]
      refine ix_tupD (bef_ix b (!e)) ?_
      refine notInU_strT (by decide +kernel) (befOf_ok ob (!e)) ?_
      walk_at "w"
      refine xs_joinP (fun Γ' M'' => M'' = M' ∧ ∃ x6, Γ' = [some suiteD, some (patD n b ms), some (partsD b ms), some (keysD kk), some (.int (sdI e)), some (.bl true), x6]) ?_ ?_
      · by_cases h : ("e" : Str) ∈ befOf b (!e)
        · rw [decide_eq_true h]
          refine xs_tryT fun W' => ?_
          refine xx_drop (evx_call ?_)
          walk_at "w"
          refine ⟨n, b, ms, e, true, kk, rfl, hn, ob, om, ok, strong, hbr, fun _ p hp => ?_, (fun z => by rw [decide_eq_true h] at z; cases z)⟩
          refine ⟨C.exm "Refused" (.inl rfl), fun a ha => ?_⟩
          refine xs_when ⟨rfl, rfl, i1⟩ ?_
          walk_at "w"
          refine ite_no (fun z => by cases z) ?_
          walk_at "w"
          refine ev_refc ?_
          walk_at "w"
          refine cb_isE (cv := .none) i3 ?_
          walk_at "w"
          refine ite_no (fun z => by cases z) ?_
          refine sd_forget 0 rfl ?_
          walk_at "w"
          exact ⟨rfl, _, rfl⟩
        · rw [decide_eq_false h]
          refine xs_tryT fun W' => ?_
          refine xx_drop (evx_forget (evx_forget (evx_call ?_)))
          walk_at "w"
          refine ⟨n, b, ms, e, true, kk, rfl, hn, ob, om, ok, strong, hbr, (fun z => by rw [decide_eq_false h] at z; cases z), fun _ pt p hp hpt => ?_⟩
          exact ⟨0, _, _, rfl, 0, _, _, rfl, rfl, _, rfl⟩
      · rintro Γ' M'' ⟨rfl, x6, rfl⟩
        walk_at "w"
        refine ite_no (fun z => by cases z) ?_
        walk_at "w"
        exact ⟨(), rfl, rfl, _, _, _, rfl⟩
    · rintro _ Γ' M' _ ⟨rfl, x4, x5, x6, rfl⟩
      walk_at "r"
      exact k
end
section
def R__law_turn : SpR := fun ds M q _ => ∃ (ptw pw ptr pr pl : Addr) (t : TSt) (hw hr : HSt) (up : Bool) (m : Msg) (pay : List Int) (kk : Keys) (M0 : Mem),
  ds = [suiteD, .ref pl, .lst (if m.1 = true then [.ref pr, .ref pw] else [.ref pw, .ref pr]), msgD m, bys pay, keysD kk] ∧ M = (ptw, trD t) :: (pw, hsD hw ptw) :: (ptr, trD t) :: (pr, hsD hr ptr) :: (pl, lineD t up) :: M0 ∧
  okT t ∧ t.ended = false ∧ t.num ≤ 800000 ∧ okH hw ∧ okH hr ∧ hw.idx < hw.ms.length ∧ hr.idx < hr.ms.length ∧ hw.ms[hw.idx]? = some m ∧ hr.ms[hr.idx]? = some m ∧ hw.op = (!m.1) ∧ hr.op = m.1 ∧ hw.psk.isSome = up ∧ hr.psk.isSome = up ∧
  isBy pay ∧ pay.length ≤ 100 ∧ okKeys kk ∧ Strong ∧ (∀ x ∈ m.2, wok (wdK kk up m.1) hw x) ∧ rokL (wdK kk up m.1) hr m.2 ∧
  ∀ M1, M1 = (ptr, trD (msgT (wdK kk up m.1) t m.2 pay)) :: (pr, hsD { hRdL (wdK kk up m.1) hr m.2 with idx := hr.idx + 1 } ptr) :: (ptw, trD (msgT (wdK kk up m.1) t m.2 pay)) :: (pw, hsD { hw with idx := hw.idx + 1 } ptw) :: (pl, lineD (msgT (wdK kk up m.1) t m.2 pay) up) :: M0 → q (.bl true) M1
end
section
variable {P : Program} {w : World} {K : PySem.W.Frag} {mg : Str → Option Value} {base : Heap}
theorem sc__law_turn : FnScope N__law_turn ["_law_suite", "_law_line_here", "_law_ends", "_law_message_here", "_law_payload", "_law_keys_here"] (defScope s__law_turn) := ⟨rfl, rfl, rfl, by decide +kernel, rfl, by decide +kernel, by decide +kernel⟩
theorem ok__law_turn (C : Cxt K mg) (h_Handshake_hash : Me P w K mg base CX0 "Handshake" "hash" 2 ["self"] R_Handshake_hash) (h_Handshake_read : Me P w K mg base (L2.CX P w) "Handshake" "read" 10 ["self", "message"] (R_Handshake_read K)) (h__law_message : Fn P w K mg base CX0 "_law_message" 9 ["_law_suite", "_law_line_here", "_law_message_here", "_law_payload", "_law_keys_here"] R__law_message) (h_Handshake_write : Me P w K mg base (L2.CX P w) "Handshake" "write" 9 ["self", "payload"] (R_Handshake_write K)) (h_Handshake_overhead : Me P w K mg base CX0 "Handshake" "overhead" 3 ["self"] R_Handshake_overhead) (h__law_out_of_order : Fn P w K mg base CX0 "_law_out_of_order" 11 ["_law_end_here", "_law_which"] R__law_out_of_order) (h_Handshake_writes_next : Me P w K mg base CX0 "Handshake" "writes_next" 2 ["self"] R_Handshake_writes_next) : Fn P w K mg base CX0 "_law_turn" 12 ["_law_suite", "_law_line_here", "_law_ends", "_law_message_here", "_law_payload", "_law_keys_here"] R__law_turn := by
  refine Fn.of C 113 d__law_turn rfl rfl rfl rfl (by decide +kernel) sc__law_turn (fun _ _ _ _ _ _ us hl => match us, hl with | [_, _, _, _, _, _], _ => rfl) (fun ds M q ex h => ?len) (fun cdv A outer s H E hr => ⟨_, (pss_cons (ps_set (i := 6) sc__law_turn.nd rfl (Or.inl rfl) (pe_callTy call_int1 rfl (C.free "int") boot_int (pa_cons (pe_cmpR (opEqU hr.units) (pe_ix ix_seq (pv 3) pe_int (fun _ _ => rfl)) pe_str (nomark _)) pa_nil)))
      (pss_cons (ps_par (i := 7) (j := 8) rfl sc__law_turn.nd rfl rfl (by decide) rfl rfl (pa_cons (pe_ix ix_seq (pv 2) (pv 6) (fun _ _ => rfl)) (pa_cons (pe_ix ix_seq (pv 2) (pe_op op_sub pe_int (pv 6)) (fun _ _ => rfl)) pa_nil)) (by rfl))
      (pss_cons (ps_if (PW.pt (pw_or (pt_cmpR opIsNotU (pe_me0 h_Handshake_writes_next hr (by decide) (pv 7)) pe_bl (nomark _)) (pw_or1 (pt_cmpR opIsNotU (pe_me0 h_Handshake_writes_next hr (by decide) (pv 8)) pe_bl (nomark _))))) (pss_one (ps_ret pe_bl)) pss_nil)
      (pss_cons (ps_if (PW.pt (pw_or (pt_not (pt_val (pe_fn h__law_out_of_order hr (by decide) rfl (pa_cons (pv 7) (pa_cons pe_int pa_nil))))) (pw_or (pt_not (pt_val (pe_fn h__law_out_of_order hr (by decide) rfl (pa_cons (pv 8) (pa_cons pe_int pa_nil))))) (pw_or1 (pt_not (pt_val (pe_fn h__law_out_of_order hr (by decide) rfl (pa_cons (pv 8) (pa_cons pe_int pa_nil))))))))) (pss_one (ps_ret pe_bl)) pss_nil)
      (pss_cons (ps_set (i := 9) sc__law_turn.nd rfl (Or.inl rfl) (pe_me0 h_Handshake_overhead hr (by decide) (pv 7)))
      (pss_cons (ps_set (i := 10) sc__law_turn.nd rfl (Or.inl rfl) (pe_meL h_Handshake_write hr (by decide) (pv 7) (pa_cons (pe_callTy call_list_of rfl (C.free "list") boot_list (pa_cons (pv 4) pa_nil)) pa_nil)))
      (pss_cons (ps_if (PW.pt (pw_or (pt_cmpR (opNeU hr.units) (pv 10) (pe_fn h__law_message hr (by decide) rfl (pa_cons (pv 0) (pa_cons (pv 1) (pa_cons (pv 3) (pa_cons (pv 4) (pa_cons (pv 5) pa_nil)))))) (nomark _)) (pw_or1 (pt_cmpR (opNeU hr.units) (pe_callB call_len rfl (C.free "len") boot_len (pa_cons (pv 10) pa_nil)) (pe_op opAddU (pe_callB call_len rfl (C.free "len") boot_len (pa_cons (pv 4) pa_nil)) (pv 9)) (nomark _))))) (pss_one (ps_ret pe_bl)) pss_nil)
      (pss_cons (ps_set (i := 11) sc__law_turn.nd rfl (Or.inl rfl) (pe_meL h_Handshake_read hr (by decide) (pv 8) (pa_cons (pe_callTy call_list_of rfl (C.free "list") boot_list (pa_cons (pv 10) pa_nil)) pa_nil)))
      (pss_cons (ps_if (PW.pt (pw_or (pt_not (pt_val (pe_callB call_isi rfl (C.free "isinstance") boot_isinstance (pa_cons (pv 11) (pa_cons (pe_bltn (v := .ty "list") rfl (C.free "list") boot_list rfl) pa_nil))))) (pw_or1 (pt_cmpR (opNeU hr.units) (pv 11) (pv 4) (nomark _))))) (pss_one (ps_ret pe_bl)) pss_nil)
      (pss_one (ps_ret (pe_and (pe_cmpR (opEqU hr.units) (pe_me0 h_Handshake_hash hr (by decide) (pv 7)) (pe_dget (hu_of hr) (pv 1) pe_str (fun _ _ => rfl)) (nomark _)) (pe_one (pe_cmpR (opEqU hr.units) (pe_me0 h_Handshake_hash hr (by decide) (pv 8)) (pe_dget (hu_of hr) (pv 1) pe_str (fun _ _ => rfl)) (nomark _))))))))))))))), fun ds M q ex h => ?main⟩)
  case len => obtain ⟨_, _, _, _, _, _, _, _, _, _, _, _, _, rfl, _⟩ := h; rfl
  case main =>
    obtain ⟨ptw, pw, ptr, pr, pl, t, hw, hr', up, m, pay, kk, M0, rfl, rfl, o, he, hn, ohw, ohr, iw, ir, mw, mr, opw, opr, upw, upr, hp, hpl, ok, strong, hwok, hrok, k⟩ := h
    have okl : okL m := ohw.om.line (List.mem_of_getElem? mw)
    have e1m : (1 : Int) - sdI m.1 = sdI (!m.1) := by cases m.1 <;> rfl
    have ixw : atI (if m.1 = true then [D.ref pr, D.ref pw] else [D.ref pw, D.ref pr]) (sdI m.1) = some (.ref pw) := by cases m.1 <;> rfl
    have ixr : atI (if m.1 = true then [D.ref pr, D.ref pw] else [D.ref pw, D.ref pr]) (sdI (!m.1)) = some (.ref pr) := by cases m.1 <;> rfl
    have wnw : wrNext hw = true := by unfold wrNext; rw [mw]; dsimp only; rw [opw]; cases m.1 <;> rfl
    have wnr : wrNext hr' = false := by unfold wrNext; rw [mr]; dsimp only; rw [opr]; cases m.1 <;> rfl
    walk_at "s"
    walk_at "w"
    refine ix_tupD (i := 0) (d := arD m.1) rfl ?_
    walk_at "w"
    refine cb_int ?_
    rw [sd_ix]
    walk_at "w"
    refine ix_lstD ixw ?_
    walk_at "w"
    rw [e1m]
    refine ix_lstD ixr ?_
    walk_at "p"
    refine ev_methP ?_
    walk_at "w"
    refine ⟨_, List.Perm.refl _, ptw, pw, t, hw, _, rfl, rfl, by omega, ?_⟩
    rw [wnw]
    walk_at "w"
    refine ite_no (by decide) ?_
    walk_at "p"
    refine ev_methP ?_
    walk_at "w"
    refine ⟨_, perm_swap2 _ _ _ _ _, ptr, pr, t, hr', _, rfl, rfl, by omega, ?_⟩
    rw [wnr]
    walk_at "w"
    refine ite_no (by decide) ?_
    walk_at "p"
    refine ev_callP ?_
    walk_at "w"
    refine ⟨_, perm_swap2 _ _ _ _ _, ptw, pw, t, hw, 1, _, rfl, rfl, o, ohw, by omega, by omega, .inr (.inl ⟨rfl, he, .inr wnw⟩), ?_⟩
    walk_at "p"
    refine ite_no (by decide) ?_
    walk_at "p"
    refine ev_callP ?_
    walk_at "w"
    refine ⟨_, perm_swap2 _ _ _ _ _, ptr, pr, t, hr', 0, _, rfl, rfl, o, ohr, by omega, by omega, .inl ⟨rfl, wnr, he⟩, ?_⟩
    walk_at "p"
    refine ite_no (by decide) ?_
    walk_at "p"
    refine ev_callP ?_
    walk_at "w"
    refine ⟨_, List.Perm.refl _, ptr, pr, t, hr', 2, _, rfl, rfl, o, ohr, by omega, by omega, .inr (.inr ⟨rfl, .inl (by omega)⟩), ?_⟩
    walk_at "p"
    refine ite_no (by decide) ?_
    walk_at "p"
    refine ev_methP ?_
    walk_at "w"
    refine ⟨_, perm_swap2 _ _ _ _ _, ptw, pw, t, hw, _, rfl, rfl, by omega, ?_⟩
    walk_at "p"
    refine ev_methP ?_
    walk_at "w"
    refine ⟨_, List.Perm.refl _, ptw, pw, t, hw, pay, _, rfl, rfl, o, he, by omega, ohw, by omega, hp, hpl, fun _ => ⟨wdK kk up m.1, m, mw, hwok, by rw [upw]; rfl, ?_⟩, fun z => by rw [wnw] at z; cases z⟩
    have hp16 : ∀ x : Str, x = "e" ∨ x = "s" → ((wdK kk up m.1).pub x).length = 16 := fun _ _ => pubM_len _
    have hlen := ov_len (wdK kk up m.1) hp16 t m.2 pay
    have hov : ovH hw t = ovM up t.key.isSome m.2 := by unfold ovH; rw [mw]; dsimp only; rw [upw]
    have hup : (wdK kk up m.1).up = up := rfl
    rw [hup] at hlen
    rw [hov]
    generalize hB : msgB (wdK kk up m.1) t m.2 pay = B at hlen ⊢
    generalize hT : msgT (wdK kk up m.1) t m.2 pay = T' at k ⊢
    walk_at "p"
    refine ev_callP ?_
    walk_at "w"
    refine ⟨_, perm_last _ _ _ _ _ _, pl, t, up, m, pay, kk, _, rfl, rfl, o, by omega, okl, hp, hpl, ok, strong, ?_⟩
    rw [hB, hT]
    walk_at "p"
    refine ite_no (no_not rfl) ?_
    walk_at "p"
    rw [List.length_map, List.length_map]
    refine ite_no (no_not (by omega)) ?_
    walk_at "p"
    refine ev_methP ?_
    walk_at "w"
    refine ⟨_, perm_rev _ _ _ _ _ _, ptr, pr, t, hr', B, _, rfl, rfl, o, he, by omega, ohr, by omega, fun _ => ⟨wdK kk up m.1, m, pay, mr, hrok, by rw [upr]; rfl, hp16, hB.symm, hp, hpl, ?_⟩, fun z => ?_⟩
    · rw [hT]
      walk_at "p"
      refine cb_isList ?_
      walk_at "p"
      refine ite_no (by decide) ?_
      walk_at "p"
      refine ite_no (no_not rfl) ?_
      walk_at "p"
      refine xs_ret (ev_andV ?_)
      walk_at "p"
      refine ev_methP ?_
      walk_at "w"
      refine ⟨_, perm_swap2 _ _ _ _ _, ptw, pw, T', _, _, rfl, rfl, ?_⟩
      walk_at "w"
      refine ite_yes (yes_dec rfl) ?_
      walk_at "p"
      refine ev_methP ?_
      walk_at "w"
      refine ⟨_, perm_swap2 _ _ _ _ _, ptr, pr, T', _, _, rfl, rfl, ?_⟩
      walk_at "w"
      rw [decide_eq_true rfl]
      exact k _ rfl
    · exfalso
      rcases z with z | z
      · omega
      · rw [wnr] at z; cases z
end
section
def R__law_agree : SpR := fun ds M q _ => ∃ (pt0 p0 pt1 p1 pl : Addr) (t : TSt) (h0 h1 : HSt) (up : Bool) (b : Bef) (ms : List Msg) (kk : Keys) (M0 : Mem),
  ds = [suiteD, .ref pl, .lst [.ref p0, .ref p1], partsD b ms, keysD kk] ∧ M = (pt0, trD t) :: (p0, hsD h0 pt0) :: (pt1, trD t) :: (p1, hsD h1 pt1) :: (pl, lineD t up) :: M0 ∧
  okT t ∧ t.ended = false ∧ t.num ≤ 900000 ∧ okB b ∧ okM ms ∧ okH h0 ∧ okH h1 ∧ h0.idx = h0.ms.length ∧ h1.idx = h1.ms.length ∧
  h0.peer = (if showsM b ms (!false) false = true then some (pubK kk (!false) "s") else none) ∧ h1.peer = (if showsM b ms (!true) false = true then some (pubK kk (!true) "s") else none) ∧
  ∀ M1, M1.Perm ((pt1, trD { t with ended := true }) :: (p1, hsD h1 pt1) :: (pt0, trD { t with ended := true }) :: (p0, hsD h0 pt0) :: (pl, lineD t up) :: M0) → q (.bl true) M1
end
section
variable {P : Program} {w : World} {K : PySem.W.Frag} {mg : Str → Option Value} {base : Heap}
theorem sc__law_agree : FnScope N__law_agree ["_law_suite", "_law_line_here", "_law_ends", "_law_parts", "_law_keys_here"] (defScope s__law_agree) := ⟨rfl, rfl, rfl, by decide +kernel, rfl, by decide +kernel, by decide +kernel⟩
theorem ok__law_agree (C : Cxt K mg) (h__law_out_of_order : Fn P w K mg base CX0 "_law_out_of_order" 11 ["_law_end_here", "_law_which"] R__law_out_of_order) (h_Handshake_split : Me P w K mg base (L2.CX P w) "Handshake" "split" 8 ["self"] (R_Handshake_split K)) (h_SmallSuite_keyed : Me P w K mg base CX0 "SmallSuite" "keyed" 5 ["self", "key", "data"] R_SmallSuite_keyed) (h_Handshake_peer : Me P w K mg base CX0 "Handshake" "peer" 1 ["self"] R_Handshake_peer) (h__law_shows : Fn P w K mg base CX0 "_law_shows" 1 ["_law_before_here", "_law_messages_here", "_law_side", "_law_beforehand"] R__law_shows) (h_Handshake_is_done : Me P w K mg base CX0 "Handshake" "is_done" 1 ["self"] R_Handshake_is_done) : Fn P w K mg base CX0 "_law_agree" 12 ["_law_suite", "_law_line_here", "_law_ends", "_law_parts", "_law_keys_here"] R__law_agree := by
  refine Fn.of C 114 d__law_agree rfl rfl rfl rfl (by decide +kernel) sc__law_agree (fun _ _ _ _ _ _ us hl => match us, hl with | [_, _, _, _, _], _ => rfl) (fun ds M q ex h => ?len) (fun cdv A outer s H E hr => ⟨_, (pss_cons (ps_set (i := 5) sc__law_agree.nd rfl (Or.inl rfl) (pe_me h_SmallSuite_keyed hr (by decide) (pv 0) (pa_cons (pe_dget (hu_of hr) (pv 1) pe_str (fun _ _ => rfl)) (pa_cons (pe_lst pa_nil) pa_nil))))
      (pss_cons (ps_set (i := 6) sc__law_agree.nd rfl (Or.inl rfl) (pe_me h_SmallSuite_keyed hr (by decide) (pv 0) (pa_cons (pv 5) (pa_cons (pe_lst (pa_cons pe_int pa_nil)) pa_nil))))
      (pss_cons (ps_for PassesOwn.never rfl (pi_range1 rfl (C.free "range") (pa_cons pe_int pa_nil)) (pg_name (i := 7) sc__law_agree.nd rfl (Or.inl rfl)) (pss_cons (ps_set (i := 8) sc__law_agree.nd rfl (Or.inl rfl) (pe_ix ix_seq (pv 2) (pv 7) (fun _ _ => rfl)))
      (pss_cons (ps_if (PW.pt (pw_or (pt_cmpR opIsNotU (pe_me0 h_Handshake_is_done hr (by decide) (pv 8)) pe_bl (nomark _)) (pw_or (pt_not (pt_val (pe_fn h__law_out_of_order hr (by decide) rfl (pa_cons (pv 8) (pa_cons pe_int pa_nil))))) (pw_or1 (pt_not (pt_val (pe_fn h__law_out_of_order hr (by decide) rfl (pa_cons (pv 8) (pa_cons pe_int pa_nil))))))))) (pss_one (ps_ret pe_bl)) pss_nil)
      (pss_cons (ps_set (i := 9) sc__law_agree.nd rfl (Or.inl rfl) pe_non)
      (pss_cons (ps_if (pt_val (pe_fn h__law_shows hr (by decide) rfl (pa_cons (pe_ix ix_seq (pv 3) pe_int (fun _ _ => rfl)) (pa_cons (pe_ix ix_seq (pv 3) pe_int (fun _ _ => rfl)) (pa_cons (pe_op op_sub pe_int (pv 7)) (pa_cons pe_bl pa_nil)))))) (pss_one (ps_set (i := 9) sc__law_agree.nd rfl (Or.inl rfl) (pe_ix ix_seq (pe_dget (hu_of hr) (pv 4) pe_str (fun _ _ => rfl)) (pe_op op_sub pe_int (pe_op opMulU pe_int (pv 7))) (fun _ _ => rfl)))) pss_nil)
      (pss_cons (ps_if (PW.pt (pw_or (pt_cmpR (opNeU hr.units) (pe_me0 h_Handshake_peer hr (by decide) (pv 8)) (pv 9) (nomark _)) (pw_or1 (pt_cmpR (opNeU hr.units) (pe_meL0 h_Handshake_split hr (by decide) (pv 8)) (pe_tup (pa_cons (pv 6) (pa_cons (pe_me h_SmallSuite_keyed hr (by decide) (pv 0) (pa_cons (pv 5) (pa_cons (pe_op opAddU (pv 6) (pe_lst (pa_cons pe_int pa_nil))) pa_nil))) pa_nil))) (nomark _))))) (pss_one (ps_ret pe_bl)) pss_nil)
      (pss_one (ps_if (pt_not (pt_val (pe_fn h__law_out_of_order hr (by decide) rfl (pa_cons (pv 8) (pa_cons pe_int pa_nil))))) (pss_one (ps_ret pe_bl)) pss_nil))))))))
      (pss_one (ps_ret pe_bl))))), fun ds M q ex h => ?main⟩)
  case len => obtain ⟨_, _, _, _, _, _, _, _, _, _, _, _, _, rfl, _⟩ := h; rfl
  case main =>
    obtain ⟨pt0, p0, pt1, p1, pl, t, h0, h1, up, b, ms, kk, M0, rfl, rfl, o, he, hn, ob, om, ok0, ok1, i0, i1, pe0, pe1, k⟩ := h
    have w0 : wrNext h0 = false := by unfold wrNext; rw [i0, List.getElem?_eq_none (Nat.le_refl _)]
    have w1 : wrNext h1 = false := by unfold wrNext; rw [i1, List.getElem?_eq_none (Nat.le_refl _)]
    have oE : okT { t with ended := true } := ⟨o.h1, o.h2, o.c1, o.c2, o.k, o.n0, o.n1⟩
    have hc := o.c2
    walk_at "s"
    walk_at "w"
    refine ev_lst (ea_nil ⟨by decide, ?_⟩)
    walk_at "w"
    refine ⟨_, [], rfl, o.c1, by omega, (fun _ z => by cases z), by decide, ?_⟩
    walk_at "w"
    refine ⟨_, [1], rfl, keyM_by _ _, by simp, isBy.one (by decide) (by decide), by decide, ?_⟩
    walk_at "w"
    refine xs_for (fun ds i Γ M' => ds = [.int 0, .int 1] → M'.Perm (if i = 0 then (pt0, trD t) :: (p0, hsD h0 pt0) :: (pt1, trD t) :: (p1, hsD h1 pt1) :: (pl, lineD t up) :: M0 else if i = 1 then (pt0, trD { t with ended := true }) :: (p0, hsD h0 pt0) :: (pt1, trD t) :: (p1, hsD h1 pt1) :: (pl, lineD t up) :: M0 else (pt1, trD { t with ended := true }) :: (p1, hsD h1 pt1) :: (pt0, trD { t with ended := true }) :: (p0, hsD h0 pt0) :: (pl, lineD t up) :: M0) ∧ ∃ x7 x8 x9, Γ = [some suiteD, some (.ref pl), some (.lst [.ref p0, .ref p1]), some (partsD b ms), some (keysD kk), some (bys (keyM t.chain [])), some (bys (keyM (keyM t.chain []) [1])), x7, x8, x9]) ?_
    refine it_rng1 ?_
    walk_at "w"
    refine ⟨by decide, by decide, fun _ => ⟨List.Perm.refl _, _, _, _, rfl⟩, ?_, ?_⟩
    · rintro i d Γ' M' hd hp'
      obtain ⟨hperm, x7, x8, x9, rfl⟩ := hp' rfl
      have hi : i < 2 := (List.getElem?_eq_some_iff.mp hd).1
      have hcase : (i = 0 ∧ d = .int (sdI false)) ∨ (i = 1 ∧ d = .int (sdI true)) := by
        have : i = 0 ∨ i = 1 := by omega
        rcases this with rfl | rfl
        · exact .inl ⟨rfl, (Option.some.inj hd).symm⟩
        · exact .inr ⟨rfl, (Option.some.inj hd).symm⟩
      rcases hcase with ⟨rfl, rfl⟩ | ⟨rfl, rfl⟩
      · rw [if_pos rfl] at hperm
        have e1m : (1 : Int) - sdI false = sdI (!false) := rfl
        have e2m : (2 : Int) - 2 * sdI false = 2 * sdI (!false) := rfl
        walk_at "d"
        refine sd_perm ((pt0, trD t) :: (p0, hsD h0 pt0) :: (pt1, trD t) :: (p1, hsD h1 pt1) :: (pl, lineD t up) :: M0) (hperm.trans (List.Perm.refl _)) ?_
        walk_at "p"
        refine ix_lstD (d := .ref p0) rfl ?_
        walk_at "p"
        refine ev_methP ?_
        walk_at "w"
        refine ⟨_, List.Perm.refl _, pt0, p0, t, h0, _, rfl, rfl, ?_⟩
        rw [decide_eq_true i0]
        walk_at "p"
        refine ite_no (by decide) ?_
        walk_at "p"
        refine ev_callP ?_
        walk_at "w"
        refine ⟨_, List.Perm.refl _, pt0, p0, t, h0, 0, _, rfl, rfl, o, ok0, by omega, by omega, .inl ⟨rfl, w0, he⟩, ?_⟩
        walk_at "p"
        refine ite_no (by decide) ?_
        walk_at "p"
        refine ev_callP ?_
        walk_at "w"
        refine ⟨_, List.Perm.refl _, pt0, p0, t, h0, 1, _, rfl, rfl, o, ok0, by omega, by omega, .inr (.inl ⟨rfl, he, .inl i0⟩), ?_⟩
        walk_at "p"
        refine ite_no (by decide) ?_
        repeat ((fail_if_success (with_reducible refine sd_if ?_)); walk_at "d")
        refine xs_join [some suiteD, some (.ref pl), some (.lst [.ref p0, .ref p1]), some (partsD b ms), some (keysD kk), some (bys (keyM t.chain [])), some (bys (keyM (keyM t.chain []) [1])), some (.int (sdI false)), some (.ref p0), some (keyD h0.peer)] ((pt0, trD t) :: (p0, hsD h0 pt0) :: (pt1, trD t) :: (p1, hsD h1 pt1) :: (pl, lineD t up) :: M0) ?_ ?_
        · walk_at "w"
          refine ix_tupD (i := 0) (d := befD b) rfl ?_
          walk_at "w"
          refine ix_tupD (i := 1) (d := msgsD ms) rfl ?_
          walk_at "w"
          refine ⟨b, ms, !false, false, rfl, ob, om, ?_⟩
          walk_at "w"
          rw [pe0]
          cases hs : showsM b ms (!false) false with
          | true =>
            refine ite_yes rfl ?_
            walk_at "w"
            refine mulU_int (wide_mul (a := 2) (b := 2) (by decide) (by decide) (by decide) (by decide) (by decide)) ?_
            walk_at "w"
            refine ix_lstD (kx_s kk (!false)) ?_
            walk_at "w"
            exact ⟨rfl, rfl⟩
          | false =>
            refine ite_no (fun z => by cases z) ?_
            walk_at "w"
            exact ⟨rfl, rfl⟩
        walk_at "p"
        refine ev_methP ?_
        walk_at "w"
        refine ⟨_, List.Perm.refl _, pt0, p0, t, h0, _, rfl, rfl, ?_⟩
        walk_at "p"
        have hne : ∀ (q : D → Mem → Prop) (M1 : Mem), q (.bl false) M1 → OpD K (rNeU K) (keyD h0.peer) (keyD h0.peer) M1 q := fun q M1 hq => by
          cases h0.peer with
          | none => exact neU_non hq
          | some v => exact neU_bys (by rw [decide_eq_true rfl]; exact hq)
        refine hne _ _ ?_
        walk_at "p"
        refine ite_no (by decide) ?_
        walk_at "p"
        refine ev_methP ?_
        walk_at "w"
        refine ⟨_, List.Perm.refl _, pt0, p0, t, h0, _, rfl, rfl, o, fun _ => ?_, fun z => ?_⟩
        · walk_at "w"
          refine ⟨_, _, rfl, keyM_by _ _, by simp, (keyM_by _ _).app (isBy.one (by decide) (by decide)), by simp, ?_⟩
          walk_at "w"
          refine neU_deep (x := .tup ([(twoM t.chain []).1, (twoM t.chain []).2].map bys)) (y := .tup ([(twoM t.chain []).1, (twoM t.chain []).2].map bys)) 2 (by decide) rfl rfl ?_
          rw [eqv_tup (eqv_bys 0), decide_eq_true rfl]
          walk_at "p"
          refine ite_no (by decide) ?_
          walk_at "p"
          refine ev_callP ?_
          walk_at "w"
          refine ⟨_, List.Perm.refl _, pt0, p0, { t with ended := true }, h0, 2, _, rfl, rfl, oE, ok0, by omega, by exact hn, .inr (.inr ⟨rfl, .inr rfl⟩), ?_⟩
          walk_at "w"
          refine ite_no (by decide) ?_
          walk_at "w"
          exact fun _ => ⟨List.Perm.refl _, _, _, _, rfl⟩
        · exfalso
          rcases z with z | z
          · exact z i0
          · rw [he] at z; cases z
      · rw [if_neg (by decide), if_pos rfl] at hperm
        have e1m : (1 : Int) - sdI true = sdI (!true) := rfl
        have e2m : (2 : Int) - 2 * sdI true = 2 * sdI (!true) := rfl
        walk_at "d"
        refine sd_perm ((pt1, trD t) :: (p1, hsD h1 pt1) :: (pt0, trD { t with ended := true }) :: (p0, hsD h0 pt0) :: (pl, lineD t up) :: M0) (hperm.trans (perm_swap2 _ _ _ _ _)) ?_
        walk_at "p"
        refine ix_lstD (d := .ref p1) rfl ?_
        walk_at "p"
        refine ev_methP ?_
        walk_at "w"
        refine ⟨_, List.Perm.refl _, pt1, p1, t, h1, _, rfl, rfl, ?_⟩
        rw [decide_eq_true i1]
        walk_at "p"
        refine ite_no (by decide) ?_
        walk_at "p"
        refine ev_callP ?_
        walk_at "w"
        refine ⟨_, List.Perm.refl _, pt1, p1, t, h1, 0, _, rfl, rfl, o, ok1, by omega, by omega, .inl ⟨rfl, w1, he⟩, ?_⟩
        walk_at "p"
        refine ite_no (by decide) ?_
        walk_at "p"
        refine ev_callP ?_
        walk_at "w"
        refine ⟨_, List.Perm.refl _, pt1, p1, t, h1, 1, _, rfl, rfl, o, ok1, by omega, by omega, .inr (.inl ⟨rfl, he, .inl i1⟩), ?_⟩
        walk_at "p"
        refine ite_no (by decide) ?_
        repeat ((fail_if_success (with_reducible refine sd_if ?_)); walk_at "d")
        refine xs_join [some suiteD, some (.ref pl), some (.lst [.ref p0, .ref p1]), some (partsD b ms), some (keysD kk), some (bys (keyM t.chain [])), some (bys (keyM (keyM t.chain []) [1])), some (.int (sdI true)), some (.ref p1), some (keyD h1.peer)] ((pt1, trD t) :: (p1, hsD h1 pt1) :: (pt0, trD { t with ended := true }) :: (p0, hsD h0 pt0) :: (pl, lineD t up) :: M0) ?_ ?_
        · walk_at "w"
          refine ix_tupD (i := 0) (d := befD b) rfl ?_
          walk_at "w"
          refine ix_tupD (i := 1) (d := msgsD ms) rfl ?_
          walk_at "w"
          refine ⟨b, ms, !true, false, rfl, ob, om, ?_⟩
          walk_at "w"
          rw [pe1]
          cases hs : showsM b ms (!true) false with
          | true =>
            refine ite_yes rfl ?_
            walk_at "w"
            refine mulU_int (wide_mul (a := 2) (b := 2) (by decide) (by decide) (by decide) (by decide) (by decide)) ?_
            walk_at "w"
            refine ix_lstD (kx_s kk (!true)) ?_
            walk_at "w"
            exact ⟨rfl, rfl⟩
          | false =>
            refine ite_no (fun z => by cases z) ?_
            walk_at "w"
            exact ⟨rfl, rfl⟩
        walk_at "p"
        refine ev_methP ?_
        walk_at "w"
        refine ⟨_, List.Perm.refl _, pt1, p1, t, h1, _, rfl, rfl, ?_⟩
        walk_at "p"
        have hne : ∀ (q : D → Mem → Prop) (M1 : Mem), q (.bl false) M1 → OpD K (rNeU K) (keyD h1.peer) (keyD h1.peer) M1 q := fun q M1 hq => by
          cases h1.peer with
          | none => exact neU_non hq
          | some v => exact neU_bys (by rw [decide_eq_true rfl]; exact hq)
        refine hne _ _ ?_
        walk_at "p"
        refine ite_no (by decide) ?_
        walk_at "p"
        refine ev_methP ?_
        walk_at "w"
        refine ⟨_, List.Perm.refl _, pt1, p1, t, h1, _, rfl, rfl, o, fun _ => ?_, fun z => ?_⟩
        · walk_at "w"
          refine ⟨_, _, rfl, keyM_by _ _, by simp, (keyM_by _ _).app (isBy.one (by decide) (by decide)), by simp, ?_⟩
          walk_at "w"
          refine neU_deep (x := .tup ([(twoM t.chain []).1, (twoM t.chain []).2].map bys)) (y := .tup ([(twoM t.chain []).1, (twoM t.chain []).2].map bys)) 2 (by decide) rfl rfl ?_
          rw [eqv_tup (eqv_bys 0), decide_eq_true rfl]
          walk_at "p"
          refine ite_no (by decide) ?_
          walk_at "p"
          refine ev_callP ?_
          walk_at "w"
          refine ⟨_, List.Perm.refl _, pt1, p1, { t with ended := true }, h1, 2, _, rfl, rfl, oE, ok1, by omega, by exact hn, .inr (.inr ⟨rfl, .inr rfl⟩), ?_⟩
          walk_at "w"
          refine ite_no (by decide) ?_
          walk_at "w"
          exact fun _ => ⟨List.Perm.refl _, _, _, _, rfl⟩
        · exfalso
          rcases z with z | z
          · exact z i1
          · rw [he] at z; cases z
    · rintro Γ' M' hp'
      obtain ⟨hperm, x7, x8, x9, rfl⟩ := hp' rfl
      walk_at "r"
      exact k _ hperm
end
section
theorem emod_pow (a n : Int) : ∀ k : Nat, (a % n) ^ k % n = a ^ k % n
  | 0 => by rw [Int.pow_zero, Int.pow_zero]
  | k + 1 => by
    rw [Int.pow_succ, Int.pow_succ, Int.mul_emod, emod_pow a n k, Int.emod_emod, ← Int.mul_emod]
theorem emod_pow2 (a n : Int) (j k : Nat) : (a ^ j % n) ^ k % n = a ^ (j * k) % n := by
  rw [emod_pow, ← Int.pow_mul]
theorem fromLittle_cons (x : Int) (r : List Int) : fromLittle (x :: r) = fromLittle r * 256 + x := by
  unfold fromLittle
  rw [List.reverse_cons]
  unfold fromBig
  rw [List.foldl_append]
  rfl
theorem from_to : ∀ (k : Nat) (n : Int), 0 ≤ n → n < 256 ^ k → fromLittle (toLittle k n) = n
  | 0, n, h0, h1 => by
    have : n = 0 := by rw [Int.pow_zero] at h1; omega
    subst this; rfl
  | k + 1, n, h0, h1 => by
    have e : toLittle (k + 1) n = n % 256 :: toLittle k (n / 256) := rfl
    rw [e, fromLittle_cons, from_to k (n / 256) (by omega) (by rw [Int.pow_succ] at h1; omega)]
    omega
theorem from_to_ll (x : Int) : fromLittle (toLittle 16 (x % LL)) = x % LL := by
  have e : LL = 170141183460469231731687303715884105727 := rfl
  have e2 : (256 : Int) ^ 16 = 340282366920938463463374607431768211456 := by decide +kernel
  refine from_to 16 _ (by rw [e]; omega) (by rw [e, e2]; omega)
def sqf : Nat → Nat
  | 0 => 1
  | k + 1 => sqf k * sqf k * 43 % 170141183460469231731687303715884105727
theorem sqf_eq : ∀ k : Nat, sqf k = 43 ^ (2 ^ k - 1) % 170141183460469231731687303715884105727
  | 0 => by decide +kernel
  | k + 1 => by
    have h : 2 ^ (k + 1) - 1 = (2 ^ k - 1) + (2 ^ k - 1) + 1 := by
      have : 0 < 2 ^ k := Nat.two_pow_pos k
      rw [Nat.pow_succ]; omega
    show sqf k * sqf k * 43 % _ = _
    rw [h, Nat.pow_succ, Nat.pow_add, sqf_eq k]
    rw [Nat.mul_mod, ← Nat.mul_mod (43 ^ (2 ^ k - 1)) (43 ^ (2 ^ k - 1)), ← Nat.mul_mod]
theorem hlf : (43 : Nat) ^ 85070591730234615865843651857942052863 % 170141183460469231731687303715884105727 = 170141183460469231731687303715884105726 := by
  have h := sqf_eq 126
  have e : 2 ^ 126 - 1 = 85070591730234615865843651857942052863 := by decide +kernel
  rw [e] at h
  rw [← h]
  decide +kernel
theorem hlfI : (43 : Int) ^ (85070591730234615865843651857942052863 : Int).toNat % LL = LL - 1 := by
  have e : LL = ((170141183460469231731687303715884105727 : Nat) : Int) := rfl
  have e2 : (85070591730234615865843651857942052863 : Int).toNat = 85070591730234615865843651857942052863 := rfl
  rw [e2, e]
  have h := congrArg (fun x : Nat => (x : Int)) hlf
  rw [Int.natCast_emod, Int.natCast_pow] at h
  exact h
theorem neg_odd (k : Nat) : (LL - 1) ^ (2 * k + 1) % LL = LL - 1 := by
  have e : LL = 170141183460469231731687303715884105727 := rfl
  have h2 : (LL - 1) ^ 2 % LL = 1 := by rw [e]; decide +kernel
  rw [Int.pow_succ, Int.pow_mul, Int.mul_emod, ← emod_pow, h2]
  have : (1 : Int) ^ k = 1 := Int.one_pow
  rw [this, e]; decide +kernel
theorem expo_odd (s : List Int) : ∃ k : Nat, (expo s).toNat = 2 * k + 1 := by
  have h := expo_nn s
  refine ⟨(expo s).toNat / 2, ?_⟩
  have : expo s % 2 = 1 := by unfold expo; omega
  omega
theorem strong : Strong := by
  intro s
  have e : LL = 170141183460469231731687303715884105727 := rfl
  unfold weakM pubM
  rw [from_to_ll, emod_pow2]
  obtain ⟨k, hk⟩ := expo_odd s
  have h1 : ¬ LL ≤ 43 ^ (expo s).toNat % LL := by
    have : 43 ^ (expo s).toNat % LL < LL := Int.emod_lt_of_pos _ (by rw [e]; decide)
    omega
  have h2 : 43 ^ ((expo s).toNat * (85070591730234615865843651857942052863 : Int).toNat) % LL = LL - 1 := by
    rw [Nat.mul_comm, Int.pow_mul, ← emod_pow, hlfI, hk, neg_odd]
  rw [h2]
  simp [h1]
theorem ex_comm (s v : List Int) : exM s (pubM v) = exM v (pubM s) := by
  unfold exM pubM
  rw [from_to_ll, from_to_ll, emod_pow2, emod_pow2, Nat.mul_comm]
end
section
def mx? (fl : List Fl) : Bool := !(mixedM fl).isEmpty
theorem mx_ne {fl : List Fl} : mx? fl = true ↔ mixedM fl ≠ [] := by
  unfold mx?; cases mixedM fl <;> simp
theorem mixed_app (a b : List Fl) : mixedM (a ++ b) = mixedM a ++ mixedM b := by
  unfold mixedM; rw [List.filter_append, List.map_append]
def esB (t : Str) : Bool := decide (t = ("e" : Str)) || decide (t = ("s" : Str))
theorem es_in (t : Str) : decide (t ∉ (["e", "s"] : List Str)) = !esB t := by
  unfold esB; by_cases h1 : t = ("e" : Str) <;> by_cases h2 : t = ("s" : Str) <;> simp [h1, h2]
theorem mixed_one (y : Fl) : mixedM [y] = if esB y.2.1 then [] else [y.2.1] := by
  unfold mixedM
  rw [List.filter_cons, es_in]
  cases esB y.2.1 <;> rfl
def stF (pre : List Fl) (y : Fl) : List Stp := tokSteps y.1 y.2.1 (mx? pre) ++ (if y.2.2 && mx? (pre ++ [y]) then [⟨.enc, y.1, ""⟩] else [])
def goF : List Fl → List Fl → List Stp
  | _, [] => []
  | pre, y :: r => stF pre y ++ goF (pre ++ [y]) r
theorem goF_cons (pre : List Fl) (y : Fl) (r : List Fl) : goF pre (y :: r) = stF pre y ++ goF (pre ++ [y]) r := rfl
theorem goF_app : ∀ (a pre b : List Fl), goF pre (a ++ b) = goF pre a ++ goF (pre ++ a) b
  | [], pre, b => by rw [List.append_nil]; rfl
  | y :: r, pre, b => by
    rw [List.cons_append, goF_cons, goF_cons, goF_app r, List.append_assoc, List.append_assoc]; rfl
theorem tokMix_eq (pre : List Fl) (e : Bool) (t : Str) (l : Bool) : tokMix t (mx? pre) = mx? (pre ++ [(e, t, l)]) := by
  unfold mx?
  rw [mixed_app, mixed_one]
  show (if esB t = true then _ else true) = _
  cases h : esB t
  · simp
  · simp
theorem runT_go (e : Bool) : ∀ (ts : List Str) (S : List Stp) (pre : List Fl), ts ≠ [] →
    (runT e (S, mx? pre) ts).1 ++ (if (runT e (S, mx? pre) ts).2 then [⟨.enc, e, ""⟩] else []) = S ++ goF pre (flat1 e ts) ∧ (runT e (S, mx? pre) ts).2 = mx? (pre ++ flat1 e ts)
  | [], _, _, h => absurd rfl h
  | [t], S, pre, _ => by
    have e1 : runT e (S, mx? pre) [t] = (S ++ tokSteps e t (mx? pre), tokMix t (mx? pre)) := rfl
    have e2 : flat1 e [t] = [(e, t, true)] := rfl
    rw [e1, e2, goF_cons]
    dsimp only
    rw [tokMix_eq pre e t true]
    refine ⟨?_, rfl⟩
    show _ = S ++ (stF pre (e, t, true) ++ [])
    unfold stF
    rw [List.append_nil, List.append_assoc]
    rfl
  | t :: u :: r, S, pre, _ => by
    have e1 : runT e (S, mx? pre) (t :: u :: r) = runT e (S ++ tokSteps e t (mx? pre), tokMix t (mx? pre)) (u :: r) := rfl
    have e2 : flat1 e (t :: u :: r) = (e, t, false) :: flat1 e (u :: r) := rfl
    rw [e1, e2, goF_cons, tokMix_eq pre e t false]
    obtain ⟨h1, h2⟩ := runT_go e (u :: r) (S ++ tokSteps e t (mx? pre)) (pre ++ [(e, t, false)]) (by simp)
    refine ⟨?_, ?_⟩
    · rw [h1]
      unfold stF
      simp
    · rw [h2]; simp
theorem runM_go : ∀ (ms : List Msg) (S : List Stp) (pre : List Fl), (∀ m ∈ ms, m.2 ≠ []) → runM (S, mx? pre) ms = (S ++ goF pre (flatM ms), mx? (pre ++ flatM ms))
  | [], S, pre, _ => by
    show (S, mx? pre) = (S ++ [], mx? (pre ++ []))
    rw [List.append_nil, List.append_nil]
  | m :: r, S, pre, h => by
    obtain ⟨h1, h2⟩ := runT_go m.1 m.2 S pre (h m List.mem_cons_self)
    have e : flatM (m :: r) = flat1 m.1 m.2 ++ flatM r := rfl
    have e1 : runM (S, mx? pre) (m :: r) = runM ((runT m.1 (S, mx? pre) m.2).1 ++ (if (runT m.1 (S, mx? pre) m.2).2 then [⟨.enc, m.1, ""⟩] else []), (runT m.1 (S, mx? pre) m.2).2) r := rfl
    rw [e1, h1, h2, runM_go r _ _ (fun x hx => h x (List.mem_cons_of_mem _ hx)), e, goF_app, List.append_assoc, List.append_assoc]
theorem steps_go (b : Bef) (ms : List Msg) (h : ∀ m ∈ ms, m.2 ≠ []) : stepsM b ms = befSteps b ++ (goF [] (flatM ms) ++ (if mx? (flatM ms) then (trans ms).map (fun e => ⟨.enc, e, ""⟩) else [])) := by
  have h1 := runM_go ms (befSteps b) [] h
  have e0 : mx? [] = false := rfl
  rw [e0] at h1
  show (runM (befSteps b, false) ms).1 ++ (if (runM (befSteps b, false) ms).2 then _ else _) = _
  rw [h1, List.append_assoc]
  rfl
end
section
def scE (H : List K2 → List Str → Bool → Bool) : List K2 → List Str → List Stp → Bool
  | _, _, [] => false
  | ks, ms, s :: r => match s.k with
    | .enc => H ks ms s.e || scE H ks ms r
    | .key => scE H (ks ++ [(s.e, s.t)]) ms r
    | .mix => scE H ks (ms ++ [s.t]) r
def keysOf (ss : List Stp) : List K2 := ss.filterMap fun s => match s.k with | .key => some (s.e, s.t) | _ => none
def mixOf (ss : List Stp) : List Str := ss.filterMap fun s => match s.k with | .mix => some s.t | _ => none
theorem scE_app (H : List K2 → List Str → Bool → Bool) : ∀ (a b : List Stp) (ks : List K2) (ms : List Str), scE H ks ms (a ++ b) = (scE H ks ms a || scE H (ks ++ keysOf a) (ms ++ mixOf a) b)
  | [], b, ks, ms => by
    show scE H ks ms b = (false || scE H (ks ++ []) (ms ++ []) b)
    rw [List.append_nil, List.append_nil, Bool.false_or]
  | ⟨.enc, e, t⟩ :: r, b, ks, ms => by
    show (H ks ms e || scE H ks ms (r ++ b)) = ((H ks ms e || scE H ks ms r) || scE H (ks ++ keysOf r) (ms ++ mixOf r) b)
    rw [scE_app H r b, Bool.or_assoc]
  | ⟨.key, e, t⟩ :: r, b, ks, ms => by
    show scE H (ks ++ [(e, t)]) ms (r ++ b) = (scE H (ks ++ [(e, t)]) ms r || scE H (ks ++ ((e, t) :: keysOf r)) (ms ++ mixOf r) b)
    rw [scE_app H r b, List.append_assoc]; rfl
  | ⟨.mix, e, t⟩ :: r, b, ks, ms => by
    show scE H ks (ms ++ [t]) (r ++ b) = (scE H ks (ms ++ [t]) r || scE H (ks ++ keysOf r) (ms ++ (t :: mixOf r)) b)
    rw [scE_app H r b, List.append_assoc]; rfl
theorem misEph_sc : ∀ (ss : List Stp) (ks : List K2) (mx : List Str), misEph mx ss = scE (fun _ m e => bad4 m e) ks mx ss
  | [], _, _ => rfl
  | ⟨.enc, e, t⟩ :: r, ks, mx => by
    show (if SK.enc = SK.mix then misEph (mx ++ [t]) r else if SK.enc = SK.enc then (if ownS e ∈ mx ∧ ("ee" : Str) ∉ mx then true else if ("ss" : Str) ∈ mx ∧ bothS e ∉ mx then true else misEph mx r) else misEph mx r) = (bad4 mx e || scE _ ks mx r)
    rw [if_neg (by decide), if_pos rfl, misEph_sc r ks mx]
    unfold bad4
    by_cases h1 : ownS e ∈ mx <;> by_cases h2 : ("ee" : Str) ∈ mx <;> by_cases h3 : ("ss" : Str) ∈ mx <;> by_cases h4 : bothS e ∈ mx <;> simp [h1, h2, h3, h4]
  | ⟨.key, e, t⟩ :: r, ks, mx => misEph_sc r (ks ++ [(e, t)]) mx
  | ⟨.mix, e, t⟩ :: r, ks, mx => misEph_sc r ks (mx ++ [t])
def H6 (ks : List K2) (ms : List Str) (e : Bool) : Bool := decide (("psk" : Str) ∈ ms) && !decide ((e, ("e" : Str)) ∈ ks)
theorem pskKey_sc : ∀ (ss : List Stp) (ks : List K2) (mx : List Str) (es : List Bool), (∀ e, e ∈ es ↔ (e, ("e" : Str)) ∈ ks) → pskKey (es, decide (("psk" : Str) ∈ mx)) ss = scE H6 ks mx ss
  | [], _, _, _, _ => rfl
  | ⟨.enc, e, t⟩ :: r, ks, mx, es, h => by
    show (if SK.enc = SK.key ∧ t = "e" then pskKey (es ++ [e], decide (("psk" : Str) ∈ mx)) r else if SK.enc = SK.mix ∧ t = "psk" then pskKey (es, true) r else if SK.enc = SK.enc ∧ decide (("psk" : Str) ∈ mx) = true ∧ e ∉ es then true else pskKey (es, decide (("psk" : Str) ∈ mx)) r) = (H6 ks mx e || scE H6 ks mx r)
    rw [if_neg (fun z => by cases z.1), if_neg (fun z => by cases z.1), pskKey_sc r ks mx es h]
    unfold H6
    have := h e
    by_cases h1 : ("psk" : Str) ∈ mx <;> by_cases h2 : (e, ("e" : Str)) ∈ ks <;> simp [h1, h2, this]
  | ⟨.key, e, t⟩ :: r, ks, mx, es, h => by
    show (if SK.key = SK.key ∧ t = "e" then pskKey (es ++ [e], decide (("psk" : Str) ∈ mx)) r else if SK.key = SK.mix ∧ t = "psk" then pskKey (es, true) r else if SK.key = SK.enc ∧ decide (("psk" : Str) ∈ mx) = true ∧ e ∉ es then true else pskKey (es, decide (("psk" : Str) ∈ mx)) r) = scE H6 (ks ++ [(e, t)]) mx r
    by_cases ht : t = ("e" : Str)
    · subst ht
      rw [if_pos ⟨rfl, rfl⟩]
      refine pskKey_sc r _ mx _ (fun a => ?_)
      have := h a
      simp [this]
    · rw [if_neg (fun z => ht z.2), if_neg (fun z => by cases z.1), if_neg (fun z => by cases z.1)]
      refine pskKey_sc r _ mx _ (fun a => ?_)
      have := h a
      have ht' : ¬ ("e" : Str) = t := fun z => ht z.symm
      simp [this, ht']
  | ⟨.mix, e, t⟩ :: r, ks, mx, es, h => by
    show (if SK.mix = SK.key ∧ t = "e" then pskKey (es ++ [e], decide (("psk" : Str) ∈ mx)) r else if SK.mix = SK.mix ∧ t = "psk" then pskKey (es, true) r else if SK.mix = SK.enc ∧ decide (("psk" : Str) ∈ mx) = true ∧ e ∉ es then true else pskKey (es, decide (("psk" : Str) ∈ mx)) r) = scE H6 ks (mx ++ [t]) r
    rw [if_neg (fun z => by cases z.1)]
    by_cases ht : t = ("psk" : Str)
    · subst ht
      rw [if_pos ⟨rfl, rfl⟩, ← pskKey_sc r ks (mx ++ [("psk" : Str)]) es h]
      simp
    · rw [if_neg (fun z => ht z.2), if_neg (fun z => by cases z.1), ← pskKey_sc r ks (mx ++ [t]) es h]
      have ht' : ¬ ("psk" : Str) = t := fun z => ht z.symm
      simp [ht']
def keyF (fl : List Fl) : List K2 := fl.filterMap fun y => if esB y.2.1 then some (y.1, y.2.1) else none
theorem keyF_app (a b : List Fl) : keyF (a ++ b) = keyF a ++ keyF b := by unfold keyF; rw [List.filterMap_append]
theorem keyF_one (y : Fl) : keyF [y] = if esB y.2.1 then [(y.1, y.2.1)] else [] := by
  unfold keyF; rw [List.filterMap_cons]; cases esB y.2.1 <;> rfl
theorem keysOf_app (a b : List Stp) : keysOf (a ++ b) = keysOf a ++ keysOf b := by unfold keysOf; rw [List.filterMap_append]
theorem mixOf_app (a b : List Stp) : mixOf (a ++ b) = mixOf a ++ mixOf b := by unfold mixOf; rw [List.filterMap_append]
theorem tokSteps_of (y : Fl) (m : Bool) : keysOf (tokSteps y.1 y.2.1 m) = keyF [y] ∧ mixOf (tokSteps y.1 y.2.1 m) = mixedM [y] := by
  rw [keyF_one, mixed_one]
  unfold tokSteps
  rw [keysOf_app, mixOf_app]
  show keysOf _ ++ keysOf (if esB y.2.1 = true then _ else _) = _ ∧ mixOf _ ++ mixOf (if esB y.2.1 = true then _ else _) = _
  cases h : esB y.2.1 <;> (split <;> exact ⟨rfl, rfl⟩)
theorem stF_of (pre : List Fl) (y : Fl) : keysOf (stF pre y) = keyF [y] ∧ mixOf (stF pre y) = mixedM [y] := by
  unfold stF
  rw [keysOf_app, mixOf_app, (tokSteps_of y _).1, (tokSteps_of y _).2]
  split <;> exact ⟨List.append_nil _, List.append_nil _⟩
theorem goF_of : ∀ (r pre : List Fl), keysOf (goF pre r) = keyF r ∧ mixOf (goF pre r) = mixedM r
  | [], _ => ⟨rfl, rfl⟩
  | y :: r, pre => by
    obtain ⟨h1, h2⟩ := goF_of r (pre ++ [y])
    have e : y :: r = [y] ++ r := rfl
    rw [goF_cons, keysOf_app, mixOf_app, h1, h2, (stF_of pre y).1, (stF_of pre y).2, e, keyF_app, mixed_app]
    exact ⟨rfl, rfl⟩
end
section
theorem scE_tok (H : List K2 → List Str → Bool → Bool) (ks : List K2) (ms : List Str) (y : Fl) (m : Bool) : scE H ks ms (tokSteps y.1 y.2.1 m) = (decide (y.2.1 = ("s" : Str)) && m && H ks ms y.1) := by
  unfold tokSteps
  show scE H ks ms (_ ++ (if esB y.2.1 = true then _ else _)) = _
  rw [scE_app]
  cases h : esB y.2.1
  · have : ¬ y.2.1 = ("s" : Str) := fun z => by
      rw [z] at h; exact absurd h (by decide +kernel)
    simp [this, scE]
  · cases h2 : (decide (y.2.1 = ("s" : Str)) && m)
    · simp [scE]
    · simp [scE]
theorem scE_go (H : List K2 → List Str → Bool → Bool) (kb : List K2) : ∀ (r pre : List Fl),
    scE H (kb ++ keyF pre) (mixedM pre) (goF pre r) = (encP pre.length pre r).any fun x => H (kb ++ keyF ((pre ++ r).take x.1)) (mixedM ((pre ++ r).take x.1)) x.2
  | [], _ => rfl
  | y :: r, pre => by
    rw [goF_cons, scE_app, (stF_of pre y).1, (stF_of pre y).2, List.append_assoc, ← keyF_app, ← mixed_app, scE_go H kb r (pre ++ [y]), encP_cons, List.any_append, List.any_append]
    have e1 : pre ++ y :: r = (pre ++ [y]) ++ r := by simp
    have e2 : (pre ++ [y]).length = pre.length + 1 := by simp
    have t1 : (pre ++ y :: r).take pre.length = pre := by simp
    have t2 : ((pre ++ [y]) ++ r).take (pre.length + 1) = pre ++ [y] := by rw [← e2, List.take_left]
    unfold stF
    rw [scE_app, scE_tok, (tokSteps_of y _).1, (tokSteps_of y _).2, List.append_assoc, ← keyF_app, ← mixed_app, e2, ← e1]
    have a1 : ((if y.2.1 = ("s" : Str) ∧ mixedM pre ≠ [] then [(pre.length, y.1)] else []).any fun x => H (kb ++ keyF ((pre ++ y :: r).take x.1)) (mixedM ((pre ++ y :: r).take x.1)) x.2) = (decide (y.2.1 = ("s" : Str)) && mx? pre && H (kb ++ keyF pre) (mixedM pre) y.1) := by
      by_cases h1 : y.2.1 = ("s" : Str)
      · cases h2 : mx? pre
        · have : mixedM pre = [] := Classical.byContradiction fun z => by rw [mx_ne.mpr z] at h2; cases h2
          rw [if_neg (fun z => z.2 this)]; simp
        · rw [if_pos ⟨h1, mx_ne.mp h2⟩]
          simp only [List.any_cons, List.any_nil, t1, h1, decide_true, Bool.true_and, Bool.or_false]
      · rw [if_neg (fun z => h1 z.1)]; simp [h1]
    have a2 : ((if y.2.2 = true ∧ mixedM (pre ++ [y]) ≠ [] then [(pre.length + 1, y.1)] else []).any fun x => H (kb ++ keyF ((pre ++ y :: r).take x.1)) (mixedM ((pre ++ y :: r).take x.1)) x.2) = scE H (kb ++ keyF (pre ++ [y])) (mixedM (pre ++ [y])) (if y.2.2 && mx? (pre ++ [y]) then [⟨.enc, y.1, ""⟩] else []) := by
      cases h1 : y.2.2
      · rw [if_neg (fun z => by cases z.1)]; simp [scE]
      · cases h2 : mx? (pre ++ [y])
        · have : mixedM (pre ++ [y]) = [] := Classical.byContradiction fun z => by rw [mx_ne.mpr z] at h2; cases h2
          rw [if_neg (fun z => z.2 this)]; simp [scE]
        · rw [if_pos ⟨rfl, mx_ne.mp h2⟩]
          simp only [List.any_cons, List.any_nil, e1, t2, Bool.true_and, if_true, scE]
    rw [a1, a2, Bool.or_assoc]
theorem scE_fin (H : List K2 → List Str → Bool → Bool) (ks : List K2) (mx : List Str) : ∀ l : List Bool, scE H ks mx (l.map fun e => ⟨.enc, e, ""⟩) = l.any (H ks mx)
  | [] => rfl
  | e :: r => by
    show (H ks mx e || scE H ks mx (r.map fun e => ⟨.enc, e, ""⟩)) = _
    rw [scE_fin H ks mx r]; rfl
theorem trans_any (p : Bool → Bool) (n : Nat) {ms : List Msg} (o : okM ms) : (trans ms).any p = (encF n ms).any fun x => p x.2 := by
  match ms, o with
  | [], o => exact absurd rfl o.ne
  | [m], _ => rfl
  | m :: m2 :: r, o =>
    have := o.al
    have h : (m.1 != m2.1 && alt (m2 :: r)) = true := this
    rw [Bool.and_eq_true] at h
    have h := h.1
    show (p false || (p true || false)) = (p m.1 || (p m2.1 || false))
    cases h1 : m.1 <;> cases h2 : m2.1 <;> rw [h1, h2] at h
    · cases h
    · rw [Bool.or_false, Bool.or_false]; exact Bool.or_comm _ _
    · cases h
theorem bef_of {b : Bef} : keysOf (befSteps b) = b.1.map (fun t => (false, t)) ++ b.2.map (fun t => (true, t)) ∧ mixOf (befSteps b) = [] := by
  have h1 : ∀ (e : Bool) (l : List Str), keysOf (l.map fun t => ⟨.key, e, t⟩) = l.map (fun t => (e, t)) ∧ mixOf (l.map fun t => ⟨.key, e, t⟩) = [] := by
    intro e l
    induction l with
    | nil => exact ⟨rfl, rfl⟩
    | cons t r ih =>
      have i1 : keysOf ((t :: r).map fun t => ⟨.key, e, t⟩) = (e, t) :: keysOf (r.map fun t => ⟨.key, e, t⟩) := rfl
      have i2 : mixOf ((t :: r).map fun t => ⟨.key, e, t⟩) = mixOf (r.map fun t => ⟨.key, e, t⟩) := rfl
      rw [i1, i2, ih.1, ih.2]; exact ⟨rfl, rfl⟩
  unfold befSteps
  rw [keysOf_app, mixOf_app, (h1 _ _).1, (h1 _ _).1, (h1 _ _).2, (h1 _ _).2]
  exact ⟨rfl, rfl⟩
theorem scE_bef (H : List K2 → List Str → Bool → Bool) (b : Bef) : scE H [] [] (befSteps b) = false := by
  have h1 : ∀ (e : Bool) (l : List Str) (ks : List K2), scE H ks [] (l.map fun t => ⟨.key, e, t⟩) = false := by
    intro e l
    induction l with
    | nil => intro _; rfl
    | cons t r ih => intro ks; exact ih _
  unfold befSteps
  rw [scE_app, h1]
  have : mixOf (b.1.map fun t => (⟨.key, false, t⟩ : Stp)) = [] := by
    have := (bef_of (b := (b.1, []))).2
    unfold befSteps at this
    rw [mixOf_app] at this
    exact (List.append_eq_nil_iff.mp this).1
  rw [this]
  exact h1 _ _ _
theorem scE_steps (H : List K2 → List Str → Bool → Bool) {b : Bef} {ms : List Msg} (o : okM ms) :
    scE H [] [] (stepsM b ms) = (encM ms).any fun x => H (keysOf (befSteps b) ++ keyF ((flatM ms).take x.1)) (mixedM ((flatM ms).take x.1)) x.2 := by
  rw [steps_go b ms (fun m hm => (o.tok m hm).1), scE_app, scE_bef, Bool.false_or, List.nil_append, bef_of.2, scE_app]
  have g := scE_go H (keysOf (befSteps b)) (flatM ms) []
  have k0 : keyF [] = [] := rfl
  have m0 : mixedM [] = [] := rfl
  rw [k0, m0, List.append_nil] at g
  rw [List.append_nil, g]
  unfold encM
  rw [List.any_append, (goF_of (flatM ms) []).1, (goF_of (flatM ms) []).2]
  congr 1
  cases h : mx? (flatM ms)
  · have : mixedM (flatM ms) = [] := Classical.byContradiction fun z => by rw [mx_ne.mpr z] at h; cases h
    have e : (if mixedM (flatM ms) ≠ [] then encF (flatM ms).length ms else []) = [] := if_neg (fun z => z this)
    rw [e]; rfl
  · have e : (if mixedM (flatM ms) ≠ [] then encF (flatM ms).length ms else []) = encF (flatM ms).length ms := if_pos (mx_ne.mp h)
    rw [e, if_pos rfl, scE_fin]
    rw [trans_any _ (flatM ms).length o, List.nil_append]
    have : ∀ x ∈ encF (flatM ms).length ms, x.1 = (flatM ms).length := by
      intro x hx
      match ms, hx with
      | [], hx => cases hx
      | [m], hx => cases List.mem_singleton.mp hx; rfl
      | m :: m2 :: r, hx =>
        rcases List.mem_cons.mp hx with rfl | hx
        · rfl
        · cases List.mem_singleton.mp hx; rfl
    have an : ∀ (l : List (Nat × Bool)), (∀ x ∈ l, x.1 = (flatM ms).length) → (l.any fun x => H (keysOf (befSteps b) ++ keyF (flatM ms)) (mixedM (flatM ms)) x.2) = l.any fun x => H (keysOf (befSteps b) ++ keyF ((flatM ms).take x.1)) (mixedM ((flatM ms).take x.1)) x.2 := by
      intro l
      induction l with
      | nil => intro _; rfl
      | cons x r ih =>
        intro hl
        rw [List.any_cons, List.any_cons, ih (fun y hy => hl y (List.mem_cons_of_mem _ hy)), hl x List.mem_cons_self, List.take_length]
    exact an _ this
end
section
theorem mem_bef {b : Bef} {e : Bool} {x : Str} : (e, x) ∈ keysOf (befSteps b) ↔ x ∈ befOf b e := by
  rw [bef_of.1, List.mem_append, List.mem_map, List.mem_map]
  cases e
  · constructor
    · rintro (⟨t, h1, h2⟩ | ⟨t, h1, h2⟩)
      · cases h2; exact h1
      · cases h2
    · intro h; exact .inl ⟨x, h, rfl⟩
  · constructor
    · rintro (⟨t, h1, h2⟩ | ⟨t, h1, h2⟩)
      · cases h2
      · cases h2; exact h1
    · intro h; exact .inr ⟨x, h, rfl⟩
theorem mem_keyF {fl : List Fl} {e : Bool} {x : Str} (hx : esB x = true) : (e, x) ∈ keyF fl ↔ ∃ y ∈ fl, y.1 = e ∧ y.2.1 = x := by
  unfold keyF
  rw [List.mem_filterMap]
  constructor
  · rintro ⟨y, h1, h2⟩
    split at h2
    · cases h2; exact ⟨y, h1, rfl, rfl⟩
    · cases h2
  · rintro ⟨y, h1, rfl, rfl⟩
    exact ⟨y, h1, by rw [if_pos hx]⟩
theorem mem_sent {b : Bef} {fl : List Fl} {e : Bool} {x : Str} (hx : esB x = true) : (e, x) ∈ keysOf (befSteps b) ++ keyF fl ↔ sentM b fl e x = true := by
  rw [List.mem_append, mem_bef, mem_keyF hx]
  unfold sentM
  rw [Bool.or_eq_true, decide_eq_true_eq, List.any_eq_true]
  constructor
  · rintro (h | ⟨y, h1, h2, h3⟩)
    · exact .inl h
    · exact .inr ⟨y, h1, by rw [Bool.and_eq_true]; exact ⟨beq_iff_eq.mpr h2, decide_eq_true h3⟩⟩
  · rintro (h | ⟨y, h1, h2⟩)
    · exact .inl h
    · rw [Bool.and_eq_true] at h2
      exact .inr ⟨y, h1, beq_iff_eq.mp h2.1, of_decide_eq_true h2.2⟩
theorem rule4 {b : Bef} {ms : List Msg} (o : okM ms) : misEph [] (stepsM b ms) = brkEnc b ms 4 := by
  rw [misEph_sc _ [] [], scE_steps _ o]; rfl
theorem h6_eq (b : Bef) (fl : List Fl) (e : Bool) : H6 (keysOf (befSteps b) ++ keyF fl) (mixedM fl) e = bad6 b fl e := by
  unfold H6 bad6
  have h := mem_sent (b := b) (fl := fl) (e := e) (x := ("e" : Str)) (by decide +kernel)
  cases hs : sentM b fl e "e"
  · rw [hs] at h
    have : ¬ (e, ("e" : Str)) ∈ keysOf (befSteps b) ++ keyF fl := fun z => by cases h.mp z
    rw [decide_eq_false this]
  · have := h.mpr hs
    rw [decide_eq_true this]
theorem rule6 {b : Bef} {ms : List Msg} (o : okM ms) : pskKey ([], false) (stepsM b ms) = brkEnc b ms 6 := by
  have h := pskKey_sc (stepsM b ms) [] [] [] (fun e => by simp)
  have e : decide (("psk" : Str) ∈ ([] : List Str)) = false := by simp
  rw [e] at h
  rw [h, scE_steps _ o]
  unfold brkEnc
  congr 1
  funext x
  rw [if_neg (by decide), h6_eq]
theorem misKey_app : ∀ (a b : List Stp) (ks : List K2), misKey ks (a ++ b) = (misKey ks a || misKey (ks ++ keysOf a) b)
  | [], b, ks => by
    show misKey ks b = (false || misKey (ks ++ []) b)
    rw [List.append_nil, Bool.false_or]
  | ⟨.enc, e, t⟩ :: r, b, ks => by
    show misKey ks (r ++ b) = (misKey ks r || misKey (ks ++ keysOf r) b)
    exact misKey_app r b ks
  | ⟨.key, e, t⟩ :: r, b, ks => by
    show misKey (ks ++ [(e, t)]) (r ++ b) = (misKey (ks ++ [(e, t)]) r || misKey (ks ++ ((e, t) :: keysOf r)) b)
    rw [misKey_app r b, List.append_assoc]; rfl
  | ⟨.mix, e, t⟩ :: r, b, ks => by
    have u : ∀ z, misKey ks (⟨.mix, e, t⟩ :: z) = if t ∈ SEC then (if (false, chr0 t) ∉ ks ∨ (true, chr1 t) ∉ ks then true else misKey ks z) else misKey ks z := by
      intro z
      show (if SK.mix = SK.key then _ else if SK.mix = SK.mix ∧ t ∈ SEC then _ else _) = _
      rw [if_neg (by decide)]
      by_cases h : t ∈ SEC
      · rw [if_pos ⟨rfl, h⟩, if_pos h]
      · rw [if_neg (fun z => h z.2), if_neg h]
    have kk : keysOf (⟨.mix, e, t⟩ :: r) = keysOf r := rfl
    rw [List.cons_append, u, u, kk, misKey_app r b ks]
    split
    · split
      · rw [Bool.true_or]
      · rfl
    · rfl
theorem sec_chr : ∀ t ∈ SEC, esB (chr0 t) = true ∧ esB (chr1 t) = true ∧ esB t = false := by
  have h : (SEC.all fun t => esB (chr0 t) && (esB (chr1 t) && !esB t)) = true := by decide +kernel
  intro t ht
  have := List.all_eq_true.mp h t ht
  simpa only [Bool.and_eq_true, Bool.not_eq_true'] using this
theorem misKey_enc (ks : List K2) : ∀ l : List Bool, misKey ks (l.map fun e => ⟨.enc, e, ""⟩) = false
  | [] => rfl
  | e :: r => misKey_enc ks r
theorem misKey_tok (b : Bef) (pre : List Fl) (y : Fl) (m : Bool) : misKey (keysOf (befSteps b) ++ keyF pre) (tokSteps y.1 y.2.1 m) = decide (y.2.1 ∈ SEC ∧ (sentM b pre false (chr0 y.2.1) && sentM b pre true (chr1 y.2.1)) = false) := by
  unfold tokSteps
  rw [misKey_app]
  have z1 : ∀ ks : List K2, misKey ks (if (decide (y.2.1 = "s") && m) = true then [⟨.enc, y.1, y.2.1⟩] else []) = false := by intro ks; split <;> rfl
  have z2 : keysOf (if (decide (y.2.1 = "s") && m) = true then [⟨.enc, y.1, y.2.1⟩] else []) = [] := by split <;> rfl
  rw [z1, z2, Bool.false_or, List.append_nil]
  show misKey _ (if esB y.2.1 = true then _ else _) = _
  by_cases hs : y.2.1 ∈ SEC
  · obtain ⟨c0, c1, c2⟩ := sec_chr _ hs
    rw [c2, if_neg (by decide)]
    show (if SK.mix = SK.mix ∧ y.2.1 ∈ SEC then (if (false, chr0 y.2.1) ∉ _ ∨ (true, chr1 y.2.1) ∉ _ then true else false) else false) = _
    rw [if_pos ⟨rfl, hs⟩]
    have m0 := mem_sent (b := b) (fl := pre) (e := false) c0
    have m1 := mem_sent (b := b) (fl := pre) (e := true) c1
    by_cases q0 : (false, chr0 y.2.1) ∈ keysOf (befSteps b) ++ keyF pre <;> by_cases q1 : (true, chr1 y.2.1) ∈ keysOf (befSteps b) ++ keyF pre
    · rw [m0.mp q0, m1.mp q1]; simp [q0, q1]
    · have : sentM b pre true (chr1 y.2.1) = false := by cases h : sentM b pre true (chr1 y.2.1); rfl; exact absurd (m1.mpr h) q1
      rw [this]; simp [q1, hs]
    · have : sentM b pre false (chr0 y.2.1) = false := by cases h : sentM b pre false (chr0 y.2.1); rfl; exact absurd (m0.mpr h) q0
      rw [this]; simp [q0, hs]
    · have : sentM b pre false (chr0 y.2.1) = false := by cases h : sentM b pre false (chr0 y.2.1); rfl; exact absurd (m0.mpr h) q0
      rw [this]; simp [q0, hs]
  · rw [decide_eq_false (fun z => hs z.1)]
    split
    · rfl
    · show (if SK.mix = SK.mix ∧ y.2.1 ∈ SEC then _ else false) = _
      rw [if_neg (fun z => hs z.2)]
theorem misKey_go (b : Bef) : ∀ (r pre : List Fl), misKey (keysOf (befSteps b) ++ keyF pre) (goF pre r) = brkKey b pre r
  | [], _ => rfl
  | y :: r, pre => by
    rw [goF_cons, misKey_app, (stF_of pre y).1, List.append_assoc, ← keyF_app, misKey_go b r (pre ++ [y]), brkKey_cons]
    unfold stF
    rw [misKey_app, misKey_tok]
    have z : ∀ ks : List K2, misKey ks (if y.2.2 && mx? (pre ++ [y]) then [⟨.enc, y.1, ""⟩] else []) = false := by intro ks; split <;> rfl
    rw [z, Bool.or_false]
    split
    · rename_i h; rw [decide_eq_true h, Bool.true_or]
    · rename_i h; rw [decide_eq_false h, Bool.false_or]
theorem rule3 {b : Bef} {ms : List Msg} (o : okM ms) : misKey [] (stepsM b ms) = brkKey b [] (flatM ms) := by
  rw [steps_go b ms (fun m hm => (o.tok m hm).1), misKey_app, misKey_app]
  have z0 : misKey [] (befSteps b) = false := by
    have h1 : ∀ (e : Bool) (l : List Str) (ks : List K2), misKey ks (l.map fun t => ⟨.key, e, t⟩) = false := by
      intro e l
      induction l with
      | nil => intro _; rfl
      | cons t r ih => intro ks; exact ih _
    unfold befSteps
    rw [misKey_app, h1, h1]; rfl
  have z1 : ∀ ks : List K2, misKey ks (if mx? (flatM ms) then (trans ms).map (fun e => ⟨.enc, e, ""⟩) else []) = false := by
    intro ks; split
    · exact misKey_enc _ _
    · rfl
  have g := misKey_go b (flatM ms) []
  have k0 : keyF [] = [] := rfl
  rw [k0, List.append_nil] at g
  rw [z0, z1, Bool.false_or, Bool.or_false, List.nil_append, g]
end
section
def dupL {α : Type} [DecidableEq α] : List α → List α → Bool
  | _, [] => false
  | seen, a :: r => if a ∈ seen then true else dupL (seen ++ [a]) r
def cN {α : Type} [DecidableEq α] (a : α) (l : List α) : Nat := (l.filter fun z => decide (z = a)).length
theorem cN_cons {α : Type} [DecidableEq α] (a c : α) (l : List α) : cN a (c :: l) = (if c = a then 1 else 0) + cN a l := by
  unfold cN
  rw [List.filter_cons]
  by_cases h : c = a
  · rw [if_pos (decide_eq_true h), if_pos h, List.length_cons]; omega
  · rw [if_neg (by simp [h]), if_neg h]; omega
theorem cN_app {α : Type} [DecidableEq α] (a : α) (l r : List α) : cN a (l ++ r) = cN a l + cN a r := by
  unfold cN; rw [List.filter_append, List.length_append]
theorem cN_pos {α : Type} [DecidableEq α] (a : α) (l : List α) : 0 < cN a l ↔ a ∈ l := by
  unfold cN
  rw [List.length_pos_iff_exists_mem]
  constructor
  · rintro ⟨x, hx⟩
    have := List.mem_filter.mp hx
    have e := of_decide_eq_true this.2
    subst e; exact this.1
  · intro h; exact ⟨a, List.mem_filter.mpr ⟨h, by simp⟩⟩
theorem dupL_iff {α : Type} [DecidableEq α] : ∀ (l seen : List α), dupL seen l = true ↔ ∃ a, (a ∈ seen ∧ a ∈ l) ∨ 1 < cN a l
  | [], seen => by
    constructor
    · intro h; cases h
    · rintro ⟨a, ⟨_, h⟩ | h⟩
      · cases h
      · exact absurd h (by show ¬ 1 < 0; omega)
  | c :: r, seen => by
    have u : dupL seen (c :: r) = if c ∈ seen then true else dupL (seen ++ [c]) r := rfl
    rw [u]
    by_cases hc : c ∈ seen
    · rw [if_pos hc]
      exact ⟨fun _ => ⟨c, .inl ⟨hc, List.mem_cons_self⟩⟩, fun _ => rfl⟩
    · rw [if_neg hc, dupL_iff r]
      constructor
      · rintro ⟨a, ⟨h1, h2⟩ | h⟩
        · rcases List.mem_append.mp h1 with h1 | h1
          · exact ⟨a, .inl ⟨h1, List.mem_cons_of_mem _ h2⟩⟩
          · have e := List.mem_singleton.mp h1
            refine ⟨a, .inr ?_⟩
            rw [cN_cons, if_pos e.symm]
            have := (cN_pos a r).mpr h2
            omega
        · refine ⟨a, .inr ?_⟩
          rw [cN_cons]; omega
      · rintro ⟨a, ⟨h1, h2⟩ | h⟩
        · rcases List.mem_cons.mp h2 with rfl | h2
          · exact absurd h1 hc
          · exact ⟨a, .inl ⟨List.mem_append_left _ h1, h2⟩⟩
        · rw [cN_cons] at h
          by_cases e : c = a
          · subst e
            rw [if_pos rfl] at h
            exact ⟨c, .inl ⟨List.mem_append_right _ (List.mem_singleton.mpr rfl), (cN_pos c r).mp (by omega)⟩⟩
          · rw [if_neg e] at h
            exact ⟨a, .inr (by omega)⟩
theorem repKey_dup : ∀ (ss : List Stp) (seen : List K2), repKey seen ss = dupL seen (keysOf ss)
  | [], _ => rfl
  | ⟨.enc, e, t⟩ :: r, seen => repKey_dup r seen
  | ⟨.mix, e, t⟩ :: r, seen => repKey_dup r seen
  | ⟨.key, e, t⟩ :: r, seen => by
    have u2 : dupL seen (keysOf (⟨.key, e, t⟩ :: r)) = dupL seen ((e, t) :: keysOf r) := rfl
    rw [u2]
    unfold repKey dupL
    rw [if_pos rfl]
    by_cases h : (e, t) ∈ seen
    · rw [if_pos h, if_pos h]
    · rw [if_neg h, if_neg h, repKey_dup r]
theorem repSec_dup : ∀ (ss : List Stp) (seen : List Str), repSec seen ss = dupL seen ((mixOf ss).filter fun t => decide (t ∈ SEC))
  | [], _ => rfl
  | ⟨.enc, e, t⟩ :: r, seen => by
    show (if SK.enc = SK.mix ∧ t ∈ SEC then _ else repSec seen r) = _
    rw [if_neg (fun z => by cases z.1), repSec_dup r seen]; rfl
  | ⟨.key, e, t⟩ :: r, seen => by
    show (if SK.key = SK.mix ∧ t ∈ SEC then _ else repSec seen r) = _
    rw [if_neg (fun z => by cases z.1), repSec_dup r seen]; rfl
  | ⟨.mix, e, t⟩ :: r, seen => by
    show (if SK.mix = SK.mix ∧ t ∈ SEC then (if t ∈ seen then true else repSec (seen ++ [t]) r) else repSec seen r) = dupL seen ((t :: mixOf r).filter _)
    rw [List.filter_cons]
    by_cases h : t ∈ SEC
    · rw [if_pos ⟨rfl, h⟩, if_pos (decide_eq_true h), repSec_dup r]; rfl
    · rw [if_neg (fun z => h z.2), if_neg (by simp [h]), repSec_dup r]
theorem steps_of {b : Bef} {ms : List Msg} (o : okM ms) : keysOf (stepsM b ms) = keysOf (befSteps b) ++ keyF (flatM ms) ∧ mixOf (stepsM b ms) = mixedM (flatM ms) := by
  rw [steps_go b ms (fun m hm => (o.tok m hm).1), keysOf_app, mixOf_app, keysOf_app, mixOf_app, (goF_of _ _).1, (goF_of _ _).2, bef_of.2]
  have h : ∀ l : List Bool, keysOf (l.map fun e => ⟨.enc, e, ""⟩) = [] ∧ mixOf (l.map fun e => ⟨.enc, e, ""⟩) = [] := by
    intro l
    induction l with
    | nil => exact ⟨rfl, rfl⟩
    | cons x r ih => exact ih
  split
  · rw [(h _).1, (h _).2, List.append_nil, List.append_nil]; exact ⟨rfl, rfl⟩
  · exact ⟨by rw [show keysOf [] = [] from rfl, List.append_nil], by rw [show mixOf [] = [] from rfl, List.append_nil]; rfl⟩
theorem cN_bef (b : Bef) (e : Bool) (x : Str) : cN (e, x) (keysOf (befSteps b)) = ((befOf b e).filter fun t => decide (t = x)).length := by
  have h1 : ∀ (f : Bool) (l : List Str), cN (e, x) (l.map fun t => (f, t)) = if f = e then (l.filter fun t => decide (t = x)).length else 0 := by
    intro f l
    induction l with
    | nil => split <;> rfl
    | cons t r ih =>
      rw [List.map_cons, cN_cons, ih, List.filter_cons]
      by_cases hf : f = e <;> by_cases ht : t = x <;> simp [hf, ht] <;> omega
  rw [bef_of.1, cN_app, h1, h1]
  cases e
  · show _ + 0 = _; rfl
  · show 0 + _ = _; rw [Nat.zero_add]; rfl
theorem cN_flat (e : Bool) (x : Str) (hx : esB x = true) : ∀ fl : List Fl, cN (e, x) (keyF fl) = (fl.filter fun y => decide (arrow y.1 = arrow e) && decide (y.2.1 = x)).length
  | [] => rfl
  | y :: r => by
    have ih := cN_flat e x hx r
    have e1 : y :: r = [y] ++ r := rfl
    rw [List.filter_cons]
    rw [show keyF (y :: r) = keyF [y] ++ keyF r from (keyF_app [y] r), cN_app, ih, keyF_one]
    by_cases h2 : y.2.1 = x
    · rw [h2, if_pos hx, cN_cons]
      by_cases h1 : y.1 = e
      · rw [if_pos (by rw [h1]), if_pos (by simp [h1])]
        show 1 + 0 + _ = _
        rw [List.length_cons]; omega
      · have : ¬ arrow y.1 = arrow e := fun z => h1 (arrow_inj.mp z)
        rw [if_neg (fun z => h1 (congrArg Prod.fst z)), if_neg (by simp [this])]
        show 0 + 0 + _ = _
        omega
    · rw [if_neg (c := (decide (arrow y.1 = arrow e) && decide (y.2.1 = x)) = true) (by simp [h2])]
      split
      · rw [cN_cons, if_neg (fun z => h2 (congrArg Prod.snd z))]; show 0 + 0 + _ = _; omega
      · show 0 + _ = _; omega
end
section
theorem bef_esB {b : Bef} (o : okB b) (e : Bool) : ∀ t ∈ befOf b e, esB t = true := by
  have h : (BEF.all fun l => l.all fun t => esB t) = true := by decide +kernel
  have h2 := List.all_eq_true.mp h
  intro t ht
  cases e
  · exact List.all_eq_true.mp (h2 _ o.1) t ht
  · exact List.all_eq_true.mp (h2 _ o.2) t ht
theorem cN_all (b : Bef) (fl : List Fl) (e : Bool) (x : Str) (hx : esB x = true) : decide (1 < cN (e, x) (keysOf (befSteps b) ++ keyF fl)) = cX b fl e x := by
  unfold cX
  rw [cN_app, cN_bef, cN_flat e x hx]
theorem cN_zero (b : Bef) (o : okB b) (fl : List Fl) (e : Bool) (x : Str) (hx : ¬ esB x = true) : ¬ 1 < cN (e, x) (keysOf (befSteps b) ++ keyF fl) := by
  intro h
  have h1 : (e, x) ∈ keysOf (befSteps b) ++ keyF fl := (cN_pos _ _).mp (by omega)
  rcases List.mem_append.mp h1 with h1 | h1
  · exact hx (bef_esB o e x (mem_bef.mp h1))
  · unfold keyF at h1
    obtain ⟨y, _, h2⟩ := List.mem_filterMap.mp h1
    split at h2
    · rename_i h3; cases h2; exact hx h3
    · cases h2
theorem es_or {x : Str} (hx : esB x = true) : x = ("e" : Str) ∨ x = ("s" : Str) := by
  unfold esB at hx
  rwa [Bool.or_eq_true, decide_eq_true_eq, decide_eq_true_eq] at hx
theorem rule1 {b : Bef} {ms : List Msg} (ob : okB b) (o : okM ms) : repKey [] (stepsM b ms) = cnt1 b (flatM ms) := by
  rw [repKey_dup, (steps_of o).1, Bool.eq_iff_iff, dupL_iff]
  unfold cnt1
  rw [List.any_eq_true]
  constructor
  · rintro ⟨⟨e, x⟩, ⟨h, _⟩ | h⟩
    · cases h
    · by_cases hx : esB x = true
      · have h2 : cX b (flatM ms) e x = true := by rw [← cN_all b _ e x hx]; exact decide_eq_true h
        refine ⟨e, by cases e <;> simp, List.any_eq_true.mpr ⟨x, ?_, h2⟩⟩
        rcases es_or hx with rfl | rfl
        · exact List.mem_cons_self
        · exact List.mem_cons_of_mem _ List.mem_cons_self
      · exact absurd h (cN_zero b ob _ e x hx)
  · rintro ⟨e, _, h⟩
    obtain ⟨x, hx, h⟩ := List.any_eq_true.mp h
    have hx : esB x = true := by
      rcases List.mem_cons.mp hx with rfl | hx
      · decide +kernel
      · cases List.mem_singleton.mp hx; decide +kernel
    rw [← cN_all b _ e x hx] at h
    exact ⟨(e, x), .inr (of_decide_eq_true h)⟩
theorem cN_mix (t : Str) (ht : t ∈ SEC) : ∀ fl : List Fl, cN t ((mixedM fl).filter fun t => decide (t ∈ SEC)) = (fl.filter fun y => decide (y.2.1 = t)).length
  | [] => rfl
  | y :: r => by
    have ih := cN_mix t ht r
    rw [show mixedM (y :: r) = mixedM [y] ++ mixedM r from (mixed_app [y] r), List.filter_append, cN_app, ih, mixed_one, List.filter_cons]
    by_cases h : y.2.1 = t
    · have : esB y.2.1 = false := by rw [h]; exact (sec_chr t ht).2.2
      rw [this, if_neg (by decide), if_pos (decide_eq_true h), List.length_cons, List.filter_cons, if_pos (decide_eq_true (h ▸ ht)), cN_cons, if_pos h]
      show 1 + 0 + _ = _
      omega
    · rw [if_neg (c := decide (y.2.1 = t) = true) (by simp [h])]
      have : cN t ((if esB y.2.1 = true then ([] : List Str) else [y.2.1]).filter fun t => decide (t ∈ SEC)) = 0 := by
        split
        · rfl
        · rw [List.filter_cons]
          split
          · rw [cN_cons, if_neg h]; rfl
          · rfl
      rw [this]; omega
theorem rule2 {b : Bef} {ms : List Msg} (o : okM ms) : repSec [] (stepsM b ms) = cnt2 (flatM ms) := by
  rw [repSec_dup, (steps_of o).2, Bool.eq_iff_iff, dupL_iff]
  unfold cnt2
  rw [List.any_eq_true]
  constructor
  · rintro ⟨t, ⟨h, _⟩ | h⟩
    · cases h
    · have ht : t ∈ SEC := by
        have := (cN_pos t ((mixedM (flatM ms)).filter fun t => decide (t ∈ SEC))).mp (by omega)
        exact of_decide_eq_true (List.mem_filter.mp this).2
      rw [cN_mix t ht] at h
      exact ⟨t, ht, decide_eq_true h⟩
  · rintro ⟨t, ht, h⟩
    have h := of_decide_eq_true h
    rw [← cN_mix t ht] at h
    exact ⟨t, .inr h⟩
theorem rules_eq {b : Bef} {ms : List Msg} (ob : okB b) (o : okM ms) : lawBroken b ms = brokenM b ms := by
  unfold lawBroken brokenM
  rw [rule1 ob o, rule2 o, rule3 o, rule4 o, rule6 o]
  simp only [Bool.or_assoc]
end
section
def hAt (kk : Keys) (n : Str) (b : Bef) (ms : List Msg) (e : Bool) (pre : List Fl) (idx : Nat) : HSt :=
  ⟨n, b, ms, !e, if nSec b ms e = true then some (kk.s e false) else none, if nEph b ms e = true then some (kk.s e true) else none, if sentM b pre (!e) "s" = true then some (pubK kk (!e) "s") else none,
    if sentM b pre (!e) "e" = true then some (pubK kk (!e) "e") else none, if usesPsk ms = true then some kk.psk else none, idx⟩
theorem sent_nil (b : Bef) (e : Bool) (x : Str) : sentM b [] e x = decide (x ∈ befOf b e) := by unfold sentM; simp
theorem hAt_nil (kk : Keys) (n : Str) (b : Bef) (ms : List Msg) (e : Bool) : hAt kk n b ms e [] 0 = hEnd kk n b ms e := by
  unfold hAt hEnd
  rw [sent_nil, sent_nil]
  congr 1 <;> simp
theorem sent_app (b : Bef) (p r : List Fl) (e : Bool) (x : Str) : sentM b (p ++ r) e x = (sentM b p e x || r.any fun y => y.1 == e && decide (y.2.1 = x)) := by
  unfold sentM; rw [List.any_append, Bool.or_assoc]
theorem sent_one (b : Bef) (p : List Fl) (y : Fl) (e : Bool) (x : Str) : sentM b (p ++ [y]) e x = (sentM b p e x || (y.1 == e && decide (y.2.1 = x))) := by
  rw [sent_app]; simp
theorem flat1_mem (e : Bool) : ∀ (ts : List Str), ∀ y ∈ flat1 e ts, y.1 = e ∧ y.2.1 ∈ ts
  | [], y, h => by cases h
  | [t], y, h => by cases List.mem_singleton.mp h; exact ⟨rfl, List.mem_cons_self⟩
  | t :: u :: r, y, h => by
    have h : y ∈ (e, t, false) :: flat1 e (u :: r) := h
    rcases List.mem_cons.mp h with rfl | h
    · exact ⟨rfl, List.mem_cons_self⟩
    · have := flat1_mem e (u :: r) y h
      exact ⟨this.1, List.mem_cons_of_mem _ this.2⟩
theorem sent_sends {b : Bef} {ms : List Msg} {p0 : List Fl} (hp : ∀ y ∈ p0, y ∈ flatM ms) {e : Bool} {x : Str} (h : sentM b p0 e x = true) : (decide (x ∈ befOf b e) || sends x e ms) = true := by
  unfold sentM at h
  rw [Bool.or_eq_true] at h ⊢
  rcases h with h | h
  · exact .inl h
  · refine .inr ?_
    obtain ⟨y, h1, h2⟩ := List.any_eq_true.mp h
    rw [Bool.and_eq_true] at h2
    have h3 := hp y h1
    unfold flatM at h3
    obtain ⟨m, hm, hy⟩ := List.mem_flatMap.mp h3
    obtain ⟨a1, a2⟩ := flat1_mem _ _ _ hy
    have e2 := of_decide_eq_true h2.2
    unfold sends
    refine List.any_eq_true.mpr ⟨m, hm, ?_⟩
    rw [Bool.and_eq_true]
    exact ⟨by rw [← a1]; exact h2.1, decide_eq_true (e2 ▸ a2)⟩
theorem own_at {kk : Keys} {n : Str} {b : Bef} {ms : List Msg} {e : Bool} {pre p0 : List Fl} {idx : Nat} (hp : ∀ y ∈ p0, y ∈ flatM ms) {l : Str} (hl : esB l = true) (h : sentM b p0 e l = true) : hOwn (hAt kk n b ms e pre idx) l = some (kk.s e (isE l)) := by
  have h2 := sent_sends hp h
  rcases es_or hl with rfl | rfl
  · show (if nEph b ms e = true then some (kk.s e true) else none) = _
    rw [if_pos (show nEph b ms e = true from h2)]; rfl
  · show (if nSec b ms e = true then some (kk.s e false) else none) = _
    rw [if_pos (show nSec b ms e = true from h2)]; rfl
theorem peer_at {kk : Keys} {n : Str} {b : Bef} {ms : List Msg} {e : Bool} {pre : List Fl} {idx : Nat} {l : Str} (hl : esB l = true) (h : sentM b pre (!e) l = true) : hPeer (hAt kk n b ms e pre idx) l = some (pubK kk (!e) l) := by
  rcases es_or hl with rfl | rfl
  · show (if sentM b pre (!e) "e" = true then some (pubK kk (!e) "e") else none) = _
    rw [if_pos h]
  · show (if sentM b pre (!e) "s" = true then some (pubK kk (!e) "s") else none) = _
    rw [if_pos h]
theorem conf_sec {kk : Keys} (ok : okKeys kk) {n : Str} {b : Bef} {ms : List Msg} {e e2 up : Bool} {pre p0 : List Fl} {idx : Nat} {x : Str} (hx : x ∈ SEC) (hp : ∀ y ∈ p0, y ∈ flatM ms)
    (h0 : sentM b p0 false (chr0 x) = true) (h1 : sentM b p0 true (chr1 x) = true) (hq : ∀ l, sentM b p0 (!e) l = true → sentM b pre (!e) l = true) : conf (wdK kk up e2) (hAt kk n b ms e pre idx) x := by
  have hn : ¬ x = ("psk" : Str) := by
    have : (SEC.all fun t => !decide (t = ("psk" : Str))) = true := by decide +kernel
    have := List.all_eq_true.mp this x hx
    simpa using this
  obtain ⟨c0, c1, _⟩ := sec_chr x hx
  unfold conf
  rw [if_neg hn]
  cases e
  · refine ⟨_, _, own_at hp c0 h0, peer_at c1 (hq _ h1), (ok.s _ _).1, (ok.s _ _).2, pubM_by _, pubM_len _, strong _, rfl⟩
  · refine ⟨_, _, own_at hp c1 h1, peer_at c0 (hq _ h0), (ok.s _ _).1, (ok.s _ _).2, pubM_by _, pubM_len _, strong _, ?_⟩
    exact ex_comm _ _
end
section
theorem brkKey_app (b : Bef) : ∀ (a r pre : List Fl), brkKey b pre (a ++ r) = false → brkKey b pre a = false ∧ brkKey b (pre ++ a) r = false
  | [], r, pre, h => ⟨rfl, by rw [List.append_nil]; exact h⟩
  | y :: a, r, pre, h => by
    rw [List.cons_append, brkKey_cons] at h
    rw [brkKey_cons]
    split at h
    · cases h
    · rename_i hn
      have := brkKey_app b a r (pre ++ [y]) h
      rw [if_neg hn]
      exact ⟨this.1, by have := this.2; rwa [List.append_assoc] at this⟩
theorem brk_at {b : Bef} {pre r : List Fl} {y : Fl} (h : brkKey b pre (y :: r) = false) : (y.2.1 ∈ SEC → sentM b pre false (chr0 y.2.1) = true ∧ sentM b pre true (chr1 y.2.1) = true) ∧ brkKey b (pre ++ [y]) r = false := by
  rw [brkKey_cons] at h
  split at h
  · cases h
  · rename_i hn
    refine ⟨fun hs => ?_, h⟩
    have : ¬ (sentM b pre false (chr0 y.2.1) && sentM b pre true (chr1 y.2.1)) = false := fun z => hn ⟨hs, z⟩
    rw [Bool.not_eq_false, Bool.and_eq_true] at this
    exact this
theorem flat1_cons (e : Bool) (t : Str) (r : List Str) : ∃ l, flat1 e (t :: r) = (e, t, l) :: flat1 e r := by
  cases r with
  | nil => exact ⟨true, rfl⟩
  | cons u r => exact ⟨false, rfl⟩
theorem es_ne : ¬ ("e" : Str) = ("s" : Str) := by decide +kernel
theorem se_ne : ¬ ("s" : Str) = ("e" : Str) := by decide +kernel
theorem hRd_at {kk : Keys} {n : Str} {b : Bef} {ms : List Msg} {f up l : Bool} {pre : List Fl} {idx : Nat} {x : Str} : hRd (wdK kk up f) (hAt kk n b ms (!f) pre idx) x = hAt kk n b ms (!f) (pre ++ [(f, x, l)]) idx := by
  unfold hRd hAt
  rw [sent_one, sent_one]
  by_cases h1 : x = ("e" : Str)
  · subst h1
    rw [if_pos rfl]
    congr 1 <;> cases f <;> simp [wdK, es_ne, se_ne]
  · by_cases h2 : x = ("s" : Str)
    · subst h2
      rw [if_neg h1, if_pos rfl]
      congr 1 <;> cases f <;> simp [wdK, es_ne, se_ne]
    · rw [if_neg h1, if_neg h2]
      congr 1 <;> simp [h1, h2]
theorem read_at {kk : Keys} (ok : okKeys kk) {n : Str} {b : Bef} {ms : List Msg} {f up : Bool} {idx : Nat} {rest : List Fl} (hu : up = usesPsk ms) : ∀ (ts : List Str) (pre : List Fl), (∀ t ∈ ts, t ∈ TOK) → (("psk" : Str) ∈ ts → usesPsk ms = true) → (∀ y ∈ pre ++ flat1 f ts, y ∈ flatM ms) → brkKey b pre (flat1 f ts ++ rest) = false →
    rokL (wdK kk up f) (hAt kk n b ms (!f) pre idx) ts ∧ hRdL (wdK kk up f) (hAt kk n b ms (!f) pre idx) ts = hAt kk n b ms (!f) (pre ++ flat1 f ts) idx
  | [], pre, _, _, _, _ => ⟨trivial, by show hAt kk n b ms (!f) pre idx = hAt kk n b ms (!f) (pre ++ []) idx; rw [List.append_nil]⟩
  | t :: r, pre, ht, hpsk, hm, hb => by
    obtain ⟨l, hl⟩ := flat1_cons f t r
    rw [hl, List.cons_append] at hb
    obtain ⟨hs, hb2⟩ := brk_at hb
    have ih := read_at ok (n := n) (up := up) (idx := idx) (rest := rest) hu r (pre ++ [(f, t, l)]) (fun x hx => ht x (List.mem_cons_of_mem _ hx)) (fun z => hpsk (List.mem_cons_of_mem _ z)) (by rw [List.append_assoc]; rw [hl] at hm; exact hm) hb2
    have eR : rokL (wdK kk up f) (hAt kk n b ms (!f) pre idx) (t :: r) = (rok (wdK kk up f) (hAt kk n b ms (!f) pre idx) t ∧ rokL (wdK kk up f) (hRd (wdK kk up f) (hAt kk n b ms (!f) pre idx) t) r) := rfl
    have eH : hRdL (wdK kk up f) (hAt kk n b ms (!f) pre idx) (t :: r) = hRdL (wdK kk up f) (hRd (wdK kk up f) (hAt kk n b ms (!f) pre idx) t) r := rfl
    rw [eR, eH, hRd_at (l := l), hl]
    rw [List.append_assoc] at ih
    refine ⟨⟨?_, ih.1⟩, ih.2⟩
    unfold rok
    by_cases he : t = ("e" : Str) ∨ t = ("s" : Str)
    · rw [if_pos he]; exact ⟨pubM_by _, pubM_len _, strong _⟩
    · rw [if_neg he]
      by_cases hp : t = ("psk" : Str)
      · unfold conf
        rw [if_pos hp]
        refine ⟨?_, ok.psk.1, ok.psk.2⟩
        show (if usesPsk ms = true then some kk.psk else none) = some kk.psk
        rw [if_pos (hpsk (hp ▸ List.mem_cons_self))]
      · have hx : t ∈ SEC := tok_sec (ht t List.mem_cons_self) (fun z => he (.inl z)) (fun z => he (.inr z)) hp
        exact conf_sec ok hx (fun y hy => hm y (List.mem_append_left _ hy)) (hs hx).1 (hs hx).2 (fun _ z => z)
end
section
theorem write_at {kk : Keys} (ok : okKeys kk) {n : Str} {b : Bef} {ms : List Msg} {f up : Bool} {idx : Nat} {rest pre : List Fl} : ∀ (ts : List Str) (mid : List Fl), (∀ y ∈ mid, y.1 = f) → (∀ t ∈ ts, t ∈ TOK) → (("psk" : Str) ∈ ts → usesPsk ms = true) → (∀ y ∈ (pre ++ mid) ++ flat1 f ts, y ∈ flatM ms) → brkKey b (pre ++ mid) (flat1 f ts ++ rest) = false →
    ∀ x ∈ ts, wok (wdK kk up f) (hAt kk n b ms f pre idx) x
  | [], _, _, _, _, _, _ => fun x hx => by cases hx
  | t :: r, mid, hf, ht, hpsk, hm, hb => by
    obtain ⟨l, hl⟩ := flat1_cons f t r
    rw [hl, List.cons_append] at hb
    obtain ⟨hs, hb2⟩ := brk_at hb
    rw [List.append_assoc] at hb2
    have ih := write_at ok (n := n) (up := up) (idx := idx) (rest := rest) (pre := pre) r (mid ++ [(f, t, l)]) (fun y hy => (List.mem_append.mp hy).elim (hf y) (fun z => by cases List.mem_singleton.mp z; rfl)) (fun x hx => ht x (List.mem_cons_of_mem _ hx)) (fun z => hpsk (List.mem_cons_of_mem _ z)) (by
      rw [hl] at hm
      intro y hy
      exact hm y (by simpa using hy)) hb2
    intro x hx
    rcases List.mem_cons.mp hx with rfl | hx
    · unfold wok
      by_cases he : x = ("e" : Str) ∨ x = ("s" : Str)
      · rw [if_pos he]
        have hes : esB x = true := by rcases he with rfl | rfl <;> decide +kernel
        have hse : sentM b ((pre ++ mid) ++ [(f, x, l)]) f x = true := by rw [sent_one]; simp
        refine ⟨_, own_at (p0 := (pre ++ mid) ++ [(f, x, l)]) (fun y hy => hm y ?_) hes hse, (ok.s _ _).1, (ok.s _ _).2, rfl⟩
        rw [hl]
        have : y ∈ ((pre ++ mid) ++ [(f, x, l)]) ++ flat1 f r := List.mem_append_left _ hy
        simpa using this
      · rw [if_neg he]
        by_cases hp : x = ("psk" : Str)
        · unfold conf
          rw [if_pos hp]
          refine ⟨?_, ok.psk.1, ok.psk.2⟩
          show (if usesPsk ms = true then some kk.psk else none) = some kk.psk
          rw [if_pos (hpsk (hp ▸ List.mem_cons_self))]
        · have hx : x ∈ SEC := tok_sec (ht x List.mem_cons_self) (fun z => he (.inl z)) (fun z => he (.inr z)) hp
          refine conf_sec ok hx (fun y hy => hm y (List.mem_append_left _ hy)) (hs hx).1 (hs hx).2 (fun l2 z => ?_)
          rw [sent_app, Bool.or_eq_true] at z
          rcases z with z | z
          · exact z
          · obtain ⟨y, h1, h2⟩ := List.any_eq_true.mp z
            rw [hf y h1] at h2
            cases f <;> simp at h2
    · exact ih x hx
end
section
theorem flat_app (a c : List Msg) : flatM (a ++ c) = flatM a ++ flatM c := by unfold flatM; rw [List.flatMap_append]
theorem flat_split {ms : List Msg} {k : Nat} {m : Msg} (h : ms[k]? = some m) : flatM (ms.take (k + 1)) = flatM (ms.take k) ++ flat1 m.1 m.2 ∧ flatM ms = flatM (ms.take k) ++ (flat1 m.1 m.2 ++ flatM (ms.drop (k + 1))) := by
  have h1 : ms.take (k + 1) = ms.take k ++ [m] := by rw [List.take_succ, h]; rfl
  have e1 : flatM [m] = flat1 m.1 m.2 := by unfold flatM; simp
  have h2 : flatM (ms.take (k + 1)) = flatM (ms.take k) ++ flat1 m.1 m.2 := by rw [h1, flat_app, e1]
  refine ⟨h2, ?_⟩
  have h3 : flatM ms = flatM (ms.take (k + 1)) ++ flatM (ms.drop (k + 1)) := by rw [← flat_app, List.take_append_drop]
  rw [h3, h2, List.append_assoc]
theorem turn_at {kk : Keys} (ok : okKeys kk) {n : Str} {b : Bef} {ms : List Msg} (ob : okB b) (o : okM ms) (hb : brokenM b ms = false) {k : Nat} {m : Msg} (h : ms[k]? = some m) :
    (∀ x ∈ m.2, wok (wdK kk (usesPsk ms) m.1) (hAt kk n b ms m.1 (flatM (ms.take k)) k) x) ∧ rokL (wdK kk (usesPsk ms) m.1) (hAt kk n b ms (!m.1) (flatM (ms.take k)) k) m.2 ∧
    hRdL (wdK kk (usesPsk ms) m.1) (hAt kk n b ms (!m.1) (flatM (ms.take k)) k) m.2 = hAt kk n b ms (!m.1) (flatM (ms.take (k + 1))) k := by
  obtain ⟨f1, f2⟩ := flat_split h
  have hm : m ∈ ms := List.mem_of_getElem? h
  have br : brkKey b [] (flatM ms) = false := by
    rw [← rule3 o]
    unfold brokenM at hb
    simp only [Bool.or_eq_false_iff] at hb
    exact hb.1.1.1.2
  rw [f2] at br
  have br := (brkKey_app b _ _ _ br).2
  rw [List.nil_append] at br
  have hp : ("psk" : Str) ∈ m.2 → usesPsk ms = true := fun z => List.any_eq_true.mpr ⟨m, hm, decide_eq_true z⟩
  have hin : ∀ y ∈ flatM (ms.take k) ++ flat1 m.1 m.2, y ∈ flatM ms := fun y hy => by rw [f2, ← List.append_assoc]; exact List.mem_append_left _ hy
  obtain ⟨r1, r2⟩ := read_at ok (n := n) (ms := ms) (idx := k) rfl m.2 (flatM (ms.take k)) (o.tok m hm).2.2 hp hin br
  refine ⟨?_, r1, by rw [r2, f1]⟩
  have := write_at ok (n := n) (up := usesPsk ms) (idx := k) (pre := flatM (ms.take k)) (rest := flatM (ms.drop (k + 1))) m.2 [] (fun y z => by cases z) (o.tok m hm).2.2 hp (by rw [List.append_nil]; exact hin) (by rw [List.append_nil]; exact br)
  exact this
end
section
theorem msgR_fine (w : Wd) : ∀ (xs : List Str) (s : List Int × TSt), okT s.2 → s.2.ended = false → s.2.num + xs.length < 1000000 → okT (msgR w s xs).2 ∧ (msgR w s xs).2.ended = false ∧ (msgR w s xs).2.num ≤ s.2.num + xs.length
  | [], s, o, h, _ => ⟨o, h, by show s.2.num ≤ s.2.num + 0; omega⟩
  | x :: r, s, o, h, hn => by
    have e : msgR w s (x :: r) = msgR w (s.1 ++ tokB w s.2 x, tokT w s.2 x) r := rfl
    rw [List.length_cons] at hn
    have h1 := tokT_num (w := w) (x := x) o
    have o1 : okT (tokT w s.2 x) := tokT_ok o (by omega)
    have h2 : (tokT w s.2 x).ended = false := by rw [tokT_end]; exact h
    obtain ⟨a, c, d⟩ := msgR_fine w r (s.1 ++ tokB w s.2 x, tokT w s.2 x) o1 h2 (by dsimp only; omega)
    rw [e, List.length_cons]
    exact ⟨a, c, by dsimp only at d; omega⟩
theorem msgT_fine (w : Wd) (xs : List Str) (t : TSt) (pay : List Int) (o : okT t) (h : t.ended = false) (hl : xs.length ≤ 8) (hn : t.num ≤ 900000) : okT (msgT w t xs pay) ∧ (msgT w t xs pay).ended = false ∧ (msgT w t xs pay).num ≤ t.num + 9 := by
  obtain ⟨a, c, d⟩ := msgR_fine w xs ([], t) o h (by dsimp only; omega)
  dsimp only at d
  unfold msgT
  refine ⟨a.sealed pay (by omega), c, ?_⟩
  have := a.n0
  show nkNext _ _ ≤ _
  unfold nkNext
  split <;> omega
theorem shows_at {b : Bef} {ms : List Msg} (e : Bool) : sentM b (flatM ms) e "s" = showsM b ms e false := by
  unfold showsM sentM
  congr 1
  have h : ∀ (ts : List Str), ∀ f : Bool, ((flat1 f ts).any fun y => y.1 == e && decide (y.2.1 = ("s" : Str))) = (f == e && decide (("s" : Str) ∈ ts)) := by
    intro ts
    induction ts with
    | nil => intro f; show false = _; simp
    | cons t r ih =>
      intro f
      obtain ⟨l, hl⟩ := flat1_cons f t r
      rw [hl, List.any_cons, ih f]
      by_cases h1 : t = ("s" : Str)
      · subst h1; cases (f == e) <;> simp
      · have h2 : ¬ ("s" : Str) = t := fun z => h1 z.symm
        simp [h1, h2]
  unfold sends
  show (flatM ms).any _ = (true && ms.any _)
  rw [Bool.true_and]
  unfold flatM
  rw [List.any_flatMap]
  congr 1
  funext m
  exact h m.2 m.1
end
section
theorem mixE_num {up : Bool} {t : TSt} {x : Str} {k : List Int} (h : t.num = 0) : (mixE up t x k).num = 0 := by
  unfold mixE
  split
  · rfl
  · exact h
theorem runP_fine (pub : Bool → Str → List Int) (up e : Bool) : ∀ (xs : List Str) (t : TSt), okT t → t.ended = false → t.num = 0 → okT (runP pub up e t xs) ∧ (runP pub up e t xs).ended = false ∧ (runP pub up e t xs).num = 0
  | [], t, o, h, hn => ⟨o, h, hn⟩
  | x :: r, t, o, h, hn => runP_fine pub up e r (mixE up (tMix t (pub e x)) x (pub e x)) (mixE_ok (o.mix _)) (by rw [mixE_end]; exact h) (mixE_num hn)
theorem lineT_fine {kk : Keys} {n : Str} {b : Bef} {ms : List Msg} (hn : n ∈ NAMES) : okT (lineT kk n b ms) ∧ (lineT kk n b ms).ended = false ∧ (lineT kk n b ms).num = 0 := by
  have o0 : okT (start0 n) := start0_ok (name_ok n hn).2.1
  have h1 := runP_fine (pubK kk) (usesPsk ms) false b.1 (tMix (start0 n) kk.pro) (o0.mix _) rfl rfl
  exact runP_fine (pubK kk) (usesPsk ms) true b.2 _ h1.1 h1.2.1 h1.2.2
theorem hAt_ok {kk : Keys} (ok : okKeys kk) {n : Str} {b : Bef} {ms : List Msg} (ob : okB b) (om : okM ms) {e : Bool} {pre : List Fl} {idx : Nat} : okH (hAt kk n b ms e pre idx) := by
  refine ⟨ob, om, fun c hc => ?_⟩
  have hc : (if usesPsk ms = true then some kk.psk else none) = some c := hc
  split at hc
  · cases hc; exact ok.psk
  · cases hc
theorem hAt_psk {kk : Keys} {n : Str} {b : Bef} {ms : List Msg} {e : Bool} {pre : List Fl} {idx : Nat} : (hAt kk n b ms e pre idx).psk.isSome = usesPsk ms := by
  show (if usesPsk ms = true then some kk.psk else none).isSome = usesPsk ms
  cases usesPsk ms <;> rfl
theorem hAt_peer {kk : Keys} {n : Str} {b : Bef} {ms : List Msg} {e : Bool} {idx : Nat} : (hAt kk n b ms e (flatM ms) idx).peer = if showsM b ms (!e) false = true then some (pubK kk (!e) "s") else none := by
  rw [← shows_at]; rfl
theorem sent_other (b : Bef) (pre : List Fl) (f : Bool) (ts : List Str) (x : Str) : sentM b (pre ++ flat1 f ts) (!f) x = sentM b pre (!f) x := by
  rw [sent_app]
  have h : ((flat1 f ts).any fun y => y.1 == (!f) && decide (y.2.1 = x)) = false := by
    refine List.any_eq_false.mpr fun y hy hz => ?_
    rw [(flat1_mem f ts y hy).1] at hz
    cases f <;> simp at hz
  rw [h, Bool.or_false]
theorem hAt_wr {kk : Keys} {n : Str} {b : Bef} {ms : List Msg} {k : Nat} {m : Msg} (h : ms[k]? = some m) : { hAt kk n b ms m.1 (flatM (ms.take k)) k with idx := k + 1 } = hAt kk n b ms m.1 (flatM (ms.take (k + 1))) (k + 1) := by
  rw [(flat_split h).1]
  unfold hAt
  rw [sent_other, sent_other]
theorem hAt_rd {kk : Keys} (ok : okKeys kk) {n : Str} {b : Bef} {ms : List Msg} (ob : okB b) (o : okM ms) (hb : brokenM b ms = false) {k : Nat} {m : Msg} (h : ms[k]? = some m) :
    { hRdL (wdK kk (usesPsk ms) m.1) (hAt kk n b ms (!m.1) (flatM (ms.take k)) k) m.2 with idx := k + 1 } = hAt kk n b ms (!m.1) (flatM (ms.take (k + 1))) (k + 1) := by
  rw [(turn_at ok ob o hb h).2.2]; rfl
end
section
theorem Fn.ofB {P : Program} {w : World} {K : PySem.W.Frag} {mg : Str → Option Value} {base : Heap} {N ps : List Str} {k : Nat} {R : SpR} (C : Cxt K mg) {x : Str} (d : He.DefD) (hat : d.at_ = (x, none)) (hf : d.dfl = []) (hk : d.kwd = []) {fd : FuncData}
    (F : FunD K d.name d.qual d.params d.body d.scope (d.dvs K) (d.kws K) (He.fAd K d.at_) fd) (S : FnScope N ps d.scope) (len : ∀ ds M q ex, R ds M q ex → ds.length = ps.length)
    (h : ∀ (cdv : Value) (A : Around) (outer : List Env) (s : Shared) (H : Hp) (E : XK), Room k (A.deeper (envOfC d.qual d.scope s.heap.objs.size (He.ga K x) cdv)) →
      ∃ t, PSs (cxOf CX0 P w K mg base N d.qual d.scope (He.ga K x) cdv A outer s H E).nox d.body t ∧ ∀ ds M q ex, R ds M q ex → StD K W0 t (startD N ds) M { nx := fun _ M' => q .non M', rt := q }) : FnOk P w K mg base CX0 (k + 1) (He.ga K x) fd ps (SpD K R) := by
  have ea : He.fAd K d.at_ = He.ga K x := by rw [hat] <;> rfl
  rw [ea] at F
  exact body0 F S len h
abbrev loopM (pt0 p0 pt1 p1 pl : Addr) (t : TSt) (kk : Keys) (n : Str) (b : Bef) (ms : List Msg) (i : Nat) (M0 : Mem) : Mem :=
  (pt0, trD t) :: (p0, hsD (hAt kk n b ms false (flatM (ms.take i)) i) pt0) :: (pt1, trD t) :: (p1, hsD (hAt kk n b ms true (flatM (ms.take i)) i) pt1) :: (pl, lineD t (usesPsk ms)) :: M0
def R_law : SpR := fun ds M q _ => ∃ (xs : List Int), ds = [scrD xs] ∧ ∀ M', q (.bl true) M'
end
section
variable {P : Program} {w : World} {K : PySem.W.Frag} {mg : Str → Option Value} {base : Heap}
theorem sc_law : FnScope N_law ["_law_script"] (defScope s_law) := ⟨rfl, rfl, rfl, by decide +kernel, rfl, by decide +kernel, by decide +kernel⟩
theorem ok_law (C : Cxt K mg) {fd : FuncData} (F : FunD K d_law.name d_law.qual d_law.params d_law.body d_law.scope (d_law.dvs K) (d_law.kws K) (He.fAd K d_law.at_) fd) (h__law_agree : Fn P w K mg base CX0 "_law_agree" 12 ["_law_suite", "_law_line_here", "_law_ends", "_law_parts", "_law_keys_here"] R__law_agree) (h__law_turn : Fn P w K mg base CX0 "_law_turn" 12 ["_law_suite", "_law_line_here", "_law_ends", "_law_message_here", "_law_payload", "_law_keys_here"] R__law_turn) (h__law_bytes : Fn P w K mg base CX0 "_law_bytes" 3 ["_law_state_here", "_law_count"] R__law_bytes) (h__law_cell : Fn P w K mg base CX0 "_law_cell" 1 ["_law_script", "_law_k"] R__law_cell) (h__law_state : Fn P w K mg base CX0 "_law_state" 1 ["_law_cell_here", "_law_salt"] R__law_state) (h__law_line : Fn P w K mg base CX0 "_law_line" 9 ["_law_suite", "_law_name", "_law_parts", "_law_keys_here"] R__law_line) (h__law_end : Fn P w K mg base (L2.CX P w) "_law_end" 12 ["_law_suite", "_law_pattern", "_law_parts", "_law_side", "_law_keys_here", "_law_without"] (R__law_end K)) (h__law_lacks : Fn P w K mg base CX0 "_law_lacks" 13 ["_law_suite", "_law_pattern", "_law_parts", "_law_keys_here"] R__law_lacks) (h__law_broken : Fn P w K mg base CX0 "_law_broken" 4 ["_law_before_here", "_law_messages_here"] R__law_broken) (h__law_refused : Fn P w K mg base CX0 "_law_refused" 12 ["_law_suite", "_law_pattern", "_law_keys_here"] R__law_refused) (h__law_keys : Fn P w K mg base CX0 "_law_keys" 5 ["_law_suite", "_law_cell_here"] R__law_keys) (h_Pattern___init__ : Ma P w K mg base CX0 "Pattern" 1 ["self", "name", "before", "messages"] R_Pattern___init__) (h_parse_pattern : Fn P w K mg base CX0 "parse_pattern" 3 ["text"] R_parse_pattern) (h__law_text : Fn P w K mg base CX0 "_law_text" 1 ["_law_before_here", "_law_messages_here"] R__law_text) (h__law_pattern_name : Fn P w K mg base CX0 "_law_pattern_name" 1 ["_law_cell_here"] R__law_pattern_name) (h_SmallSuite___init__ : Ma P w K mg base CX0 "SmallSuite" 1 ["self"] R_SmallSuite___init__) (h__law_drawn : Fn P w K mg base CX0 "_law_drawn" 5 ["_law_cell_here", "_law_salt"] R__law_drawn) : FnOk P w K mg base CX0 14 (He.ga K "law") fd ["_law_script"] (SpD K R_law) := by
  refine Fn.ofB C d_law rfl rfl rfl F sc_law (fun ds M q ex h => ?len) (fun cdv A outer s H E hr => ⟨_, (pss_cons (ps_set (i := 1) sc_law.nd rfl (Or.inr rfl) (pe_fn h__law_drawn hr (by decide) rfl (pa_cons (pe_fn h__law_cell hr (by decide) rfl (pa_cons (pv 0) (pa_cons pe_int pa_nil))) (pa_cons pe_int pa_nil))))
      (pss_cons (ps_set (i := 2) sc_law.nd rfl (Or.inr rfl) (pe_ma0 h_SmallSuite___init__ hr (by decide) rfl))
      (pss_cons (ps_set (i := 3) sc_law.nd rfl (Or.inl rfl) (pe_fn h__law_pattern_name hr (by decide) rfl (pa_cons (pe_fn h__law_cell hr (by decide) rfl (pa_cons (pv 0) (pa_cons pe_int pa_nil))) pa_nil)))
      (pss_cons (ps_set (i := 4) sc_law.nd rfl (Or.inr rfl) (pe_fn h_parse_pattern hr (by decide) rfl (pa_cons (pe_fn h__law_text hr (by decide) rfl (pa_cons (pe_ix ix_seq (pv 1) pe_int (fun _ _ => rfl)) (pa_cons (pe_ix ix_seq (pv 1) pe_int (fun _ _ => rfl)) pa_nil))) pa_nil)))
      (pss_cons (ps_if (pt_cmpR (opNeU hr.units) (pv 3) pe_str (nomark _)) (pss_one (ps_set (i := 4) sc_law.nd rfl (Or.inr rfl) (pe_ma h_Pattern___init__ hr (by decide) rfl (pa_cons (pv 3) (pa_cons (pe_ix ix_seq (pv 1) pe_int (fun _ _ => rfl)) (pa_cons (pe_ix ix_seq (pv 1) pe_int (fun _ _ => rfl)) pa_nil)))))) pss_nil)
      (pss_cons (ps_set (i := 5) sc_law.nd rfl (Or.inr rfl) (pe_fn h__law_keys hr (by decide) rfl (pa_cons (pv 2) (pa_cons (pe_fn h__law_cell hr (by decide) rfl (pa_cons (pv 0) (pa_cons pe_int pa_nil))) pa_nil))))
      (pss_cons (ps_if (pt_cmpR op_gt (pe_fn h__law_broken hr (by decide) rfl (pa_cons (pe_ix ix_seq (pv 1) pe_int (fun _ _ => rfl)) (pa_cons (pe_ix ix_seq (pv 1) pe_int (fun _ _ => rfl)) pa_nil))) pe_int (nomark _)) (pss_one (ps_ret (pe_fn h__law_refused hr (by decide) rfl (pa_cons (pv 2) (pa_cons (pv 4) (pa_cons (pv 5) pa_nil)))))) pss_nil)
      (pss_cons (ps_if (pt_not (pt_val (pe_fn h__law_lacks hr (by decide) rfl (pa_cons (pv 2) (pa_cons (pv 4) (pa_cons (pv 1) (pa_cons (pv 5) pa_nil))))))) (pss_one (ps_ret pe_bl)) pss_nil)
      (pss_cons (ps_setLc (i := 6) (own := [("_law_side", 10)]) rfl sc_law.nd rfl rfl (sw_true rfl rfl rfl (by decide +kernel)) (pi_range1 rfl (C.free "range") (pa_cons pe_int pa_nil)) (blkOk_by (N := N_law) (sc := defScope s_law) (by decide +kernel)) (fun _ _ _ _ _ => (pg_name (i := 10) sc_law.nd rfl (Or.inl rfl))) (fun _ _ _ _ _ => pts_nil) (fun _ _ _ _ _ => (pe_fnLK (K := K) rfl h__law_end hr (by decide) rfl (pa_cons (pv 2) (pa_cons (pv 4) (pa_cons (pv 1) (pa_cons (pv 10) (pa_cons (pv 5) (pa_cons pe_bl pa_nil)))))))))
      (pss_cons (ps_set (i := 7) sc_law.nd rfl (Or.inl rfl) (pe_fn h__law_line hr (by decide) rfl (pa_cons (pv 2) (pa_cons (pv 3) (pa_cons (pv 1) (pa_cons (pv 5) pa_nil))))))
      (pss_cons (ps_for PassesOwn.never rfl (pi_range1 rfl (C.free "range") (pa_cons (pe_callB call_len rfl (C.free "len") boot_len (pa_cons (pe_ix ix_seq (pv 1) pe_int (fun _ _ => rfl)) pa_nil)) pa_nil)) (pg_name (i := 8) sc_law.nd rfl (Or.inl rfl)) (pss_cons (ps_set (i := 9) sc_law.nd rfl (Or.inl rfl) (pe_fn h__law_bytes hr (by decide) rfl (pa_cons (pe_fn h__law_state hr (by decide) rfl (pa_cons (pe_fn h__law_cell hr (by decide) rfl (pa_cons (pv 0) (pa_cons (pe_op opAddU pe_int (pv 8)) pa_nil))) (pa_cons (pv 8) pa_nil))) (pa_cons (pe_op op_mod (pe_callB call_abs rfl (C.free "abs") boot_abs (pa_cons (pe_fn h__law_cell hr (by decide) rfl (pa_cons (pv 0) (pa_cons (pe_op opAddU pe_int (pv 8)) pa_nil))) pa_nil)) pe_int) pa_nil))))
      (pss_one (ps_if (pt_not (pt_val (pe_fn h__law_turn hr (by decide) rfl (pa_cons (pv 2) (pa_cons (pv 7) (pa_cons (pv 6) (pa_cons (pe_ix ix_seq (pe_ix ix_seq (pv 1) pe_int (fun _ _ => rfl)) (pv 8) (fun _ _ => rfl)) (pa_cons (pv 9) (pa_cons (pv 5) pa_nil))))))))) (pss_one (ps_ret pe_bl)) pss_nil))))
      (pss_one (ps_ret (pe_fn h__law_agree hr (by decide) rfl (pa_cons (pv 2) (pa_cons (pv 7) (pa_cons (pv 6) (pa_cons (pv 1) (pa_cons (pv 5) pa_nil))))))))))))))))))), fun ds M q ex h => ?main⟩)
  case len => obtain ⟨_, rfl, _⟩ := h; rfl
  case main =>
    obtain ⟨xs, rfl, k⟩ := h
    have hsz : sizeLine = 16777216 := rfl
    walk_at "s"
    walk_at "w"
    refine ⟨xs, 0, rfl, fun c0 => ?_⟩
    walk_at "w"
    refine ⟨c0, 1, rfl, by decide, by decide, fun b ms ob om => ?_⟩
    have hle := om.le
    walk_at "w"
    refine ev_frz (ev_make ?_)
    walk_at "w"
    intro p hp
    refine ⟨p, _, rfl, rfl, rfl, ?_⟩
    refine ⟨p, 0, _, rfl, rfl, ?_⟩
    walk_at "w"
    refine ⟨xs, 26, rfl, fun c1 => ?_⟩
    walk_at "w"
    refine ⟨c1, rfl, fun n hn => ?_⟩
    walk_at "w"
    refine ix_tupD (i := 0) (d := befD b) rfl ?_
    walk_at "w"
    refine ix_tupD (i := 1) (d := msgsD ms) rfl ?_
    walk_at "w"
    refine ⟨b, ms, rfl, ob, om, ?_⟩
    walk_at "w"
    refine ⟨b, ms, rfl, ob, om, ?_⟩
    repeat ((fail_if_success (with_reducible refine sd_if ?_)); walk_at "d")
    refine xs_join [some (scrD xs), some (partsD b ms), some suiteD, some (.str n), some (patD n b ms), none, none, none, none, none, none] M ?_ ?_
    · walk_at "w"
      by_cases hn0 : n = ("" : Str)
      · subst hn0
        refine ite_no (no_not rfl) ?_
        walk_at "w"
        exact ⟨rfl, rfl⟩
      · refine ite_yes (yes_not hn0) ?_
        walk_at "w"
        refine ev_frz (ev_make ?_)
        walk_at "w"
        refine ix_tupD (i := 0) (d := befD b) rfl ?_
        walk_at "w"
        refine ix_tupD (i := 1) (d := msgsD ms) rfl ?_
        walk_at "w"
        intro p2 hp2
        refine ⟨p2, n, b, ms, _, rfl, rfl, rfl, ?_⟩
        refine ⟨p2, 0, _, rfl, rfl, ?_⟩
        walk_at "w"
        exact ⟨rfl, rfl⟩
    walk_at "w"
    refine ⟨xs, 1, rfl, fun c2 => ?_⟩
    walk_at "w"
    refine ⟨c2, rfl, fun kk ok => ?_⟩
    walk_at "w"
    refine ix_tupD (i := 0) (d := befD b) rfl ?_
    walk_at "w"
    refine ix_tupD (i := 1) (d := msgsD ms) rfl ?_
    walk_at "w"
    refine ⟨b, ms, rfl, ob, om, fun r hr0 => ?_⟩
    rw [rules_eq ob om] at hr0
    walk_at "w"
    cases hbr : brokenM b ms with
    | true =>
      refine ite_yes (yes_dec (hr0.mpr hbr)) ?_
      walk_at "w"
      walk_at "r"
      exact ⟨n, b, ms, kk, rfl, ob, om, hbr, k _⟩
    | false =>
      refine ite_no (no_dec fun z => by rw [hr0.mp z] at hbr; cases hbr) ?_
      walk_at "w"
      refine ⟨n, b, ms, kk, rfl, hn, ob, om, ok, strong, hbr, ?_⟩
      walk_at "w"
      refine ite_no (by decide) ?_
      walk_at "w"
      refine ev_lc (fun ds i acc M' => (i = 0 → acc = [] ∧ M' = M) ∧ (i = 1 → ∃ pt0 p0, acc = [.ref p0] ∧ M' = hM pt0 p0 (lineT kk n b ms) (hEnd kk n b ms false) M) ∧
        (i = 2 → ∃ pt0 p0 pt1 p1, acc = [.ref p0, .ref p1] ∧ M' = hM pt1 p1 (lineT kk n b ms) (hEnd kk n b ms true) (hM pt0 p0 (lineT kk n b ms) (hEnd kk n b ms false) M))) (own_name (by decide)) ?_
      refine it_rng1 ?_
      walk_at "w"
      refine ⟨by decide, by decide, by decide, ⟨fun _ => ⟨rfl, rfl⟩, (fun z => by cases z), (fun z => by cases z)⟩, ?_, ?_⟩
      · rintro i d acc M' hd ⟨h0, h1, _⟩
        obtain ⟨hi, rfl⟩ := rngD_get hd
        have hi : i < 2 := hi
        walk_at "w"
        refine ite_yes rfl ?_
        walk_at "w"
        have : i = 0 ∨ i = 1 := by omega
        rcases this with rfl | rfl
        · obtain ⟨rfl, rfl⟩ := h0 rfl
          refine ⟨n, b, ms, false, false, kk, rfl, hn, ob, om, ok, strong, hbr, (fun z => by rw [Bool.and_false] at z; cases z), fun _ pt p2 _ _ => ?_⟩
          exact ⟨(fun z => by cases z), fun _ => ⟨pt, p2, rfl, rfl⟩, (fun z => by cases z)⟩
        · obtain ⟨pt0, p0, rfl, rfl⟩ := h1 rfl
          refine ⟨n, b, ms, true, false, kk, rfl, hn, ob, om, ok, strong, hbr, (fun z => by rw [Bool.and_false] at z; cases z), fun _ pt p2 _ _ => ?_⟩
          exact ⟨(fun z => by cases z), (fun z => by cases z), fun _ => ⟨pt0, p0, pt, p2, rfl, rfl⟩⟩
      · rintro acc M' ⟨_, _, h2⟩
        obtain ⟨pt0, p0, pt1, p1, rfl, rfl⟩ := h2 rfl
        walk_at "w"
        refine ⟨n, b, ms, kk, rfl, hn, ob, om, ok, fun pl hpl => ?_⟩
        walk_at "w"
        obtain ⟨l1, l2, l3⟩ := lineT_fine (kk := kk) (b := b) (ms := ms) hn
        refine xs_for (fun ds i Γ M' => ∃ (t : TSt) (x8 x9 : Option D), okT t ∧ t.ended = false ∧ t.num ≤ 9 * (i : Int) ∧ M'.Perm (loopM pt0 p0 pt1 p1 pl t kk n b ms i M) ∧
          Γ = [some (scrD xs), some (partsD b ms), some suiteD, some (.str n), some (patD n b ms), some (keysD kk), some (.lst [.ref p0, .ref p1]), some (.ref pl), x8, x9, none]) ?_
        refine it_rng1 ?_
        walk_at "w"
        refine ix_tupD (i := 1) (d := msgsD ms) rfl ?_
        walk_at "w"
        rw [List.length_map]
        refine ⟨by omega, by omega, ⟨lineT kk n b ms, _, _, l1, l2, by rw [l3]; decide, ?_, rfl⟩, ?_, ?_⟩
        · have e0 : hAt kk n b ms false (flatM (ms.take 0)) 0 = hEnd kk n b ms false := hAt_nil kk n b ms false
          have e1 : hAt kk n b ms true (flatM (ms.take 0)) 0 = hEnd kk n b ms true := hAt_nil kk n b ms true
          unfold loopM
          rw [e0, e1]
          exact perm_rev _ _ _ _ _ _
        · rintro i d Γ' M' hd ⟨t, x8, x9, o, he, hnum, hperm, rfl⟩
          obtain ⟨hi, rfl⟩ := rngD_get hd
          have hi : i < ms.length := by rwa [Int.toNat_natCast] at hi
          obtain ⟨m, hm⟩ : ∃ m, ms[i]? = some m := ⟨_, List.getElem?_eq_getElem hi⟩
          rw [show (0 : Int) + ((i : Nat) : Int) * 1 = ((i : Nat) : Int) by omega]
          walk_at "d"
          walk_at "d"
          refine xs_asg (ev_forget ?_)
          walk_at "w"
          rw [show (2 : Int) + ((i : Nat) : Int) = ((2 + i : Nat) : Int) by omega]
          refine ⟨xs, 2 + i, rfl, fun c3 => ?_⟩
          walk_at "w"
          refine ⟨c3, i, rfl, by omega, by omega, fun ps a c4 hps ha => ?_⟩
          walk_at "w"
          rw [show (14 : Int) + ((i : Nat) : Int) = ((14 + i : Nat) : Int) by omega]
          refine ⟨xs, 14 + i, rfl, fun c5 => ?_⟩
          walk_at "w"
          refine cb_abs ?_
          walk_at "w"
          have h1 := Int.emod_nonneg (if c5 < 0 then -c5 else c5) (show (21 : Int) ≠ 0 by decide)
          have h2 := Int.emod_lt_of_pos (if c5 < 0 then -c5 else c5) (show (0 : Int) < 21 by decide)
          generalize (if c5 < 0 then -c5 else c5) % 21 = dd at h1 h2 ⊢
          obtain ⟨cnt, rfl⟩ : ∃ n : Nat, dd = n := ⟨dd.toNat, by omega⟩
          refine ⟨ps, a, c4, cnt, _, rfl, rfl, ha, by omega, fun pay a' b' hp1 hp2 _ => ?_⟩
          refine ⟨0, ps, _, rfl, ?_⟩
          walk_at "p"
          refine ev_callP ?_
          walk_at "w"
          refine ix_tupD (i := 1) (d := msgsD ms) rfl ?_
          walk_at "w"
          refine ix_tupD (d := msgD m) (atI_natD (by rw [List.getElem?_map, hm]; rfl)) ?_
          walk_at "w"
          obtain ⟨tw, tr, _⟩ := turn_at ok (n := n) ob om hbr hm
          have ewr := hAt_wr (kk := kk) (n := n) (b := b) hm
          have erd := hAt_rd ok (n := n) ob om hbr hm
          have hmm : m ∈ ms := List.mem_of_getElem? hm
          obtain ⟨f1, f2, f3⟩ := msgT_fine (wdK kk (usesPsk ms) m.1) m.2 t pay o he (om.tok m hmm).2.1 (by omega)
          obtain ⟨e, ts⟩ := m
          cases e with
          | false =>
            refine ⟨_, hperm, pt0, p0, pt1, p1, pl, t, hAt kk n b ms false (flatM (ms.take i)) i, hAt kk n b ms true (flatM (ms.take i)) i, usesPsk ms, (false, ts), pay, kk, M, rfl, rfl, o, he, by omega, hAt_ok ok ob om, hAt_ok ok ob om, hi, hi, hm, hm, rfl, rfl, hAt_psk, hAt_psk, hp1, by omega, ok, strong, tw, tr, fun M1 hM1 => ?_⟩
            walk_at "w"
            refine ite_no (by decide) ?_
            walk_at "w"
            refine ⟨_, _, _, f1, f2, Int.le_trans f3 (by push_cast; omega), ?_, rfl⟩
            rw [hM1]
            have erd2 : { hRdL (wdK kk (usesPsk ms) false) (hAt kk n b ms true (flatM (ms.take i)) i) ts with idx := i + 1 } = hAt kk n b ms true (flatM (ms.take (i + 1))) (i + 1) := erd
            have ewr2 : { hAt kk n b ms false (flatM (ms.take i)) i with idx := i + 1 } = hAt kk n b ms false (flatM (ms.take (i + 1))) (i + 1) := ewr
            unfold loopM
            rw [← erd2, ← ewr2]
            exact perm_swap2 _ _ _ _ _
          | true =>
            refine ⟨_, hperm.trans (perm_swap2 _ _ _ _ _), pt1, p1, pt0, p0, pl, t, hAt kk n b ms true (flatM (ms.take i)) i, hAt kk n b ms false (flatM (ms.take i)) i, usesPsk ms, (true, ts), pay, kk, M, rfl, rfl, o, he, by omega, hAt_ok ok ob om, hAt_ok ok ob om, hi, hi, hm, hm, rfl, rfl, hAt_psk, hAt_psk, hp1, by omega, ok, strong, tw, tr, fun M1 hM1 => ?_⟩
            walk_at "w"
            refine ite_no (by decide) ?_
            walk_at "w"
            refine ⟨_, _, _, f1, f2, Int.le_trans f3 (by push_cast; omega), ?_, rfl⟩
            rw [hM1]
            have erd2 : { hRdL (wdK kk (usesPsk ms) true) (hAt kk n b ms false (flatM (ms.take i)) i) ts with idx := i + 1 } = hAt kk n b ms false (flatM (ms.take (i + 1))) (i + 1) := erd
            have ewr2 : { hAt kk n b ms true (flatM (ms.take i)) i with idx := i + 1 } = hAt kk n b ms true (flatM (ms.take (i + 1))) (i + 1) := ewr
            unfold loopM
            rw [← erd2, ← ewr2]
            exact List.Perm.refl _
        · rintro Γ' M' ⟨t, x8, x9, o, he, hnum, hperm, rfl⟩
          have hl : (rngD 0 1 ((ms.length : Nat) : Int).toNat).length = ms.length := by rw [rngD_len, Int.toNat_natCast]
          rw [hl] at hnum hperm
          refine xs_ret (ev_callP ?_)
          walk_at "w"
          refine ⟨_, hperm, pt0, p0, pt1, p1, pl, t, hAt kk n b ms false (flatM (ms.take ms.length)) ms.length, hAt kk n b ms true (flatM (ms.take ms.length)) ms.length, usesPsk ms, b, ms, kk, M, rfl, rfl, o, he, by omega, ob, om, hAt_ok ok ob om, hAt_ok ok ob om, rfl, rfl, ?_, ?_, fun M1 _ => k M1⟩
          · rw [List.take_length]; exact hAt_peer
          · rw [List.take_length]; exact hAt_peer
end
section
section
variable {P : Program} {w : World} {K : PySem.W.Frag} {mg : Str → Option Value} {base : Heap}
theorem all_law (C : Cxt K mg) {fd : FuncData} (F : FunD K d_law.name d_law.qual d_law.params d_law.body d_law.scope (d_law.dvs K) (d_law.kws K) (He.fAd K d_law.at_) fd) : FnOk P w K mg base CX0 14 (He.ga K "law") fd ["_law_script"] (SpD K R_law) := by
  have h_to_little : Fn P w K mg base CX0 "to_little" 1 ["number", "size"] R_to_little := ok_to_little C
  have h_small_mix : Fn P w K mg base CX0 "small_mix" 1 ["pair", "number"] R_small_mix := ok_small_mix C
  have h_cut : Fn P w K mg base CX0 "cut" 1 ["data", "size"] R_cut := ok_cut C
  have h_from_big : Fn P w K mg base CX0 "from_big" 1 ["data"] R_from_big := ok_from_big C
  have h_from_little : Fn P w K mg base CX0 "from_little" 2 ["data"] R_from_little := ok_from_little C h_from_big
  have h_small_pair : Fn P w K mg base CX0 "small_pair" 3 ["data"] R_small_pair := ok_small_pair C h_small_mix h_cut h_from_little
  have h_small_digest : Fn P w K mg base CX0 "small_digest" 4 ["data"] R_small_digest := ok_small_digest C h_to_little h_small_pair
  have h_SmallSuite_digest : Me P w K mg base CX0 "SmallSuite" "digest" 5 ["self", "data"] R_SmallSuite_digest := ok_SmallSuite_digest C h_small_digest
  have h_Transcript_check_open : Me P w K mg base (L2.CX P w) "Transcript" "check_open" 1 ["self"] (R_Transcript_check_open K) := ok_Transcript_check_open C
  have h_Transcript_mix_data : Me P w K mg base CX0 "Transcript" "mix_data" 6 ["self", "data"] R_Transcript_mix_data := ok_Transcript_mix_data C h_SmallSuite_digest h_Transcript_check_open
  have h_to_big : Fn P w K mg base CX0 "to_big" 2 ["number", "size"] R_to_big := ok_to_big C h_to_little
  have h_SmallSuite_tag : Me P w K mg base CX0 "SmallSuite" "tag" 5 ["self", "key", "number", "data", "combined"] R_SmallSuite_tag := ok_SmallSuite_tag C h_small_digest h_to_big
  have h_combine : Fn P w K mg base CX0 "combine" 1 ["first", "second"] R_combine := ok_combine C
  have h_small_stream : Fn P w K mg base CX0 "small_stream" 4 ["key", "number", "size"] R_small_stream := ok_small_stream C h_to_little h_small_pair h_to_big
  have h_check_key : Fn P w K mg base CX0 "check_key" 1 ["suite", "key"] R_check_key := ok_check_key C
  have h_check_sealing : Fn P w K mg base CX0 "check_sealing" 2 ["suite", "key", "number", "data", "size"] R_check_sealing := ok_check_sealing C h_check_key
  have h_SmallSuite_seal : Me P w K mg base CX0 "SmallSuite" "seal" 6 ["self", "key", "number", "data", "text"] R_SmallSuite_seal := ok_SmallSuite_seal C h_SmallSuite_tag h_combine h_small_stream h_check_sealing
  have h_NumberedKey_seal : Me P w K mg base CX0 "NumberedKey" "seal" 7 ["self", "data", "text"] R_NumberedKey_seal := ok_NumberedKey_seal C h_SmallSuite_seal
  have h_NumberedKey___init__ : Ma P w K mg base CX0 "NumberedKey" 2 ["self", "suite", "key"] R_NumberedKey___init__ := ok_NumberedKey___init__ C h_check_key
  have h_NumberedKey_twin : Me P w K mg base CX0 "NumberedKey" "twin" 4 ["self"] R_NumberedKey_twin := ok_NumberedKey_twin C h_NumberedKey___init__
  have h_Transcript_seal : Me P w K mg base CX0 "Transcript" "seal" 8 ["self", "text"] R_Transcript_seal := ok_Transcript_seal C h_Transcript_mix_data h_NumberedKey_seal h_NumberedKey_twin h_Transcript_check_open
  have h_Transcript_set_key : Me P w K mg base CX0 "Transcript" "set_key" 4 ["self", "value"] R_Transcript_set_key := ok_Transcript_set_key C h_NumberedKey___init__
  have h_check_keyed : Fn P w K mg base CX0 "check_keyed" 1 ["key", "data"] R_check_keyed := ok_check_keyed C
  have h_SmallSuite_keyed : Me P w K mg base CX0 "SmallSuite" "keyed" 5 ["self", "key", "data"] R_SmallSuite_keyed := ok_SmallSuite_keyed C h_small_digest h_to_big h_check_keyed
  have h_two_values : Fn P w K mg base CX0 "two_values" 6 ["suite", "chain", "data"] R_two_values := ok_two_values C h_SmallSuite_keyed
  have h_Transcript_mix_key : Me P w K mg base CX0 "Transcript" "mix_key" 7 ["self", "data"] R_Transcript_mix_key := ok_Transcript_mix_key C h_Transcript_set_key h_two_values h_Transcript_check_open
  have h_Handshake_mix_ephemeral : Me P w K mg base CX0 "Handshake" "mix_ephemeral" 8 ["self", "token", "key"] R_Handshake_mix_ephemeral := ok_Handshake_mix_ephemeral C h_Transcript_mix_key
  have h_small_power : Fn P w K mg base CX0 "small_power" 1 ["base", "exponent"] R_small_power := ok_small_power C
  have h_small_exponent : Fn P w K mg base CX0 "small_exponent" 3 ["secret"] R_small_exponent := ok_small_exponent C h_from_little
  have h_SmallSuite_public : Me P w K mg base CX0 "SmallSuite" "public" 4 ["self", "secret"] R_SmallSuite_public := ok_SmallSuite_public C h_to_little h_small_power h_small_exponent h_check_key
  have h_Handshake_own_public : Me P w K mg base CX0 "Handshake" "own_public" 5 ["self", "token"] R_Handshake_own_public := ok_Handshake_own_public C h_SmallSuite_public
  have h_SmallSuite_is_weak : Me P w K mg base CX0 "SmallSuite" "is_weak" 3 ["self", "public"] R_SmallSuite_is_weak := ok_SmallSuite_is_weak C h_small_power h_from_little h_check_key
  have h_SmallSuite_exchange : Me P w K mg base CX0 "SmallSuite" "exchange" 4 ["self", "secret", "public"] R_SmallSuite_exchange := ok_SmallSuite_exchange C h_to_little h_small_power h_small_exponent h_from_little h_SmallSuite_is_weak h_check_key
  have h_Handshake_peer_public : Me P w K mg base CX0 "Handshake" "peer_public" 1 ["self", "token"] R_Handshake_peer_public := ok_Handshake_peer_public C
  have h_three_values : Fn P w K mg base CX0 "three_values" 6 ["suite", "chain", "data"] R_three_values := ok_three_values C h_SmallSuite_keyed
  have h_Transcript_mix_both : Me P w K mg base CX0 "Transcript" "mix_both" 7 ["self", "data"] R_Transcript_mix_both := ok_Transcript_mix_both C h_Transcript_set_key h_Transcript_mix_data h_three_values h_Transcript_check_open
  have h_Handshake_mix_token : Me P w K mg base CX0 "Handshake" "mix_token" 8 ["self", "token"] R_Handshake_mix_token := ok_Handshake_mix_token C h_Transcript_mix_key h_SmallSuite_exchange h_Handshake_peer_public h_Transcript_mix_both
  have h_NumberedKey_has_key : Me P w K mg base CX0 "NumberedKey" "has_key" 1 ["self"] R_NumberedKey_has_key := ok_NumberedKey_has_key C
  have h_Transcript_has_key : Me P w K mg base CX0 "Transcript" "has_key" 2 ["self"] R_Transcript_has_key := ok_Transcript_has_key C h_NumberedKey_has_key
  have h_Handshake_is_done : Me P w K mg base CX0 "Handshake" "is_done" 1 ["self"] R_Handshake_is_done := ok_Handshake_is_done C
  have h_Handshake_overhead : Me P w K mg base CX0 "Handshake" "overhead" 3 ["self"] R_Handshake_overhead := ok_Handshake_overhead C h_Transcript_has_key h_Handshake_is_done
  have h_Handshake_writes_next : Me P w K mg base CX0 "Handshake" "writes_next" 2 ["self"] R_Handshake_writes_next := ok_Handshake_writes_next C h_Handshake_is_done
  have h_Handshake_write : Me P w K mg base (L2.CX P w) "Handshake" "write" 9 ["self", "payload"] (R_Handshake_write K) := ok_Handshake_write C h_Transcript_seal h_Handshake_mix_ephemeral h_Transcript_mix_data h_Handshake_own_public h_Handshake_mix_token h_Handshake_overhead h_Handshake_writes_next
  have h_SmallSuite_open_sealed : Me P w K mg base CX0 "SmallSuite" "open_sealed" 6 ["self", "key", "number", "data", "sealed"] R_SmallSuite_open_sealed := ok_SmallSuite_open_sealed C h_combine h_small_stream h_SmallSuite_tag h_check_sealing
  have h_NumberedKey_open_sealed : Me P w K mg base CX0 "NumberedKey" "open_sealed" 7 ["self", "data", "sealed"] R_NumberedKey_open_sealed := ok_NumberedKey_open_sealed C h_SmallSuite_open_sealed
  have h_Transcript_open_sealed : Me P w K mg base CX0 "Transcript" "open_sealed" 8 ["self", "sealed"] R_Transcript_open_sealed := ok_Transcript_open_sealed C h_Transcript_mix_data h_NumberedKey_open_sealed h_NumberedKey_twin h_Transcript_check_open
  have h_Handshake_read_token : Me P w K mg base CX0 "Handshake" "read_token" 9 ["self", "token", "rest"] R_Handshake_read_token := ok_Handshake_read_token C h_Handshake_mix_ephemeral h_SmallSuite_is_weak h_Transcript_mix_data h_Transcript_open_sealed h_Transcript_has_key h_Handshake_mix_token
  have h_Transcript___init__ : Ma P w K mg base CX0 "Transcript" 6 ["self", "suite", "label"] R_Transcript___init__ := ok_Transcript___init__ C h_NumberedKey___init__ h_SmallSuite_digest
  have h_Transcript_twin : Me P w K mg base CX0 "Transcript" "twin" 8 ["self"] R_Transcript_twin := ok_Transcript_twin C h_NumberedKey_twin h_Transcript___init__
  have h_Handshake_read : Me P w K mg base (L2.CX P w) "Handshake" "read" 10 ["self", "message"] (R_Handshake_read K) := ok_Handshake_read C h_Transcript_open_sealed h_Handshake_read_token h_Transcript_twin h_Handshake_overhead h_Handshake_writes_next h_Handshake_is_done
  have h_Transcript_split : Me P w K mg base (L2.CX P w) "Transcript" "split" 7 ["self"] (R_Transcript_split K) := ok_Transcript_split C h_two_values h_Transcript_check_open
  have h_Handshake_split : Me P w K mg base (L2.CX P w) "Handshake" "split" 8 ["self"] (R_Handshake_split K) := ok_Handshake_split C h_Transcript_split h_Handshake_is_done
  have h__law_out_of_order : Fn P w K mg base CX0 "_law_out_of_order" 11 ["_law_end_here", "_law_which"] R__law_out_of_order := ok__law_out_of_order C h_Handshake_write h_Handshake_read h_Handshake_split
  have h_Handshake_peer : Me P w K mg base CX0 "Handshake" "peer" 1 ["self"] R_Handshake_peer := ok_Handshake_peer C
  have h__law_shows : Fn P w K mg base CX0 "_law_shows" 1 ["_law_before_here", "_law_messages_here", "_law_side", "_law_beforehand"] R__law_shows := ok__law_shows C
  have h__law_agree : Fn P w K mg base CX0 "_law_agree" 12 ["_law_suite", "_law_line_here", "_law_ends", "_law_parts", "_law_keys_here"] R__law_agree := ok__law_agree C h__law_out_of_order h_Handshake_split h_SmallSuite_keyed h_Handshake_peer h__law_shows h_Handshake_is_done
  have h_Transcript_hash : Me P w K mg base CX0 "Transcript" "hash" 1 ["self"] R_Transcript_hash := ok_Transcript_hash C
  have h_Handshake_hash : Me P w K mg base CX0 "Handshake" "hash" 2 ["self"] R_Handshake_hash := ok_Handshake_hash C h_Transcript_hash
  have h__law_mix : Fn P w K mg base CX0 "_law_mix" 6 ["_law_suite", "_law_line_here", "_law_data"] R__law_mix := ok__law_mix C h_SmallSuite_digest
  have h__law_seal : Fn P w K mg base CX0 "_law_seal" 7 ["_law_suite", "_law_line_here", "_law_text_here"] R__law_seal := ok__law_seal C h__law_mix h_SmallSuite_seal
  have h__law_mix_key : Fn P w K mg base CX0 "_law_mix_key" 7 ["_law_suite", "_law_line_here", "_law_data", "_law_both"] R__law_mix_key := ok__law_mix_key C h_SmallSuite_keyed h__law_mix
  have h__law_public : Fn P w K mg base CX0 "_law_public" 8 ["_law_suite", "_law_line_here", "_law_public_here"] R__law_public := ok__law_public C h__law_mix_key h__law_mix
  have h__law_message : Fn P w K mg base CX0 "_law_message" 9 ["_law_suite", "_law_line_here", "_law_message_here", "_law_payload", "_law_keys_here"] R__law_message := ok__law_message C h__law_seal h__law_public h__law_mix_key h_SmallSuite_exchange
  have h__law_turn : Fn P w K mg base CX0 "_law_turn" 12 ["_law_suite", "_law_line_here", "_law_ends", "_law_message_here", "_law_payload", "_law_keys_here"] R__law_turn := ok__law_turn C h_Handshake_hash h_Handshake_read h__law_message h_Handshake_write h_Handshake_overhead h__law_out_of_order h_Handshake_writes_next
  have h__law_pick : Fn P w K mg base CX0 "_law_pick" 1 ["_law_state_here", "_law_many"] R__law_pick := ok__law_pick C
  have h__law_digit : Fn P w K mg base CX0 "_law_digit" 2 ["_law_state_here", "_law_many"] R__law_digit := ok__law_digit C h__law_pick
  have h__law_bytes : Fn P w K mg base CX0 "_law_bytes" 3 ["_law_state_here", "_law_count"] R__law_bytes := ok__law_bytes C h__law_digit
  have h__law_cell : Fn P w K mg base CX0 "_law_cell" 1 ["_law_script", "_law_k"] R__law_cell := ok__law_cell C
  have h__law_state : Fn P w K mg base CX0 "_law_state" 1 ["_law_cell_here", "_law_salt"] R__law_state := ok__law_state C
  have h__law_line : Fn P w K mg base CX0 "_law_line" 9 ["_law_suite", "_law_name", "_law_parts", "_law_keys_here"] R__law_line := ok__law_line C h__law_public h__law_mix h_SmallSuite_digest
  have h_Handshake_mix_before : Me P w K mg base CX0 "Handshake" "mix_before" 9 ["self", "before"] R_Handshake_mix_before := ok_Handshake_mix_before C h_Handshake_mix_ephemeral h_Transcript_mix_data h_Handshake_own_public h_Handshake_peer_public
  have h_check_part : Fn P w K mg base CX0 "check_part" 1 ["value", "needed", "size"] R_check_part := ok_check_part C
  have h_uses_psk : Fn P w K mg base CX0 "uses_psk" 1 ["pattern"] R_uses_psk := ok_uses_psk C
  have h_needs_peer_ephemeral : Fk P w K mg base CX0 "needs_peer_ephemeral" 1 1 ["pattern", "opener"] ["opener"] R_needs_peer_ephemeral := ok_needs_peer_ephemeral C
  have h_needs_peer : Fk P w K mg base CX0 "needs_peer" 1 1 ["pattern", "opener"] ["opener"] R_needs_peer := ok_needs_peer C
  have h_needs_ephemeral : Fk P w K mg base CX0 "needs_ephemeral" 1 1 ["pattern", "opener"] ["opener"] R_needs_ephemeral := ok_needs_ephemeral C
  have h_sends_secret : Fk P w K mg base CX0 "sends_secret" 1 1 ["pattern", "opener"] ["opener"] R_sends_secret := ok_sends_secret C
  have h_needs_secret : Fk P w K mg base CX0 "needs_secret" 2 1 ["pattern", "opener"] ["opener"] R_needs_secret := ok_needs_secret C h_sends_secret
  have h_psk_without_key : Fn P w K mg base CX0 "psk_without_key" 1 ["steps"] R_psk_without_key := ok_psk_without_key C
  have h_misplaces_psk : Fn P w K mg base CX0 "misplaces_psk" 1 ["pattern"] R_misplaces_psk := ok_misplaces_psk C
  have h_misses_ephemeral : Fn P w K mg base CX0 "misses_ephemeral" 1 ["steps"] R_misses_ephemeral := ok_misses_ephemeral C
  have h_misses_key : Fn P w K mg base CX0 "misses_key" 1 ["steps"] R_misses_key := ok_misses_key C
  have h_repeats_secret : Fn P w K mg base CX0 "repeats_secret" 1 ["steps"] R_repeats_secret := ok_repeats_secret C
  have h_repeats_key : Fn P w K mg base CX0 "repeats_key" 1 ["steps"] R_repeats_key := ok_repeats_key C
  have h_transport_senders : Fn P w K mg base CX0 "transport_senders" 1 ["pattern"] R_transport_senders := ok_transport_senders C
  have h_pattern_steps : Fn P w K mg base CX0 "pattern_steps" 2 ["pattern"] R_pattern_steps := ok_pattern_steps C h_transport_senders
  have h_broken_rule : Fn P w K mg base CX0 "broken_rule" 3 ["pattern"] R_broken_rule := ok_broken_rule C h_psk_without_key h_misplaces_psk h_misses_ephemeral h_misses_key h_repeats_secret h_repeats_key h_pattern_steps
  have h_needed_parts : Fn P w K mg base (L2.CX P w) "needed_parts" 4 ["pattern", "opener", "keys"] (R_needed_parts K) := ok_needed_parts C h_uses_psk h_needs_peer_ephemeral h_needs_peer h_needs_ephemeral h_needs_secret h_broken_rule
  have h_Handshake___init__ : Mh P w K mg base 10 (R_Handshake___init__ K) := ok_Handshake___init__ C h_Handshake_mix_before h_Transcript_mix_data h_Transcript___init__ h_SmallSuite_is_weak h_check_part h_needed_parts
  have h__law_end : Fn P w K mg base (L2.CX P w) "_law_end" 12 ["_law_suite", "_law_pattern", "_law_parts", "_law_side", "_law_keys_here", "_law_without"] (R__law_end K) := ok__law_end C h_Handshake___init__ h__law_shows
  have h__law_lacks : Fn P w K mg base CX0 "_law_lacks" 13 ["_law_suite", "_law_pattern", "_law_parts", "_law_keys_here"] R__law_lacks := ok__law_lacks C h__law_end
  have h__law_mixed : Fn P w K mg base CX0 "_law_mixed" 1 ["_law_flat_here"] R__law_mixed := ok__law_mixed C
  have h__law_flat : Fn P w K mg base CX0 "_law_flat" 1 ["_law_messages_here"] R__law_flat := ok__law_flat C
  have h__law_encryptions : Fn P w K mg base CX0 "_law_encryptions" 2 ["_law_messages_here"] R__law_encryptions := ok__law_encryptions C h__law_mixed h__law_flat
  have h__law_sent : Fn P w K mg base CX0 "_law_sent" 1 ["_law_before_here", "_law_flat_here", "_law_side", "_law_letter"] R__law_sent := ok__law_sent C
  have h__law_breaks_encryption : Fn P w K mg base CX0 "_law_breaks_encryption" 3 ["_law_before_here", "_law_messages_here", "_law_rule"] R__law_breaks_encryption := ok__law_breaks_encryption C h__law_encryptions h__law_sent h__law_mixed h__law_flat
  have h__law_breaks_psk : Fn P w K mg base CX0 "_law_breaks_psk" 1 ["_law_messages_here"] R__law_breaks_psk := ok__law_breaks_psk C
  have h__law_breaks_keys : Fn P w K mg base CX0 "_law_breaks_keys" 2 ["_law_before_here", "_law_flat_here"] R__law_breaks_keys := ok__law_breaks_keys C h__law_sent
  have h__law_breaks_counts : Fn P w K mg base CX0 "_law_breaks_counts" 1 ["_law_before_here", "_law_flat_here", "_law_rule"] R__law_breaks_counts := ok__law_breaks_counts C
  have h__law_broken : Fn P w K mg base CX0 "_law_broken" 4 ["_law_before_here", "_law_messages_here"] R__law_broken := ok__law_broken C h__law_breaks_encryption h__law_breaks_psk h__law_breaks_keys h__law_breaks_counts h__law_flat
  have h__law_refused : Fn P w K mg base CX0 "_law_refused" 12 ["_law_suite", "_law_pattern", "_law_keys_here"] R__law_refused := ok__law_refused C h_Handshake___init__
  have h__law_keys : Fn P w K mg base CX0 "_law_keys" 5 ["_law_suite", "_law_cell_here"] R__law_keys := ok__law_keys C h__law_digit h__law_bytes h_SmallSuite_public h__law_state
  have h_Pattern___init__ : Ma P w K mg base CX0 "Pattern" 1 ["self", "name", "before", "messages"] R_Pattern___init__ := ok_Pattern___init__ C
  have h_parse_line : Fn P w K mg base CX0 "parse_line" 1 ["line"] R_parse_line := ok_parse_line C
  have h_parse_messages : Fn P w K mg base CX0 "parse_messages" 2 ["lines"] R_parse_messages := ok_parse_messages C h_parse_line
  have h_parse_before : Fn P w K mg base CX0 "parse_before" 2 ["lines"] R_parse_before := ok_parse_before C h_parse_line
  have h_parse_pattern : Fn P w K mg base CX0 "parse_pattern" 3 ["text"] R_parse_pattern := ok_parse_pattern C h_Pattern___init__ h_parse_messages h_parse_before
  have h__law_text : Fn P w K mg base CX0 "_law_text" 1 ["_law_before_here", "_law_messages_here"] R__law_text := ok__law_text C
  have h__law_pattern_name : Fn P w K mg base CX0 "_law_pattern_name" 1 ["_law_cell_here"] R__law_pattern_name := ok__law_pattern_name C
  have h_SmallSuite___init__ : Ma P w K mg base CX0 "SmallSuite" 1 ["self"] R_SmallSuite___init__ := ok_SmallSuite___init__ C
  have h__law_edit : Fn P w K mg base CX0 "_law_edit" 3 ["_law_state_here", "_law_messages_here"] R__law_edit := ok__law_edit C h__law_digit
  have h__law_before : Fn P w K mg base CX0 "_law_before" 3 ["_law_state_here"] R__law_before := ok__law_before C h__law_digit
  have h__law_base : Fn P w K mg base CX0 "_law_base" 1 ["_law_number"] R__law_base := ok__law_base C
  have h__law_tokens : Fn P w K mg base CX0 "_law_tokens" 3 ["_law_state_here"] R__law_tokens := ok__law_tokens C h__law_digit
  have h__law_messages : Fn P w K mg base CX0 "_law_messages" 4 ["_law_state_here"] R__law_messages := ok__law_messages C h__law_digit h__law_tokens
  have h__law_drawn : Fn P w K mg base CX0 "_law_drawn" 5 ["_law_cell_here", "_law_salt"] R__law_drawn := ok__law_drawn C h__law_digit h__law_edit h__law_before h__law_base h__law_messages h__law_state
  exact ok_law C F h__law_agree h__law_turn h__law_bytes h__law_cell h__law_state h__law_line h__law_end h__law_lacks h__law_broken h__law_refused h__law_keys h_Pattern___init__ h_parse_pattern h__law_text h__law_pattern_name h_SmallSuite___init__ h__law_drawn
end
theorem law_spec {K : PySem.W.Frag} {H : Hp} {a : Addr} {ns : List Int} (hS : SqL K H a (ns.map V.int)) : SpD K R_law [.ref a] H (fun v _ => v = .bl true) fun _ _ _ => False := by
  refine ⟨H, [], [scrD ns], fun d _ => d = .bl true, no_ex, ⟨Same.refl H, List.nodup_nil, fun j b d h => by simp at h⟩, .cons (.scr hS (ints_rps ns)) .nil, ⟨ns, rfl, fun _ => rfl⟩, ?_, fun _ _ _ _ _ _ z => z.elim⟩
  intro v d F' M' H' _ _ r e
  subst e
  cases r
  rfl
theorem law_facts {P : Program} {w : World} {K : PySem.W.Frag} {h : Heap} {mg : Str → Option Value} {f : Addr} (X : K.In h) (G : h.Ns mainGlobals mg) (hfa : mg ("law" : Str) = some (.ref f)) (c : He.SaysD fa fn K) (mo : moreB K = true) :
    ∃ fd : FuncData, (∀ (s : Shared) (v : Value), BindsTo s fd ⟨[v], []⟩ [("_law_script", v)]) ∧ ∀ base : Heap, K.In base → base.Ns mainGlobals mg → FnOk P w K mg base CX0 14 f fd ["_law_script"] (SpD K R_law) := by
  have C : Cxt K mg := ⟨c, mo, h, X, G⟩
  obtain ⟨fd, F⟩ := c.def_ 116 (d := d_law) rfl
  have e := hfa.symm.trans (C.glo "law")
  cases e
  have F2 : FunD K d_law.name d_law.qual d_law.params d_law.body d_law.scope [] (d_law.kws K) (He.fAd K d_law.at_) fd := F
  have b := FunD.bindsA (ps := ["_law_script"]) F2 fun _ _ _ _ _ _ us hl => match us, hl with | [_], _ => rfl
  exact ⟨fd, fun s v => b s [v] rfl, fun base _ _ => all_law C F⟩
end
end DL
open PySem PySem.W PySem.Calls PyProof.Rows
theorem PySem.Challenge.cw_hushlink_k85_whole_any_pattern_agrees_holds : PySem.Challenge.rw_hushlink_k85_whole_any_pattern_agrees.Holds := by
  refine DL.head_law ?_
  refine L2.walk_ofE (l := PySem.Challenge.rw_hushlink_k85_whole_any_pattern_agrees) (n := 63) (k := 14) (x := "_law_script") (CX := L2.CX0) rfl (by decide) (by kernel_rfl) ⟨rfl, by decide, by decide⟩ ?F (fun _ _ _ _ z => z)
  intro w mg fa h Y G hmg0
  obtain ⟨K, KX, c, mo⟩ := Y
  have hmg : mg ("law" : PySem.Str) = some (.ref fa) := by
    have e : (HandSHeadRun.topDef (OpenLaw.row PySem.Challenge.rw_hushlink_k85_whole_any_pattern_agrees).prog 115).name = ("law" : PySem.Str) := by kernel_rfl
    rw [← e]
    exact hmg0
  obtain ⟨fd, hb, hF⟩ := DL.law_facts (P := (PySem.Challenge.rw_hushlink_k85_whole_any_pattern_agrees).prog) (w := w) KX G hmg c mo
  exact ⟨K, fd, DL.SpD K DL.R_law, KX, hb, fun H a ns hl _ hS => DL.law_spec hS, hF⟩
