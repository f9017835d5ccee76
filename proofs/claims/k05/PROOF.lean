import PyProof.Rows.All
import Wide.All
import OpenK.AllK
import Wide.FinOn
import HandS.ForMost
import HandS.IsInst
import HandS.TupAny
import HandS.Strs
import PySem.Challenge.RW_markedways_k05_trees_judged
set_option Elab.async false
set_option linter.all false
set_option maxRecDepth 100000
set_option maxHeartbeats 4000000
/-! The data layer: Python data as trees, the heap hidden. -/
namespace DL
open PySem L2

/-- the addresses of the state of all draws: its dict, its list of large cells, its list of cells -/
structure ZA where
  a : Addr
  b : Addr
  c : Addr
/-- what no block of ours changes but by its own rules -/
def Stab (o : HO) : Prop := (∀ xs, o ≠ .lst xs) ∧ ∀ kvs, o ≠ .dK kvs
/-- what stands beside: the world, the state of all draws, a frame whose marks are counted (its address, its fields, its numbers), what is kept of the objects that change within -/
structure Z where
  w : World
  q : Option ZA := none
  fr : Option (Addr × V × V) := none
  act : Bool := false
  inv : Hp → Prop := fun _ => True
  stay : ∀ H H' : Hp, (∀ p o, Stab o → H p = some o → H' p = some o) → (∀ p C dx fs, H' p = some (.ins C dx fs) → H p = some (.ins C dx fs)) → inv H → inv H' := by intros; trivial
/-- data -/
inductive D where
  | non
  | bl (b : Bool)
  | int (i : Int)
  | str (x : Str)
  | ty (n : String)
  | tup (ds : List D)
  | lst (ds : List D)
  | dct (ks : List Key) (ds : List D)
  | ins (C : Addr) (ns : List Str) (ds : List D)
  | frm (f n : D)
  | fra (f n : D)
  | exn (C : Addr) (ns : List Str) (ds : List D)
  | lam (i : Nat) (ds : List D)
  | scr (ns : List Int)
  | sta
  | cls (C : Addr)
  deriving Inhabited

def frO (vf vn : V) (m : Int) : HO := .dK [(.inr "fields", vf), (.inr "numbers", vn), (.inr "marks", .int m)]
def frKeys : List Key := [.inr "fields", .inr "numbers", .inr "marks"]
/-- how a tracked object may change under a call -/
inductive Evo : HO → HO → Prop
  | same (o : HO) : Evo o o
  | frm (vf vn : V) (m m' : Int) : 0 ≤ m' → Evo (frO vf vn m) (frO vf vn m')
  | ext (φ φ' : Heap → Prop) : Evo (.ext φ) (.ext φ')
theorem Evo.trans {a b c : HO} (h : Evo a b) (k : Evo b c) : Evo a c := by
  cases h with
  | same => exact k
  | frm vf vn m m' hm =>
    generalize e : frO vf vn m' = x at k
    cases k with
    | same => subst e; exact .frm _ _ _ _ hm
    | frm vf2 vn2 m2 m3 h3 =>
      unfold frO at e
      simp at e
      obtain ⟨rfl, rfl, rfl⟩ := e
      exact .frm _ _ _ _ h3
    | ext => unfold frO at e; cases e
  | ext φ φ' =>
    generalize e : HO.ext φ' = x at k
    cases k with
    | same => subst e; exact .ext _ _
    | frm => unfold frO at e; cases e
    | ext φ2 φ3 => exact .ext _ _
theorem Evo.lst {xs : List V} {o : HO} (h : Evo (.lst xs) o) : o = .lst xs := by
  generalize e : HO.lst xs = x at h
  cases h with
  | same => rfl
  | frm => unfold frO at e; cases e
  | ext => cases e
theorem Evo.tup {xs : List V} {o : HO} (h : Evo (.tup xs) o) : o = .tup xs := by
  generalize e : HO.tup xs = x at h
  cases h with
  | same => rfl
  | frm => unfold frO at e; cases e
  | ext => cases e
theorem Evo.frz {ob : Obj} {u o : HO} (h : Evo (.frz ob u) o) : o = .frz ob u := by
  generalize e : HO.frz ob u = x at h
  cases h with
  | same => rfl
  | frm => unfold frO at e; cases e
  | ext => cases e
theorem Evo.ins {C dx : Addr} {fs : List (Str × V)} {o : HO} (h : Evo (.ins C dx fs) o) : o = .ins C dx fs := by
  generalize e : HO.ins C dx fs = x at h
  cases h with
  | same => rfl
  | frm => unfold frO at e; cases e
  | ext => cases e
theorem Evo.dK {kvs : List (Key × V)} {o : HO} (h : Evo (.dK kvs) o) (hk : kvs.map (·.1) ≠ frKeys) : o = .dK kvs := by
  generalize e : HO.dK kvs = x at h
  cases h with
  | same => rfl
  | frm => unfold frO at e; cases e; exact absurd rfl hk
  | ext => cases e
theorem Evo.fr {vf vn : V} {m : Int} {o : HO} (h : Evo (frO vf vn m) o) (hm : 0 ≤ m) : ∃ m', 0 ≤ m' ∧ o = frO vf vn m' := by
  generalize e : frO vf vn m = x at h
  cases h with
  | same => exact ⟨m, hm, e.symm⟩
  | frm vf2 vn2 m2 m3 h3 =>
    unfold frO at e
    simp at e
    obtain ⟨rfl, rfl, rfl⟩ := e
    exact ⟨m3, h3, rfl⟩
  | ext => unfold frO at e; cases e
theorem zip_keys {α β : Type} : ∀ {ks : List α} {xs : List β}, ks.length = xs.length → (ks.zip xs).map (·.1) = ks
  | [], _, _ => by simp
  | k :: ks, [], h => by simp at h
  | k :: ks, x :: xs, h => by simp [zip_keys (ks := ks) (xs := xs) (by simpa using h)]

/-- a tuple, tracked or of the written part -/
def TupAt (K : PySem.W.Frag) (G : Hp) (a : Addr) (xs : List V) : Prop := G a = some (.tup xs) ∨
  ∃ (o : Obj) (its : Array Value) (n : Nat), K.lookup a = some o ∧ o.cls = .type "tuple" ∧ o.data = .seq its n ∧ its.size ≤ sizeLine ∧ Vals xs its.toList
theorem TupAt.sq {K : PySem.W.Frag} {G : Hp} {a : Addr} {xs : List V} (h : TupAt K G a xs) : SqT K G a xs := h.elim (fun h => .inl (.inl h)) .inr
mutual
/-- v stands for the datum, its objects in G -/
inductive Is (z : Z) (K : PySem.W.Frag) (G : Hp) : V → D → Prop
  | non : Is z K G .non .non
  | bl (b : Bool) : Is z K G (.bl b) (.bl b)
  | int (i : Int) : Is z K G (.int i) (.int i)
  | str (x : Str) : Is z K G (.str x) (.str x)
  | ty (n : String) : Is z K G (.ty n) (.ty n)
  | tup {a : Addr} {xs : List V} {ds : List D} : TupAt K G a xs → IsA z K G xs ds → Is z K G (.ref a) (.tup ds)
  | lst {a : Addr} {xs : List V} {ds : List D} : G a = some (.lst xs) → IsA z K G xs ds → Is z K G (.ref a) (.lst ds)
  | dct {a : Addr} {ks : List Key} {xs : List V} {ds : List D} : G a = some (.dK (ks.zip xs)) → ks.length = xs.length → ks ≠ frKeys → IsA z K G xs ds → Is z K G (.ref a) (.dct ks ds)
  | ins {a C dx : Addr} {ns : List Str} {xs : List V} {ds : List D} : G a = some (.ins C dx (ns.zip xs)) → ns.length = xs.length → IsA z K G xs ds → Is z K G (.ref a) (.ins C ns ds)
  | frm {a : Addr} {vf vn : V} {m : Int} {f n : D} : G a = some (frO vf vn m) → 0 ≤ m → Is z K G vf f → Is z K G vn n → Is z K G (.ref a) (.frm f n)
  | fra {a : Addr} {vf vn : V} {f n : D} : z.fr = some (a, vf, vn) → Is z K G vf f → Is z K G vn n → Is z K G (.ref a) (.fra f n)
  | scr {a : Addr} {ns : List Int} : SqL K G a (ns.map V.int) → Is z K G (.ref a) (.scr ns)
  | sta {q : ZA} : z.q = some q → Is z K G (.ref q.a) .sta
  | cls (C : Addr) : Is z K G (.ref C) (.cls C)
inductive IsA (z : Z) (K : PySem.W.Frag) (G : Hp) : List V → List D → Prop
  | nil : IsA z K G [] []
  | cons {v : V} {vs : List V} {d : D} {ds : List D} : Is z K G v d → IsA z K G vs ds → IsA z K G (v :: vs) (d :: ds)
end

/-- what is seen grows; a frame may change its marks -/
def Evx (G G' : Hp) : Prop := ∀ p o, G p = some o → ∃ o', G' p = some o' ∧ Evo o o'
theorem Evx.of_same {G G' : Hp} (h : Same G G') : Evx G G' := fun p o e => ⟨o, h p o e, .same o⟩
theorem Evx.trans {G G1 G2 : Hp} (h : Evx G G1) (k : Evx G1 G2) : Evx G G2 := fun p o e => by
  obtain ⟨o1, e1, v1⟩ := h p o e
  obtain ⟨o2, e2, v2⟩ := k p o1 e1
  exact ⟨o2, e2, v1.trans v2⟩
theorem sqT_evx {K : PySem.W.Frag} {G G' : Hp} {a : Addr} {xs : List V} (e : Evx G G') (h : TupAt K G a xs) : TupAt K G' a xs := by
  rcases h with h | h
  · obtain ⟨o', h', v⟩ := e _ _ h
    rw [v.tup] at h'
    exact .inl h'
  · exact .inr h
theorem sqL_evx {K : PySem.W.Frag} {G G' : Hp} {a : Addr} {xs : List V} (e : Evx G G') (h : SqL K G a xs) : SqL K G' a xs := by
  rcases h with (h | ⟨o, h⟩) | h
  · obtain ⟨o', h', v⟩ := e _ _ h
    rw [v.lst] at h'
    exact .inl (.inl h')
  · obtain ⟨o', h', v⟩ := e _ _ h
    rw [v.frz] at h'
    exact .inl (.inr ⟨o, h'⟩)
  · exact .inr h

mutual
theorem Is.evx {z : Z} {K : PySem.W.Frag} {G G' : Hp} (e : Evx G G') : ∀ {v : V} {d : D}, Is z K G v d → Is z K G' v d
  | _, _, .non => .non
  | _, _, .bl b => .bl b
  | _, _, .int i => .int i
  | _, _, .str x => .str x
  | _, _, .ty n => .ty n
  | _, _, .tup h t => .tup (sqT_evx e h) (IsA.evx e t)
  | _, _, .lst h t => .lst (by obtain ⟨o', h', v⟩ := e _ _ h; rw [v.lst] at h'; exact h') (IsA.evx e t)
  | _, _, .dct h l k t => .dct (by obtain ⟨o', h', v⟩ := e _ _ h; rw [v.dK (by rw [zip_keys l]; exact k)] at h'; exact h') l k (IsA.evx e t)
  | _, _, .ins h l t => .ins (by obtain ⟨o', h', v⟩ := e _ _ h; rw [v.ins] at h'; exact h') l (IsA.evx e t)
  | _, _, .frm h m f n => by
    obtain ⟨o', h', v⟩ := e _ _ h
    obtain ⟨m', hm', rfl⟩ := v.fr m
    exact .frm h' hm' (Is.evx e f) (Is.evx e n)
  | _, _, .fra h f n => .fra h (Is.evx e f) (Is.evx e n)
  | _, _, .scr h => .scr (sqL_evx e h)
  | _, _, .sta h => .sta h
  | _, _, .cls C => .cls C
theorem IsA.evx {z : Z} {K : PySem.W.Frag} {G G' : Hp} (e : Evx G G') : ∀ {vs : List V} {ds : List D}, IsA z K G vs ds → IsA z K G' vs ds
  | _, _, .nil => .nil
  | _, _, .cons h t => .cons (Is.evx e h) (IsA.evx e t)
end
section
variable {z : Z} {K : PySem.W.Frag} {G : Hp}
theorem IsA.length : ∀ {vs : List V} {ds : List D}, IsA z K G vs ds → vs.length = ds.length
  | _, _, .nil => rfl
  | _, _, .cons _ t => by simp [IsA.length t]
theorem IsA.get : ∀ {vs : List V} {ds : List D} {i : Nat} {v : V}, IsA z K G vs ds → vs[i]? = some v → ∃ d, ds[i]? = some d ∧ Is z K G v d
  | _, _, _, _, .nil, e => by simp at e
  | _, _, 0, _, .cons h _, e => by simp at e; subst e; exact ⟨_, rfl, h⟩
  | _, _, i + 1, v, .cons _ t, e => by
    obtain ⟨d, h1, h2⟩ := IsA.get (i := i) (v := v) t (by simpa using e)
    exact ⟨d, by simpa using h1, h2⟩
theorem IsA.getD : ∀ {vs : List V} {ds : List D} {i : Nat} {d : D}, IsA z K G vs ds → ds[i]? = some d → ∃ v, vs[i]? = some v ∧ Is z K G v d
  | _, _, _, _, .nil, e => by simp at e
  | _, _, 0, _, .cons h _, e => by simp at e; subst e; exact ⟨_, rfl, h⟩
  | _, _, i + 1, d, .cons _ t, e => by
    obtain ⟨v, h1, h2⟩ := IsA.getD (i := i) (d := d) t (by simpa using e)
    exact ⟨v, by simpa using h1, h2⟩
theorem IsA.append : ∀ {vs ws : List V} {ds es : List D}, IsA z K G vs ds → IsA z K G ws es → IsA z K G (vs ++ ws) (ds ++ es)
  | _, _, _, _, .nil, k => k
  | _, _, _, _, .cons h t, k => .cons h (IsA.append t k)
theorem IsA.take : ∀ {vs : List V} {ds : List D} (n : Nat), IsA z K G vs ds → IsA z K G (vs.take n) (ds.take n)
  | _, _, 0, _ => .nil
  | _, _, _ + 1, .nil => .nil
  | _, _, n + 1, .cons h t => .cons h (IsA.take n t)
theorem IsA.drop : ∀ {vs : List V} {ds : List D} (n : Nat), IsA z K G vs ds → IsA z K G (vs.drop n) (ds.drop n)
  | _, _, 0, h => h
  | _, _, _ + 1, .nil => .nil
  | _, _, n + 1, .cons _ t => IsA.drop n t
theorem IsA.eraseIdx : ∀ {vs : List V} {ds : List D} (n : Nat), IsA z K G vs ds → IsA z K G (vs.eraseIdx n) (ds.eraseIdx n)
  | _, _, _, .nil => .nil
  | _, _, 0, .cons _ t => t
  | _, _, n + 1, .cons h t => .cons h (IsA.eraseIdx n t)
theorem IsA.nil_iff {vs : List V} {ds : List D} (h : IsA z K G vs ds) : vs = [] ↔ ds = [] := by
  have e := h.length
  constructor
  · intro q; subst q; exact List.length_eq_zero_iff.mp (by simpa using e.symm)
  · intro q; subst q; exact List.length_eq_zero_iff.mp (by simpa using e)
theorem IsA.ints : ∀ {vs : List V} {ns : List Int}, IsA z K G vs (ns.map D.int) → vs = ns.map V.int
  | _, [], h => by cases h; rfl
  | _, n :: ns, h => by cases h with | cons a t => cases a; rw [IsA.ints t]; rfl
theorem IsA.of_ints : ∀ (ns : List Int), IsA z K G (ns.map V.int) (ns.map D.int)
  | [] => .nil
  | n :: ns => .cons (.int n) (IsA.of_ints ns)
theorem IsA.strs : ∀ {vs : List V} {ns : List Str}, IsA z K G vs (ns.map D.str) → vs = ns.map V.str
  | _, [], h => by cases h; rfl
  | _, n :: ns, h => by cases h with | cons a t => cases a; rw [IsA.strs t]; rfl
theorem IsA.of_strs : ∀ (ns : List Str), IsA z K G (ns.map V.str) (ns.map D.str)
  | [] => .nil
  | n :: ns => .cons (.str n) (IsA.of_strs ns)
theorem IsA.bls : ∀ {vs : List V} {ns : List Bool}, IsA z K G vs (ns.map D.bl) → vs = ns.map V.bl
  | _, [], h => by cases h; rfl
  | _, n :: ns, h => by cases h with | cons a t => cases a; rw [IsA.bls t]; rfl
end

/-- the heap without what is mutable -/
noncomputable def hide (S : Addr → Prop) (H : Hp) : Hp := open Classical in fun a => if S a then none else H a
theorem hide_get {S : Addr → Prop} {H : Hp} {a : Addr} {o : HO} : hide S H a = some o ↔ ¬ S a ∧ H a = some o := by
  unfold hide
  split
  · rename_i h; simp [h]
  · rename_i h; simp [h]
theorem hide_same {S : Addr → Prop} {H : Hp} : Same (hide S H) H := fun p o e => (hide_get.mp e).2
theorem hide_mono {S S' : Addr → Prop} {H : Hp} (h : ∀ p, S' p → S p) : Same (hide S H) (hide S' H) := fun p o e => hide_get.mpr ⟨fun q => (hide_get.mp e).1 (h p q), (hide_get.mp e).2⟩
theorem hide_keep {S : Addr → Prop} {H H' : Hp} (h : Same H H') : Same (hide S H) (hide S H') := fun p o e => hide_get.mpr ⟨(hide_get.mp e).1, h p o (hide_get.mp e).2⟩
/-- all but the marked addresses is as it was (frames but their marks, and what changes within); what is hidden is as it was -/
def Ext (M S : Addr → Prop) (H H' : Hp) : Prop := ∀ p o, ¬ M p → H p = some o → ∃ o', H' p = some o' ∧ Evo o o' ∧ (S p → (∀ φ, o ≠ .ext φ) → o' = o)
theorem Ext.refl {M S : Addr → Prop} {H : Hp} : Ext M S H H := fun p o _ e => ⟨o, e, .same o, fun _ _ => rfl⟩
theorem Ext.of_same {M S : Addr → Prop} {H H' : Hp} (h : Same H H') : Ext M S H H' := fun p o _ e => ⟨o, h p o e, .same o, fun _ _ => rfl⟩
theorem Ext.trans {M S : Addr → Prop} {H H1 H2 : Hp} (h : Ext M S H H1) (k : Ext M S H1 H2) : Ext M S H H2 := fun p o n e => by
  obtain ⟨o1, e1, v1, s1⟩ := h p o n e
  obtain ⟨o2, e2, v2, s2⟩ := k p o1 n e1
  exact ⟨o2, e2, v1.trans v2, fun sp no => by
    have q := s1 sp no
    rw [s2 sp (by rw [q]; exact no), q]⟩
theorem Ext.mono {M M' S S' : Addr → Prop} {H H' : Hp} (h : Ext M S H H') (k : ∀ p, M p → M' p) (l : ∀ p, S' p → S p) : Ext M' S' H H' := fun p o n e => by
  obtain ⟨o', e', v, s⟩ := h p o (fun q => n (k p q)) e
  exact ⟨o', e', v, fun q => s (l p q)⟩
theorem Ext.hide {M S T : Addr → Prop} {H H' : Hp} (h : Ext M T H H') (k : ∀ p, M p → S p) : Evx (DL.hide S H) (DL.hide S H') := fun p o e => by
  obtain ⟨n, e⟩ := hide_get.mp e
  obtain ⟨o', e', v, _⟩ := h p o (fun q => n (k p q)) e
  exact ⟨o', hide_get.mpr ⟨n, e'⟩, v⟩
/-- the heap grows, by no instances -/
structure Grow (H H' : Hp) : Prop where
  same : Same H H'
  ins : ∀ p C dx fs, H' p = some (.ins C dx fs) → H p = some (.ins C dx fs)
theorem Grow.refl (H : Hp) : Grow H H := ⟨Same.refl H, fun _ _ _ _ h => h⟩
theorem Grow.trans {H H1 H2 : Hp} (a : Grow H H1) (b : Grow H1 H2) : Grow H H2 := ⟨fun p o e => b.same p o (a.same p o e), fun p C dx fs e => a.ins p C dx fs (b.ins p C dx fs e)⟩

/-- the state of all draws stands; n: how many numbers may still be mixed -/
structure StaOk (q : ZA) (n : Nat) (H : Hp) : Prop where
  ex : ∃ (r t : Int) (ws cs : List Int), H q.a = some (.dK [(.inr "wide", .ref q.b), (.inr "cells", .ref q.c), (.inr "rest", .int r), (.inr "turn", .int t)]) ∧
    H q.b = some (.lst (ws.map V.int)) ∧ H q.c = some (.lst (cs.map V.int)) ∧ 0 ≤ r ∧ 0 ≤ t ∧ t + n ≤ 2 ^ 40 ∧ (∀ x ∈ ws, 0 ≤ x) ∧ ws.length ≤ 63 ∧ (∀ x ∈ cs, 0 ≤ x ∧ x < 2 ^ 31) ∧ cs.length ≤ 63 ∧ q.b ≠ q.c
structure Sta (z : Z) (n : Nat) (mk : Option Int) (H : Hp) : Prop where
  dr : ∀ q, z.q = some q → StaOk q n H
  fr : ∀ a vf vn, z.fr = some (a, vf, vn) → ∃ m, 0 ≤ m ∧ H a = some (frO vf vn m) ∧ ∀ m', mk = some m' → m = m'
  inv : z.inv H
/-- what all may change -/
def Zf (z : Z) (p : Addr) : Prop := ∃ vf vn, z.fr = some (p, vf, vn)
def Zs (z : Z) (p : Addr) : Prop := (∃ q, z.q = some q ∧ (p = q.a ∨ p = q.b)) ∨ (z.act = true ∧ Zf z p)
/-- the frame is not to be written -/
abbrev Z.off (z : Z) : Z := { z with act := false }
def Zt (z : Z) (p : Addr) : Prop := (∃ q, z.q = some q ∧ (p = q.a ∨ p = q.b ∨ p = q.c)) ∨ Zf z p
theorem StaOk.same {q : ZA} {n : Nat} {H H' : Hp} (h : StaOk q n H) (s : ∀ p, p = q.a ∨ p = q.b ∨ p = q.c → H' p = H p) : StaOk q n H' := by
  obtain ⟨r, t, ws, cs, h1, h2, h3, h4⟩ := h.ex
  exact ⟨r, t, ws, cs, by rw [s _ (.inl rfl)]; exact h1, by rw [s _ (.inr (.inl rfl))]; exact h2, by rw [s _ (.inr (.inr rfl))]; exact h3, h4⟩
theorem StaOk.less {q : ZA} {n m : Nat} {H : Hp} (h : StaOk q n H) (hm : m ≤ n) : StaOk q m H := by
  obtain ⟨r, t, ws, cs, h1, h2, h3, h4, h5, h6, h7⟩ := h.ex
  exact ⟨r, t, ws, cs, h1, h2, h3, h4, h5, by omega, h7⟩
theorem Sta.at {z : Z} {n : Nat} {mk : Option Int} {H : Hp} (h : Sta z n mk H) {p : Addr} (k : Zt z p) : ∃ o, H p = some o ∧ ¬ Stab o := by
  rcases k with ⟨q, e, k⟩ | ⟨vf, vn, e⟩
  · obtain ⟨r, t, ws, cs, h1, h2, h3, h4⟩ := (h.dr q e).ex
    rcases k with rfl | rfl | rfl
    · exact ⟨_, h1, fun w => w.2 _ rfl⟩
    · exact ⟨_, h2, fun w => w.1 _ rfl⟩
    · exact ⟨_, h3, fun w => w.1 _ rfl⟩
  · obtain ⟨m, _, h1, _⟩ := h.fr _ _ _ e
    exact ⟨_, h1, fun w => w.2 _ rfl⟩
theorem Zs.t {z : Z} {p : Addr} (h : Zs z p) : Zt z p := by
  rcases h with ⟨q, e, h⟩ | ⟨_, h⟩
  · exact .inl ⟨q, e, h.elim .inl fun h => .inr (.inl h)⟩
  · exact .inr h
theorem Sta.dom {z : Z} {n : Nat} {mk : Option Int} {H : Hp} (h : Sta z n mk H) {p : Addr} (k : Zs z p) : H p ≠ none := by
  obtain ⟨o, e, _⟩ := h.at k.t
  rw [e]; simp
theorem Sta.domf {z : Z} {n : Nat} {mk : Option Int} {H : Hp} (h : Sta z n mk H) {p : Addr} (k : Zf z p) : H p ≠ none := by
  obtain ⟨o, e, _⟩ := h.at (.inr k)
  rw [e]; simp
theorem Sta.noneNe {z : Z} {n : Nat} {mk : Option Int} {H : Hp} (h : Sta z n mk H) {p : Addr} (hp : H p = none) : ¬ Zt z p := fun k => by
  obtain ⟨o, e, _⟩ := h.at k
  rw [hp] at e; cases e
theorem Sta.same {z : Z} {n : Nat} {mk : Option Int} {H H' : Hp} (h : Sta z n mk H) (s : Grow H H') : Sta z n mk H' :=
  ⟨fun q e => (h.dr q e).same fun p hp => by
    obtain ⟨o, eo, _⟩ := h.at (.inl ⟨q, e, hp⟩)
    rw [eo, s.same _ _ eo], fun a vf vn e => by
    obtain ⟨m, m0, h1, h2⟩ := h.fr a vf vn e
    exact ⟨m, m0, s.same _ _ h1, h2⟩, z.stay H H' (fun p o _ e => s.same p o e) s.ins h.inv⟩
theorem Sta.less {z : Z} {n m : Nat} {mk : Option Int} {H : Hp} (h : Sta z n mk H) (hm : m ≤ n) : Sta z m mk H := ⟨fun q e => (h.dr q e).less hm, h.fr, h.inv⟩
theorem Sta.wk {z : Z} {n : Nat} {mk : Option Int} {H : Hp} (h : Sta z n mk H) : Sta z n none H := ⟨h.dr, fun a vf vn e => by
  obtain ⟨m, m0, h1, _⟩ := h.fr a vf vn e
  exact ⟨m, m0, h1, fun _ w => by cases w⟩, h.inv⟩
/-- the frame's marks are as they were -/
theorem Sta.mk_of {z : Z} {n n' : Nat} {mk : Option Int} {H H' : Hp} (h : Sta z n mk H) (h' : Sta z n' none H') (s : ∀ p o, Zf z p → H p = some o → H' p = some o) : Sta z n' mk H' := ⟨h'.dr, fun a vf vn e => by
  obtain ⟨m, m0, h1, h2⟩ := h.fr a vf vn e
  exact ⟨m, m0, s _ _ ⟨vf, vn, e⟩ h1, h2⟩, h'.inv⟩

/-- a slot: not known, a datum, a list of its own -/
inductive Sl where
  | un
  | da (d : D)
  | ow (ds : List D)
structure DEnv where
  sl : List Sl
  cr : Nat
  mr : Option Int := none
def DEnv.at (e : DEnv) (i : Nat) : Sl := e.sl.getD i .un
def DEnv.put (e : DEnv) (i : Nat) (s : Sl) : DEnv := { e with sl := e.sl.set i s }
def Sx (S0 : Addr → Prop) (ps : List (Option Addr)) (p : Addr) : Prop := S0 p ∨ some p ∈ ps
def SlOk (z : Z) (K : PySem.W.Frag) (G H : Hp) (o : Option Addr) (v : Option V) : Sl → Prop
  | .un => True
  | .da d => o = none ∧ ∃ x, v = some x ∧ Is z K G x d
  | .ow ds => ∃ p xs, o = some p ∧ v = some (.ref p) ∧ H p = some (.lst xs) ∧ IsA z K G xs ds
/-- slots and heap stand for the data -/
abbrev Phi := Z → (Addr → Prop) → Hp → Prop
abbrev PhiZ (p : Z → Prop) : Phi := fun z _ _ => p z
/-- of the world alone -/
abbrev PhiW (w : World) : Phi := fun z _ _ => z.w = w
def PhiOk (Φ : Phi) (w : World) : Prop := ∀ z S0 H0, Φ z S0 H0 → z.w = w
structure Rel (Φ : Phi) (z : Z) (S0 : Addr → Prop) (H0 : Hp) (K : PySem.W.Frag) (ps : List (Option Addr)) (env : DEnv) (σ : St) (H : Hp) : Prop where
  lenp : ps.length = env.sl.length
  lens : σ.length = env.sl.length
  inj : ∀ (i j : Nat) p, ps[i]? = some (some p) → ps[j]? = some (some p) → i = j
  fresh : ∀ p, some p ∈ ps → H0 p = none
  s0 : ∀ p, S0 p → H0 p ≠ none
  zs : ∀ p, Zs z p → S0 p
  zf : ∀ p, Zf z p → S0 p
  dom : ∀ p, Sx S0 ps p → H p ≠ none
  ext : Ext (Zs z) S0 H0 H
  sta : Sta z env.cr env.mr H
  sl : ∀ i, SlOk z K (hide (Sx S0 ps) H) H (ps.getD i none) (σ.getD i none) (env.at i)
  phi : Φ z S0 H0

abbrev ME := DEnv → (D → DEnv → Prop) → Prop
abbrev MT := DEnv → (Bool → DEnv → Prop) → Prop
abbrev MA := DEnv → (List D → DEnv → Prop) → Prop
structure KS where
  nx : DEnv → Prop
  rt : D → DEnv → Prop
  bk : DEnv → Prop := fun _ => False
  ct : DEnv → Prop := fun _ => False
abbrev MS := DEnv → KS → Prop
structure KS.Le (k k' : KS) : Prop where
  nx : ∀ e, k.nx e → k'.nx e
  rt : ∀ d e, k.rt d e → k'.rt d e
  bk : ∀ e, k.bk e → k'.bk e
  ct : ∀ e, k.ct e → k'.ct e
abbrev Mu (z : Z) (ps : List (Option Addr)) (p : Addr) : Prop := Zs z p ∨ some p ∈ ps
def tD (Φ : Phi) (K : PySem.W.Frag) (m : ME) : TE := fun σ H Q => ∃ z S0 H0 ps env, Rel Φ z S0 H0 K ps env σ H ∧
  m env fun d env' => ∀ v H', Rel Φ z S0 H0 K ps env' σ H' → Ext (Mu z ps) S0 H H' → Is z K (hide (Sx S0 ps) H') v d → Q v H'
def tDT (Φ : Phi) (K : PySem.W.Frag) (m : MT) : TT := fun σ H Q => ∃ z S0 H0 ps env, Rel Φ z S0 H0 K ps env σ H ∧
  m env fun b env' => ∀ H', Rel Φ z S0 H0 K ps env' σ H' → Ext (Mu z ps) S0 H H' → Q b H'
def tDA (Φ : Phi) (K : PySem.W.Frag) (m : MA) : TA := fun σ H Q => ∃ z S0 H0 ps env, Rel Φ z S0 H0 K ps env σ H ∧
  m env fun ds env' => ∀ vs H', Rel Φ z S0 H0 K ps env' σ H' → Ext (Mu z ps) S0 H H' → IsA z K (hide (Sx S0 ps) H') vs ds → Q vs H'
/-- from heap and owned addresses to later ones: what was tracked and not owned stands, new owned ones are new -/
structure Step (z : Z) (S0 : Addr → Prop) (ps : List (Option Addr)) (H : Hp) (ps' : List (Option Addr)) (H' : Hp) : Prop where
  ext : Ext (Mu z ps) S0 H H'
  new : ∀ p, some p ∈ ps' → some p ∈ ps ∨ H p = none
/-- what is wanted behind a statement, as data -/
def kOf (Φ : Phi) (z : Z) (S0 : Addr → Prop) (H0 : Hp) (K : PySem.W.Frag) (ps : List (Option Addr)) (H : Hp) (E : Ends) : KS where
  nx := fun env' => ∀ ps' σ' H', Rel Φ z S0 H0 K ps' env' σ' H' → Step z S0 ps H ps' H' → E.nx σ' H'
  rt := fun d env' => ∀ ps' v σ' H', Rel Φ z S0 H0 K ps' env' σ' H' → Is z K (hide (Sx S0 ps') H') v d → E.rt v H'
  bk := fun env' => ∀ ps' σ' H', Rel Φ z S0 H0 K ps' env' σ' H' → Step z S0 ps H ps' H' → E.bk σ' H'
  ct := fun env' => ∀ ps' σ' H', Rel Φ z S0 H0 K ps' env' σ' H' → Step z S0 ps H ps' H' → E.ct σ' H'
def tDS (Φ : Phi) (K : PySem.W.Frag) (m : MS) : TS := fun E σ H => ∃ z S0 H0 ps env, Rel Φ z S0 H0 K ps env σ H ∧ m env (kOf Φ z S0 H0 K ps H E)
structure DE (X : Cx) (Φ : Phi) (e : Expr) (m : ME) : Prop where
  mono : ∀ env {k k' : D → DEnv → Prop}, (∀ d e, k d e → k' d e) → m env k → m env k'
  pe : PE X e (tD Φ X.K m)
structure DT (X : Cx) (Φ : Phi) (e : Expr) (m : MT) : Prop where
  mono : ∀ env {k k' : Bool → DEnv → Prop}, (∀ d e, k d e → k' d e) → m env k → m env k'
  pt : PT X e (tDT Φ X.K m)
structure DA (X : Cx) (Φ : Phi) (es : List Expr) (m : MA) : Prop where
  mono : ∀ env {k k' : List D → DEnv → Prop}, (∀ d e, k d e → k' d e) → m env k → m env k'
  pa : PA X es (tDA Φ X.K m)
structure DS (X : Cx) (Φ : Phi) (st : Stmt) (m : MS) : Prop where
  mono : ∀ env {k k' : KS}, k.Le k' → m env k → m env k'
  ps : PS X st (tDS Φ X.K m)
structure DSs (X : Cx) (Φ : Phi) (st : List Stmt) (m : MS) : Prop where
  mono : ∀ env {k k' : KS}, k.Le k' → m env k → m env k'
  ps : PSs X st (tDS Φ X.K m)
section
variable {X : Cx}
theorem pe_imp {e : Expr} {t t' : TE} (h : PE X e t) (k : ∀ σ H Q, t' σ H Q → t σ H Q) : PE X e t' := ⟨fun pins s σ H Q I q => h.run pins s σ H Q I (k σ H Q q)⟩
theorem pt_imp {e : Expr} {t t' : TT} (h : PT X e t) (k : ∀ σ H Q, t' σ H Q → t σ H Q) : PT X e t' := ⟨fun pins s σ H Q I q => h.run pins s σ H Q I (k σ H Q q)⟩
theorem pa_imp {e : List Expr} {t t' : TA} (h : PA X e t) (k : ∀ σ H Q, t' σ H Q → t σ H Q) : PA X e t' := ⟨fun pos pins s σ H Q I q => h.run pos pins s σ H Q I (k σ H Q q)⟩
theorem ps_imp {e : Stmt} {t t' : TS} (h : PS X e t) (k : ∀ D σ H, t' D σ H → t D σ H) : PS X e t' := ⟨fun pins s σ H Q I q => h.run pins s σ H Q I (k Q σ H q)⟩
theorem pss_imp {e : List Stmt} {t t' : TS} (h : PSs X e t) (k : ∀ D σ H, t' D σ H → t D σ H) : PSs X e t' := ⟨fun pins s σ H Q I q => h.run pins s σ H Q I (k Q σ H q)⟩
end

section
variable {Φ : Phi} {z : Z} {S0 : Addr → Prop} {H0 H H' : Hp} {K : PySem.W.Frag} {ps : List (Option Addr)} {env : DEnv} {σ : St}
theorem Rel.noZ (r : Rel Φ z S0 H0 K ps env σ H) {p : Addr} (h : some p ∈ ps) : ¬ Zs z p := fun q => r.s0 p (r.zs p q) (r.fresh p h)
theorem mem_ps {i : Nat} {p : Addr} (h : ps.getD i none = some p) : some p ∈ ps ∧ ps[i]? = some (some p) := by
  rw [List.getD_eq_getElem?_getD] at h
  cases e : ps[i]? with
  | none => rw [e] at h; cases h
  | some x =>
    rw [e] at h
    have : x = some p := h
    subst this
    exact ⟨List.mem_of_getElem? e, rfl⟩
theorem Sta.notZs {n : Nat} {mk : Option Int} (r : Sta z n mk H) {p : Addr} (h : Zf z p) : ¬ Zs z.off p := fun k => by
  obtain ⟨vf, vn, e2⟩ := h
  obtain ⟨m, _, h1, _⟩ := r.fr _ _ _ e2
  rcases k with ⟨q, e, k⟩ | ⟨w, _⟩
  · obtain ⟨r', t, ws, cs, g1, g2, g3, g4⟩ := (r.dr q e).ex
    rcases k with rfl | rfl
    · rw [g1] at h1
      unfold frO at h1
      simp at h1
    · rw [g2] at h1; cases h1
  · cases w
theorem Zs.on {p : Addr} (h : Zs z.off p) : Zs z p := h.imp id fun h => by cases h.1
/-- the heap grows, the draws' state and frames may change -/
theorem Rel.call (r : Rel Φ z S0 H0 K ps env σ H) {n : Nat} (e : Ext (Zs z) (Sx S0 ps) H H') {mk : Option Int} (st : Sta z n mk H') : Rel Φ z S0 H0 K ps { env with cr := n, mr := mk } σ H' := by
  refine ⟨r.lenp, r.lens, r.inj, r.fresh, r.s0, r.zs, r.zf, fun p hp => ?_, r.ext.trans (e.mono (fun _ h => h) fun _ h => .inl h), st, fun i => ?_, r.phi⟩
  · by_cases hz : Zs z p
    · exact st.dom hz
    · cases q : H p with
      | none => exact absurd q (r.dom p hp)
      | some o =>
        obtain ⟨o', e', _⟩ := e p o hz q
        rw [e']; simp
  · have h := r.sl i
    show SlOk z K _ _ _ _ (env.at i)
    have ev : Evx (hide (Sx S0 ps) H) (hide (Sx S0 ps) H') := e.hide fun p q => .inl (r.zs p q)
    cases q : env.at i with
    | un => trivial
    | da d =>
      rw [q] at h
      obtain ⟨h1, x, h2, h3⟩ := h
      exact ⟨h1, x, h2, h3.evx ev⟩
    | ow ds =>
      rw [q] at h
      obtain ⟨p, xs, h1, h2, h3, h4⟩ := h
      obtain ⟨o', e', v, _⟩ := e p _ (r.noZ (mem_ps h1).1) h3
      rw [v.lst] at e'
      exact ⟨p, xs, h1, h2, e', h4.evx ev⟩
theorem Rel.same (r : Rel Φ z S0 H0 K ps env σ H) (e : Grow H H') : Rel Φ z S0 H0 K ps env σ H' := by
  have q := r.call (n := env.cr) (.of_same e.same) (r.sta.same e)
  exact q
/-- a def was called that writes no frame -/
theorem Rel.callP (r : Rel Φ z S0 H0 K ps env σ H) {n : Nat} (e : Ext (Zs z.off) (Sx S0 ps) H H') (st : Sta z.off n none H') : Rel Φ z S0 H0 K ps { env with cr := n } σ H' := by
  refine r.call (mk := env.mr) (e.mono (fun _ h => h.on) fun _ h => h) (r.sta.mk_of ⟨st.dr, st.fr, st.inv⟩ fun p o zf q => ?_)
  obtain ⟨o', e', _, s⟩ := e p o (r.sta.notZs zf) q
  obtain ⟨vf, vn, e2⟩ := zf
  obtain ⟨m, _, h1, _⟩ := r.sta.fr _ _ _ e2
  rw [q] at h1; cases h1
  rw [e', s (.inl (r.zf _ ⟨_, _, e2⟩)) (fun φ w => by unfold frO at w; cases w)]
mutual
theorem Is.cg {z' : Z} (h1 : z.q = z'.q) (h2 : z.fr = z'.fr) (h3 : z.w = z'.w) {G : Hp} : ∀ {v : V} {d : D}, Is z K G v d → Is z' K G v d
  | _, _, .non => .non
  | _, _, .bl b => .bl b
  | _, _, .int i => .int i
  | _, _, .str x => .str x
  | _, _, .ty n => .ty n
  | _, _, .tup h t => .tup h (IsA.cg h1 h2 h3 t)
  | _, _, .lst h t => .lst h (IsA.cg h1 h2 h3 t)
  | _, _, .dct h l k t => .dct h l k (IsA.cg h1 h2 h3 t)
  | _, _, .ins h l t => .ins h l (IsA.cg h1 h2 h3 t)
  | _, _, .frm h m f n => .frm h m (Is.cg h1 h2 h3 f) (Is.cg h1 h2 h3 n)
  | _, _, .fra h f n => .fra (h2 ▸ h) (Is.cg h1 h2 h3 f) (Is.cg h1 h2 h3 n)
  | _, _, .scr h => .scr h
  | _, _, .sta h => .sta (h1 ▸ h)
  | _, _, .cls C => .cls C
theorem IsA.cg {z' : Z} (h1 : z.q = z'.q) (h2 : z.fr = z'.fr) (h3 : z.w = z'.w) {G : Hp} : ∀ {vs : List V} {ds : List D}, IsA z K G vs ds → IsA z' K G vs ds
  | _, _, .nil => .nil
  | _, _, .cons h t => .cons (Is.cg h1 h2 h3 h) (IsA.cg h1 h2 h3 t)
end
theorem Rel.isK (r : Rel Φ z S0 H0 K ps env σ H) {v : V} {d : D} (h : Is z K (hide (Sx S0 ps) H) v d) (e : Ext (Mu z ps) S0 H H') : Is z K (hide (Sx S0 ps) H') v d :=
  h.evx (e.hide fun p q => q.elim (fun q => .inl (r.zs p q)) .inr)
theorem Rel.isKA (r : Rel Φ z S0 H0 K ps env σ H) {v : List V} {d : List D} (h : IsA z K (hide (Sx S0 ps) H) v d) (e : Ext (Mu z ps) S0 H H') : IsA z K (hide (Sx S0 ps) H') v d :=
  h.evx (e.hide fun p q => q.elim (fun q => .inl (r.zs p q)) .inr)
theorem Is.off {G : Hp} {v : V} {d : D} (h : Is z K G v d) : Is z.off K G v d := h.cg (z := z) (z' := z.off) rfl rfl rfl
theorem Is.on {G : Hp} {v : V} {d : D} (h : Is z.off K G v d) : Is z K G v d := h.cg (z := z.off) (z' := z) rfl rfl rfl
theorem IsA.off {G : Hp} {v : List V} {d : List D} (h : IsA z K G v d) : IsA z.off K G v d := h.cg (z := z) (z' := z.off) rfl rfl rfl
theorem IsA.on {G : Hp} {v : List V} {d : List D} (h : IsA z.off K G v d) : IsA z K G v d := h.cg (z := z.off) (z' := z) rfl rfl rfl
theorem Ext.loc {S : Addr → Prop} (e : Ext (Zs z) (Sx S ps) H H') : Ext (Mu z ps) S H H' := e.mono (fun _ h => .inl h) fun _ h => .inl h
theorem Ext.locP {S : Addr → Prop} (e : Ext (Zs z.off) (Sx S ps) H H') : Ext (Mu z ps) S H H' := e.mono (fun _ h => .inl h.on) fun _ h => .inl h
/-- a name is stored -/
theorem Rel.put (r : Rel Φ z S0 H0 K ps env σ H) {i : Nat} {v : V} {d : D} (h : Is z K (hide (Sx S0 ps) H) v d) : Rel Φ z S0 H0 K (ps.set i none) (env.put i (.da d)) (σ.set i (some v)) H := by
  have sub : ∀ p, Sx S0 (ps.set i none) p → Sx S0 ps p := fun p q => q.imp id fun q => by
    rcases List.mem_or_eq_of_mem_set q with q | q
    · exact q
    · cases q
  have gr : Same (hide (Sx S0 ps) H) (hide (Sx S0 (ps.set i none)) H) := hide_mono sub
  have get : ∀ (j : Nat) p, (ps.set i none)[j]? = some (some p) → ps[j]? = some (some p) := fun j p q => by
    rw [List.getElem?_set] at q
    split at q
    · split at q <;> cases q
    · exact q
  refine ⟨by simp [DEnv.put, r.lenp], by simp [DEnv.put, r.lens], fun j k p q1 q2 => r.inj j k p (get j p q1) (get k p q2), fun p q => r.fresh p ?_, r.s0, r.zs, r.zf, fun p q => r.dom p (sub p q), r.ext, r.sta, fun j => ?_, r.phi⟩
  · rcases List.mem_or_eq_of_mem_set q with q | q
    · exact q
    · cases q
  · have hj := r.sl j
    by_cases hij : i = j
    · subst hij
      by_cases hl : i < env.sl.length
      · have e1 : (env.put i (.da d)).at i = .da d := by simp [DEnv.put, DEnv.at, hl]
        rw [e1]
        exact ⟨by simp [r.lenp, hl], v, by simp [r.lens, hl], h.evx (.of_same gr)⟩
      · have e1 : (env.put i (.da d)).at i = .un := by simp [DEnv.put, DEnv.at, hl]
        rw [e1]
        trivial
    · have e1 : (env.put i (.da d)).at j = env.at j := by simp [DEnv.put, DEnv.at, List.getD_eq_getElem?_getD, List.getElem?_set, hij]
      have e2 : (ps.set i none).getD j none = ps.getD j none := by simp [List.getD_eq_getElem?_getD, List.getElem?_set, hij]
      have e3 : (σ.set i (some v)).getD j none = σ.getD j none := by simp [List.getD_eq_getElem?_getD, List.getElem?_set, hij]
      rw [e1, e2, e3]
      cases q : env.at j with
      | un => trivial
      | da d' =>
        rw [q] at hj
        obtain ⟨h1, x, h2, h3⟩ := hj
        exact ⟨h1, x, h2, h3.evx (.of_same gr)⟩
      | ow ds =>
        rw [q] at hj
        obtain ⟨p, xs, h1, h2, h3, h4⟩ := hj
        exact ⟨p, xs, h1, h2, h3, h4.evx (.of_same gr)⟩
theorem Step.refl : Step z S0 ps H ps H := ⟨.refl, fun _ h => .inl h⟩
theorem Step.of_ext (e : Ext (Mu z ps) S0 H H') : Step z S0 ps H ps H' := ⟨e, fun _ h => .inl h⟩
theorem Step.trans {ps1 ps2 : List (Option Addr)} {H1 H2 : Hp} (a : Step z S0 ps H ps1 H1) (b : Step z S0 ps1 H1 ps2 H2) (hz : ∀ p, some p ∈ ps2 → ¬ Zs z p) : Step z S0 ps H ps2 H2 := by
  refine ⟨fun p o n e => ?_, fun p h => ?_⟩
  · obtain ⟨o1, e1, v1, s1⟩ := a.ext p o n e
    have n1 : ¬ Mu z ps1 p := fun q => q.elim (fun q => n (.inl q)) fun q => (a.new p q).elim (fun q => n (.inr q)) fun q => by rw [e] at q; cases q
    obtain ⟨o2, e2, v2, s2⟩ := b.ext p o1 n1 e1
    exact ⟨o2, e2, v1.trans v2, fun sp no => by
      have q := s1 sp no
      rw [s2 sp (by rw [q]; exact no), q]⟩
  · rcases b.new p h with q | q
    · exact a.new p q
    · by_cases hp : some p ∈ ps
      · exact .inl hp
      · cases e : H p with
        | none => exact .inr rfl
        | some o =>
          obtain ⟨o1, e1, _⟩ := a.ext p o (fun w => w.elim (hz p h) hp) e
          rw [q] at e1; cases e1
/-- what was seen is seen -/
theorem Step.seen {ps' : List (Option Addr)} (st : Step z S0 ps H ps' H') (hz : ∀ p, Zs z p → S0 p) : Evx (hide (Sx S0 ps) H) (hide (Sx S0 ps') H') := fun p o e => by
  obtain ⟨n, e⟩ := hide_get.mp e
  obtain ⟨o', e', v, _⟩ := st.ext p o (fun q => n (q.elim (fun q => .inl (hz p q)) .inr)) e
  refine ⟨o', hide_get.mpr ⟨fun q => n ?_, e'⟩, v⟩
  rcases q with q | q
  · exact .inl q
  · rcases st.new p q with q | q
    · exact .inr q
    · rw [e] at q; cases q
end
end DL
namespace DL
open PySem L2
abbrev KD := D → Prop
abbrev W1 := D → KD → Prop
abbrev W2 := D → D → KD → Prop
abbrev WL := List D → KD → Prop
/-! ### by values -/
/-- what is asked of two values: they stand for data -/
def rD (K : PySem.W.Frag) (w : W2) : R2 := fun x y H Q => ∃ z S dx dy, (∀ p, S p → H p ≠ none) ∧ Is z K (hide S H) x dx ∧ Is z K (hide S H) y dy ∧
  w dx dy fun d => ∀ v H', Grow H H' → Is z K (hide S H') v d → Q v H'
def rD1 (K : PySem.W.Frag) (w : W1) : V → Hp → VK → Prop := fun x H Q => ∃ z S dx, (∀ p, S p → H p ≠ none) ∧ Is z K (hide S H) x dx ∧
  w dx fun d => ∀ v H', Grow H H' → Is z K (hide S H') v d → Q v H'
def rDL (K : PySem.W.Frag) (w : WL) : List V → Hp → VK → Prop := fun xs H Q => ∃ z S ds, (∀ p, S p → H p ≠ none) ∧ IsA z K (hide S H) xs ds ∧
  w ds fun d => ∀ v H', Grow H H' → Is z K (hide S H') v d → Q v H'
structure OpD (X : Cx) (f : Value → Value → Sem Value) (w : W2) : Prop where
  mono : ∀ x y {k k' : KD}, (∀ d, k d → k' d) → w x y k → w x y k'
  run : OpR X f (rD X.K w)
structure UnD (X : Cx) (f : Value → Sem Value) (w : W1) : Prop where
  mono : ∀ x {k k' : KD}, (∀ d, k d → k' d) → w x k → w x k'
  run : UnR X f (rD1 X.K w)
structure CallD (X : Cx) (f : Value) (w : WL) : Prop where
  mono : ∀ x {k k' : KD}, (∀ d, k d → k' d) → w x k → w x k'
  run : CallR X f (rDL X.K w)
structure IxD (X : Cx) (w : W2) : Prop where
  mono : ∀ x y {k k' : KD}, (∀ d, k d → k' d) → w x y k → w x y k'
  run : IxR X (rD X.K w)

section
variable {Φ : Phi} {z : Z} {S : Addr → Prop} {H : Hp} {K : PySem.W.Frag}
theorem same_upd {p : Addr} {o : HO} (h : H p = none) : Same H (upd H p o) := fun b u e => by rw [upd_ne (ne_of_none e h)]; exact e
theorem grow_upd {p : Addr} {o : HO} (h : H p = none) (ho : ∀ C dx fs, o ≠ .ins C dx fs := by (intro _ _ _ w; cases w)) : Grow H (upd H p o) := ⟨same_upd h, fun b C dx fs e => by
  by_cases hb : b = p
  · subst hb; rw [upd_same] at e; exact absurd (Option.some.inj e) (ho _ _ _)
  · rw [upd_ne hb] at e; exact e⟩
theorem hide_upd {p : Addr} {o : HO} (hS : ∀ p, S p → H p ≠ none) (h : H p = none) : hide S (upd H p o) p = some o := hide_get.mpr ⟨fun q => hS p q h, upd_same⟩
theorem is_lst {p : Addr} {xs : List V} {ds : List D} (hS : ∀ p, S p → H p ≠ none) (h : H p = none) (i : IsA z K (hide S H) xs ds) : Is z K (hide S (upd H p (.lst xs))) (.ref p) (.lst ds) :=
  .lst (hide_upd hS h) (i.evx (.of_same (hide_keep (same_upd h))))
theorem is_tup {p : Addr} {xs : List V} {ds : List D} (hS : ∀ p, S p → H p ≠ none) (h : H p = none) (i : IsA z K (hide S H) xs ds) : Is z K (hide S (upd H p (.tup xs))) (.ref p) (.tup ds) :=
  .tup (.inl (hide_upd hS h)) (i.evx (.of_same (hide_keep (same_upd h))))
theorem tup_hide {a : Addr} {xs : List V} (h : TupAt K (hide S H) a xs) : TupAt K H a xs := sqT_evx (.of_same hide_same) h
theorem sqT_hide {a : Addr} {xs : List V} (h : TupAt K (hide S H) a xs) : SqT K H a xs := (tup_hide h).sq
theorem sqL_hide {a : Addr} {xs : List V} (h : SqL K (hide S H) a xs) : SqL K H a xs := sqL_evx (.of_same hide_same) h
end

/-! ### combinators -/
section
variable {X : Cx} {Φ : Phi} {a b c : Expr} {ma mb mc : ME} {pos : Pos}
def mVar (i : Nat) : ME := fun env k => match env.at i with
  | .da d => k d env
  | _ => False
theorem de_var (i : Nat) {x : Str} (h : PE X (.Name x pos) (tVar i)) : DE X Φ (.Name x pos) (mVar i) := by
  refine ⟨fun env k k' h q => ?_, pe_imp h fun σ H Q ⟨z, S0, H0, ps, env, r, q⟩ => ?_⟩
  · unfold mVar at q ⊢
    split
    · rename_i e; rw [e] at q; exact h _ _ q
    · rename_i e1; split at q
      · rename_i d e; exact absurd e (e1 d)
      · exact q
  · unfold mVar at q
    have hi := r.sl i
    cases e : env.at i with
    | un => rw [e] at q; exact q.elim
    | ow ds => rw [e] at q; exact q.elim
    | da d =>
      rw [e] at q hi
      obtain ⟨_, v, hv, iv⟩ := hi
      refine ⟨v, ?_, q v H r .refl iv⟩
      rw [List.getD_eq_getElem?_getD] at hv
      cases e2 : σ[i]? with
      | none => rw [e2] at hv; cases hv
      | some y => rw [e2] at hv; exact congrArg some hv
def mC (d : D) : ME := fun env k => k d env
theorem de_const {e : Expr} {v : V} {d : D} (h : PE X e (tC v)) (hd : ∀ z G, Is z X.K G v d) : DE X Φ e (mC d) :=
  ⟨fun env k k' h q => h _ _ q, pe_imp h fun σ H Q ⟨z, S0, H0, ps, env, r, q⟩ => q v H r .refl (hd _ _)⟩
theorem de_int {i j pos} : DE X Φ (.Constant (.int i) j pos) (mC (.int i)) := de_const pe_int fun _ _ => .int i
theorem de_bl {b j pos} : DE X Φ (.Constant (.bool b) j pos) (mC (.bl b)) := de_const pe_bl fun _ _ => .bl b
theorem de_non {j pos} : DE X Φ (.Constant .none j pos) (mC .non) := de_const pe_non fun _ _ => .non
theorem de_str {x j pos} : DE X Φ (.Constant (.str x) j pos) (mC (.str x)) := de_const pe_str fun _ _ => .str x
def mBin (w : W2) (ma mb : ME) : ME := fun env k => ma env fun x e1 => mb e1 fun y e2 => w x y fun d => k d e2
theorem mBin_mono {w : W2} (hw : ∀ x y {k k' : KD}, (∀ d, k d → k' d) → w x y k → w x y k') (ha : ∀ env {k k' : D → DEnv → Prop}, (∀ d e, k d e → k' d e) → ma env k → ma env k')
    (hb : ∀ env {k k' : D → DEnv → Prop}, (∀ d e, k d e → k' d e) → mb env k → mb env k') : ∀ env {k k' : D → DEnv → Prop}, (∀ d e, k d e → k' d e) → mBin w ma mb env k → mBin w ma mb env k' :=
  fun env k k' h q => ha env (fun x e1 q => hb e1 (fun y e2 q => hw x y (fun d q => h d e2 q) q) q) q
/-- two operands, then an operation by values -/
theorem run2 {w : W2} (ha : DE X Φ a ma) (hb : DE X Φ b mb) (hw : ∀ x y {k k' : KD}, (∀ d, k d → k' d) → w x y k → w x y k') {σ : St} {H : Hp} {Q : VK} (q : tD Φ X.K (mBin w ma mb) σ H Q) : tOp (rD X.K w) (tD Φ X.K ma) (tD Φ X.K mb) σ H Q := by
  obtain ⟨z, S0, H0, ps, env, r, q⟩ := q
  refine ⟨z, S0, H0, ps, env, r, ha.mono env (fun x e1 q => ?_) q⟩
  intro v H1 r1 x1 i1
  refine ⟨z, S0, H0, ps, e1, r1, hb.mono e1 (fun y e2 q => ?_) q⟩
  intro u H2 r2 x2 i2
  refine ⟨z, Sx S0 ps, x, y, r2.dom, r1.isK i1 x2, i2, hw x y (fun d q => ?_) q⟩
  intro v' H' s i'
  exact q v' H' (r2.same s) (x1.trans (x2.trans (.of_same s.same))) i'
theorem de_op {op : Operator} {w : W2} (ho : OpD X (binaryOp op) w) (ha : DE X Φ a ma) (hb : DE X Φ b mb) : DE X Φ (.BinOp a op b pos) (mBin w ma mb) :=
  ⟨mBin_mono ho.mono ha.mono hb.mono, pe_imp (pe_op ho.run ha.pe hb.pe) fun _ _ _ q => run2 ha hb ho.mono q⟩
theorem de_cmp {op : CmpOp} {w : W2} (ho : OpD X (compareOp op) w) (ha : DE X Φ a ma) (hb : DE X Φ b mb) (hm : behindInMarks op b = false) : DE X Φ (.Compare a [op] [b] pos) (mBin w ma mb) :=
  ⟨mBin_mono ho.mono ha.mono hb.mono, pe_imp (pe_cmpR ho.run ha.pe hb.pe hm) fun _ _ _ q => run2 ha hb ho.mono q⟩
theorem de_ix {w : W2} (ho : IxD X w) (ha : DE X Φ a ma) (hb : DE X Φ b mb) (hs : PlainIx b) : DE X Φ (.Subscript a b pos) (mBin w ma mb) :=
  ⟨mBin_mono ho.mono ha.mono hb.mono, pe_imp (pe_ix ho.run ha.pe hb.pe hs) fun _ _ _ q => run2 ha hb ho.mono q⟩
def mUn (w : W1) (ma : ME) : ME := fun env k => ma env fun x e1 => w x fun d => k d e1
theorem de_un {op : UnaryOp} {w : W1} (ho : UnD X (unaryOp op) w) (ha : DE X Φ a ma) : DE X Φ (.UnaryOp op a pos) (mUn w ma) := by
  refine ⟨fun env k k' h q => ha.mono env (fun x e1 q => ho.mono x (fun d q => h d e1 q) q) q, pe_imp (pe_un ho.run ha.pe) fun σ H Q ⟨z, S0, H0, ps, env, r, q⟩ => ?_⟩
  refine ⟨z, S0, H0, ps, env, r, ha.mono env (fun x e1 q => ?_) q⟩
  intro v H1 r1 x1 i1
  refine ⟨z, Sx S0 ps, x, r1.dom, i1, ho.mono x (fun d q => ?_) q⟩
  intro v' H' s i'
  exact q v' H' (r1.same s) (x1.trans (.of_same s.same)) i'
/-! tests -/
def mB (m : ME) : MT := fun env k => m env fun d e => match d with
  | .bl b => k b e
  | _ => False
theorem mB_mono {m : ME} (hm : ∀ env {k k' : D → DEnv → Prop}, (∀ d e, k d e → k' d e) → m env k → m env k') : ∀ env {k k' : Bool → DEnv → Prop}, (∀ d e, k d e → k' d e) → mB m env k → mB m env k' :=
  fun env k k' h q => hm env (fun d e q => by
    cases d with
    | bl b => exact h b e q
    | _ => exact q) q
theorem tB_of {m : ME} (hm : ∀ env {k k' : D → DEnv → Prop}, (∀ d e, k d e → k' d e) → m env k → m env k') {K : PySem.W.Frag} {σ : St} {H : Hp} {Q : Bool → Hp → Prop} (q : tDT Φ K (mB m) σ H Q) : tD Φ K m σ H fun x H1 => ∃ c, x = .bl c ∧ Q c H1 := by
  obtain ⟨z, S0, H0, ps, env, r, q⟩ := q
  refine ⟨z, S0, H0, ps, env, r, hm env (fun d e q => ?_) q⟩
  intro v H' r' x' i'
  cases d with
  | bl b => cases i'; exact ⟨b, rfl, q H' r' x'⟩
  | _ => exact q.elim
theorem dt_val {e : Expr} {m : ME} (h : DE X Φ e m) (he : ∀ whole, isTrue e X.env whole = (do let v ← whole; standAt e.pos; holding [v] (truthy v)) := by intro _; rfl) : DT X Φ e (mB m) :=
  ⟨mB_mono h.mono, pt_imp (pt_val h.pe he) fun _ _ _ q => tB_of h.mono q⟩
theorem dt_cmp {op : CmpOp} {w : W2} (ho : OpD X (compareOp op) w) (ha : DE X Φ a ma) (hb : DE X Φ b mb) (hm : behindInMarks op b = false) : DT X Φ (.Compare a [op] [b] pos) (mB (mBin w ma mb)) := by
  refine ⟨mB_mono (mBin_mono ho.mono ha.mono hb.mono), pt_imp (pt_cmpR ho.run ha.pe hb.pe hm) fun σ H Q q => ?_⟩
  exact run2 ha hb ho.mono (tB_of (mBin_mono ho.mono ha.mono hb.mono) q)
def mNot (m : MT) : MT := fun env k => m env fun b e => k (!b) e
theorem dt_not {m : MT} (h : DT X Φ a m) : DT X Φ (.UnaryOp .Not a pos) (mNot m) :=
  ⟨fun env k k' hk q => h.mono env (fun b e q => hk _ _ q) q, pt_imp (pt_not h.pt) fun σ H Q ⟨z, S0, H0, ps, env, r, q⟩ => ⟨z, S0, H0, ps, env, r, q⟩⟩
structure DW (X : Cx) (Φ : Phi) (e : Expr) (m : MT) : Prop where
  mono : ∀ env {k k' : Bool → DEnv → Prop}, (∀ d e, k d e → k' d e) → m env k → m env k'
  pw : PW X e (tDT Φ X.K m)
theorem DW.dt {e : Expr} {m : MT} (h : DW X Φ e m) : DT X Φ e m := ⟨h.mono, h.pw.pt⟩
theorem pw_imp {e : Expr} {t t' : TT} (h : PW X e t) (k : ∀ σ H Q, t' σ H Q → t σ H Q) : PW X e t' := ⟨fun w pins s σ H Q I q => h.run w pins s σ H Q I (k σ H Q q)⟩
def mAnd (m n : MT) : MT := fun env k => m env fun b e => if b = true then n e k else k false e
def mOr (m n : MT) : MT := fun env k => m env fun b e => if b = true then k true e else n e k
variable {rest : List Expr} {m n : MT}
theorem dw_and1 (ha : DT X Φ a m) : DW X Φ (.BoolOp .And [a] pos) m := ⟨ha.mono, pw_and1 ha.pt⟩
theorem dw_or1 (ha : DT X Φ a m) : DW X Φ (.BoolOp .Or [a] pos) m := ⟨ha.mono, pw_or1 ha.pt⟩
theorem dw_and (ha : DT X Φ a m) (hb : DW X Φ (.BoolOp .And (b :: rest) pos) n) : DW X Φ (.BoolOp .And (a :: b :: rest) pos) (mAnd m n) := by
  refine ⟨fun env k k' h q => ha.mono env (fun c e q => ?_) q, pw_imp (pw_and ha.pt hb.pw) fun σ H Q ⟨z, S0, H0, ps, env, r, q⟩ => ⟨z, S0, H0, ps, env, r, ha.mono env (fun c e q => ?_) q⟩⟩
  · cases c with
    | true => exact hb.mono e h q
    | false => exact h _ _ q
  · intro H1 r1 x1
    cases c with
    | true => exact ⟨z, S0, H0, ps, e, r1, hb.mono e (fun b e2 q H2 r2 x2 => q H2 r2 (x1.trans x2)) q⟩
    | false => exact q H1 r1 x1
theorem dw_or (ha : DT X Φ a m) (hb : DW X Φ (.BoolOp .Or (b :: rest) pos) n) : DW X Φ (.BoolOp .Or (a :: b :: rest) pos) (mOr m n) := by
  refine ⟨fun env k k' h q => ha.mono env (fun c e q => ?_) q, pw_imp (pw_or ha.pt hb.pw) fun σ H Q ⟨z, S0, H0, ps, env, r, q⟩ => ⟨z, S0, H0, ps, env, r, ha.mono env (fun c e q => ?_) q⟩⟩
  · cases c with
    | true => exact h _ _ q
    | false => exact hb.mono e h q
  · intro H1 r1 x1
    cases c with
    | true => exact q H1 r1 x1
    | false => exact ⟨z, S0, H0, ps, e, r1, hb.mono e (fun b e2 q H2 r2 x2 => q H2 r2 (x1.trans x2)) q⟩
/-! and, or, not as values (bools but for the last) -/
def mAndV (m n : ME) : ME := fun env k => m env fun d e => match d with
  | .bl b => if b = true then n e k else k (.bl false) e
  | _ => False
def mOrV (m n : ME) : ME := fun env k => m env fun d e => match d with
  | .bl b => if b = true then k (.bl true) e else n e k
  | _ => False
def mNotV (m : ME) : ME := fun env k => m env fun d e => match d with
  | .bl b => k (.bl (!b)) e
  | _ => False
theorem de_one {op} {m : ME} (h : DE X Φ a m) : DE X Φ (.BoolOp op [a] pos) m := ⟨h.mono, pe_one h.pe⟩
theorem de_and {m n : ME} (ha : DE X Φ a m) (hb : DE X Φ (.BoolOp .And (b :: rest) pos) n) : DE X Φ (.BoolOp .And (a :: b :: rest) pos) (mAndV m n) := by
  refine ⟨fun env k k' h q => ha.mono env (fun d e q => ?_) q, pe_imp (pe_and ha.pe hb.pe) fun σ H Q ⟨z, S0, H0, ps, env, r, q⟩ => ⟨z, S0, H0, ps, env, r, ha.mono env (fun d e q => ?_) q⟩⟩
  · cases d with
    | bl c => cases c with
      | true => exact hb.mono e h q
      | false => exact h _ _ q
    | _ => exact q
  · intro v H1 r1 x1 i1
    cases d with
    | bl c =>
      cases i1
      refine ⟨c, rfl, ?_⟩
      cases c with
      | true => exact ⟨z, S0, H0, ps, e, r1, hb.mono e (fun b e2 q v H2 r2 x2 => q v H2 r2 (x1.trans x2)) q⟩
      | false => exact q _ H1 r1 x1 (.bl false)
    | _ => exact q.elim
theorem de_or {m n : ME} (ha : DE X Φ a m) (hb : DE X Φ (.BoolOp .Or (b :: rest) pos) n) : DE X Φ (.BoolOp .Or (a :: b :: rest) pos) (mOrV m n) := by
  refine ⟨fun env k k' h q => ha.mono env (fun d e q => ?_) q, pe_imp (pe_or ha.pe hb.pe) fun σ H Q ⟨z, S0, H0, ps, env, r, q⟩ => ⟨z, S0, H0, ps, env, r, ha.mono env (fun d e q => ?_) q⟩⟩
  · cases d with
    | bl c => cases c with
      | true => exact h _ _ q
      | false => exact hb.mono e h q
    | _ => exact q
  · intro v H1 r1 x1 i1
    cases d with
    | bl c =>
      cases i1
      refine ⟨c, rfl, ?_⟩
      cases c with
      | true => exact q _ H1 r1 x1 (.bl true)
      | false => exact ⟨z, S0, H0, ps, e, r1, hb.mono e (fun b e2 q v H2 r2 x2 => q v H2 r2 (x1.trans x2)) q⟩
    | _ => exact q.elim
theorem de_not {m : ME} (h : DE X Φ a m) : DE X Φ (.UnaryOp .Not a pos) (mNotV m) := by
  refine ⟨fun env k k' hk q => h.mono env (fun d e q => ?_) q, pe_imp (pe_not h.pe) fun σ H Q ⟨z, S0, H0, ps, env, r, q⟩ => ⟨z, S0, H0, ps, env, r, h.mono env (fun d e q => ?_) q⟩⟩
  · cases d with
    | bl c => exact hk _ _ q
    | _ => exact q
  · intro v H1 r1 x1 i1
    cases d with
    | bl c => cases i1; exact ⟨c, rfl, q _ H1 r1 x1 (.bl _)⟩
    | _ => exact q.elim
/-- a if t else b -/
def mIf (t : MT) (m n : ME) : ME := fun env k => t env fun c e => if c = true then m e k else n e k
theorem de_if {t : MT} {ma mb : ME} (hc : DT X Φ c t) (ha : DE X Φ a ma) (hb : DE X Φ b mb) : DE X Φ (.IfExp c a b pos) (mIf t ma mb) := by
  refine ⟨fun env k k' h q => hc.mono env (fun d e q => ?_) q, pe_imp (pe_ifExp hc.pt ha.pe hb.pe) fun σ H Q ⟨z, S0, H0, ps, env, r, q⟩ => ⟨z, S0, H0, ps, env, r, hc.mono env (fun d e q => ?_) q⟩⟩
  · cases d with
    | true => exact ha.mono e h q
    | false => exact hb.mono e h q
  · intro H1 r1 x1
    cases d with
    | true => exact ⟨z, S0, H0, ps, e, r1, ha.mono e (fun b e2 q v H2 r2 x2 => q v H2 r2 (x1.trans x2)) q⟩
    | false => exact ⟨z, S0, H0, ps, e, r1, hb.mono e (fun b e2 q v H2 r2 x2 => q v H2 r2 (x1.trans x2)) q⟩
/-- a chain of two comparisons -/
def mChain (w w' : W2) (ma mb mc : ME) : ME := fun env k => ma env fun x e1 => mb e1 fun y e2 => w x y fun d => match d with
  | .bl b => if b = true then mc e2 fun u e3 => w' y u fun d => k d e3 else k (.bl false) e2
  | _ => False
theorem mChain_mono {w w' : W2} (hw : ∀ x y {k k' : KD}, (∀ d, k d → k' d) → w x y k → w x y k') (hw' : ∀ x y {k k' : KD}, (∀ d, k d → k' d) → w' x y k → w' x y k') (ha : DE X Φ a ma) (hb : DE X Φ b mb) (hc : DE X Φ c mc) :
    ∀ env {k k' : D → DEnv → Prop}, (∀ d e, k d e → k' d e) → mChain w w' ma mb mc env k → mChain w w' ma mb mc env k' := fun env k k' h q =>
  ha.mono env (fun x e1 q => hb.mono e1 (fun y e2 q => hw x y (fun d q => by
    cases d with
    | bl b => cases b with
      | true => exact hc.mono e2 (fun u e3 q => hw' y u (fun d q => h d e3 q) q) q
      | false => exact h _ _ q
    | _ => exact q) q) q) q
theorem chain_run {w w' : W2} (hw : ∀ x y {k k' : KD}, (∀ d, k d → k' d) → w x y k → w x y k') (hw' : ∀ x y {k k' : KD}, (∀ d, k d → k' d) → w' x y k → w' x y k') (ha : DE X Φ a ma) (hb : DE X Φ b mb) (hc : DE X Φ c mc) {σ : St} {H : Hp} {Q : VK}
    (q : tD Φ X.K (mChain w w' ma mb mc) σ H Q) : tChain (rD X.K w) (rD X.K w') (tD Φ X.K ma) (tD Φ X.K mb) (tD Φ X.K mc) σ H Q := by
  obtain ⟨z, S0, H0, ps, env, r, q⟩ := q
  refine ⟨z, S0, H0, ps, env, r, ha.mono env (fun x e1 q => ?_) q⟩
  intro v H1 r1 x1 i1
  refine ⟨z, S0, H0, ps, e1, r1, hb.mono e1 (fun y e2 q => ?_) q⟩
  intro u H2 r2 x2 i2
  refine ⟨z, Sx S0 ps, x, y, r2.dom, r1.isK i1 x2, i2, hw x y (fun d q => ?_) q⟩
  intro v' H3 s i'
  have r3 := r2.same s
  have x3 : Ext (Mu z ps) S0 H H3 := x1.trans (x2.trans (.of_same s.same))
  cases d with
  | bl b =>
    cases i'
    refine ⟨b, rfl, ?_⟩
    cases b with
    | false => exact q _ H3 r3 x3 (.bl false)
    | true =>
      refine ⟨z, S0, H0, ps, e2, r3, hc.mono e2 (fun t e4 q => ?_) q⟩
      intro v4 H4 r4 x4 i4
      refine ⟨z, Sx S0 ps, y, t, r4.dom, r2.isK i2 (Ext.trans (.of_same s.same) x4), i4, hw' y t (fun d q => ?_) q⟩
      intro v5 H5 s5 i5
      exact q v5 H5 (r4.same s5) (x3.trans (x4.trans (.of_same s5.same))) i5
  | _ => exact q.elim
theorem de_chain {op op' : CmpOp} {w w' : W2} (ho : OpD X (compareOp op) w) (ho' : OpD X (compareOp op') w') (ha : DE X Φ a ma) (hb : DE X Φ b mb) (hc : DE X Φ c mc)
    (hm : lastMarks [op, op'] [b, c] = false := by with_unfolding_all rfl) : DE X Φ (.Compare a [op, op'] [b, c] pos) (mChain w w' ma mb mc) :=
  ⟨mChain_mono ho.mono ho'.mono ha hb hc, pe_imp (pe_chain ho.run ho'.run ha.pe hb.pe hc.pe hm) fun _ _ _ q => chain_run ho.mono ho'.mono ha hb hc q⟩
theorem dt_chain {op op' : CmpOp} {w w' : W2} (ho : OpD X (compareOp op) w) (ho' : OpD X (compareOp op') w') (ha : DE X Φ a ma) (hb : DE X Φ b mb) (hc : DE X Φ c mc)
    (hm : lastMarks [op, op'] [b, c] = false := by with_unfolding_all rfl) : DT X Φ (.Compare a [op, op'] [b, c] pos) (mB (mChain w w' ma mb mc)) :=
  ⟨mB_mono (mChain_mono ho.mono ho'.mono ha hb hc), pt_imp (pt_chain ho.run ho'.run ha.pe hb.pe hc.pe hm) fun _ _ _ q => chain_run ho.mono ho'.mono ha hb hc (tB_of (mChain_mono ho.mono ho'.mono ha hb hc) q)⟩
/-! arguments -/
def mNil : MA := fun env k => k [] env
def mCons (m : ME) (n : MA) : MA := fun env k => m env fun d e1 => n e1 fun ds e2 => k (d :: ds) e2
variable {e : Expr} {es : List Expr}
theorem da_nil : DA X Φ [] mNil := ⟨fun env k k' h q => h _ _ q, pa_imp pa_nil fun σ H Q ⟨z, S0, H0, ps, env, r, q⟩ => q [] H r .refl .nil⟩
theorem da_cons {m : ME} {n : MA} (he : DE X Φ e m) (hes : DA X Φ es n) (hs : starEach (e :: es) X.env = (false, eval e X.env) :: starEach es X.env := by rfl) : DA X Φ (e :: es) (mCons m n) := by
  refine ⟨fun env k k' h q => he.mono env (fun d e1 q => hes.mono e1 (fun ds e2 q => h _ _ q) q) q, pa_imp (pa_cons he.pe hes.pa hs) fun σ H Q ⟨z, S0, H0, ps, env, r, q⟩ => ⟨z, S0, H0, ps, env, r, he.mono env (fun d e1 q => ?_) q⟩⟩
  intro v H1 r1 x1 i1
  refine ⟨z, S0, H0, ps, e1, r1, hes.mono e1 (fun ds e2 q => ?_) q⟩
  intro vs H2 r2 x2 i2
  exact q _ H2 r2 (x1.trans x2) (.cons (r1.isK i1 x2) i2)
/-- (a, b, ..) [a, b, ..] -/
def mTup (n : MA) : ME := fun env k => n env fun ds e => ds.length ≤ sizeLine ∧ k (.tup ds) e
def mLst (n : MA) : ME := fun env k => n env fun ds e => ds.length ≤ sizeLine ∧ k (.lst ds) e
theorem de_tup {n : MA} {x1} (h : DA X Φ es n) : DE X Φ (.Tuple es x1 pos) (mTup n) := by
  refine ⟨fun env k k' hk q => h.mono env (fun ds e q => ⟨q.1, hk _ _ q.2⟩) q, pe_imp (pe_tup h.pa) fun σ H Q ⟨z, S0, H0, ps, env, r, q⟩ => ⟨z, S0, H0, ps, env, r, h.mono env (fun ds e q => ?_) q⟩⟩
  intro vs H1 r1 x1 i1
  refine ⟨by rw [i1.length]; exact q.1, fun p hp => ?_⟩
  exact q.2 _ _ (r1.same (grow_upd hp)) (x1.trans (.of_same (grow_upd hp).same)) (is_tup r1.dom hp i1)
theorem de_lst {n : MA} (h : DA X Φ es n) : DE X Φ (.List es pos) (mLst n) := by
  refine ⟨fun env k k' hk q => h.mono env (fun ds e q => ⟨q.1, hk _ _ q.2⟩) q, pe_imp (pe_lst h.pa) fun σ H Q ⟨z, S0, H0, ps, env, r, q⟩ => ⟨z, S0, H0, ps, env, r, h.mono env (fun ds e q => ?_) q⟩⟩
  intro vs H1 r1 x1 i1
  refine ⟨by rw [i1.length]; exact q.1, fun p hp => ?_⟩
  exact q.2 _ _ (r1.same (grow_upd hp)) (x1.trans (.of_same (grow_upd hp).same)) (is_lst r1.dom hp i1)
/-- a built-in called -/
def mCB (w : WL) (n : MA) : ME := fun env k => n env fun ds e => w ds fun d => k d e
theorem runL {w : WL} {n : MA} (hn : ∀ env {k k' : List D → DEnv → Prop}, (∀ d e, k d e → k' d e) → n env k → n env k') (hw : ∀ x {k k' : KD}, (∀ d, k d → k' d) → w x k → w x k') {σ : St} {H : Hp} {Q : VK} (q : tD Φ X.K (mCB w n) σ H Q) :
    tDA Φ X.K n σ H fun vs H1 => rDL X.K w vs H1 Q := by
  obtain ⟨z, S0, H0, ps, env, r, q⟩ := q
  refine ⟨z, S0, H0, ps, env, r, hn env (fun ds e q => ?_) q⟩
  intro vs H1 r1 x1 i1
  refine ⟨z, Sx S0 ps, ds, r1.dom, i1, hw ds (fun d q => ?_) q⟩
  intro v H2 s i2
  exact q v H2 (r1.same s) (x1.trans (.of_same s.same)) i2
theorem mCB_mono {w : WL} {n : MA} (hn : ∀ env {k k' : List D → DEnv → Prop}, (∀ d e, k d e → k' d e) → n env k → n env k') (hw : ∀ x {k k' : KD}, (∀ d, k d → k' d) → w x k → w x k') :
    ∀ env {k k' : D → DEnv → Prop}, (∀ d e, k d e → k' d e) → mCB w n env k → mCB w n env k' := fun env k k' h q => hn env (fun ds e q => hw ds (fun d q => h d e q) q) q
theorem de_callB {x : Str} {p pos : Pos} {id : String} {w : WL} {n : MA} (hc : CallD X (.builtin id) w) (hg : Gl X x) (hm : X.mg x = none) (hv : bootBuiltins x = some (.builtin id)) (ha : DA X Φ (e :: es) n) (hn : x ≠ "__name__" := by decide) (hdb : (x == ("__debug__" : Str)) = false := by decide)
    (he : starEach (e :: es) X.env = (false, eval e X.env) :: starEach es X.env := by rfl) (hpl : (backTo pos (starEach es X.env)).any (·.1) = false := by rfl) : DE X Φ (.Call (.Name x p) (e :: es) [] pos) (mCB w n) :=
  ⟨mCB_mono ha.mono hc.mono, pe_imp (pe_callB hc.run hg hm hv ha.pa hn hdb he hpl) fun _ _ _ q => runL ha.mono hc.mono q⟩
theorem de_callTy {x : Str} {p pos : Pos} {T : String} {w : WL} {n : MA} (hc : CallD X (.type T) w) (hg : Gl X x) (hm : X.mg x = none) (hv : bootBuiltins x = some (.type T)) (ha : DA X Φ (e :: es) n) (hn : x ≠ "__name__" := by decide) (hdb : (x == ("__debug__" : Str)) = false := by decide)
    (he : starEach (e :: es) X.env = (false, eval e X.env) :: starEach es X.env := by rfl) (hpl : (backTo pos (starEach es X.env)).any (·.1) = false := by rfl) : DE X Φ (.Call (.Name x p) (e :: es) [] pos) (mCB w n) :=
  ⟨mCB_mono ha.mono hc.mono, pe_imp (pe_callTy hc.run hg hm hv ha.pa hn hdb he hpl) fun _ _ _ q => runL ha.mono hc.mono q⟩
end
end DL
namespace DL
open PySem L2
section
variable {X : Cx} {Φ : Phi}
/-! ### operators -/
def addW : W2 := fun x y k => match x, y with
  | .int i, .int j => k (.int (i + j))
  | .str a, .str b => a.length + b.length ≤ sizeLine ∧ k (.str (a ++ b))
  | .lst a, .lst b => a.length + b.length ≤ sizeLine ∧ k (.lst (a ++ b))
  | .tup a, .tup b => a.length + b.length ≤ sizeLine ∧ k (.tup (a ++ b))
  | _, _ => False
theorem od_add : OpD X (binaryOp .Add) addW := by
  refine ⟨fun x y k k' h q => ?_, fun pins s σ H x y v u Q I rx ry ⟨z, S, dx, dy, hS, hx, hy, q⟩ => ?_⟩
  · unfold addW at q ⊢
    split <;> simp_all
  · unfold addW at q
    split at q
    · cases hx; cases hy
      exact op_add pins s σ H _ _ v u Q I rx ry ⟨_, _, rfl, rfl, q _ H (Grow.refl H) (.int _)⟩
    · cases hx; cases hy
      exact op_add_str pins s σ H _ _ v u Q I rx ry ⟨_, _, rfl, rfl, q.1, q.2 _ H (Grow.refl H) (.str _)⟩
    · cases hx with
      | lst e1 i1 =>
        cases hy with
        | lst e2 i2 =>
          refine op_cat pins s σ H _ _ v u Q I rx ry ⟨_, _, _, _, rfl, rfl, hide_same _ _ e1, hide_same _ _ e2, by rw [i1.length, i2.length]; exact q.1, fun p hp => ?_⟩
          exact q.2 _ _ (grow_upd hp) (is_lst hS hp (i1.append i2))
    · cases hx with
      | tup e1 i1 =>
        cases hy with
        | tup e2 i2 =>
          refine op_catA pins s σ H _ _ v u Q I rx ry ⟨_, _, _, _, rfl, rfl, sqT_hide e1, sqT_hide e2, by rw [i1.length, i2.length]; exact q.1, fun e => ?_, fun _ e => ?_, fun _ _ p hp => ?_⟩
          · subst e; cases i1; exact q.2 _ H (Grow.refl H) (.tup e2 i2)
          · subst e; cases i2
            refine q.2 _ H (Grow.refl H) ?_
            rw [List.append_nil]
            exact .tup e1 i1
          · exact q.2 _ _ (grow_upd hp) (is_tup hS hp (i1.append i2))
    · exact q.elim
/-- two ints -/
def intW (C : Int → Int → Prop) (g : Int → Int → D) : W2 := fun x y k => match x, y with
  | .int i, .int j => C i j ∧ k (g i j)
  | _, _ => False
theorem od_int {f : Value → Value → Sem Value} {C : Int → Int → Prop} {g : Int → Int → V} {g' : Int → Int → D} (h : OpR X f (rI C g)) (hg : ∀ i j z G, Is z X.K G (g i j) (g' i j)) : OpD X f (intW C g') := by
  refine ⟨fun x y k k' h q => ?_, fun pins s σ H x y v u Q I rx ry ⟨z, S, dx, dy, hS, hx, hy, q⟩ => ?_⟩
  · unfold intW at q ⊢
    split <;> simp_all
  · unfold intW at q
    split at q
    · cases hx; cases hy
      exact h pins s σ H _ _ v u Q I rx ry ⟨_, _, rfl, rfl, q.1, q.2 _ H (Grow.refl H) (hg _ _ _ _)⟩
    · exact q.elim
theorem rI0_rI {f : Value → Value → Sem Value} {g : Int → Int → V} (h : OpR X f (rI0 g)) : OpR X f (rI (fun _ _ => True) g) := fun pins s σ H x y v u Q I rx ry ⟨i, j, e1, e2, _, q⟩ => h pins s σ H x y v u Q I rx ry ⟨i, j, e1, e2, q⟩
abbrev subW : W2 := intW (fun _ _ => True) fun i j => .int (i - j)
abbrev fdivW : W2 := intW CDiv fun i j => .int (i / j)
abbrev modW : W2 := intW (fun _ j => 0 < j) fun i j => .int (i % j)
abbrev powW : W2 := intW CPow fun i j => .int (i ^ j.toNat)
theorem od_sub : OpD X (binaryOp .Sub) subW := od_int (rI0_rI op_sub) fun _ _ _ _ => .int _
theorem od_fdiv : OpD X (binaryOp .FloorDiv) fdivW := od_int op_fdiv fun _ _ _ _ => .int _
theorem od_mod : OpD X (binaryOp .Mod) modW := od_int op_mod fun _ _ _ _ => .int _
theorem od_pow : OpD X (binaryOp .Pow) powW := od_int op_pow fun _ _ _ _ => .int _
def rep {α : Type} (ds : List α) (n : Nat) : List α := (List.replicate n ds).flatten
def mulW : W2 := fun x y k => match x, y with
  | .int i, .int j => CMul i j ∧ k (.int (i * j))
  | .lst ds, .int j => (-(2 ^ 63) ≤ j ∧ j < 2 ^ 63) ∧ ds.length * j.toNat ≤ sizeLine ∧ k (.lst (rep ds j.toNat))
  | _, _ => False
theorem IsA.rep {z : Z} {K : PySem.W.Frag} {G : Hp} {vs : List V} {ds : List D} (h : IsA z K G vs ds) : ∀ n : Nat, IsA z K G (List.replicate n vs).flatten (DL.rep ds n)
  | 0 => .nil
  | n + 1 => by
    unfold DL.rep
    rw [List.replicate_succ, List.replicate_succ, List.flatten_cons, List.flatten_cons]
    exact h.append (IsA.rep h n)
theorem od_mul : OpD X (binaryOp .Mult) mulW := by
  refine ⟨fun x y k k' h q => ?_, fun pins s σ H x y v u Q I rx ry ⟨z, S, dx, dy, hS, hx, hy, q⟩ => ?_⟩
  · unfold mulW at q ⊢
    split <;> simp_all
  · unfold mulW at q
    split at q
    · cases hx; cases hy
      exact op_mul pins s σ H _ _ v u Q I rx ry ⟨_, _, rfl, rfl, q.1, q.2 _ H (Grow.refl H) (.int _)⟩
    · cases hx with
      | lst e1 i1 =>
        cases hy
        refine op_rep pins s σ H _ _ v u Q I rx ry ⟨_, _, _, rfl, rfl, hide_same _ _ e1, q.1.1, q.1.2, by rw [i1.length]; exact q.2.1, fun p hp => ?_⟩
        exact q.2.2 _ _ (grow_upd hp) (is_lst hS hp (i1.rep _))
    · exact q.elim
def negW : W1 := fun x k => match x with
  | .int i => k (.int (-i))
  | _ => False
theorem ud_neg : UnD X (unaryOp .USub) negW := by
  refine ⟨fun x k k' h q => ?_, fun pins s σ H x v Q I rx ⟨z, S, dx, hS, hx, q⟩ => ?_⟩
  · unfold negW at q ⊢
    split <;> simp_all
  · unfold negW at q
    split at q
    · cases hx
      exact un_neg pins s σ H _ v Q I rx ⟨_, rfl, q _ H (Grow.refl H) (.int _)⟩
    · exact q.elim
/-! ### order: ints, texts -/
def ordW (f : Int → Int → Bool) (g : List Nat → List Nat → Bool) : W2 := fun x y k => match x, y with
  | .int i, .int j => k (.bl (f i j))
  | .str a, .str b => k (.bl (g a.cps.toList b.cps.toList))
  | _, _ => False
theorem od_ord {op : CmpOp} {f : Int → Int → Bool} {g : List Nat → List Nat → Bool} (h1 : OpR X (compareOp op) (rI0 fun i j => .bl (f i j)))
    (h2 : OpR X (compareOp op) (fun x y H Q => ∃ i j, x = .str i ∧ y = .str j ∧ Q (.bl (g i.cps.toList j.cps.toList)) H)) : OpD X (compareOp op) (ordW f g) := by
  refine ⟨fun x y k k' h q => ?_, fun pins s σ H x y v u Q I rx ry ⟨z, S, dx, dy, hS, hx, hy, q⟩ => ?_⟩
  · unfold ordW at q ⊢
    split <;> simp_all
  · unfold ordW at q
    split at q
    · cases hx; cases hy
      exact h1 pins s σ H _ _ v u Q I rx ry ⟨_, _, rfl, rfl, q _ H (Grow.refl H) (.bl _)⟩
    · cases hx; cases hy
      exact h2 pins s σ H _ _ v u Q I rx ry ⟨_, _, rfl, rfl, q _ H (Grow.refl H) (.bl _)⟩
    · exact q.elim
abbrev ltW : W2 := ordW (fun i j => decide (i < j)) fun a b => decide (a < b)
abbrev leW : W2 := ordW (fun i j => decide (i ≤ j)) fun a b => !decide (b < a)
abbrev gtW : W2 := ordW (fun i j => decide (j < i)) fun a b => decide (b < a)
abbrev geW : W2 := ordW (fun i j => decide (j ≤ i)) fun a b => !decide (a < b)
theorem od_lt : OpD X (compareOp .Lt) ltW := od_ord op_lt op_lt_str
theorem od_le : OpD X (compareOp .LtE) leW := od_ord op_le op_le_str
theorem od_gt : OpD X (compareOp .Gt) gtW := od_ord op_gt op_gt_str
theorem od_ge : OpD X (compareOp .GtE) geW := od_ord op_ge op_ge_str
/-! ### as plain data -/
def keyPy : Key → PyData
  | .inl i => .int i
  | .inr x => .str x
mutual
def D.py : D → Option PyData
  | .non => some .none
  | .bl b => some (.bool b)
  | .int i => some (.int i)
  | .str x => some (.str x)
  | .tup ds => (D.pyA ds).map .tuple
  | .lst ds => (D.pyA ds).map .list
  | .dct ks ds => (D.pyA ds).map fun ps => .dict ((ks.map keyPy).zip ps)
  | _ => none
def D.pyA : List D → Option (List PyData)
  | [] => some []
  | d :: ds => match d.py, D.pyA ds with
    | some p, some ps => some (p :: ps)
    | _, _ => none
end
theorem pyA_len : ∀ {ds : List D} {ps : List PyData}, D.pyA ds = some ps → ps.length = ds.length
  | [], _, h => by simp [D.pyA] at h; subst h; rfl
  | d :: ds, _, h => by
    unfold D.pyA at h
    cases e1 : d.py with
    | none => rw [e1] at h; simp at h
    | some p =>
      cases e2 : D.pyA ds with
      | none => rw [e1, e2] at h; simp at h
      | some ps => rw [e1, e2] at h; simp at h; subst h; simp [pyA_len e2]
/-- the system's table of modules is none of the tracked objects -/
def LowK (X : Cx) : Prop := ∃ o, X.base.get? sysModules = some o
theorem LowK.free (h : LowK X) {pins : List (Addr × Obj)} {σ : St} {H : Hp} {s : Shared} (I : Inv X pins σ H s) : H sysModules = none := by
  obtain ⟨o, e⟩ := h
  exact (I.bs _ o e).2
theorem Pairs.keys {P : Program} {w : World} {h : Heap} : ∀ {es : List DictEntry} {vs : List (Key × Value)}, Pairs (mixKind P w) es vs → ReadsAll h (es.map (·.key)) (vs.map fun p => keyPy p.1) [] ∧ es.map (·.val) = vs.map (·.2)
  | _, _, .nil => ⟨.nil, rfl⟩
  | _, _, .cons (e := e) (kv := kv) (es := es) (kvs := vs) h1 h2 t => by
    obtain ⟨i1, i2⟩ := Pairs.keys (h := h) t
    refine ⟨?_, by simp [h2, i2]⟩
    have h1' : keyIs kv.1 e.key = true := h1
    rcases keyIs_shape h1' with ⟨i, t, e1, e2⟩ | ⟨x, t, e1, e2⟩
    · simp only [List.map_cons, e1, e2, keyPy]
      exact ReadsAll.cons (as := []) (bs := []) (Reads.int i t) i1
    · simp only [List.map_cons, e1, e2, keyPy]
      exact ReadsAll.cons (as := []) (bs := []) (Reads.str x t) i1
theorem kv_zip {ks : List Key} {xs : List V} {vs : List (Key × Value)} (h : KV (ks.zip xs) vs) (hl : ks.length = xs.length) : vs.map (·.1) = ks ∧ Vals xs (vs.map (·.2)) := by
  induction ks generalizing xs vs with
  | nil =>
    cases xs with
    | nil => cases h; exact ⟨rfl, .nil⟩
    | cons x xs => simp at hl
  | cons k ks ih =>
    cases xs with
    | nil => simp at hl
    | cons x xs =>
      cases h with
      | cons r t =>
        obtain ⟨i1, i2⟩ := ih t (by simpa using hl)
        obtain ⟨r1, r2⟩ := r
        exact ⟨by simp [i1, ← r1], .cons r2 i2⟩
theorem zip_fst {α β : Type} : ∀ (ks : List α) (xs : List β), ks.length = xs.length → (ks.zip xs).map (·.1) = ks := fun _ _ h => zip_keys h
theorem zip_snd {α β : Type} : ∀ (ks : List α) (xs : List β), ks.length = xs.length → (ks.zip xs).map (·.2) = xs
  | [], [], _ => rfl
  | [], _ :: _, h => by simp at h
  | _ :: _, [], h => by simp at h
  | k :: ks, x :: xs, h => by simp [zip_snd ks xs (by simpa using h)]
section
variable {z : Z} {S : Addr → Prop} {pins : List (Addr × Obj)} {σ : St} {H : Hp} {s : Shared}
mutual
theorem Is.reads (I : Inv X pins σ H s) (hf : H sysModules = none) : ∀ {v : V} {d : D} {p : PyData} {u : Value}, Is z X.K (hide S H) v d → d.py = some p → RelV v u → ∃ as, Reads s.heap u p as ∧ sysModules ∉ as
  | _, _, _, _, .non, e, r => by cases e; cases r; exact ⟨_, .none, by simp⟩
  | _, _, _, _, .bl b, e, r => by cases e; cases r; exact ⟨_, .bool b, by simp⟩
  | _, _, _, _, .int i, e, r => by cases e; obtain ⟨t, rfl⟩ := r; exact ⟨_, .int i t, by simp⟩
  | _, _, _, _, .str x, e, r => by cases e; obtain ⟨t, rfl⟩ := r; exact ⟨_, .str x t, by simp⟩
  | _, _, _, _, .ty n, e, r => by simp [D.py] at e
  | _, _, _, _, .tup (ds := ds) h t, e, r => by
    unfold D.py at e
    cases e1 : D.pyA ds with
    | none => rw [e1] at e; cases e
    | some ps =>
      rw [e1] at e; cases e; cases r
      obtain ⟨its, rv, ⟨o, ho, hc, n, hd⟩, _⟩ := I.tuple (sqT_hide h)
      obtain ⟨as, hr, hn⟩ := IsA.reads I hf t e1 rv
      exact ⟨_, .tuple ho hc hd hr, hn⟩
  | _, _, _, _, .lst (a := a) (ds := ds) h t, e, r => by
    unfold D.py at e
    cases e1 : D.pyA ds with
    | none => rw [e1] at e; cases e
    | some ps =>
      rw [e1] at e; cases e; cases r
      have h' := hide_same _ _ h
      obtain ⟨its, rv, ⟨o, n, ho, hc, _, hd⟩, _⟩ := I.list (SqL.of (K := X.K) h')
      obtain ⟨as, hr, hn⟩ := IsA.reads I hf t e1 rv
      refine ⟨_, .list ho hc hd hr, fun q => ?_⟩
      rcases List.mem_cons.mp q with q | q
      · rw [q, h'] at hf; cases hf
      · exact hn q
  | _, _, _, _, .dct (a := a) (ks := ks) (xs := xs) (ds := ds) h l _ t, e, r => by
    unfold D.py at e
    cases e1 : D.pyA ds with
    | none => rw [e1] at e; cases e
    | some ps =>
      rw [e1] at e; cases e; cases r
      have h' := hide_same _ _ h
      obtain ⟨_, _, vs, rv, o, es, ep, ho, hx, hd, _, hp, _⟩ := dk_of I.hok h'
      obtain ⟨q1, q2⟩ := kv_zip rv l
      obtain ⟨k1, k2⟩ := Pairs.keys (h := s.heap) hp
      obtain ⟨as, hr, hn⟩ := IsA.reads I hf t e1 q2
      have ek : (ks.map keyPy).length = ps.length := by rw [List.length_map, l, t.length, pyA_len e1]
      have e3 : (vs.map fun p => keyPy p.1) = ks.map keyPy := by rw [← q1, List.map_map]; rfl
      rw [e3] at k1
      refine ⟨a :: [] ++ as, .dict (as := []) (bs := as) ho hx.1 hd (by rw [zip_fst _ _ ek]; exact k1) (by rw [zip_snd _ _ ek, k2]; exact hr), fun q => ?_⟩
      rcases List.mem_cons.mp q with q | q
      · rw [q, h'] at hf; cases hf
      · exact hn (by simpa using q)
  | _, _, _, _, .ins _ _ _, e, r => by simp [D.py] at e
  | _, _, _, _, .frm _ _ _ _, e, r => by simp [D.py] at e
  | _, _, _, _, .scr _, e, r => by simp [D.py] at e
  | _, _, _, _, .sta _, e, r => by simp [D.py] at e
  | _, _, _, _, .cls _, e, r => by simp [D.py] at e
theorem IsA.reads (I : Inv X pins σ H s) (hf : H sysModules = none) : ∀ {vs : List V} {ds : List D} {ps : List PyData} {us : List Value}, IsA z X.K (hide S H) vs ds → D.pyA ds = some ps → Vals vs us → ∃ as, ReadsAll s.heap us ps as ∧ sysModules ∉ as
  | _, _, _, _, .nil, e, r => by simp [D.pyA] at e; subst e; cases r; exact ⟨_, .nil, by simp⟩
  | _, _, _, _, .cons (d := d) (ds := ds) h t, e, r => by
    unfold D.pyA at e
    cases e1 : d.py with
    | none => rw [e1] at e; simp at e
    | some p =>
      cases e2 : D.pyA ds with
      | none => rw [e1, e2] at e; simp at e
      | some ps =>
        rw [e1, e2] at e; simp at e; subst e
        cases r with
        | cons r1 r2 =>
          obtain ⟨as, q1, n1⟩ := Is.reads I hf h e1 r1
          obtain ⟨bs, q2, n2⟩ := IsA.reads I hf t e2 r2
          exact ⟨_, .cons q1 q2, fun q => (List.mem_append.mp q).elim n1 n2⟩
end
end
/-! ### == -/
def D.shaped (d : D) : Bool := match d.py with
  | some p => SeqAt.shaped p
  | none => false
def D.eqv (d e : D) : Bool := match d.py, e.py with
  | some p, some q => PyData.eqv p q
  | _, _ => false
def eqW : W2 := fun x y k => x.shaped = true ∧ y.shaped = true ∧ k (.bl (D.eqv x y))
def neW : W2 := fun x y k => x.shaped = true ∧ y.shaped = true ∧ k (.bl (!D.eqv x y))
theorem shaped_py {d : D} (h : d.shaped = true) : ∃ p, d.py = some p ∧ SeqAt.shaped p = true := by
  unfold D.shaped at h
  cases e : d.py with
  | none => rw [e] at h; cases h
  | some p => rw [e] at h; exact ⟨p, rfl, h⟩
theorem od_eq (hu : X.A.units + 64 < cLine) (hl : LowK X) : OpD X (compareOp .Eq) eqW := by
  refine ⟨fun x y k k' h q => ⟨q.1, q.2.1, h _ q.2.2⟩, fun pins s σ H x y v u Q I rx ry ⟨z, S, dx, dy, hS, hx, hy, s1, s2, q⟩ => ?_⟩
  obtain ⟨p1, e1, g1⟩ := shaped_py s1
  obtain ⟨p2, e2, g2⟩ := shaped_py s2
  obtain ⟨as, r1, _⟩ := hx.reads I (hl.free I) e1 rx
  obtain ⟨bs, r2, _⟩ := hy.reads I (hl.free I) e2 ry
  have e3 : D.eqv dx dy = PyData.eqv p1 p2 := by unfold D.eqv; rw [e1, e2]
  rw [e3] at q
  exact SeqAt.compareEq_shaped r1 r2 g1 g2 hu ⟨.bl _, H, I, rfl, q _ H (Grow.refl H) (.bl _)⟩
theorem od_ne (hu : X.A.units + 64 < cLine) (hl : LowK X) : OpD X (compareOp .NotEq) neW := by
  refine ⟨fun x y k k' h q => ⟨q.1, q.2.1, h _ q.2.2⟩, fun pins s σ H x y v u Q I rx ry ⟨z, S, dx, dy, hS, hx, hy, s1, s2, q⟩ => ?_⟩
  obtain ⟨p1, e1, g1⟩ := shaped_py s1
  obtain ⟨p2, e2, g2⟩ := shaped_py s2
  obtain ⟨as, r1, _⟩ := hx.reads I (hl.free I) e1 rx
  obtain ⟨bs, r2, _⟩ := hy.reads I (hl.free I) e2 ry
  have e3 : D.eqv dx dy = PyData.eqv p1 p2 := by unfold D.eqv; rw [e1, e2]
  rw [e3] at q
  exact SeqAt.compareNe_shaped r1 r2 g1 g2 hu ⟨.bl _, H, I, rfl, q _ H (Grow.refl H) (.bl _)⟩
/-! ### repr -/
def D.shown (d : D) : Str := match d.py with
  | some p => p.shown
  | none => ⟨#[]⟩
def D.showable (d : D) : Bool := match d.py with
  | some p => p.showable && decide (p.shown.length ≤ sizeLine) && decide (p.depth ≤ 64)
  | none => false
def reprW : WL := fun xs k => match xs with
  | [d] => d.showable = true ∧ k (.str d.shown)
  | _ => False
theorem cd_repr (hu : X.A.units + 80 < cLine) (hg : X.A.guards = some []) (hl : LowK X) : CallD X (.builtin "repr") reprW := by
  refine ⟨fun x k k' h q => ?_, fun pins s σ H xs us Q I r ⟨z, S, ds, hS, hx, q⟩ => ?_⟩
  · unfold reprW at q ⊢
    split <;> simp_all
  · unfold reprW at q
    split at q
    · rename_i d
      cases hx with
      | cons h t =>
        cases t
        obtain ⟨u, rfl, ru⟩ := vals1 r
        obtain ⟨q1, q⟩ := q
        unfold D.showable at q1
        unfold D.shown at q
        cases e : d.py with
        | none => rw [e] at q1; cases q1
        | some p =>
          rw [e] at q1 q
          simp only [Bool.and_eq_true, decide_eq_true_eq] at q1 q
          obtain ⟨⟨q1, q2⟩, q3⟩ := q1
          have fin : ∀ h' tk tt, (∀ b o, s.heap.get? b = some o → h'.get? b = some o) → EP X pins σ Q (.str p.shown tk) { s with heap := h', toks := tt } :=
            fun h' tk tt hk => ⟨.str p.shown, H, I.kept hk, ⟨tk, rfl⟩, q _ H (Grow.refl H) (.str _)⟩
          have fin0 : ∀ tk tt, EP X pins σ Q (.str p.shown tk) { s with toks := tt } := fun tk tt => fin s.heap tk tt fun _ _ e => e
          obtain ⟨as, rd, nm⟩ := h.reads I (hl.free I) e ru
          cases rd with
          | none => exact PySem.P.repr_of_none (fin0 _ _)
          | bool b => refine PySem.P.repr_of_bool ?_; cases b <;> exact fin0 _ _
          | int i t => exact PySem.P.repr_of_int (by simpa [PyData.showable] using q1) (fin0 _ _)
          | str x t => exact PySem.P.repr_of_str (fin0 _ _) q2
          | list h1 h2 h3 h4 => exact repr_of_reads' (.list h1 h2 h3 h4) q1 (fun _ => nm) hg (by omega) (fun _ _ e => e) (fun h' u tk hk => fin h' u tk hk) q2
          | tuple h1 h2 h3 h4 => exact repr_of_reads' (.tuple h1 h2 h3 h4) q1 (fun _ => nm) hg (by omega) (fun _ _ e => e) (fun h' u tk hk => fin h' u tk hk) q2
          | dict h1 h2 h3 h4 h5 => exact repr_of_reads' (.dict h1 h2 h3 h4 h5) q1 (fun _ => nm) hg (by omega) (fun _ _ e => e) (fun h' u tk hk => fin h' u tk hk) q2
    · exact q.elim
end
end DL
namespace DL
open PySem L2
section
variable {X : Cx} {Φ : Phi}
/-! ### in -/
def D.flat : D → Bool
  | .non => true
  | .bl _ => true
  | .int _ => true
  | .str _ => true
  | _ => false
/-- == of flat data -/
def D.eqF : D → D → Bool
  | .non, .non => true
  | .bl a, .bl b => a == b
  | .bl a, .int b => (if a then 1 else 0) == b
  | .int a, .bl b => a == (if b then 1 else 0)
  | .int a, .int b => a == b
  | .str a, .str b => a == b
  | _, _ => false
theorem Is.flat {z : Z} {K : PySem.W.Frag} {G : Hp} {v : V} {d : D} (h : Is z K G v d) (f : d.flat = true) : flatV v = true := by
  cases h <;> first | rfl | (simp [D.flat] at f)
theorem IsA.flat {z : Z} {K : PySem.W.Frag} {G : Hp} : ∀ {vs : List V} {ds : List D}, IsA z K G vs ds → ds.all D.flat = true → vs.all flatV = true
  | _, _, .nil, _ => rfl
  | _, _, .cons h t, f => by
    simp only [List.all_cons, Bool.and_eq_true] at f ⊢
    exact ⟨h.flat f.1, IsA.flat t f.2⟩
theorem Is.eqF {z : Z} {K : PySem.W.Frag} {G : Hp} {v u : V} {d e : D} (h : Is z K G v d) (k : Is z K G u e) (f : d.flat = true) (g : e.flat = true) : eqV v u = D.eqF d e := by
  cases h <;> first | (simp [D.flat] at f; done) | (cases k <;> first | (simp [D.flat] at g; done) | rfl)
def inD (x : D) (ds : List D) : Bool := ds.any fun y => D.eqF y x
theorem IsA.inV {z : Z} {K : PySem.W.Frag} {G : Hp} {v : V} {d : D} (h : Is z K G v d) (f : d.flat = true) : ∀ {vs : List V} {ds : List D}, IsA z K G vs ds → ds.all D.flat = true → inV v vs = inD d ds
  | _, _, .nil, _ => rfl
  | _, _, .cons k t, g => by
    simp only [List.all_cons, Bool.and_eq_true] at g
    have i := IsA.inV h f t g.2
    unfold L2.inV inD at i ⊢
    rw [List.any_cons, List.any_cons, k.eqF h g.1 f, i]
def strIn (a b : Str) : Bool := match a.cps.toList with
  | [c] => decide (c ∈ b.cps.toList)
  | _ => !(Builtin.Str.occurrences b a 0 b.length 1).isEmpty
/-- x in y, x not in y -/
def inW (neg : Bool) : W2 := fun x y k => match y with
  | .lst ds => x.flat = true ∧ ds.all D.flat = true ∧ k (.bl (if neg then !inD x ds else inD x ds))
  | .tup ds => x.flat = true ∧ ds.all D.flat = true ∧ k (.bl (if neg then !inD x ds else inD x ds))
  | .str b => match x with
    | .str a => k (.bl (if neg then !strIn a b else strIn a b))
    | _ => False
  | _ => False
theorem one_sign {a : Str} {c : Nat} (h : a.cps.toList = [c]) : a = ⟨#[c]⟩ := by
  obtain ⟨⟨l⟩⟩ := a
  simp at h
  rw [h]
theorem od_in {op : CmpOp} {neg : Bool} (h1 : OpR X (compareOp op) (rIn X.K neg)) (h2 : OpR X (compareOp op) (fun x y H Q => ∃ i j, x = .str i ∧ y = .str j ∧ Q (.bl (if neg then !(!(Builtin.Str.occurrences j i 0 j.length 1).isEmpty) else !(Builtin.Str.occurrences j i 0 j.length 1).isEmpty)) H))
    (h3 : OpR X (compareOp op) (fun x y H Q => ∃ (c : Nat) (z : Str), x = .str ⟨#[c]⟩ ∧ y = .str z ∧ Q (.bl (if neg then !decide (c ∈ z.cps.toList) else decide (c ∈ z.cps.toList))) H)) : OpD X (compareOp op) (inW neg) := by
  refine ⟨fun x y k k' h q => ?_, fun pins s σ H x y v u Q I rx ry ⟨z, S, dx, dy, hS, hx, hy, q⟩ => ?_⟩
  · revert q
    unfold inW
    split
    · exact fun q => ⟨q.1, q.2.1, h _ q.2.2⟩
    · exact fun q => ⟨q.1, q.2.1, h _ q.2.2⟩
    · split
      · exact fun q => h _ q
      · exact fun q => q.elim
    · exact fun q => q.elim
  · unfold inW at q
    split at q
    · cases hy with
      | lst e i => exact h1 pins s σ H _ _ v u Q I rx ry ⟨_, _, rfl, .inl (SqL.of (hide_same _ _ e)), hx.flat q.1, i.flat q.2.1, by rw [i.inV hx q.1 q.2.1]; exact q.2.2 _ H (Grow.refl H) (.bl _)⟩
    · cases hy with
      | tup e i => exact h1 pins s σ H _ _ v u Q I rx ry ⟨_, _, rfl, .inr (sqT_hide e), hx.flat q.1, i.flat q.2.1, by rw [i.inV hx q.1 q.2.1]; exact q.2.2 _ H (Grow.refl H) (.bl _)⟩
    · rename_i b
      split at q
      · rename_i a
        cases hx; cases hy
        have q' := q _ H (Grow.refl H) (.bl _)
        by_cases hc : ∃ c, a.cps.toList = [c]
        · obtain ⟨c, e⟩ := hc
          have e2 : strIn a b = decide (c ∈ b.cps.toList) := by unfold strIn; rw [e]
          rw [e2] at q'
          cases one_sign e
          exact h3 pins s σ H _ _ v u Q I rx ry ⟨c, _, rfl, rfl, q'⟩
        · have e2 : strIn a b = !(Builtin.Str.occurrences b a 0 b.length 1).isEmpty := by
            unfold strIn
            split
            · rename_i c e; exact absurd ⟨c, e⟩ hc
            · rfl
          rw [e2] at q'
          exact h2 pins s σ H _ _ v u Q I rx ry ⟨_, _, rfl, rfl, q'⟩
      · exact q.elim
    · exact q.elim
theorem od_isin : OpD X (compareOp .In) (inW false) := od_in op_in_seq op_in_str op_in_sign
theorem od_notin : OpD X (compareOp .NotIn) (inW true) := od_in op_notIn_seq op_notin_str op_notIn_sign
/-! ### is None -/
def isNW (neg : Bool) : W2 := fun x y k => match y with
  | .non => k (.bl (if neg then !(match x with | .non => true | _ => false) else (match x with | .non => true | _ => false)))
  | _ => False
theorem od_isN : OpD X (compareOp .Is) (isNW false) := by
  refine ⟨fun x y k k' h q => ?_, fun pins s σ H x y v u Q I rx ry ⟨z, S, dx, dy, hS, hx, hy, q⟩ => ?_⟩
  · unfold isNW at q ⊢
    split <;> simp_all
  · unfold isNW at q
    split at q
    · cases hy
      refine op_isN pins s σ H _ _ v u Q I rx ry ⟨rfl, ?_⟩
      have q' := q _ H (Grow.refl H) (.bl _)
      cases hx <;> simpa using q'
    · exact q.elim
theorem od_notN : OpD X (compareOp .IsNot) (isNW true) := by
  refine ⟨fun x y k k' h q => ?_, fun pins s σ H x y v u Q I rx ry ⟨z, S, dx, dy, hS, hx, hy, q⟩ => ?_⟩
  · unfold isNW at q ⊢
    split <;> simp_all
  · unfold isNW at q
    split at q
    · cases hy
      refine op_notN pins s σ H _ _ v u Q I rx ry ⟨rfl, ?_⟩
      have q' := q _ H (Grow.refl H) (.bl _)
      cases hx <;> simpa using q'
    · exact q.elim
/-! ### built-ins by name -/
def lenW : WL := fun xs k => match xs with
  | [.str x] => x.length ≤ sizeLine ∧ k (.int x.length)
  | [.lst ds] => k (.int ds.length)
  | [.tup ds] => k (.int ds.length)
  | [.scr ns] => k (.int ns.length)
  | _ => False
theorem cd_len : CallD X (.builtin "len") lenW := by
  refine ⟨fun x k k' h q => ?_, fun pins s σ H xs us Q I r ⟨z, S, ds, hS, hx, q⟩ => ?_⟩
  · unfold lenW at q ⊢
    split <;> simp_all
  · unfold lenW at q
    split at q
    · cases hx with
      | cons h t =>
        cases t; cases h
        exact call_len pins s σ H _ us Q I r ⟨_, _, rfl, ⟨q.1, rfl⟩, q.2 _ H (Grow.refl H) (.int _)⟩
    · cases hx with
      | cons h t =>
        cases t
        cases h with
        | lst e i => exact call_len pins s σ H _ us Q I r ⟨_, _, rfl, .inl ⟨_, SqL.of (hide_same _ _ e), rfl⟩, by rw [i.length]; exact q _ H (Grow.refl H) (.int _)⟩
    · cases hx with
      | cons h t =>
        cases t
        cases h with
        | tup e i => exact call_len pins s σ H _ us Q I r ⟨_, _, rfl, .inr ⟨_, sqT_hide e, rfl⟩, by rw [i.length]; exact q _ H (Grow.refl H) (.int _)⟩
    · cases hx with
      | cons h t =>
        cases t
        cases h with
        | scr e => exact call_len pins s σ H _ us Q I r ⟨_, _, rfl, .inl ⟨_, sqL_hide e, rfl⟩, by rw [List.length_map]; exact q _ H (Grow.refl H) (.int _)⟩
    · exact q.elim
def int1W : WL := fun xs k => match xs with
  | [.int i] => k (.int i)
  | [.bl b] => k (.int (if b then 1 else 0))
  | _ => False
theorem cd_int : CallD X (.type "int") int1W := by
  refine ⟨fun x k k' h q => ?_, fun pins s σ H xs us Q I r ⟨z, S, ds, hS, hx, q⟩ => ?_⟩
  · unfold int1W at q ⊢
    split <;> simp_all
  · unfold int1W at q
    split at q
    · cases hx with
      | cons h t => cases t; cases h; exact call_int1 pins s σ H _ us Q I r (.inl ⟨_, rfl, q _ H (Grow.refl H) (.int _)⟩)
    · cases hx with
      | cons h t => cases t; cases h; exact call_int1 pins s σ H _ us Q I r (.inr ⟨_, rfl, q _ H (Grow.refl H) (.int _)⟩)
    · exact q.elim
def absW : WL := fun xs k => match xs with
  | [.int i] => k (.int (if i < 0 then -i else i))
  | _ => False
theorem cd_abs : CallD X (.builtin "abs") absW := by
  refine ⟨fun x k k' h q => ?_, fun pins s σ H xs us Q I r ⟨z, S, ds, hS, hx, q⟩ => ?_⟩
  · unfold absW at q ⊢
    split <;> simp_all
  · unfold absW at q
    split at q
    · cases hx with
      | cons h t => cases t; cases h; exact call_abs pins s σ H _ us Q I r ⟨_, rfl, q _ H (Grow.refl H) (.int _)⟩
    · exact q.elim
def min2W : WL := fun xs k => match xs with
  | [.int i, .int j] => k (.int (if j < i then j else i))
  | _ => False
theorem cd_min2 (hc : X.calm = true) : CallD X (.builtin "min") min2W := by
  refine ⟨fun x k k' h q => ?_, fun pins s σ H xs us Q I r ⟨z, S, ds, hS, hx, q⟩ => ?_⟩
  · unfold min2W at q ⊢
    split <;> simp_all
  · unfold min2W at q
    split at q
    · cases hx with
      | cons h t =>
        cases t with
        | cons h2 t => cases t; cases h; cases h2; exact call_min2 hc pins s σ H _ us Q I r ⟨_, _, rfl, q _ H (Grow.refl H) (.int _)⟩
    · exact q.elim
def boolsOf : List D → Option (List Bool)
  | [] => some []
  | .bl b :: ds => (boolsOf ds).map (b :: ·)
  | _ :: _ => none
def intsOf : List D → Option (List Int)
  | [] => some []
  | .int b :: ds => (intsOf ds).map (b :: ·)
  | _ :: _ => none
def strsOf : List D → Option (List Str)
  | [] => some []
  | .str b :: ds => (strsOf ds).map (b :: ·)
  | _ :: _ => none
theorem bools_eq : ∀ {ds : List D} {bs : List Bool}, boolsOf ds = some bs → ds = bs.map D.bl
  | [], bs, h => by simp [boolsOf] at h; subst h; rfl
  | d :: ds, bs, h => by
    cases d with
    | bl b =>
      simp only [boolsOf, Option.map_eq_some_iff] at h
      obtain ⟨l, h1, h2⟩ := h
      subst h2
      rw [bools_eq h1]; rfl
    | _ => simp [boolsOf] at h
theorem ints_eq : ∀ {ds : List D} {bs : List Int}, intsOf ds = some bs → ds = bs.map D.int
  | [], bs, h => by simp [intsOf] at h; subst h; rfl
  | d :: ds, bs, h => by
    cases d with
    | int b =>
      simp only [intsOf, Option.map_eq_some_iff] at h
      obtain ⟨l, h1, h2⟩ := h
      subst h2
      rw [ints_eq h1]; rfl
    | _ => simp [intsOf] at h
theorem strs_eq : ∀ {ds : List D} {bs : List Str}, strsOf ds = some bs → ds = bs.map D.str
  | [], bs, h => by simp [strsOf] at h; subst h; rfl
  | d :: ds, bs, h => by
    cases d with
    | str b =>
      simp only [strsOf, Option.map_eq_some_iff] at h
      obtain ⟨l, h1, h2⟩ := h
      subst h2
      rw [strs_eq h1]; rfl
    | _ => simp [strsOf] at h
theorem bools_map (bs : List Bool) : boolsOf (bs.map D.bl) = some bs := by induction bs with
  | nil => rfl
  | cons b bs ih => simp [boolsOf, ih]
theorem ints_map (bs : List Int) : intsOf (bs.map D.int) = some bs := by induction bs with
  | nil => rfl
  | cons b bs ih => simp [intsOf, ih]
theorem strs_map (bs : List Str) : strsOf (bs.map D.str) = some bs := by induction bs with
  | nil => rfl
  | cons b bs ih => simp [strsOf, ih]
/-- all(list), any(list) of truth values -/
def allW (f : List Bool → Bool) : WL := fun xs k => match xs with
  | [.lst ds] => match boolsOf ds with
    | some bs => k (.bl (f bs))
    | none => False
  | _ => False
theorem allW_mono (f : List Bool → Bool) : ∀ x {k k' : KD}, (∀ d, k d → k' d) → allW f x k → allW f x k' := fun x k k' h q => by
  revert q
  unfold allW
  split
  · split
    · exact fun q => h _ q
    · exact fun q => q
  · exact fun q => q.elim
theorem cd_all (hc : X.calm = true) : CallD X (.builtin "all") (allW fun bs => bs.all id) := by
  refine ⟨allW_mono _, fun pins s σ H xs us Q I r ⟨z, S, ds, hS, hx, q⟩ => ?_⟩
  unfold allW at q
  split at q
  · split at q
    · rename_i e
      cases bools_eq e
      cases hx with
      | cons h t =>
        cases t
        cases h with
        | lst e i =>
          rw [i.bls] at e
          exact cr_all hc pins s σ H _ us Q I r ⟨_, _, rfl, SqL.of (hide_same _ _ e), q _ H (Grow.refl H) (.bl _)⟩
    · exact q.elim
  · exact q.elim
theorem cd_any (hc : X.calm = true) : CallD X (.builtin "any") (allW fun bs => bs.any id) := by
  refine ⟨allW_mono _, fun pins s σ H xs us Q I r ⟨z, S, ds, hS, hx, q⟩ => ?_⟩
  unfold allW at q
  split at q
  · split at q
    · rename_i e
      cases bools_eq e
      cases hx with
      | cons h t =>
        cases t
        cases h with
        | lst e i =>
          rw [i.bls] at e
          exact cr_any hc pins s σ H _ us Q I r ⟨_, _, rfl, SqL.of (hide_same _ _ e), q _ H (Grow.refl H) (.bl _)⟩
    · exact q.elim
  · exact q.elim
def tupleW : WL := fun xs k => match xs with
  | [.lst ds] => k (.tup ds)
  | [.tup ds] => k (.tup ds)
  | _ => False
theorem cd_tuple : CallD X (.type "tuple") tupleW := by
  refine ⟨fun x k k' h q => ?_, fun pins s σ H xs us Q I r ⟨z, S, ds, hS, hx, q⟩ => ?_⟩
  · unfold tupleW at q ⊢
    split <;> simp_all
  · unfold tupleW at q
    split at q
    · cases hx with
      | cons h t =>
        cases t
        cases h with
        | lst e i => exact call_tuple_of pins s σ H _ us Q I r ⟨_, _, rfl, .inl ⟨SqL.of (hide_same _ _ e), fun l hl => q _ _ (grow_upd hl) (is_tup hS hl i)⟩⟩
    · cases hx with
      | cons h t =>
        cases t
        cases h with
        | tup e i => exact call_tuple_of pins s σ H _ us Q I r ⟨_, _, rfl, .inr ⟨sqT_hide e, q _ H (Grow.refl H) (.tup e i)⟩⟩
    · exact q.elim
def listW : WL := fun xs k => match xs with
  | [.lst ds] => k (.lst ds)
  | [.tup ds] => k (.lst ds)
  | _ => False
theorem cd_list : CallD X (.type "list") listW := by
  refine ⟨fun x k k' h q => ?_, fun pins s σ H xs us Q I r ⟨z, S, ds, hS, hx, q⟩ => ?_⟩
  · unfold listW at q ⊢
    split <;> simp_all
  · unfold listW at q
    split at q
    · cases hx with
      | cons h t =>
        cases t
        cases h with
        | lst e i => exact call_list_of pins s σ H _ us Q I r ⟨_, _, rfl, .inl (SqL.of (hide_same _ _ e)), fun l hl => q _ _ (grow_upd hl) (is_lst hS hl i)⟩
    · cases hx with
      | cons h t =>
        cases t
        cases h with
        | tup e i => exact call_list_of pins s σ H _ us Q I r ⟨_, _, rfl, .inr (sqT_hide e), fun l hl => q _ _ (grow_upd hl) (is_lst hS hl i)⟩
    · exact q.elim
/-! ### isinstance, built-in classes -/
def tyN : D → Option String
  | .non => some "NoneType"
  | .bl _ => some "bool"
  | .int _ => some "int"
  | .str _ => some "str"
  | .tup _ => some "tuple"
  | .lst _ => some "list"
  | .dct _ _ => some "dict"
  | .frm _ _ => some "dict"
  | _ => none
def D.isa (d : D) (n : String) : Bool := match d with
  | .bl _ => n == "bool" || n == "int"
  | .int _ => n == "int"
  | .str _ => n == "str"
  | .tup _ => n == "tuple"
  | .lst _ => n == "list"
  | .dct _ _ => n == "dict"
  | .frm _ _ => n == "dict"
  | _ => false
def sixNames : List String := ["int", "bool", "str", "tuple", "list", "dict"]
theorem kit_six : ∀ n ∈ sixNames, kitB "NoneType" n = some false ∧ kitB "bool" n = some (n == "bool" || n == "int") ∧ kitB "int" n = some (n == "int") ∧ kitB "str" n = some (n == "str") ∧
    kitB "tuple" n = some (n == "tuple") ∧ kitB "list" n = some (n == "list") ∧ kitB "dict" n = some (n == "dict") := by decide +kernel
theorem isa_kit {d : D} {t n : String} (h : tyN d = some t) (hn : n ∈ sixNames) : kitB t n = some (d.isa n) := by
  obtain ⟨h0, h1, h2, h3, h4, h5, h6⟩ := kit_six n hn
  cases d <;> simp only [tyN, Option.some.injEq, reduceCtorEq] at h <;> subst h <;> simp only [D.isa] <;> assumption
theorem Is.ty_of {z : Z} {K : PySem.W.Frag} {S : Addr → Prop} {H : Hp} {v : V} {d : D} {t : String} (h : Is z K (hide S H) v d) (e : tyN d = some t) : TyX K H v (.type t) := by
  cases h with
  | non => cases e; exact .base .non
  | bl b => cases e; exact .base (.bl b)
  | int b => cases e; exact .base (.int b)
  | str b => cases e; exact .base (.str b)
  | tup h i =>
    cases e
    rcases tup_hide h with h | ⟨o, its, n, h1, h2, _⟩
    · exact .base (.tup h)
    · exact .kTuple h1 h2
  | lst h i => cases e; exact .base (.lst (hide_same _ _ h))
  | dct h i _ _ => cases e; exact .base (.dK (hide_same _ _ h))
  | frm h i _ _ => cases e; exact .base (.dK (hide_same _ _ h))
  | ty => cases e
  | fra => cases e
  | ins => cases e
  | scr => cases e
  | sta => cases e
  | cls => cases e
def tyNames : List D → Option (List String)
  | [] => some []
  | .ty n :: ds => (tyNames ds).map (n :: ·)
  | _ :: _ => none
def isiW : WL := fun xs k => match xs with
  | [d, .ty n] => (tyN d).isSome = true ∧ n ∈ sixNames ∧ k (.bl (d.isa n))
  | [d, .tup cs] => match tyNames cs with
    | some ns => (tyN d).isSome = true ∧ (∀ n ∈ ns, n ∈ sixNames) ∧ k (.bl (ns.any d.isa))
    | none => False
  | _ => False
theorem tyNames_cls {z : Z} {K : PySem.W.Frag} {G : Hp} : ∀ {vs : List V} {cs : List D} {ns : List String}, IsA z K G vs cs → tyNames cs = some ns → Paired ClsV vs (ns.map Value.type)
  | _, _, _, .nil, e => by simp [tyNames] at e; subst e; exact .nil
  | _, _, _, .cons (d := d) h t, e => by
    cases d with
    | ty n =>
      simp only [tyNames, Option.map_eq_some_iff] at e
      obtain ⟨l, h1, h2⟩ := e
      subst h2
      cases h
      exact .cons (.ty n) (tyNames_cls t h1)
    | _ => simp [tyNames] at e
theorem kitAny_of {K : PySem.W.Frag} {d : D} {t : String} (h : tyN d = some t) : ∀ {ns : List String}, (∀ n ∈ ns, n ∈ sixNames) → PySem.W.kitAny K (.type t) (ns.map Value.type) = some (ns.any d.isa)
  | [], _ => kitAny_nil
  | n :: ns, hn => by
    have h1 : PySem.W.kitOne K (.type t) (.type n) = some (d.isa n) := kit_ty (isa_kit h (hn n (by simp)))
    have h2 := kitAny_of (K := K) h (ns := ns) fun m hm => hn m (by simp [hm])
    refine kitAny_cons h1 (fun e => ?_) (fun e => ?_)
    · rw [h2, List.any_cons, e]; simp
    · rw [List.any_cons, e]; simp
theorem cd_isi : CallD X (.builtin "isinstance") isiW := by
  refine ⟨fun x k k' h q => ?_, fun pins s σ H xs us Q I r ⟨z, S, ds, hS, hx, q⟩ => ?_⟩
  · revert q
    unfold isiW
    split
    · exact fun q => ⟨q.1, q.2.1, h _ q.2.2⟩
    · split
      · exact fun q => ⟨q.1, q.2.1, h _ q.2.2⟩
      · exact fun q => q
    · exact fun q => q.elim
  · unfold isiW at q
    split at q
    · rename_i d n
      obtain ⟨t, et⟩ := Option.isSome_iff_exists.mp q.1
      cases hx with
      | cons h1 t1 =>
        cases t1 with
        | cons h2 t2 =>
          cases t2; cases h2
          exact call_isi pins s σ H _ us Q I r ⟨_, _, _, _, _, rfl, .ty n, h1.ty_of et, kit_ty (isa_kit et q.2.1), q.2.2 _ H (Grow.refl H) (.bl _)⟩
    · rename_i d cs
      split at q
      · rename_i ns ens
        obtain ⟨t, et⟩ := Option.isSome_iff_exists.mp q.1
        cases hx with
        | cons h1 t1 =>
          cases t1 with
          | cons h2 t2 =>
            cases t2
            cases h2 with
            | tup e i =>
              rcases tup_hide e with e | ⟨o, its, n, e1, e2, e3, e4, e5⟩
              · exact call_isiT pins s σ H _ us Q I r ⟨_, _, _, _, _, _, rfl, e, tyNames_cls i ens, h1.ty_of et, kitAny_of et q.2.1, q.2.2 _ H (Grow.refl H) (.bl _)⟩
              · obtain ⟨oc, od, dt, sl⟩ := o
                simp only at e2 e3
                subst e2 e3
                have e6 := ClsV.all (tyNames_cls i ens) e5
                have e7 : its = (ns.map Value.type).toArray := by rw [← e6]
                subst e7
                exact call_isiK pins s σ H _ us Q I r ⟨_, _, od, ns.map Value.type, n, sl, _, _, rfl, e1, h1.ty_of et, kitAny_of et q.2.1, q.2.2 _ H (Grow.refl H) (.bl _)⟩
      · exact q.elim
    · exact q.elim
/-! ### subscripts -/
def ixW : W2 := fun x y k => match y with
  | .int i => match x with
    | .lst ds => ∃ d, atI ds i = some d ∧ k d
    | .tup ds => ∃ d, atI ds i = some d ∧ k d
    | .str z => z.length ≤ sizeLine ∧ ∃ c, atI z.cps.toList i = some c ∧ k (.str ⟨#[c]⟩)
    | _ => False
  | _ => False
theorem IsA.atI {z : Z} {K : PySem.W.Frag} {G : Hp} {vs : List V} {ds : List D} {i : Int} {d : D} (h : IsA z K G vs ds) (e : atI ds i = some d) : ∃ v, L2.atI vs i = some v ∧ Is z K G v d := by
  unfold L2.atI at e ⊢
  rw [h.length]
  cases q : ixN ds.length i with
  | none => rw [q] at e; cases e
  | some j => rw [q] at e; exact h.getD e
theorem xd_ix : IxD X ixW := by
  refine ⟨fun x y k k' h q => ?_, fun value slice pins s σ H x y v u Q I rx ry ⟨z, S, dx, dy, hS, hx, hy, q⟩ hs => ?_⟩
  · revert q
    unfold ixW
    split
    · split
      · exact fun ⟨d, e, q⟩ => ⟨d, e, h _ q⟩
      · exact fun ⟨d, e, q⟩ => ⟨d, e, h _ q⟩
      · exact fun ⟨z, d, e, q⟩ => ⟨z, d, e, h _ q⟩
      · exact fun q => q.elim
    · exact fun q => q.elim
  · unfold ixW at q
    split at q
    · cases hy
      split at q
      · obtain ⟨d, e, q⟩ := q
        cases hx with
        | lst g i =>
          obtain ⟨w, e2, iw⟩ := i.atI e
          exact ix_list value slice pins s σ H _ _ v u Q I rx ry ⟨_, _, _, _, rfl, rfl, SqL.of (hide_same _ _ g), e2, q _ H (Grow.refl H) iw⟩ hs
      · obtain ⟨d, e, q⟩ := q
        cases hx with
        | tup g i =>
          obtain ⟨w, e2, iw⟩ := i.atI e
          exact ix_tup value slice pins s σ H _ _ v u Q I rx ry ⟨_, _, _, _, rfl, rfl, sqT_hide g, e2, q _ H (Grow.refl H) iw⟩ hs
      · obtain ⟨zl, c, e, q⟩ := q
        cases hx
        exact ix_str value slice pins s σ H _ _ v u Q I rx ry ⟨_, _, c, rfl, rfl, zl, e, q _ H (Grow.refl H) (.str _)⟩ hs
      · exact q.elim
    · exact q.elim
/-! ### slices -/
def cut {α : Type} (xs : List α) (lo hi : Option Int) : List α := (xs.drop (HT.sIx xs.length 0 lo)).take (HT.sIx xs.length xs.length hi - HT.sIx xs.length 0 lo)
abbrev W3 := D → Option Int → Option Int → KD → Prop
def rD3 (K : PySem.W.Frag) (w : W3) : V → Option Int → Option Int → Hp → VK → Prop := fun x lo hi H Q => ∃ z S dx, (∀ p, S p → H p ≠ none) ∧ Is z K (hide S H) x dx ∧
  w dx lo hi fun d => ∀ v H', Grow H H' → Is z K (hide S H') v d → Q v H'
def slW : W3 := fun x lo hi k => match x with
  | .lst ds => k (.lst (cut ds lo hi))
  | .tup ds => k (.tup (cut ds lo hi))
  | .str z => z.length ≤ sizeLine ∧ k (.str (cutS z lo hi))
  | _ => False
theorem IsA.cut {z : Z} {K : PySem.W.Frag} {G : Hp} {vs : List V} {ds : List D} (h : IsA z K G vs ds) (lo hi : Option Int) : IsA z K G (cutV vs lo hi) (DL.cut ds lo hi) := by
  unfold cutV DL.cut
  rw [h.length]
  exact (h.drop _).take _
theorem slW_mono : ∀ x lo hi {k k' : KD}, (∀ d, k d → k' d) → slW x lo hi k → slW x lo hi k' := fun x lo hi k k' h q => by
  unfold slW at q ⊢
  split <;> simp_all
theorem sd_sl : SlR X (rD3 X.K slW) := by
  intro pins s σ H x v vl vu lo hi sl Q I rx hs pl pu ⟨z, S, dx, hS, hx, q⟩
  unfold slW at q
  split at q
  · cases hx with
    | lst g i => exact sl_list pins s σ H _ v vl vu lo hi sl Q I rx hs pl pu ⟨_, _, rfl, SqL.of (hide_same _ _ g), fun p hp => q _ _ (grow_upd hp) (is_lst hS hp (i.cut lo hi))⟩
  · cases hx with
    | tup g i =>
      refine sl_tupA pins s σ H _ v vl vu lo hi sl Q I rx hs pl pu ⟨_, _, rfl, sqT_hide g, fun e => ?_, fun _ p hp => q _ _ (grow_upd hp) (is_tup hS hp (i.cut lo hi))⟩
      refine q _ H (Grow.refl H) ?_
      have e1 := i.cut lo hi
      have e2 : ∀ {α : Type} (xs : List α), HT.sIx xs.length 0 lo = 0 → HT.sIx xs.length xs.length hi = xs.length → DL.cut xs lo hi = xs := fun xs h1 h2 => by
        unfold DL.cut
        rw [h1, h2, Nat.sub_zero, List.drop_zero, List.take_length]
      rw [i.length] at e
      rw [e2 _ e.1 e.2]
      exact .tup g i
  · cases hx
    exact sl_str pins s σ H _ v vl vu lo hi sl Q I rx hs pl pu ⟨_, rfl, q.1, q.2 _ H (Grow.refl H) (.str _)⟩
  · exact q.elim
abbrev MO := DEnv → (Option Int → DEnv → Prop) → Prop
def tDO (Φ : Phi) (K : PySem.W.Frag) (m : MO) : TO := fun σ H Q => ∃ z S0 H0 ps env, Rel Φ z S0 H0 K ps env σ H ∧
  m env fun o env' => ∀ H', Rel Φ z S0 H0 K ps env' σ H' → Ext (Mu z ps) S0 H H' → Q o H'
structure DO (X : Cx) (Φ : Phi) (e : Option Expr) (m : MO) : Prop where
  mono : ∀ env {k k' : Option Int → DEnv → Prop}, (∀ d e, k d e → k' d e) → m env k → m env k'
  po : PO X e (tDO Φ X.K m)
theorem po_imp {e : Option Expr} {t t' : TO} (h : PO X e t) (k : ∀ σ H Q, t' σ H Q → t σ H Q) : PO X e t' := ⟨fun pins s σ H Q I q => h.run pins s σ H Q I (k σ H Q q)⟩
def mNo : MO := fun env k => k none env
def mSome (m : ME) : MO := fun env k => m env fun d e => match d with
  | .int i => k (some i) e
  | _ => False
theorem do_none : DO X Φ none mNo := ⟨fun env k k' h q => h _ _ q, po_imp po_none fun σ H Q ⟨z, S0, H0, ps, env, r, q⟩ => q H r .refl⟩
theorem do_some {e : Expr} {m : ME} (h : DE X Φ e m) : DO X Φ (some e) (mSome m) := by
  refine ⟨fun env k k' hk q => h.mono env (fun d e q => ?_) q, po_imp (po_some h.pe) fun σ H Q ⟨z, S0, H0, ps, env, r, q⟩ => ⟨z, S0, H0, ps, env, r, h.mono env (fun d e q => ?_) q⟩⟩
  · cases d with
    | int i => exact hk _ _ q
    | _ => exact q
  · intro v H1 r1 x1 i1
    cases d with
    | int i => cases i1; exact ⟨i, rfl, q H1 r1 x1⟩
    | _ => exact q.elim
def mSl (w : W3) (m : ME) (l u : MO) : ME := fun env k => m env fun x e1 => l e1 fun lo e2 => u e2 fun hi e3 => w x lo hi fun d => k d e3
theorem de_slice {e : Expr} {lo hi : Option Expr} {m : ME} {l u : MO} {pos p2 : Pos} (he : DE X Φ e m) (hl : DO X Φ lo l) (hu : DO X Φ hi u) : DE X Φ (.Subscript e (.Slice lo hi none p2) pos) (mSl slW m l u) := by
  refine ⟨fun env k k' h q => he.mono env (fun x e1 q => hl.mono e1 (fun lo e2 q => hu.mono e2 (fun hi e3 q => slW_mono _ _ _ (fun d q => h _ _ q) q) q) q) q,
    pe_imp (pe_slice sd_sl he.pe hl.po hu.po) fun σ H Q ⟨z, S0, H0, ps, env, r, q⟩ => ⟨z, S0, H0, ps, env, r, he.mono env (fun x e1 q => ?_) q⟩⟩
  intro v H1 r1 x1 i1
  refine ⟨z, S0, H0, ps, e1, r1, hl.mono e1 (fun lo e2 q => ?_) q⟩
  intro H2 r2 x2
  refine ⟨z, S0, H0, ps, e2, r2, hu.mono e2 (fun hi e3 q => ?_) q⟩
  intro H3 r3 x3
  refine ⟨z, Sx S0 ps, x, r3.dom, r1.isK i1 (x2.trans x3), slW_mono _ _ _ (fun d q => ?_) q⟩
  intro v' H' s i'
  exact q v' H' (r3.same s) (x1.trans (x2.trans (x3.trans (.of_same s.same)))) i'
end
end DL
namespace DL
open PySem L2
/-! ### statements -/
section
variable {X : Cx} {Φ : Phi} {st : Stmt} {rest : List Stmt} {m n : MS} {e c : Expr} {me : ME} {pos : Pos}
theorem KS.Le.refl (k : KS) : k.Le k := ⟨fun _ h => h, fun _ _ h => h, fun _ h => h, fun _ h => h⟩
def mNext : MS := fun env k => k.nx env
theorem dss_nil : DSs X Φ [] mNext := ⟨fun env k k' h q => h.nx _ q, pss_imp pss_nil fun E σ H ⟨z, S0, H0, ps, env, r, q⟩ => q ps σ H r .refl⟩
def mSeq (m n : MS) : MS := fun env k => m env { k with nx := fun e => n e k }
theorem kOf_le {Φ : Phi} {z : Z} {S0 : Addr → Prop} {H0 H H1 : Hp} {K : PySem.W.Frag} {ps ps1 : List (Option Addr)} {E : Ends} (s1 : Step z S0 ps H ps1 H1) : (kOf Φ z S0 H0 K ps H E).Le (kOf Φ z S0 H0 K ps1 H1 E) :=
  ⟨fun _ q ps2 σ2 H2 r2 s2 => q ps2 σ2 H2 r2 (s1.trans s2 fun _ hp => r2.noZ hp), fun _ _ q => q, fun _ q ps2 σ2 H2 r2 s2 => q ps2 σ2 H2 r2 (s1.trans s2 fun _ hp => r2.noZ hp), fun _ q ps2 σ2 H2 r2 s2 => q ps2 σ2 H2 r2 (s1.trans s2 fun _ hp => r2.noZ hp)⟩
theorem dss_cons (h1 : DS X Φ st m) (h2 : DSs X Φ rest n) : DSs X Φ (st :: rest) (mSeq m n) := by
  refine ⟨fun env k k' h q => ?_, pss_imp (pss_cons h1.ps h2.ps) fun E σ H ⟨z, S0, H0, ps, env, r, q⟩ => ⟨z, S0, H0, ps, env, r, ?_⟩⟩
  · unfold mSeq at q ⊢
    refine h1.mono env ?_ q
    exact ⟨fun e q => h2.mono e h q, h.rt, h.bk, h.ct⟩
  · unfold mSeq at q
    refine h1.mono env ?_ q
    refine ⟨fun e q => ?_, fun _ _ q => q, fun _ q => q, fun _ q => q⟩
    intro ps1 σ1 H1 r1 s1
    exact ⟨z, S0, H0, ps1, e, r1, h2.mono e (kOf_le s1) q⟩
theorem dss_one (h1 : DS X Φ st m) : DSs X Φ [st] m := ⟨h1.mono, pss_one h1.ps⟩
theorem ds_pass : DS X Φ (.Pass pos) mNext := ⟨fun env k k' h q => h.nx _ q, ps_imp ps_pass fun E σ H ⟨z, S0, H0, ps, env, r, q⟩ => q ps σ H r .refl⟩
def mBreak : MS := fun env k => k.bk env
def mCont : MS := fun env k => k.ct env
theorem ds_break : DS X Φ (.Break pos) mBreak := ⟨fun env k k' h q => h.bk _ q, ps_imp ps_break fun E σ H ⟨z, S0, H0, ps, env, r, q⟩ => q ps σ H r .refl⟩
theorem ds_continue : DS X Φ (.Continue pos) mCont := ⟨fun env k k' h q => h.ct _ q, ps_imp ps_continue fun E σ H ⟨z, S0, H0, ps, env, r, q⟩ => q ps σ H r .refl⟩
def mNever : MS := fun _ _ => False
theorem ds_never : DS X Φ st mNever := ⟨fun env k k' h q => q, ps_imp ps_never fun E σ H ⟨z, S0, H0, ps, env, r, q⟩ => q⟩
theorem dss_never {sts : List Stmt} : DSs X Φ sts mNever := ⟨fun env k k' h q => q, pss_imp pss_never fun E σ H ⟨z, S0, H0, ps, env, r, q⟩ => q⟩
def mDrop (me : ME) : MS := fun env k => me env fun _ e => k.nx e
theorem ds_expr (he : DE X Φ e me) (hs : swapsWith e none pos.line X.env = pure false := by rfl) : DS X Φ (.Expr e pos) (mDrop me) := by
  refine ⟨fun env k k' h q => he.mono env (fun _ e q => h.nx e q) q, ps_imp (ps_expr he.pe hs) fun E σ H ⟨z, S0, H0, ps, env, r, q⟩ => ⟨z, S0, H0, ps, env, r, he.mono env (fun d e q => ?_) q⟩⟩
  exact fun v H1 r1 x1 i1 => q ps σ H1 r1 (.of_ext x1)
def mRet (me : ME) : MS := fun env k => me env fun d e => k.rt d e
theorem ds_ret (he : DE X Φ e me) : DS X Φ (.Return (some e) pos) (mRet me) := by
  refine ⟨fun env k k' h q => he.mono env (fun d e q => h.rt d e q) q, ps_imp (ps_ret he.pe) fun E σ H ⟨z, S0, H0, ps, env, r, q⟩ => ⟨z, S0, H0, ps, env, r, he.mono env (fun d e q => ?_) q⟩⟩
  exact fun v H1 r1 x1 i1 => q ps v σ H1 r1 i1
def mIfS (t : MT) (m n : MS) : MS := fun env k => t env fun b e => if b = true then m e k else n e k
theorem ds_if {a b : List Stmt} {t : MT} (hc : DT X Φ c t) (ha : DSs X Φ a m) (hb : DSs X Φ b n) : DS X Φ (.If c a b pos) (mIfS t m n) := by
  refine ⟨fun env k k' h q => hc.mono env (fun b e q => ?_) q, ps_imp (ps_if hc.pt ha.ps hb.ps) fun E σ H ⟨z, S0, H0, ps, env, r, q⟩ => ⟨z, S0, H0, ps, env, r, hc.mono env (fun b e q => ?_) q⟩⟩
  · cases b with
    | true => exact ha.mono e h q
    | false => exact hb.mono e h q
  · intro H1 r1 x1
    cases b with
    | true => exact ⟨z, S0, H0, ps, e, r1, ha.mono e (kOf_le (.of_ext x1)) q⟩
    | false => exact ⟨z, S0, H0, ps, e, r1, hb.mono e (kOf_le (.of_ext x1)) q⟩
/-- x = e -/
def mSet (i : Nat) (me : ME) : MS := fun env k => me env fun d e => k.nx (e.put i (.da d))
theorem mem_set_none {ps : List (Option Addr)} {i : Nat} {p : Addr} (h : some p ∈ ps.set i none) : some p ∈ ps := by
  rcases List.mem_or_eq_of_mem_set h with h | h
  · exact h
  · cases h
theorem Step.put {z : Z} {S0 : Addr → Prop} {ps : List (Option Addr)} {H H1 : Hp} {i : Nat} (x : Ext (Mu z ps) S0 H H1) : Step z S0 ps H (ps.set i none) H1 := ⟨x, fun _ h => .inl (mem_set_none h)⟩
theorem asg_of {i : Nat} {K : PySem.W.Frag} (hm : ∀ env {k k' : D → DEnv → Prop}, (∀ d e, k d e → k' d e) → me env k → me env k') {E : Ends} {σ : St} {H : Hp} (q : tDS Φ K (mSet i me) E σ H) : tAsg (tD Φ K me) (gName i) E σ H := by
  obtain ⟨z, S0, H0, ps, env, r, q⟩ := q
  refine ⟨z, S0, H0, ps, env, r, hm env (fun d e q => ?_) q⟩
  exact fun v H1 r1 x1 i1 => q _ _ _ (r1.put i1) (.put x1)
theorem mSet_mono {i : Nat} (hm : ∀ env {k k' : D → DEnv → Prop}, (∀ d e, k d e → k' d e) → me env k → me env k') : ∀ env {k k' : KS}, k.Le k' → mSet i me env k → mSet i me env k' := fun env k k' h q => hm env (fun d e q => h.nx _ q) q
theorem ds_set {i : Nat} {x : Str} {pos' : Pos} (hN : X.N.Nodup) (hi : X.N[i]? = some x) (hx : Loc X.env.scope x) (he : DE X Φ e me) (hs : swapsWith e (some (.Name x pos')) pos.line X.env = pure false := by rfl)
    (hf : X.fn x = true ∨ X.env.scope.names.lookup x = some .local := by first | exact .inl rfl | exact .inr rfl | assumption) : DS X Φ (.Assign [.Name x pos'] e pos) (mSet i me) :=
  ⟨mSet_mono he.mono, ps_imp (ps_set hN hi hx he.pe hs hf) fun _ _ _ q => asg_of he.mono q⟩
/-- a, b = x, y -/
def mPar (i j : Nat) (n : MA) : MS := fun env k => n env fun ds e => match ds with
  | [x, y] => k.nx ((e.put i (.da x)).put j (.da y))
  | _ => False
theorem ds_par {i j : Nat} {x y : Str} {a b : Expr} {n : MA} {px py pt : Pos} {kt k2 pt2} (hc : X.calm = true) (hN : X.N.Nodup) (hi : X.N[i]? = some x) (hj : X.N[j]? = some y) (hij : i ≠ j)
    (hx : X.env.scope.names.lookup x = some .local) (hy : X.env.scope.names.lookup y = some .local) (ha : DA X Φ [a, b] n)
    (hw : swappedStores [.Tuple [.Name x px, .Name y py] kt pt] (.Tuple [a, b] k2 pt2) X.env = pure (some [x, y]))
    (hs : swapsWithSole [.Tuple [.Name x px, .Name y py] kt pt] (.Tuple [a, b] k2 pt2) pos.line X.env = pure false := by rfl) :
    DS X Φ (.Assign [.Tuple [.Name x px, .Name y py] kt pt] (.Tuple [a, b] k2 pt2) pos) (mPar i j n) := by
  refine ⟨fun env k k' h q => ha.mono env (fun ds e q => ?_) q, ps_imp (ps_par hc hN hi hj hij hx hy ha.pa hw hs) fun E σ H ⟨z, S0, H0, ps, env, r, q⟩ => ⟨z, S0, H0, ps, env, r, ha.mono env (fun ds e q => ?_) q⟩⟩
  · revert q
    split
    · exact fun q => h.nx _ q
    · exact fun q => q.elim
  · intro vs H1 r1 x1 i1
    revert q
    split
    · intro q
      cases i1 with
      | cons h1 t1 =>
        cases t1 with
        | cons h2 t2 =>
          cases t2
          have r2 := r1.put (i := i) h1
          have i2 := h2.evx (.of_same (hide_mono (S := Sx S0 ps) (S' := Sx S0 (ps.set i none)) (H := H1) fun p w => w.imp id mem_set_none))
          exact ⟨_, _, rfl, q _ _ _ (r2.put (i := j) i2) ⟨x1, fun _ w => .inl (mem_set_none (mem_set_none w))⟩⟩
    · exact fun q => q.elim
end
/-! ### targets -/
abbrev MG := D → DEnv → (DEnv → Prop) → Prop
def tDG (Φ : Phi) (K : PySem.W.Frag) (g : MG) : TG := fun v σ H Q => ∃ z S0 H0 ps env d, Rel Φ z S0 H0 K ps env σ H ∧ Is z K (hide (Sx S0 ps) H) v d ∧
  g d env fun env' => ∀ ps' σ' H', Rel Φ z S0 H0 K ps' env' σ' H' → Step z S0 ps H ps' H' → Q σ' H'
structure DG (X : Cx) (Φ : Phi) (tg : Expr) (g : MG) : Prop where
  mono : ∀ d env {k k' : DEnv → Prop}, (∀ e, k e → k' e) → g d env k → g d env k'
  pg : PG X tg (tDG Φ X.K g)
section
variable {X : Cx} {Φ : Phi} {tg : Expr} {pos : Pos}
theorem pg_imp {t t' : TG} (h : PG X tg t) (k : ∀ v σ H Q, t' v σ H Q → t v σ H Q) : PG X tg t' := ⟨fun pins s σ H v u Q I r q => h.run pins s σ H v u Q I r (k v σ H Q q)⟩
def gN (i : Nat) : MG := fun d env k => k (env.put i (.da d))
theorem dg_name {i : Nat} {x : Str} (hN : X.N.Nodup) (hi : X.N[i]? = some x) (hx : Loc X.env.scope x) (hf : X.fn x = true ∨ X.env.scope.names.lookup x = some .local := by first | exact .inl rfl | exact .inr rfl | assumption) : DG X Φ (.Name x pos) (gN i) :=
  ⟨fun d env k k' h q => h _ q, pg_imp (pg_name hN hi hx hf) fun v σ H Q ⟨z, S0, H0, ps, env, d, r, i1, q⟩ => q _ _ _ (r.put i1) (.put .refl)⟩
/-- a pair of names -/
def gN2 (i j : Nat) : MG := fun d env k => match d with
  | .tup [x, y] => k ((env.put i (.da x)).put j (.da y))
  | _ => False
theorem dg_pair {i j : Nat} {x y : Str} {px py : Pos} {kt : Nat} (hc : X.calm = true) (hN : X.N.Nodup) (hi : X.N[i]? = some x) (hx : Loc X.env.scope x) (hj : X.N[j]? = some y) (hy : Loc X.env.scope y)
    (hf : X.fn x = true ∨ X.env.scope.names.lookup x = some .local := by first | exact .inl rfl | exact .inr rfl | assumption) (hf2 : X.fn y = true ∨ X.env.scope.names.lookup y = some .local := by first | exact .inl rfl | exact .inr rfl | assumption)
    (hn : (assignEach [.Name x px, .Name y py] X.env).length = 2 := by rfl) (hst : (assignEach [.Name x px, .Name y py] X.env).findIdx? (·.1) = none := by rfl)
    (h1 : (assignEach [.Name x px, .Name y py] X.env).map (·.2) = assign (.Name x px) X.env :: (assignEach [.Name y py] X.env).map (·.2) := by rfl) (h2 : (assignEach [.Name y py] X.env).map (·.2) = assign (.Name y py) X.env :: (assignEach [] X.env).map (·.2) := by rfl) :
    DG X Φ (.Tuple [.Name x px, .Name y py] kt pos) (gN2 i j) := by
  refine ⟨fun d env k k' h q => ?_, pg_imp (pg_tup hc (pgs_cons (pg_name (i := i) hN hi hx hf) (pgs_cons (pg_name (i := j) hN hj hy hf2) pgs_nil h2) h1) hn hst) fun v σ H Q ⟨z, S0, H0, ps, env, d, r, i1, q⟩ => ?_⟩
  · revert q
    unfold gN2
    split
    · exact fun q => h _ q
    · exact fun q => q.elim
  · revert q
    unfold gN2
    split
    · intro q
      cases i1 with
      | tup e t =>
        cases t with
        | cons a1 t1 =>
          cases t1 with
          | cons a2 t2 =>
            cases t2
            have r2 := r.put (i := i) a1
            have i2 := a2.evx (.of_same (hide_mono (S := Sx S0 ps) (S' := Sx S0 (ps.set i none)) (H := H) fun p w => w.imp id mem_set_none))
            exact ⟨_, _, rfl, sqT_hide e, rfl, _, _, rfl, _, _, rfl, rfl, q _ _ _ (r2.put (i := j) i2) ⟨.refl, fun _ w => .inl (mem_set_none (mem_set_none w))⟩⟩
    · exact fun q => q.elim
end
/-! ### what is walked -/
structure Wlk (z : Z) (K : PySem.W.Frag) (S0 : Addr → Prop) (ps : List (Option Addr)) (J : It) (ds : List D) (H : Hp) : Prop where
  go : ∀ ps2 H2 (i : Nat) d, Step z S0 ps H ps2 H2 → (∀ p, Sx S0 ps2 p → H2 p ≠ none) → ds[i]? = some d → J.go i H2 ∧ ∀ x H3, J.yld i H2 x H3 → Grow H2 H3 ∧ Is z K (hide (Sx S0 ps2) H3) x d
  stop : ∀ ps2 H2 (i : Nat), Step z S0 ps H ps2 H2 → ds.length ≤ i → J.stop i H2
abbrev MI := DEnv → (List D → DEnv → Prop) → Prop
def tDI (Φ : Phi) (K : PySem.W.Frag) (m : MI) : TI := fun σ H R => ∃ z S0 H0 ps env, Rel Φ z S0 H0 K ps env σ H ∧
  m env fun ds env' => ∀ J H', Rel Φ z S0 H0 K ps env' σ H' → Ext (Mu z ps) S0 H H' → Wlk z K S0 ps J ds H' → R J H'
structure DI (X : Cx) (Φ : Phi) (tg e : Expr) (m : MI) : Prop where
  mono : ∀ env {k k' : List D → DEnv → Prop}, (∀ d e, k d e → k' d e) → m env k → m env k'
  pi : PI X tg e (tDI Φ X.K m)
section
variable {X : Cx} {Φ : Phi} {tg : Expr}
theorem pi_imp {e : Expr} {t t' : TI} (h : PI X tg e t) (k : ∀ σ H R, t' σ H R → t σ H R) : PI X tg e t' := ⟨fun pins s σ H R I q => h.run pins s σ H R I (k σ H R q)⟩
def signs (z : Str) : List D := z.cps.toList.map fun c => D.str ⟨#[c]⟩
def mIter (m : ME) : MI := fun env k => m env fun d e => match d with
  | .lst ds => k ds e
  | .tup ds => k ds e
  | .str z => k (signs z) e
  | _ => False
section
variable {Φ : Phi} {z : Z} {S0 : Addr → Prop} {K : PySem.W.Frag} {ps : List (Option Addr)} {H : Hp}
theorem wlk_list {a : Addr} {xs : List V} {ds : List D} (hz : ∀ p, Zs z p → S0 p) (h : hide (Sx S0 ps) H a = some (.lst xs)) (i : IsA z K (hide (Sx S0 ps) H) xs ds) : Wlk z K S0 ps (Itl K a) ds H := by
  have key : ∀ ps2 H2, Step z S0 ps H ps2 H2 → SqL K H2 a xs ∧ IsA z K (hide (Sx S0 ps2) H2) xs ds := fun ps2 H2 st => by
    have ev := st.seen (S0 := S0) hz
    obtain ⟨o', e', v⟩ := ev _ _ h
    rw [v.lst] at e'
    exact ⟨SqL.of (hide_same _ _ e'), i.evx ev⟩
  refine ⟨fun ps2 H2 j d st _ e => ?_, fun ps2 H2 j st e => ?_⟩
  · obtain ⟨k1, k2⟩ := key ps2 H2 st
    obtain ⟨v, ev, iv⟩ := k2.getD e
    exact ⟨⟨xs, v, k1, ev⟩, fun x H3 ⟨e1, e2⟩ => by subst e1; cases (ev.symm.trans (e2 xs k1)); exact ⟨Grow.refl _, iv⟩⟩
  · obtain ⟨k1, k2⟩ := key ps2 H2 st
    exact ⟨xs, k1, by rw [k2.length]; exact e⟩
theorem wlk_tup {a : Addr} {xs : List V} {ds : List D} (hz : ∀ p, Zs z p → S0 p) (h : TupAt K (hide (Sx S0 ps) H) a xs) (i : IsA z K (hide (Sx S0 ps) H) xs ds) : Wlk z K S0 ps (Itt K a) ds H := by
  have key : ∀ ps2 H2, Step z S0 ps H ps2 H2 → SqT K H2 a xs ∧ IsA z K (hide (Sx S0 ps2) H2) xs ds := fun ps2 H2 st => by
    have ev := st.seen (S0 := S0) hz
    exact ⟨sqT_hide (sqT_evx ev h), i.evx ev⟩
  refine ⟨fun ps2 H2 j d st _ e => ?_, fun ps2 H2 j st e => ?_⟩
  · obtain ⟨k1, k2⟩ := key ps2 H2 st
    obtain ⟨v, ev, iv⟩ := k2.getD e
    exact ⟨⟨xs, v, k1, ev⟩, fun x H3 ⟨e1, e2⟩ => by subst e1; cases (ev.symm.trans (e2 xs k1)); exact ⟨Grow.refl _, iv⟩⟩
  · obtain ⟨k1, k2⟩ := key ps2 H2 st
    exact ⟨xs, k1, by rw [k2.length]; exact e⟩
theorem wlk_str {x : Str} : Wlk z K S0 ps (Its x) (signs x) H := by
  refine ⟨fun ps2 H2 j d st _ e => ?_, fun ps2 H2 j st e => ?_⟩
  · unfold signs at e
    rw [List.getElem?_map, Option.map_eq_some_iff] at e
    obtain ⟨c, e1, e2⟩ := e
    subst e2
    have e3 : x.cps[j]? = some c := by rw [← Array.getElem?_toList]; exact e1
    have lt : j < x.cps.size := by
      have := (List.getElem?_eq_some_iff.mp e1).1
      simpa using this
    exact ⟨lt, fun v H3 ⟨q1, c', q2, q3⟩ => by subst q1 q3; rw [e3] at q2; cases q2; exact ⟨Grow.refl _, .str _⟩⟩
  · unfold signs at e
    rw [List.length_map] at e
    show x.cps.size ≤ j
    simpa using e
theorem wlk_range {n : Nat} : Wlk z K S0 ps (Itr 0 n) ((List.range n).map fun (i : Nat) => D.int i) H := by
  refine ⟨fun ps2 H2 j d st _ e => ?_, fun ps2 H2 j st e => ?_⟩
  · rw [List.getElem?_map, Option.map_eq_some_iff] at e
    obtain ⟨c, e1, e2⟩ := e
    subst e2
    obtain ⟨lt, e3⟩ := List.getElem?_eq_some_iff.mp e1
    simp at lt e3
    subst e3
    refine ⟨lt, fun v H3 ⟨q1, q2⟩ => ?_⟩
    subst q1 q2
    refine ⟨Grow.refl _, ?_⟩
    rw [Int.zero_add]
    exact .int _
  · show n ≤ j
    simpa using e
end
section
variable {pins : List (Addr × Obj)} {σ : St} {H : Hp} {s : Shared} {R : It → Hp → Prop}
theorem it_list {a : Addr} {xs : List V} (I : Inv X pins σ H s) (h : SqL X.K H a xs) (q : R (Itl X.K a) H) : wpAny (model X.prog X.w) X.A (pyIter (.ref a)) (PIE X pins σ tg R) X.xe s := by
  obtain ⟨its, _, pl, _⟩ := I.list h
  refine wpAny_pyIter_list pl.isList ?_
  refine ⟨_, [s.heap.objs.size], _, _, H, rfl, I.kept (t' := s.toks) (fun b o => Heap.get?_push_of_some _), turn_list a s.heap.objs.size, ⟨_, Heap.get?_push_size _ rfl, rfl, rfl⟩, ?_, q⟩
  intro b hb
  rw [List.mem_singleton] at hb
  rw [hb]
  exact I.fpOk (Nat.le_refl _) (I.hok.fresh (Nat.le_refl _))
theorem it_tup {a : Addr} {xs : List V} (I : Inv X pins σ H s) (h : SqT X.K H a xs) (q : R (Itt X.K a) H) : wpAny (model X.prog X.w) X.A (pyIter (.ref a)) (PIE X pins σ tg R) X.xe s := by
  obtain ⟨its, _, pl, _⟩ := I.tuple h
  refine wpAny_pyIter_tuple (show s.heap.IsTuple a its.toArray from pl) ?_
  refine ⟨_, [s.heap.objs.size], _, _, H, rfl, I.kept (t' := s.toks) (fun b o => Heap.get?_push_of_some _), turn_tuple a s.heap.objs.size, ⟨_, Heap.get?_push_size _ rfl, rfl, rfl⟩, ?_, q⟩
  intro b hb
  rw [List.mem_singleton] at hb
  rw [hb]
  exact I.fpOk (Nat.le_refl _) (I.hok.fresh (Nat.le_refl _))
end
theorem it_str {x : Str} {t : Tok} {pins : List (Addr × Obj)} {σ : St} {H : Hp} {s : Shared} {R : It → Hp → Prop} (I : Inv X pins σ H s) (q : R (Its x) H) : wpAny (model X.prog X.w) X.A (pyIter (.str x t)) (PIE X pins σ tg R) X.xe s := by
  cases ha : x.cps.all (· < 128) with
  | false => exact wpAny_pyIter_wide ha (pi_one (tk := s.toks) I _ (turn_str _ x t _ (.inr rfl)) ⟨_, Heap.get?_push_size _ rfl, rfl, rfl⟩ q)
  | true => exact wpAny_pyIter_ascii ha (pi_one (tk := s.toks) I _ (turn_str _ x t _ (.inl rfl)) ⟨_, Heap.get?_push_size _ rfl, rfl, rfl⟩ q)
/-- a list, a tuple or a text -/
theorem di_iter {l : Expr} {m : ME} (h : DE X Φ l m) : DI X Φ tg l (mIter m) := by
  refine ⟨fun env k k' hk q => h.mono env (fun d e q => ?_) q, ⟨fun pins s σ H R I ⟨z, S0, H0, ps, env, r, q⟩ => ?_⟩⟩
  · revert q
    split
    · exact fun q => hk _ _ q
    · exact fun q => hk _ _ q
    · exact fun q => hk _ _ q
    · exact fun q => q.elim
  · have q2 : tD Φ X.K m σ H fun x H1 => (∃ a xs, x = .ref a ∧ SqL X.K H1 a xs ∧ R (Itl X.K a) H1) ∨ (∃ a xs, x = .ref a ∧ SqT X.K H1 a xs ∧ R (Itt X.K a) H1) ∨ ∃ t, x = .str t ∧ R (Its t) H1 := by
      refine ⟨z, S0, H0, ps, env, r, h.mono env (fun d e q => ?_) q⟩
      intro v H1 r1 x1 i1
      revert q
      split
      · intro q
        cases i1 with
        | lst e1 t1 => exact .inl ⟨_, _, rfl, SqL.of (hide_same _ _ e1), q _ H1 r1 x1 (wlk_list r1.zs e1 t1)⟩
      · intro q
        cases i1 with
        | tup e1 t1 => exact .inr (.inl ⟨_, _, rfl, sqT_hide e1, q _ H1 r1 x1 (wlk_tup r1.zs e1 t1)⟩)
      · intro q
        cases i1
        exact .inr (.inr ⟨_, rfl, q _ H1 r1 x1 wlk_str⟩)
      · exact fun q => q.elim
    refine thn (h.pe.run pins s σ H _ I q2) fun v s1 ⟨y, H1, I1, r1, q3⟩ => ?_
    rcases q3 with ⟨a, xs, rfl, h1, h2⟩ | ⟨a, xs, rfl, h1, h2⟩ | ⟨t, rfl, h2⟩
    · cases r1; exact it_list I1 h1 h2
    · cases r1; exact it_tup I1 h1 h2
    · obtain ⟨tk, rfl⟩ := r1; exact it_str I1 h2
/-- range(n) -/
def rangeD (j : Int) : List D := (List.range j.toNat).map fun (i : Nat) => D.int i
def mRange (n : MA) : MI := fun env k => n env fun ds e => match ds with
  | [.int j] => (-(2 ^ 62) ≤ j ∧ j < 2 ^ 62) ∧ k (rangeD j) e
  | _ => False
theorem di_range {a : Expr} {n : MA} {p pos : Pos} (hg : Gl X "range") (hm : X.mg "range" = none) (ha : DA X Φ [a] n) (hs : starEach [a] X.env = [(false, eval a X.env)] := by rfl) : DI X Φ tg (.Call (.Name "range" p) [a] [] pos) (mRange n) := by
  refine ⟨fun env k k' hk q => ha.mono env (fun ds e q => ?_) q, pi_imp (pi_range1 hg hm ha.pa hs) fun σ H R ⟨z, S0, H0, ps, env, r, q⟩ => ⟨z, S0, H0, ps, env, r, ha.mono env (fun ds e q => ?_) q⟩⟩
  · revert q
    split
    · exact fun q => ⟨q.1, hk _ _ q.2⟩
    · exact fun q => q.elim
  · intro vs H1 r1 x1 i1
    revert q
    split
    · intro q
      cases i1 with
      | cons h1 t1 => cases t1; cases h1; exact ⟨_, rfl, q.1.1, q.1.2, q.2 _ H1 r1 x1 wlk_range⟩
    · exact fun q => q.elim
/-! ### for -/
def forW (g : MG) (b : MS) : List D → MS
  | [] => fun env k => k.nx env
  | d :: ds => fun env k => g d env fun e1 => b e1 { k with nx := fun e => forW g b ds e k, ct := fun e => forW g b ds e k, bk := k.nx }
def mFor (mi : MI) (g : MG) (b : MS) : MS := fun env k => mi env fun ds e => forW g b ds e k
theorem forW_mono {g : MG} {b : MS} (hg : ∀ d env {k k' : DEnv → Prop}, (∀ e, k e → k' e) → g d env k → g d env k') (hb : ∀ env {k k' : KS}, k.Le k' → b env k → b env k') :
    ∀ (ds : List D) env {k k' : KS}, k.Le k' → forW g b ds env k → forW g b ds env k'
  | [], env, k, k', h, q => h.nx _ q
  | d :: ds, env, k, k', h, q => by
    unfold forW at q ⊢
    refine hg d env (fun e1 q => ?_) q
    refine hb e1 ?_ q
    exact ⟨fun e q => forW_mono hg hb ds e h q, h.rt, fun e q => h.nx e q, fun e q => forW_mono hg hb ds e h q⟩
theorem ds_for {iter : Expr} {body : List Stmt} {mi : MI} {g : MG} {b : MS} {pos : Pos} (hp : PassesOwn (model X.prog X.w) X.A X.env X.xe) (hc : X.calm = true) (hi : DI X Φ tg iter mi) (hg : DG X Φ tg g) (hb : DSs X Φ body b)
    (hs : ∀ x, foldedSetIterable iter X.env x = pure x := by intro _; rfl) : DS X Φ (.For tg iter body [] pos) (mFor mi g b) := by
  refine ⟨fun env k k' h q => hi.mono env (fun ds e q => forW_mono hg.mono hb.mono ds e h q) q, ps_imp (ps_for hp hc hi.pi hg.pg hb.ps hs) fun E σ H ⟨z, S0, H0, ps, env, r, q⟩ => ⟨z, S0, H0, ps, env, r, hi.mono env (fun ds e1 q => ?_) q⟩⟩
  intro J H1 r1 x1 wl
  have s1 : Step z S0 ps H ps H1 := .of_ext x1
  refine ⟨fun i m σ2 H2 => ∃ ps2 env2, Rel Φ z S0 H0 X.K ps2 env2 σ2 H2 ∧ Step z S0 ps H1 ps2 H2 ∧ m = ds.length - i ∧ i ≤ ds.length ∧ forW g b (ds.drop i) env2 (kOf Φ z S0 H0 X.K ps H E), ⟨ds.length, ps, e1, r1, .refl, rfl, Nat.zero_le _, q⟩, ?_⟩
  rintro i m σ2 H2 ⟨ps2, env2, r2, s2, rfl, hi2, q2⟩
  by_cases hlt : i < ds.length
  · obtain ⟨g1, g2⟩ := wl.go ps2 H2 i ds[i] s2 r2.dom (List.getElem?_eq_getElem hlt)
    refine .inr ⟨g1, fun σ3 H3 => ∃ ps3 env3, Rel Φ z S0 H0 X.K ps3 env3 σ3 H3 ∧ Step z S0 ps H1 ps3 H3 ∧ forW g b (ds.drop (i + 1)) env3 (kOf Φ z S0 H0 X.K ps H E), fun σ3 H3 ⟨ps3, env3, r3, s3, q3⟩ => ⟨ds.length - (i + 1), by omega, ps3, env3, r3, s3, rfl, hlt, q3⟩, fun x H3 y => ?_⟩
    obtain ⟨y1, y2⟩ := g2 x H3 y
    rw [List.drop_eq_getElem_cons hlt] at q2
    unfold forW at q2
    refine ⟨z, S0, H0, ps2, env2, ds[i], r2.same y1, y2, hg.mono _ _ (fun e4 q4 => ?_) q2⟩
    intro ps4 σ4 H4 r4 s4
    have s5 : Step z S0 ps H1 ps4 H4 := s2.trans (Step.trans (.of_ext (.of_same y1.same)) s4 fun _ hp => r4.noZ hp) fun _ hp => r4.noZ hp
    refine ⟨z, S0, H0, ps4, e4, r4, hb.mono e4 ?_ q4⟩
    exact ⟨fun e q ps6 σ6 H6 r6 s6 => ⟨ps6, e, r6, s5.trans s6 fun _ hp => r6.noZ hp, q⟩, fun _ _ q => q,
      fun e q ps6 σ6 H6 r6 s6 => q ps6 σ6 H6 r6 (s1.trans (s5.trans s6 fun _ hp => r6.noZ hp) fun _ hp => r6.noZ hp), fun e q ps6 σ6 H6 r6 s6 => ⟨ps6, e, r6, s5.trans s6 fun _ hp => r6.noZ hp, q⟩⟩
  · have e : i = ds.length := by omega
    subst e
    rw [List.drop_length] at q2
    exact .inl ⟨wl.stop ps2 H2 _ s2 (Nat.le_refl _), q2 ps2 σ2 H2 r2 (s1.trans s2 fun _ hp => r2.noZ hp)⟩
/-! ### while -/
def whileN (t : MT) (b : MS) : Nat → MS
  | 0 => fun _ _ => False
  | n + 1 => fun env k => t env fun c e => if c = true then b e { k with nx := fun e => whileN t b n e k, ct := fun e => whileN t b n e k, bk := k.nx } else k.nx e
def mWhile (t : MT) (b : MS) : MS := fun env k => ∃ n, whileN t b n env k
theorem whileN_mono {t : MT} {b : MS} (ht : ∀ env {k k' : Bool → DEnv → Prop}, (∀ d e, k d e → k' d e) → t env k → t env k') (hb : ∀ env {k k' : KS}, k.Le k' → b env k → b env k') :
    ∀ (n : Nat) env {k k' : KS}, k.Le k' → whileN t b n env k → whileN t b n env k'
  | 0, env, k, k', h, q => q
  | n + 1, env, k, k', h, q => by
    unfold whileN at q ⊢
    refine ht env (fun c e q => ?_) q
    cases c with
    | true =>
      refine hb e ?_ q
      exact ⟨fun e q => whileN_mono ht hb n e h q, h.rt, fun e q => h.nx e q, fun e q => whileN_mono ht hb n e h q⟩
    | false => exact h.nx _ q
theorem ds_while {c : Expr} {body : List Stmt} {t : MT} {b : MS} {pos : Pos} (hp : PassesOwn (model X.prog X.w) X.A X.env X.xe) (hc : DT X Φ c t) (hb : DSs X Φ body b) : DS X Φ (.While c body [] pos) (mWhile t b) := by
  refine ⟨fun env k k' h ⟨n, q⟩ => ⟨n, whileN_mono hc.mono hb.mono n env h q⟩, ps_imp (ps_while hp hc.pt hb.ps) fun E σ H ⟨z, S0, H0, ps, env, r, n, q⟩ => ?_⟩
  refine ⟨fun m σ2 H2 => ∃ ps2 env2, Rel Φ z S0 H0 X.K ps2 env2 σ2 H2 ∧ Step z S0 ps H ps2 H2 ∧ whileN t b m env2 (kOf Φ z S0 H0 X.K ps H E), ⟨n, ps, env, r, .refl, q⟩, ?_⟩
  rintro m σ2 H2 ⟨ps2, env2, r2, s2, q2⟩
  cases m with
  | zero => exact q2.elim
  | succ m =>
    unfold whileN at q2
    refine ⟨z, S0, H0, ps2, env2, r2, hc.mono env2 (fun c e q3 => ?_) q2⟩
    intro H3 r3 x3
    have s3 : Step z S0 ps H ps2 H3 := s2.trans (.of_ext x3) fun _ hp => r3.noZ hp
    cases c with
    | true =>
      refine ⟨fun σ4 H4 => ∃ ps4 env4, Rel Φ z S0 H0 X.K ps4 env4 σ4 H4 ∧ Step z S0 ps H ps4 H4 ∧ whileN t b m env4 (kOf Φ z S0 H0 X.K ps H E), fun σ4 H4 ⟨ps4, env4, w⟩ => ⟨m, Nat.lt_succ_self m, ps4, env4, w⟩, z, S0, H0, ps2, e, r3, hb.mono e ?_ q3⟩
      exact ⟨fun e q ps6 σ6 H6 r6 s6 => ⟨ps6, e, r6, s3.trans s6 fun _ hp => r6.noZ hp, q⟩, fun _ _ q => q,
        fun e q ps6 σ6 H6 r6 s6 => q ps6 σ6 H6 r6 (s3.trans s6 fun _ hp => r6.noZ hp), fun e q ps6 σ6 H6 r6 s6 => ⟨ps6, e, r6, s3.trans s6 fun _ hp => r6.noZ hp, q⟩⟩
    | false => exact q3 ps2 σ2 H3 r3 s3
end
end DL
namespace DL
open PySem L2
/-! ### a list comprehension with one name -/
def noOw : Sl → Sl
  | .ow _ => .un
  | s => s
def compE (i : Nat) (env : DEnv) : DEnv := { sl := (env.sl.map noOw).set i .un, cr := env.cr, mr := env.mr }
def compW (i : Nat) (t : MT) (me : ME) : List D → DEnv → List D → (List D → DEnv → Prop) → Prop
  | [], env, acc, k => k acc env
  | d :: ds, env, acc, k => t (env.put i (.da d)) fun b e2 => if b = true then me e2 fun y e3 => acc.length < sizeLine ∧ compW i t me ds { env with cr := e3.cr, mr := e3.mr } (acc ++ [y]) k else compW i t me ds { env with cr := e2.cr, mr := e2.mr } acc k
def mLc (i : Nat) (mi : MI) (t : MT) (me : ME) : ME := fun env k => mi env fun ds e => compW i t me ds (compE i e) [] fun acc e2 => k (.lst acc) { e with cr := e2.cr, mr := e2.mr }
theorem compW_mono {i : Nat} {t : MT} {me : ME} (ht : ∀ env {k k' : Bool → DEnv → Prop}, (∀ d e, k d e → k' d e) → t env k → t env k') (hm : ∀ env {k k' : D → DEnv → Prop}, (∀ d e, k d e → k' d e) → me env k → me env k') :
    ∀ (ds : List D) env acc {k k' : List D → DEnv → Prop}, (∀ a e, k a e → k' a e) → compW i t me ds env acc k → compW i t me ds env acc k'
  | [], env, acc, k, k', h, q => h _ _ q
  | d :: ds, env, acc, k, k', h, q => by
    unfold compW at q ⊢
    refine ht _ (fun b e2 q => ?_) q
    cases b with
    | true => exact hm e2 (fun y e3 q => ⟨q.1, compW_mono ht hm ds _ _ h q.2⟩) q
    | false => exact compW_mono ht hm ds _ _ h q
structure DTs (X : Cx) (Φ : Phi) (ifs : List Expr) (m : MT) : Prop where
  mono : ∀ env {k k' : Bool → DEnv → Prop}, (∀ d e, k d e → k' d e) → m env k → m env k'
  pts : PTs X ifs (tDT Φ X.K m)
def mYes : MT := fun env k => k true env
section
variable {X : Cx} {Φ : Phi}
theorem pts_imp {e : List Expr} {t t' : TT} (h : PTs X e t) (k : ∀ σ H Q, t' σ H Q → t σ H Q) : PTs X e t' := ⟨fun pins s σ H Q I q => h.run pins s σ H Q I (k σ H Q q)⟩
theorem dts_nil : DTs X Φ [] mYes := ⟨fun env k k' h q => h _ _ q, pts_imp pts_nil fun σ H Q ⟨z, S0, H0, ps, env, r, q⟩ => q H r .refl⟩
theorem dts_one {c : Expr} {m : MT} (h : DT X Φ c m) : DTs X Φ [c] m := ⟨h.mono, pts_one h.pt⟩
section
variable {Φ : Phi} {z : Z} {D' : Addr} {S0 : Addr → Prop} {H0 H : Hp} {K : PySem.W.Frag} {ps : List (Option Addr)} {env : DEnv} {σ : St}
theorem none_rep {n : Nat} {p : Addr} : ¬ some p ∈ List.replicate n (none : Option Addr) := fun h => by
  have := List.eq_of_mem_replicate h
  cases this
theorem Sta.upd {n : Nat} {mk : Option Int} (h : Sta z n mk H) {p : Addr} {o : HO} (hp : ¬ Zt z p) (hs : ∀ u, H p = some u → ¬ Stab u) (ho : ∀ C dx fs, o ≠ .ins C dx fs := by (intro _ _ _ w; cases w)) : Sta z n mk (L2.upd H p o) := by
  refine ⟨fun q e => (h.dr q e).same fun b hb => upd_ne fun w => hp (w ▸ .inl ⟨q, e, hb⟩), fun a vf vn e => ?_, z.stay H _ (fun b u su e => ?_) (fun b C dx fs e => ?_) h.inv⟩
  · obtain ⟨m, m0, h1, h2⟩ := h.fr a vf vn e
    have ne : a ≠ p := fun w => hp (by rw [← w]; exact .inr ⟨vf, vn, e⟩)
    exact ⟨m, m0, by rw [upd_ne ne]; exact h1, h2⟩
  · rw [upd_ne]
    · exact e
    · intro w; subst w; exact hs _ e su
  · by_cases hb : b = p
    · subst hb; rw [upd_same] at e; exact absurd (Option.some.inj e) (ho _ _ _)
    · rw [upd_ne hb] at e; exact e
theorem nostab_lst {xs : List V} : ¬ Stab (.lst xs) := fun w => w.1 _ rfl
theorem nostab_dK {xs : List (Key × V)} : ¬ Stab (.dK xs) := fun w => w.2 _ rfl
theorem nostab_none {p : Addr} (h : H p = none) : ∀ u, H p = some u → ¬ Stab u := fun u e => by rw [h] at e; cases e
theorem nostab_at {p : Addr} {o : HO} (h : H p = some o) (k : ¬ Stab o) : ∀ u, H p = some u → ¬ Stab u := fun u e => by rw [h] at e; cases e; exact k
/-- the frame of a block: nothing is owned, the new list at D is hidden -/
theorem Rel.block (r : Rel Φ z S0 H0 K ps env σ H) {Φ' : Phi} (hΦ : Φ' z (Sx S0 (ps ++ [some D'])) (L2.upd H D' (.lst []))) {i : Nat} (hD : H D' = none) :
    Rel Φ' z (Sx S0 (ps ++ [some D'])) (L2.upd H D' (.lst [])) K (List.replicate env.sl.length none) (compE i env) (wipe σ [i]) (L2.upd H D' (.lst [])) := by
  have dm : ∀ p, Sx S0 (ps ++ [some D']) p → L2.upd H D' (.lst []) p ≠ none := fun p hp => by
    by_cases e : p = D'
    · subst e; rw [upd_same]; simp
    · rw [upd_ne e]
      refine r.dom p (hp.imp id fun w => ?_)
      rcases List.mem_append.mp w with w | w
      · exact w
      · simp at w; exact absurd w e
  refine ⟨by simp [compE], by simp [compE, wipe, r.lens], fun i j p h1 _ => absurd (List.mem_of_getElem? h1) none_rep, fun p h => absurd h none_rep, dm, fun p h => .inl (r.zs p h), fun p h => .inl (r.zf p h), fun p h => dm p (h.elim id fun w => absurd w none_rep), .refl, (show Sta z env.cr env.mr _ from r.sta.upd (r.sta.noneNe hD) (nostab_none hD)), fun j => ?_, hΦ⟩
  have hj := r.sl j
  have ev : Evx (hide (Sx S0 ps) H) (hide (Sx (Sx S0 (ps ++ [some D'])) (List.replicate env.sl.length none)) (L2.upd H D' (.lst []))) := .of_same fun p o e => by
    obtain ⟨n, e⟩ := hide_get.mp e
    have ne : p ≠ D' := ne_of_none e hD
    refine hide_get.mpr ⟨fun q => ?_, by rw [upd_ne ne]; exact e⟩
    rcases q with q | q
    · refine n (q.imp id fun w => ?_)
      rcases List.mem_append.mp w with w | w
      · exact w
      · simp at w; exact absurd w ne
    · exact none_rep q
  by_cases hij : i = j
  · subst hij
    have e1 : (compE i env).at i = .un := by
      unfold compE DEnv.at
      by_cases hl : i < env.sl.length <;> simp [hl]
    rw [e1]; trivial
  · have e1 : (compE i env).at j = noOw (env.at j) := by
      unfold compE DEnv.at
      rw [List.getD_eq_getElem?_getD, List.getElem?_set_ne hij, List.getElem?_map, List.getD_eq_getElem?_getD]
      cases env.sl[j]? <;> rfl
    have e3 : (wipe σ [i]).getD j none = σ.getD j none := by
      unfold wipe wipe
      rw [List.getD_eq_getElem?_getD, List.getElem?_set_ne hij, List.getD_eq_getElem?_getD]
    rw [e1, e3]
    cases q : env.at j with
    | un => trivial
    | ow ds => trivial
    | da d =>
      rw [q] at hj
      obtain ⟨_, x, h2, h3⟩ := hj
      refine ⟨?_, x, h2, h3.evx ev⟩
      rw [List.getD_eq_getElem?_getD, List.getElem?_replicate]
      split <;> rfl
/-- a hidden object is written -/
theorem Rel.hid {n : Nat} (r : Rel Φ z S0 H0 K (List.replicate n none) env σ H) {p : Addr} {o : HO} (hp : S0 p) (hz : ¬ Zt z p) (hs : ∀ u, H p = some u → ¬ Stab u) (hΦ : Φ z S0 (L2.upd H p o)) (ho : ∀ C dx fs, o ≠ .ins C dx fs := by (intro _ _ _ w; cases w)) : Rel Φ z S0 (L2.upd H p o) K (List.replicate n none) env σ (L2.upd H p o) := by
  have dm : ∀ b, S0 b → L2.upd H p o b ≠ none := fun b hb => by
    by_cases e : b = p
    · subst e; rw [upd_same]; simp
    · rw [upd_ne e]; exact r.dom b (.inl hb)
  refine ⟨r.lenp, r.lens, r.inj, fun p h => absurd h none_rep, dm, r.zs, r.zf, fun b h => dm b (h.elim id fun w => absurd w none_rep), .refl, r.sta.upd hz hs ho, fun j => ?_, hΦ⟩
  have hj := r.sl j
  have ev : Evx (hide (Sx S0 (List.replicate n none)) H) (hide (Sx S0 (List.replicate n none)) (L2.upd H p o)) := .of_same fun b u e => by
    obtain ⟨k, e⟩ := hide_get.mp e
    have ne : b ≠ p := fun w => k (.inl (by rw [w]; exact hp))
    exact hide_get.mpr ⟨k, by rw [upd_ne ne]; exact e⟩
  cases q : env.at j with
  | un => trivial
  | da d =>
    rw [q] at hj
    obtain ⟨h1, x, h2, h3⟩ := hj
    exact ⟨h1, x, h2, h3.evx ev⟩
  | ow ds =>
    rw [q] at hj
    obtain ⟨b, xs, h1, h2, h3, h4⟩ := hj
    exact absurd (mem_ps h1).1 none_rep
theorem Rel.rebase {n : Nat} (r : Rel Φ z S0 H0 K (List.replicate n none) env σ H) (hΦ : Φ z S0 H) : Rel Φ z S0 H K (List.replicate n none) env σ H :=
  ⟨r.lenp, r.lens, r.inj, fun p h => absurd h none_rep, fun p h => r.dom p (.inl h), r.zs, r.zf, r.dom, .refl, r.sta, r.sl, hΦ⟩
end
theorem set_rep {n i : Nat} : (List.replicate n (none : Option Addr)).set i none = List.replicate n none := by
  apply List.ext_getElem?
  intro j
  by_cases h : i = j
  · subst h
    rw [List.getElem?_set_self']
    rw [List.getElem?_replicate]
    split <;> rfl
  · rw [List.getElem?_set_ne h]
theorem lc_of {p : Z → Prop} (hw : ∀ z S0 H0, Φ z S0 H0 → p z) {i : Nat} {K : PySem.W.Frag} {mi : MI} {t : MT} {me : ME} (hmi : ∀ env {k k' : List D → DEnv → Prop}, (∀ d e, k d e → k' d e) → mi env k → mi env k')
    (ht : ∀ env {k k' : Bool → DEnv → Prop}, (∀ d e, k d e → k' d e) → t env k → t env k') (hm : ∀ env {k k' : D → DEnv → Prop}, (∀ d e, k d e → k' d e) → me env k → me env k') {σ : St} {H : Hp} {Q : VK}
    (q : tD Φ K (mLc i mi t me) σ H Q) : tLc (tDI Φ K mi) (gName i) (tDT (PhiZ p) K t) (tD (PhiZ p) K me) [i] σ H Q := by
  obtain ⟨z, S0, H0, ps, env, r, q⟩ := q
  refine ⟨z, S0, H0, ps, env, r, hmi env (fun ds e1 q => ?_) q⟩
  intro J H1 r1 x1 wl D' hD
  have hz := r1.sta.noneNe hD
  have nD : ¬ Sx S0 ps D' := fun w => r1.dom D' w hD
  let S1 := Sx S0 (ps ++ [some D'])
  let n := e1.sl.length
  have sub1 : ∀ p, Sx S0 ps p → S1 p := fun p w => w.imp id fun w => List.mem_append_left _ w
  refine ⟨fun j m H2 => ∃ env2 acc ys, Rel (PhiZ p) z S1 H2 K (List.replicate n none) env2 (wipe σ [i]) H2 ∧ Ext (Zs z) (Sx S0 ps) H1 H2 ∧ H2 D' = some (.lst ys) ∧ IsA z K (hide S1 H2) ys acc ∧ m = ds.length - j ∧ j ≤ ds.length ∧
      compW i t me (ds.drop j) env2 acc (fun acc e2 => ∀ v H', Rel Φ z S0 H0 K ps { e1 with cr := e2.cr, mr := e2.mr } σ H' → Ext (Mu z ps) S0 H H' → Is z K (hide (Sx S0 ps) H') v (.lst acc) → Q v H'),
    ⟨ds.length, _, [], [], r1.block (hw _ _ _ r1.phi) hD, .of_same (same_upd hD), upd_same, .nil, rfl, Nat.zero_le _, q⟩, ?_⟩
  rintro j m H2 ⟨env2, acc, ys, r2, x2, hD2, i2, rfl, hj, q2⟩
  have st2 : Step z S0 ps H1 (ps ++ [some D']) H2 := ⟨x2.loc, fun p w => by
    rcases List.mem_append.mp w with w | w
    · exact .inl w
    · simp at w; exact .inr (by rw [w]; exact hD)⟩
  by_cases hlt : j < ds.length
  · obtain ⟨g1, g2⟩ := wl.go _ H2 j ds[j] st2 (fun p w => r2.dom p (.inl w)) (List.getElem?_eq_getElem hlt)
    rw [List.drop_eq_getElem_cons hlt] at q2
    unfold compW at q2
    refine .inr ⟨g1, fun H3 => ∃ env3 acc3 ys3, Rel (PhiZ p) z S1 H3 K (List.replicate n none) env3 (wipe σ [i]) H3 ∧ Ext (Zs z) (Sx S0 ps) H1 H3 ∧ H3 D' = some (.lst ys3) ∧ IsA z K (hide S1 H3) ys3 acc3 ∧
      compW i t me (ds.drop (j + 1)) env3 acc3 (fun acc e2 => ∀ v H', Rel Φ z S0 H0 K ps { e1 with cr := e2.cr, mr := e2.mr } σ H' → Ext (Mu z ps) S0 H H' → Is z K (hide (Sx S0 ps) H') v (.lst acc) → Q v H'),
      fun H3 ⟨env3, acc3, ys3, w1, w2, w3, w4, w5⟩ => ⟨ds.length - (j + 1), by omega, env3, acc3, ys3, w1, w2, w3, w4, rfl, hlt, w5⟩, fun x H3 y => ?_⟩
    obtain ⟨y1, y2⟩ := g2 x H3 y
    have r3 := (r2.same y1).rebase r2.phi
    have y3 : Is z K (hide (Sx S1 (List.replicate n none)) H3) x ds[j] := y2.evx (.of_same (hide_mono fun p w => w.elim id fun w => absurd w none_rep))
    have r4 := r3.put (i := i) y3
    rw [set_rep] at r4
    show wipe ((wipe σ [i]).set i (some x)) [i] = wipe σ [i] ∧ _
    refine ⟨by show List.set (List.set (List.set σ i none) i (some x)) i none = List.set σ i none; rw [List.set_set, List.set_set], z, S1, H3, List.replicate n none, _, r4, ht _ (fun b e5 q5 => ?_) q2⟩
    intro H5 r5 x5
    have z5 : Ext (Zs z) S1 H3 H5 := x5.mono (fun p w => w.elim id fun w => absurd w none_rep) fun _ w => w
    have fin : ∀ {cr : Nat} {mk : Option Int} {H6 : Hp}, Ext (Zs z) S1 H3 H6 → Sta z cr mk H6 → Rel (PhiZ p) z S1 H6 K (List.replicate n none) { env2 with cr := cr, mr := mk } (wipe σ [i]) H6 ∧ Ext (Zs z) (Sx S0 ps) H1 H6 ∧ H6 D' = some (.lst ys) ∧ IsA z K (hide S1 H6) ys acc := by
      intro cr mk H6 e6 s6
      have hnz : ¬ Zs z D' := fun w => nD (.inl (r1.zs _ w))
      obtain ⟨o, h6, v6, _⟩ := e6 D' _ hnz (y1.same _ _ hD2)
      rw [v6.lst] at h6
      refine ⟨(r3.call (e6.mono (fun _ w => w) fun p w => w.elim id fun w => absurd w none_rep) s6).rebase r2.phi, x2.trans ((Ext.of_same y1.same).trans (e6.mono (fun _ w => w) sub1)), h6, i2.evx ?_⟩
      exact (Evx.of_same (hide_keep y1.same)).trans (e6.hide fun p w => .inl (r1.zs p w))
    cases b with
    | true =>
      refine ⟨z, S1, H3, List.replicate n none, e5, r5, hm e5 (fun y e6 q6 => ?_) q5⟩
      intro v H6 r6 x6 i6
      have z6 : Ext (Zs z) S1 H5 H6 := x6.mono (fun p w => w.elim id fun w => absurd w none_rep) fun _ w => w
      obtain ⟨f1, f2, f3, f4⟩ := fin (z5.trans z6) r6.sta
      have hS1 : S1 D' := .inr (by simp)
      have same : Evx (hide S1 H6) (hide S1 (upd H6 D' (.lst (ys ++ [v])))) := .of_same fun b u e => by
        obtain ⟨k, e⟩ := hide_get.mp e
        have ne : b ≠ D' := fun w => k (by rw [w]; exact hS1)
        exact hide_get.mpr ⟨k, by rw [upd_ne ne]; exact e⟩
      refine ⟨ys, f3, by rw [f4.length]; exact q6.1, _, _, _, f1.hid hS1 hz (nostab_at f3 nostab_lst) r2.phi, ?_, upd_same, ?_, q6.2⟩
      · intro p o hp e
        have ne : p ≠ D' := ne_of_none e hD
        rw [upd_ne ne]
        exact f2 p o hp e
      · refine (f4.append (.cons ?_ .nil)).evx same
        exact i6.evx (.of_same (hide_mono fun p w => .inl w))
    | false =>
      obtain ⟨f1, f2, f3, f4⟩ := fin z5 r5.sta
      exact ⟨_, _, _, f1, f2, f3, f4, q5⟩
  · have e : j = ds.length := by omega
    subst e
    rw [List.drop_length] at q2
    unfold compW at q2
    refine .inl ⟨wl.stop _ H2 _ st2 (Nat.le_refl _), q2 _ _ (r1.call x2 r2.sta) (x1.trans x2.loc) ?_⟩
    exact .lst (hide_get.mpr ⟨nD, hD2⟩) (i2.evx (.of_same (hide_mono fun p w => w.imp id fun w => List.mem_append_left _ w)))
theorem mLc_mono {i : Nat} {mi : MI} {t : MT} {me : ME} (hmi : ∀ env {k k' : List D → DEnv → Prop}, (∀ d e, k d e → k' d e) → mi env k → mi env k')
    (ht : ∀ env {k k' : Bool → DEnv → Prop}, (∀ d e, k d e → k' d e) → t env k → t env k') (hm : ∀ env {k k' : D → DEnv → Prop}, (∀ d e, k d e → k' d e) → me env k → me env k') :
    ∀ env {k k' : D → DEnv → Prop}, (∀ d e, k d e → k' d e) → mLc i mi t me env k → mLc i mi t me env k' := fun env k k' h q => hmi env (fun ds e q => compW_mono ht hm ds _ _ (fun a e2 q => h _ _ q) q) q
theorem de_lc {p : Z → Prop} {elt iter : Expr} {ifs : List Expr} {scope : Scope} {x : Str} {px : Pos} {i : Nat} {pos : Pos} {mi : MI} {t : MT} {me : ME} (hw : ∀ z S0 H0, Φ z S0 H0 → p z) (hc : X.calm = true) (hN : X.N.Nodup) (hi : DI X Φ (.Name x px) iter mi) (ok : BlkOk X.N X.env.scope scope [(x, i)])
    (hg : ∀ (s : Shared) (H : Hp) (C : Addr) (cl : List (Str × Addr)) (fp : List Addr), PG (X.blk s H scope (compEnvC scope cl C X.env) fp) (.Name x px) (gName i))
    (ht : ∀ (s : Shared) (H : Hp) (C : Addr) (cl : List (Str × Addr)) (fp : List Addr), DTs (X.blk s H scope (compEnvC scope cl C X.env) fp) (PhiZ p) ifs t)
    (he : ∀ (s : Shared) (H : Hp) (C : Addr) (cl : List (Str × Addr)) (fp : List Addr), DE (X.blk s H scope (compEnvC scope cl C X.env) fp) (PhiZ p) elt me) (hs : ∀ x, foldedSetIterable iter X.env x = pure x := by intro _; rfl) :
    DE X Φ (.ListComp elt [⟨.Name x px, iter, ifs, 0⟩] scope pos) (mLc i mi t me) :=
  ⟨mLc_mono hi.mono (ht X.s_0 (fun _ => none) 0 [] []).mono (he X.s_0 (fun _ => none) 0 [] []).mono,
   pe_imp (pe_lc hc hN hi.pi ok hg (fun s H C cl fp => (ht s H C cl fp).pts) (fun s H C cl fp => (he s H C cl fp).pe) hs) fun _ _ _ q => lc_of hw hi.mono (ht X.s_0 (fun _ => none) 0 [] []).mono (he X.s_0 (fun _ => none) 0 [] []).mono q⟩
theorem ds_setLc {p : Z → Prop} {k : Nat} {y : Str} {py spos : Pos} {elt iter : Expr} {ifs : List Expr} {scope : Scope} {x : Str} {px : Pos} {i : Nat} {pos : Pos} {mi : MI} {t : MT} {me : ME} (hw : ∀ z S0 H0, Φ z S0 H0 → p z) (hc : X.calm = true) (hN : X.N.Nodup) (hy : X.N[k]? = some y) (hyl : X.env.scope.names.lookup y = some .local)
    (hsw : swapsWith (.ListComp elt [⟨.Name x px, iter, ifs, 0⟩] scope pos) (some (.Name y py)) spos.line X.env = pure true) (hi : DI X Φ (.Name x px) iter mi) (ok : BlkOk X.N X.env.scope scope [(x, i)])
    (hg : ∀ (s : Shared) (H : Hp) (C : Addr) (cl : List (Str × Addr)) (fp : List Addr), PG (X.blk s H scope (compEnvC scope cl C X.env) fp) (.Name x px) (gName i))
    (ht : ∀ (s : Shared) (H : Hp) (C : Addr) (cl : List (Str × Addr)) (fp : List Addr), DTs (X.blk s H scope (compEnvC scope cl C X.env) fp) (PhiZ p) ifs t)
    (he : ∀ (s : Shared) (H : Hp) (C : Addr) (cl : List (Str × Addr)) (fp : List Addr), DE (X.blk s H scope (compEnvC scope cl C X.env) fp) (PhiZ p) elt me) (hs : ∀ x, foldedSetIterable iter X.env x = pure x := by intro _; rfl) :
    DS X Φ (.Assign [.Name y py] (.ListComp elt [⟨.Name x px, iter, ifs, 0⟩] scope pos) spos) (mSet k (mLc i mi t me)) :=
  have m1 := (ht X.s_0 (fun _ => none) 0 [] []).mono
  have m2 := (he X.s_0 (fun _ => none) 0 [] []).mono
  ⟨mSet_mono (mLc_mono hi.mono m1 m2), ps_imp (ps_setLc hc hN hy hyl hsw hi.pi ok hg (fun s H C cl fp => (ht s H C cl fp).pts) (fun s H C cl fp => (he s H C cl fp).pe) hs) fun _ _ _ q =>
    lc_of hw hi.mono m1 m2 (asg_of (mLc_mono hi.mono m1 m2) q)⟩
end
end DL
namespace DL
open PySem L2 PySem.Spec PyProof.Rows
abbrev WF := List D → Nat → (D → Nat → Prop) → Prop
/-- a def's promise by data -/
def spD (K : PySem.W.Frag) (wd : World) (w : WF) (vs : List V) (H : Hp) (Q : VK) : Prop := ∃ z S0 ds n, (z.w = wd ∧ z.act = false) ∧ Sta z n none H ∧ (∀ p, S0 p → H p ≠ none) ∧ ((∀ p, Zs z p → S0 p) ∧ ∀ p, Zf z p → S0 p) ∧ IsA z K (hide S0 H) vs ds ∧
  w ds n fun d n' => ∀ v H', Ext (Zs z) S0 H H' → Sta z n' none H' → Is z K (hide S0 H') v d → Q v H'
structure FnG (P : Program) (w : World) (K : PySem.W.Frag) (mg : Str → Option Value) (base : Heap) (k : Nat) (f : Addr) (fd : FuncData) (ps : List Str) (W : WF) : Prop where
  mono : ∀ ds n {k k' : D → Nat → Prop}, (∀ d n, k d n → k' d n) → W ds n k → W ds n k'
  len : ∀ ds n k, W ds n k → ds.length = ps.length
  run : ∀ (A : Around) (outer : List Env) (s : Shared) (H : Hp) (args : Args) (us : List Value) (vs : List V) (Q : VK), Room k A → A.guards = some [] → Env0 P w K mg base A outer s H → BindsTo s fd args (ps.zip us) → Vals vs us → spD K w W vs H Q →
    codeAny (model P w) A (.call (.ref f) args) (CR CX0 outer P w H s Q E0) s
theorem FnG.up {P : Program} {w : World} {K : PySem.W.Frag} {mg : Str → Option Value} {base : Heap} {j k : Nat} {f : Addr} {fd : FuncData} {ps : List Str} {W : WF} (F : FnG P w K mg base j f fd ps W) (h : j ≤ k) : FnG P w K mg base k f fd ps W :=
  ⟨F.mono, F.len, fun A outer s H args us vs Q hr => F.run A outer s H args us vs Q (hr.mono h)⟩
/-- a weaker promise -/
theorem FnG.weak {P : Program} {w : World} {K : PySem.W.Frag} {mg : Str → Option Value} {base : Heap} {k : Nat} {f : Addr} {fd : FuncData} {ps : List Str} {W W' : WF} (F : FnG P w K mg base k f fd ps W)
    (mono : ∀ ds n {k k' : D → Nat → Prop}, (∀ d n, k d n → k' d n) → W' ds n k → W' ds n k') (h : ∀ ds n k, W' ds n k → W ds n k) : FnG P w K mg base k f fd ps W' :=
  ⟨mono, fun ds n k q => F.len ds n k (h ds n k q), fun A outer s H args us vs Q hr hg e0 hb r ⟨z, S0, ds, n, h0, h1, h2, h3, h4, h5⟩ => F.run A outer s H args us vs Q hr hg e0 hb r ⟨z, S0, ds, n, h0, h1, h2, h3, h4, h _ _ _ h5⟩⟩
section
variable {X : Cx} {Φ : Phi} {k : Nat} {f : Addr} {fd : FuncData} {ps : List Str} {W : WF}
theorem run_G {pins : List (Addr × Obj)} {σ : L2.St} {H : Hp} {s : Shared} {Q : VK} {args : Args} {us : List Value} {vs : List V} (F : FnG X.prog X.w X.K X.mg X.base k f fd ps W) (hr : Room k X.A) (hgd : X.A.guards = some [])
    (I : Inv X pins σ H s) (hb : BindsTo s fd args (ps.zip us)) (r : Vals vs us) (h : spD X.K X.w W vs H Q) : codeAny (model X.prog X.w) X.A (.call (.ref f) args) (fun r s' => match r with | .ok (.ret u) => EP X pins σ Q u s' | _ => False) s := by
  refine codeAny_mono (F.run X.A X.stack s H args us vs Q hr hgd I.env0 hb r h) fun r s' hq => ?_
  match r, hq with
  | .error e, hq => exact hq.elim
  | .ok (.ret u), hq => exact I.after hq
  | .ok .next, hq => exact hq.elim
  | .ok .brk, hq => exact hq.elim
  | .ok .cont, hq => exact hq.elim
theorem spD_of {n : MA} (hn : ∀ env {k k' : List D → DEnv → Prop}, (∀ d e, k d e → k' d e) → n env k → n env k') (hW : ∀ ds n {k k' : D → Nat → Prop}, (∀ d n, k d n → k' d n) → W ds n k → W ds n k') {K : PySem.W.Frag} {w : World} (hw : PhiOk Φ w) {σ : L2.St} {H : Hp} {Q : VK}
    (q : tD Φ K (fun env k => n env fun ds e => W ds e.cr fun d cr => k d { e with cr := cr }) σ H Q) : tDA Φ K n σ H fun vs H1 => spD K w W vs H1 Q := by
  obtain ⟨z, S0, H0, ps, env, r, q⟩ := q
  refine ⟨z, S0, H0, ps, env, r, hn env (fun ds e q => ?_) q⟩
  intro vs H1 r1 x1 i1
  refine ⟨z.off, Sx S0 ps, ds, e.cr, ⟨show z.w = _ from hw _ _ _ r1.phi, rfl⟩, ⟨r1.sta.dr, r1.sta.wk.fr, r1.sta.inv⟩, r1.dom, ⟨fun p h => .inl (r1.zs p h.on), fun p h => .inl (r1.zf p h)⟩, i1.off, hW ds e.cr (fun d cr q => ?_) q⟩
  intro v H2 x2 s2 i2
  exact q v H2 (r1.callP x2 s2) (x1.trans x2.locP) i2.on
def mCall (W : WF) (n : MA) : ME := fun env k => n env fun ds e => W ds e.cr fun d cr => k d { e with cr := cr }
theorem mCall_mono {n : MA} (hn : ∀ env {k k' : List D → DEnv → Prop}, (∀ d e, k d e → k' d e) → n env k → n env k') (hW : ∀ ds n {k k' : D → Nat → Prop}, (∀ d n, k d n → k' d n) → W ds n k → W ds n k') :
    ∀ env {k k' : D → DEnv → Prop}, (∀ d e, k d e → k' d e) → mCall W n env k → mCall W n env k' := fun env k k' h q => hn env (fun ds e q => hW ds e.cr (fun d cr q => h _ _ q) q) q
theorem de_call {x : Str} {p pos : Pos} {e : Expr} {es : List Expr} {n : MA} (F : FnG X.prog X.w X.K X.mg X.base k f fd ps W) (hr : Room k X.A) (hgd : X.A.guards = some []) (hg : Gl X x) (hm : X.mg x = some (.ref f)) (hk : PySem.W.keepIn X.K (.ref f) = true) (hb : Binds X.K fd ps [])
    (hw : PhiOk Φ X.w) (ha : DA X Φ (e :: es) n) (hdb : (x == ("__debug__" : Str)) = false := by decide) (he : starEach (e :: es) X.env = (false, eval e X.env) :: starEach es X.env := by rfl) (hpl : (backTo pos (starEach es X.env)).any (·.1) = false := by rfl) :
    DE X Φ (.Call (.Name x p) (e :: es) [] pos) (mCall W n) := by
  refine ⟨mCall_mono ha.mono F.mono, ⟨fun pins s σ H Q I h => wpAny_Call_Name_kw (ld_glob I hg hm ?_ hdb)⟩⟩
  have h' := spD_of ha.mono F.mono hw h
  refine PySem.W.callWith_K (h₀ := X.base) I.ok.mod.kin hk (thn (ha.pa.run pos pins s σ H _ I h') fun us s1 ⟨vs, H1, I1, r, q⟩ => ⟨I1.kIn, ?_⟩) he hpl
  have hl : us.length = ps.length := by
    obtain ⟨z, S0, ds, n, _, _, _, _, i, w⟩ := q
    rw [← r.length, i.length]
    exact F.len _ _ _ w
  have bt := hb s1 us I1.kIn (by rw [List.append_nil]; exact hl)
  rw [List.append_nil] at bt
  refine wpAny_call (codeAny_mono (run_G F hr hgd I1 bt r q) fun rr s' hq => ?_)
  match rr, hq with
  | .error e, hq => exact hq.elim
  | .ok (.ret u), hq => exact hq
  | .ok .next, hq => exact hq.elim
  | .ok .brk, hq => exact hq.elim
  | .ok .cont, hq => exact hq.elim
/-- keywords -/
structure DK (X : Cx) (Φ : Phi) (kws : List Keyword) (n : MA) : Prop where
  mono : ∀ env {k k' : List D → DEnv → Prop}, (∀ d e, k d e → k' d e) → n env k → n env k'
  pk : PK X kws (tDA Φ X.K n)
theorem pk_imp {kws : List Keyword} {t t' : TA} (h : PK X kws t) (k : ∀ σ H Q, t' σ H Q → t σ H Q) : PK X kws t' := ⟨fun pos pins s σ H Q I q => h.run pos pins s σ H Q I (k σ H Q q)⟩
theorem dk_nil : DK X Φ [] mNil := ⟨fun env k k' h q => h _ _ q, pk_imp pk_nil fun σ H Q ⟨z, S0, H0, ps, env, r, q⟩ => q [] H r .refl .nil⟩
theorem dk_cons {e : Expr} {kws : List Keyword} {nm : Option Str} {kpos : Pos} {m : ME} {n : MA} (he : DE X Φ e m) (hes : DK X Φ kws n) : DK X Φ (⟨nm, e, kpos⟩ :: kws) (mCons m n) := by
  refine ⟨fun env k k' h q => he.mono env (fun d e1 q => hes.mono e1 (fun ds e2 q => h _ _ q) q) q, pk_imp (pk_cons he.pe hes.pk) fun σ H Q ⟨z, S0, H0, ps, env, r, q⟩ => ⟨z, S0, H0, ps, env, r, he.mono env (fun d e1 q => ?_) q⟩⟩
  intro v H1 r1 x1 i1
  refine ⟨z, S0, H0, ps, e1, r1, hes.mono e1 (fun ds e2 q => ?_) q⟩
  intro vs H2 r2 x2 i2
  exact q _ H2 r2 (x1.trans x2) (.cons (r1.isK i1 x2) i2)
/-- the keywords' values in the order of the parameters -/
def perm {α : Type} (js : List Nat) (xs : List α) : List α := js.filterMap fun j => xs[j]?
def KwB (K : PySem.W.Frag) (fd : FuncData) (ps ks : List Str) (js : List Nat) : Prop := ∀ (s : Shared) (ws : List Value), K.In s.heap → ws.length = ks.length → BindsTo s fd ⟨[], ks.zip ws⟩ (ps.zip (perm js ws))
theorem perm_vals {js : List Nat} {vs : List V} {us : List Value} (r : Vals vs us) : Vals (perm js vs) (perm js us) := by
  induction js with
  | nil => exact .nil
  | cons j js ih =>
    unfold perm
    rw [List.filterMap_cons, List.filterMap_cons]
    cases e : vs[j]? with
    | none => rw [r.none_of e]; exact ih
    | some v =>
      obtain ⟨u, e2, rv⟩ := r.get e
      rw [e2]
      exact .cons rv ih
theorem perm_is {z : Z} {K : PySem.W.Frag} {G : Hp} {js : List Nat} {vs : List V} {ds : List D} (r : IsA z K G vs ds) : IsA z K G (perm js vs) (perm js ds) := by
  induction js with
  | nil => exact .nil
  | cons j js ih =>
    unfold perm
    rw [List.filterMap_cons, List.filterMap_cons]
    cases e : vs[j]? with
    | none =>
      have e2 : ds[j]? = none := by
        rw [List.getElem?_eq_none_iff] at e ⊢
        rw [← r.length]; exact e
      rw [e2]; exact ih
    | some v =>
      obtain ⟨u, e2, rv⟩ := r.get e
      rw [e2]
      exact .cons rv ih
def mCallK (W : WF) (ks : Nat) (js : List Nat) (n : MA) : ME := fun env k => n env fun ds e => ds.length = ks ∧ W (perm js ds) e.cr fun d cr => k d { e with cr := cr }
theorem de_callK {x : Str} {p pos : Pos} {kws : List Keyword} {ks : List Str} {js : List Nat} {n : MA} (F : FnG X.prog X.w X.K X.mg X.base k f fd ps W) (hr : Room k X.A) (hgd : X.A.guards = some []) (hg : Gl X x) (hm : X.mg x = some (.ref f)) (hk : PySem.W.keepIn X.K (.ref f) = true) (hb : KwB X.K fd ps ks js)
    (hw : PhiOk Φ X.w) (hkw : DK X Φ kws n) (hall : (backToKw pos (keywordEach kws X.env)).all (·.1.isSome) = true := by rfl) (hks : (backToKw pos (keywordEach kws X.env)).filterMap (·.1) = ks := by rfl)
    (hdb : (x == ("__debug__" : Str)) = false := by decide) (hpl : ((backTo pos (starEach [] X.env)).any (·.1) || (backToKw pos (keywordEach kws X.env)).any (·.1.isNone)) = false := by rfl) :
    DE X Φ (.Call (.Name x p) [] kws pos) (mCallK W ks.length js n) := by
  refine ⟨fun env k k' h q => hkw.mono env (fun ds e q => ⟨q.1, F.mono _ _ (fun d cr q => h _ _ q) q.2⟩) q, ⟨fun pins s σ H Q I ⟨z, S0, H0, ps', env, r, q⟩ => wpAny_Call_Name_kw (ld_glob I hg hm ?_ hdb)⟩⟩
  have h' : tDA Φ X.K n σ H fun vs H1 => vs.length = ks.length ∧ spD X.K X.w W (perm js vs) H1 Q := by
    refine ⟨z, S0, H0, ps', env, r, hkw.mono env (fun ds e q => ?_) q⟩
    intro vs H1 r1 x1 i1
    refine ⟨by rw [i1.length]; exact q.1, z.off, Sx S0 ps', perm js ds, e.cr, ⟨show z.w = _ from hw _ _ _ r1.phi, rfl⟩, ⟨r1.sta.dr, r1.sta.wk.fr, r1.sta.inv⟩, r1.dom, ⟨fun p h => .inl (r1.zs p h.on), fun p h => .inl (r1.zf p h)⟩, (perm_is i1).off, F.mono _ _ (fun d cr q => ?_) q.2⟩
    intro v H2 x2 s2 i2
    exact q v H2 (r1.callP x2 s2) (x1.trans x2.locP) i2.on
  refine PySem.W.callWith_KW0 (h₀ := X.base) I.ok.mod.kin hk hall (thn (hkw.pk.run pos pins s σ H _ I h') fun ws s2 ⟨zs, H2, I2, rz, hl, q2⟩ => ⟨I2.kIn, ?_⟩) hpl
  rw [hks]
  refine wpAny_call (codeAny_mono (run_G F hr hgd I2 (hb s2 ws I2.kIn (by rw [← rz.length]; exact hl)) (perm_vals rz) q2) fun rr s' hq => ?_)
  match rr, hq with
  | .error e, hq => exact hq.elim
  | .ok (.ret u), hq => exact hq
  | .ok .next, hq => exact hq.elim
  | .ok .brk, hq => exact hq.elim
  | .ok .cont, hq => exact hq.elim
end
/-! ### a def of the text -/
def startE (N : Nat) (ds : List D) (n : Nat) : DEnv := { sl := ds.map Sl.da ++ List.replicate (N - ds.length) Sl.un, cr := n }
theorem rel_start {Φ : Phi} {z : Z} {S0 : Addr → Prop} {H : Hp} {K : PySem.W.Frag} {N : List Str} {vs : List V} {ds : List D} {n : Nat} (hΦ : Φ z S0 H) (st : Sta z n none H) (hS : ∀ p, S0 p → H p ≠ none) (hz : (∀ p, Zs z p → S0 p) ∧ ∀ p, Zf z p → S0 p) (i : IsA z K (hide S0 H) vs ds) :
    Rel Φ z S0 H K (List.replicate (startE N.length ds n).sl.length none) (startE N.length ds n) (L2.start N vs) H := by
  refine ⟨by simp, by simp [startE, L2.start, i.length], fun i j p h1 _ => absurd (List.mem_of_getElem? h1) none_rep, fun p h => absurd h none_rep, hS, hz.1, hz.2, fun p h => hS p (h.elim id fun w => absurd w none_rep), .refl, st, fun j => ?_, hΦ⟩
  have en : (List.replicate (startE N.length ds n).sl.length (none : Option Addr)).getD j none = none := by
    rw [List.getD_eq_getElem?_getD, List.getElem?_replicate]
    split <;> rfl
  rw [en]
  by_cases hj : j < ds.length
  · obtain ⟨v, e1, iv⟩ := i.getD (i := j) (d := ds[j]) (List.getElem?_eq_getElem hj)
    have e2 : (startE N.length ds n).at j = .da ds[j] := by
      unfold startE DEnv.at
      rw [List.getD_eq_getElem?_getD, List.getElem?_append_left (by simpa using hj), List.getElem?_map, List.getElem?_eq_getElem hj]
      rfl
    rw [e2]
    refine ⟨rfl, v, ?_, iv.evx (.of_same (hide_mono fun p w => w.elim id fun w => absurd w none_rep))⟩
    unfold L2.start
    rw [List.getD_eq_getElem?_getD, List.getElem?_append_left (by simpa [i.length] using hj), List.getElem?_map, e1]
    rfl
  · have e2 : (startE N.length ds n).at j = .un := by
      unfold startE DEnv.at
      rw [List.getD_eq_getElem?_getD, List.getElem?_append_right (by simpa using Nat.le_of_not_lt hj), List.getElem?_replicate]
      split <;> rfl
    rw [e2]
    trivial
theorem deeper_guards {A : Around} {env : Env} (h : A.guards = some []) : (A.deeper env).guards = some [] := by
  first
    | exact h
    | (show (A.deeper env).guards = _; unfold Around.deeper; exact h)
    | (simp [Around.deeper, h])
/-- the context of a def's body from which no error goes out -/
abbrev cxD (P : Program) (w : World) (K : PySem.W.Frag) (mg : Str → Option Value) (base : Heap) (N : List Str) (qual : Str) (sc : Scope) (f : Addr) (cdv : Value) (A : Around) (outer : List Env) (s : Shared) (H : Hp) : Cx := (cxOf CX0 P w K mg base N qual sc f cdv A outer s H E0).nox
section
variable {P : Program} {w : World} {K : PySem.W.Frag} {mg : Str → Option Value} {base : Heap}
/-- THE RULE for a def that raises nothing: its body as data, and what that asks -/
theorem fnG_of {x qual : Str} {st : Stmt} {f : Addr} {fd : FuncData} {N ps : List Str} {k : Nat} {W : WF} (F : Fun K x qual st f fd) (S : FnScope N ps (defScope st))
    (mono : ∀ ds n {k k' : D → Nat → Prop}, (∀ d n, k d n → k' d n) → W ds n k → W ds n k') (len : ∀ ds n k, W ds n k → ds.length = ps.length)
    (hbody : ∀ (cdv : Value) (A : Around) (outer : List Env) (s : Shared) (H : Hp), Room k (cxD P w K mg base N qual (defScope st) f cdv A outer s H).A → (cxD P w K mg base N qual (defScope st) f cdv A outer s H).A.guards = some [] →
      ∃ m, DSs (cxD P w K mg base N qual (defScope st) f cdv A outer s H) (PhiW w) (defBody st) m ∧ ∀ ds n kk, W ds n kk → m (startE N.length ds n) { nx := fun e => kk .non e.cr, rt := fun d e => kk d e.cr }) : FnG P w K mg base (k + 1) f fd ps W := by
  obtain ⟨oc, od, kV, doc, pm, an, cdv, ct, osl, rfl, lk, hcd⟩ := F.ex
  refine ⟨mono, len, fun A outer s H args us vs Q hr hgd e0 hb r hsp => ?_⟩
  obtain ⟨z, S0, ds, n, h0, h1, h2, h3, h4, h5⟩ := hsp
  have hl : vs.length = ps.length := by rw [h4.length]; exact len _ _ _ h5
  have keep := fun b o e => (e0.bs b o e).1
  have KX : K.In s.heap := e0.mod.kin.keeps keep
  have lim : s.heap.NoLimit := e0.mod.nolimit.keeps keep
  obtain ⟨m, hm, hq⟩ := hbody cdv A outer s H (hr.deeper _) (deeper_guards hgd)
  refine codeAny_call_function hr.depth (KX _ _ lk) rfl S.co S.gen rfl (PySem.W.codeRec_of KX hcd) (hb _ _ _ _ ?_)
  refine wpAny_newFunctionEnv_cells S.kind (fun y hy => ?_) fun env he s1 x => ?_
  · rcases S.par y.1 (List.of_mem_zip hy).1 with q | q
    · exact .inl q
    · exact .inr ⟨q, PySem.W.cellsFrom_some _ _ _ (.inl q)⟩
  · subst he
    refine ⟨lim.keeps x.toInCall.keep, codeAny_func ?_⟩
    have I0 : Inv (cxOf CX0 P w K mg base N qual (defScope st) f cdv A outer s H E0) [] (L2.start N vs) H s1 := inv_start S hr.hd e0 hl r x
    have I : Inv (cxD P w K mg base N qual (defScope st) f cdv A outer s H) [] (L2.start N vs) H s1 := I0.wish _
    have rl := rel_start (Φ := PhiW w) (N := N) h0.1 h1 h2 h3 h4
    have done : ∀ {H' : Hp} {σ' : L2.St} {v : V} {u : Value} {s' : Shared}, Inv (cxD P w K mg base N qual (defScope st) f cdv A outer s H) [] σ' H' s' → RelV v u → Q v H' → CE outer P w H s Q u s' := fun J rv q => ⟨_, _, J.os, J.bare, J.base, J.hok, rv, q⟩
    have hrun := hm.ps.run [] s1 (L2.start N vs) H { nx := fun _ H' => Q .non H', rt := Q } I ⟨z, S0, H, _, _, rl, hm.mono _ ?_ (hq ds n _ h5)⟩
    · refine wpAny_mono hrun (fun fl s' hs => ?_) fun e s' hs => hs.elim
      match fl, hs with
      | .ret u, ⟨v, σ', H', J, rv, q⟩ => exact done J rv q
      | .next, ⟨σ', H', J, q⟩ => exact done (v := V.non) (u := Value.none) J rfl q
      | .brk, ⟨_, _, _, q⟩ => exact q.elim
      | .cont, ⟨_, _, _, q⟩ => exact q.elim
    · refine ⟨fun e q ps' σ' H' r' st' => ?_, fun d e q ps' v σ' H' r' i' => ?_, fun e q => q.elim, fun e q => q.elim⟩
      · exact q .non H' r'.ext r'.sta.wk .non
      · exact q v H' r'.ext r'.sta.wk (i'.evx (.of_same (hide_mono fun p w => .inl w)))
end
end DL
namespace DL
open PySem L2 PySem.Spec PyProof.Rows
/-- a def of the text, known by its promise -/
structure Ok (P : Program) (w : World) (K : PySem.W.Frag) (mg : Str → Option Value) (base : Heap) (x : Str) (st : Stmt) (k : Nat) (ps : List Str) (W : WF) : Prop where
  ex : ∃ f fd, Fun K x x st f fd ∧ FnG P w K mg base k f fd ps W ∧ mg x = some (.ref f) ∧ Binds K fd ps []
/-- where a def stands -/
structure At (K : PySem.W.Frag) (mg : Str → Option Value) (x : Str) (st : Stmt) (f : Addr) (fd : FuncData) : Prop where
  fn : Fun K x x st f fd
  mg : mg x = some (.ref f)
theorem Ok.mk' {P : Program} {w : World} {K : PySem.W.Frag} {mg : Str → Option Value} {base : Heap} {x : Str} {st : Stmt} {k : Nat} {ps : List Str} {W : WF} {f : Addr} {fd : FuncData} (a : At K mg x st f fd) (b : Binds K fd ps []) (F : FnG P w K mg base k f fd ps W) : Ok P w K mg base x st k ps W := ⟨f, fd, a.fn, F, a.mg, b⟩
theorem Ok.up {P : Program} {w : World} {K : PySem.W.Frag} {mg : Str → Option Value} {base : Heap} {x : Str} {st : Stmt} {j k : Nat} {ps : List Str} {W : WF} (o : Ok P w K mg base x st j ps W) (h : j ≤ k) : Ok P w K mg base x st k ps W := by
  obtain ⟨f, fd, a, F, m, b⟩ := o.ex
  exact ⟨f, fd, a, F.up h, m, b⟩
/-- no promise -/
def WNo : WF := fun _ _ _ => False
def prev (V : Nat → WF) : Nat → WF
  | 0 => WNo
  | L + 1 => V L
theorem Ok.never {P : Program} {w : World} {K : PySem.W.Frag} {mg : Str → Option Value} {base : Heap} {x : Str} {st : Stmt} {k : Nat} {ps : List Str} {f : Addr} {fd : FuncData} (a : At K mg x st f fd) (b : Binds K fd ps []) : Ok P w K mg base x st k ps WNo :=
  Ok.mk' a b ⟨fun _ _ _ _ _ q => q, fun _ _ _ q => q.elim, fun _ _ _ _ _ _ _ _ _ _ _ _ _ ⟨_, _, _, _, _, _, _, _, _, q⟩ => q.elim⟩
/-- a constant of the module -/
def Glob (K : PySem.W.Frag) (mg : Str → Option Value) (x : Str) (d : D) : Prop := ∃ v u, mg x = some u ∧ RelV v u ∧ ∀ z G, Is z K G v d
section
variable {X : Cx} {Φ : Phi} {p pos : Pos} {x : Str}
theorem de_v (i : Nat) (hN : X.N[i]? = some x := by rfl) (hv : Vis X.env.scope x := by first | exact Or.inl rfl | exact Or.inr (Or.inl rfl) | exact Or.inr (Or.inr rfl)) (hd : (x == ("__debug__" : Str)) = false := by decide)
    (hcd : (x == ("__classdict__" : Str)) = false := by decide) : DE X Φ (.Name x pos) (mVar i) := de_var i (pe_var hN hv hd hcd)
theorem de_glob {d : D} (h : Glob X.K X.mg x d) (hg : Gl X x := by rfl) (hd : (x == ("__debug__" : Str)) = false := by decide) : DE X Φ (.Name x pos) (mC d) := by
  obtain ⟨v, u, hm, r, i⟩ := h
  exact de_const (pe_glob hg hm r hd) i
theorem de_ty {T : String} (hm : X.mg x = none) (hv : bootBuiltins x = some (.type T)) (hg : Gl X x := by rfl) (hn : x ≠ "__name__" := by decide) (hd : (x == ("__debug__" : Str)) = false := by decide) : DE X Φ (.Name x pos) (mC (.ty T)) :=
  de_const (pe_bltn (v := .ty T) hg hm hv rfl hn hd) fun _ _ => .ty T
theorem de_ok {st : Stmt} {k : Nat} {ps : List Str} {W : WF} {e : Expr} {es : List Expr} {n : MA} (o : Ok X.prog X.w X.K X.mg X.base x st k ps W) (hr : Room k X.A) (hgd : X.A.guards = some []) (ha : DA X Φ (e :: es) n) (hw : PhiOk Φ X.w := by first | exact fun _ _ _ h => h | exact fun _ _ _ h => h.1) (hg : Gl X x := by rfl)
    (hdb : (x == ("__debug__" : Str)) = false := by decide) (he : starEach (e :: es) X.env = (false, eval e X.env) :: starEach es X.env := by rfl) (hpl : (backTo pos (starEach es X.env)).any (·.1) = false := by rfl) : DE X Φ (.Call (.Name x p) (e :: es) [] pos) (mCall W n) := by
  obtain ⟨f, fd, a, F, m, b⟩ := o.ex
  exact de_call F hr hgd hg m a.kp b hw ha hdb he hpl
theorem kwB {K : PySem.W.Frag} {mg : Str → Option Value} {st : Stmt} {f : Addr} {fd : FuncData} {ps ks : List Str} {js : List Nat} (a : Fun K x x st f fd)
    (h : ∀ (kV doc pm : Value) (an : Option Addr) (cdv ct : Value) (us : List Value), us.length = ks.length → bindArgs (PySem.W.fnOf x x (defArgs st) (defBody st) (defScope st) .none kV doc pm an cdv ct) ⟨[], ks.zip us⟩ = pure (ps.zip (perm js us))) : KwB K fd ps ks js := by
  obtain ⟨oc, od, kV, doc, pm, an, cdv, ct, osl, rfl, lk, hcd⟩ := a.ex
  exact fun s ws _ hl => .of_eq (h kV doc pm an cdv ct ws hl)
theorem de_okK {st : Stmt} {k : Nat} {ps : List Str} {W : WF} {kws : List Keyword} {ks : List Str} {js : List Nat} {n : MA} (o : Ok X.prog X.w X.K X.mg X.base x st k ps W) (hr : Room k X.A) (hgd : X.A.guards = some [])
    (h : ∀ (kV doc pm : Value) (an : Option Addr) (cdv ct : Value) (us : List Value), us.length = ks.length → bindArgs (PySem.W.fnOf x x (defArgs st) (defBody st) (defScope st) .none kV doc pm an cdv ct) ⟨[], ks.zip us⟩ = pure (ps.zip (perm js us)))
    (hkw : DK X Φ kws n) (hw : PhiOk Φ X.w := by first | exact fun _ _ _ h => h | exact fun _ _ _ h => h.1) (hg : Gl X x := by rfl) (hall : (backToKw pos (keywordEach kws X.env)).all (·.1.isSome) = true := by rfl) (hks : (backToKw pos (keywordEach kws X.env)).filterMap (·.1) = ks := by rfl)
    (hdb : (x == ("__debug__" : Str)) = false := by decide) (hpl : ((backTo pos (starEach [] X.env)).any (·.1) || (backToKw pos (keywordEach kws X.env)).any (·.1.isNone)) = false := by rfl) :
    DE X Φ (.Call (.Name x p) [] kws pos) (mCallK W ks.length js n) := by
  obtain ⟨f, fd, a, F, m, b⟩ := o.ex
  exact de_callK F hr hgd hg m a.kp (kwB (mg := X.mg) a h) hw hkw hall hks hdb hpl
/-- x = e, x a local or a cell -/
theorem ds_s {i : Nat} {e : Expr} {me : ME} {pos' : Pos} (he : DE X Φ e me) (hN : X.N.Nodup) (hi : X.N[i]? = some x := by rfl) (hx : Loc X.env.scope x := by first | exact Or.inl rfl | exact Or.inr rfl) (hs : swapsWith e (some (.Name x pos')) pos.line X.env = pure false := by rfl)
    (hf : X.fn x = true ∨ X.env.scope.names.lookup x = some .local := by first | exact .inl rfl | exact .inr rfl | assumption) : DS X Φ (.Assign [.Name x pos'] e pos) (mSet i me) := ds_set hN hi hx he hs hf
end
/-! ### the built-ins' names -/
theorem bt_len : bootBuiltins "len" = some (.builtin "len") := by decide +kernel
theorem bt_isinstance : bootBuiltins "isinstance" = some (.builtin "isinstance") := by decide +kernel
theorem bt_abs : bootBuiltins "abs" = some (.builtin "abs") := by decide +kernel
theorem bt_min : bootBuiltins "min" = some (.builtin "min") := by decide +kernel
theorem bt_all : bootBuiltins "all" = some (.builtin "all") := by decide +kernel
theorem bt_any : bootBuiltins "any" = some (.builtin "any") := by decide +kernel
theorem bt_repr : bootBuiltins "repr" = some (.builtin "repr") := by decide +kernel
theorem bt_sorted : bootBuiltins "sorted" = some (.builtin "sorted") := by decide +kernel
theorem bt_int : bootBuiltins "int" = some (.type "int") := by decide +kernel
theorem bt_bool : bootBuiltins "bool" = some (.type "bool") := by decide +kernel
theorem bt_str : bootBuiltins "str" = some (.type "str") := by decide +kernel
theorem bt_tuple : bootBuiltins "tuple" = some (.type "tuple") := by decide +kernel
theorem bt_list : bootBuiltins "list" = some (.type "list") := by decide +kernel
theorem bt_dict : bootBuiltins "dict" = some (.type "dict") := by decide +kernel
theorem bt_set : bootBuiltins "set" = some (.type "set") := by decide +kernel
/-- the built-ins' names are none of the module's -/
structure NB (mg : Str → Option Value) : Prop where
  len : mg "len" = none
  isinstance : mg "isinstance" = none
  abs : mg "abs" = none
  min : mg "min" = none
  all : mg "all" = none
  any : mg "any" = none
  repr : mg "repr" = none
  sorted : mg "sorted" = none
  int : mg "int" = none
  bool : mg "bool" = none
  str : mg "str" = none
  tuple : mg "tuple" = none
  list : mg "list" = none
  dict : mg "dict" = none
  set : mg "set" = none
  range : mg "range" = none
end DL
namespace DL
open PySem L2 PySem.Spec PyProof.Rows
/-- a promise is monotone and asks for so many arguments -/
def Good (W : WF) (m : Nat) : Prop := (∀ ds n {k k' : D → Nat → Prop}, (∀ d n, k d n → k' d n) → W ds n k → W ds n k') ∧ ∀ ds n k, W ds n k → ds.length = m
def fW1 (p : D → Prop) (f : D → D) : WF := fun ds n k => ∃ a, ds = [a] ∧ p a ∧ k (f a) n
def fW2 (p : D → D → Prop) (f : D → D → D) : WF := fun ds n k => ∃ a b, ds = [a, b] ∧ p a b ∧ k (f a b) n
def fW3 (p : D → D → D → Prop) (f : D → D → D → D) : WF := fun ds n k => ∃ a b c, ds = [a, b, c] ∧ p a b c ∧ k (f a b c) n
theorem fW1_good {p : D → Prop} {f : D → D} : Good (fW1 p f) 1 := ⟨fun ds n k k' h ⟨a, e, q, w⟩ => ⟨a, e, q, h _ _ w⟩, fun ds n k ⟨a, e, _⟩ => by rw [e]; rfl⟩
theorem fW2_good {p : D → D → Prop} {f : D → D → D} : Good (fW2 p f) 2 := ⟨fun ds n k k' h ⟨a, b, e, q, w⟩ => ⟨a, b, e, q, h _ _ w⟩, fun ds n k ⟨a, b, e, _⟩ => by rw [e]; rfl⟩
theorem fW3_good {p : D → D → D → Prop} {f : D → D → D → D} : Good (fW3 p f) 3 := ⟨fun ds n k k' h ⟨a, b, c, e, q, w⟩ => ⟨a, b, c, e, q, h _ _ w⟩, fun ds n k ⟨a, b, c, e, _⟩ => by rw [e]; rfl⟩
/-- a draw: any result of a kind, at a cost of mixed numbers -/
def dW1 (p : D → Prop) (c : D → Nat) (R : D → D → Prop) : WF := fun ds n k => ∃ a, ds = [.sta, a] ∧ p a ∧ c a ≤ n ∧ ∀ d n', R a d → n ≤ n' + c a → k d n'
def dW0 (c : Nat) (R : D → Prop) : WF := fun ds n k => ds = [.sta] ∧ c ≤ n ∧ ∀ d n', R d → n ≤ n' + c → k d n'
theorem dW1_good {p : D → Prop} {c : D → Nat} {R : D → D → Prop} : Good (dW1 p c R) 2 := ⟨fun ds n k k' h ⟨a, e, q, l, w⟩ => ⟨a, e, q, l, fun d n' r l => h _ _ (w d n' r l)⟩, fun ds n k ⟨a, e, _⟩ => by rw [e]; rfl⟩
theorem dW0_good {c : Nat} {R : D → Prop} : Good (dW0 c R) 1 := ⟨fun ds n k k' h ⟨e, l, w⟩ => ⟨e, l, fun d n' r l => h _ _ (w d n' r l)⟩, fun ds n k ⟨e, _⟩ => by rw [e]; rfl⟩
def okD (d : D) : Prop := (tyN d).isSome = true
def isNum : D → Bool
  | .int _ => true
  | _ => false
def isCnt : D → Bool
  | .int i => decide (0 ≤ i)
  | _ => false
end DL
namespace DL
open PySem L2 PySem.Spec PyProof.Rows
/-! ### dicts -/
def noOwE (env : DEnv) : DEnv := { env with sl := env.sl.map noOw }
theorem noOwE_at (env : DEnv) (j : Nat) : (noOwE env).at j = noOw (env.at j) := by
  unfold noOwE DEnv.at
  rw [List.getD_eq_getElem?_getD, List.getElem?_map, List.getD_eq_getElem?_getD]
  cases env.sl[j]? <;> rfl
section
variable {Φ Φ' : Phi} {z : Z} {S0 : Addr → Prop} {H0 H : Hp} {K : PySem.W.Frag} {ps : List (Option Addr)} {env : DEnv} {σ : L2.St}
/-- a new object is hidden while what goes into it is reckoned -/
theorem Rel.hideNew (r : Rel Φ z S0 H0 K ps env σ H) {q : Addr} {o : HO} (hΦ : Φ' z (Sx S0 (ps ++ [some q])) (L2.upd H q o)) (hq : H q = none) (ho : ∀ C dx fs, o ≠ .ins C dx fs := by (intro _ _ _ w; cases w)) :
    Rel Φ' z (Sx S0 (ps ++ [some q])) (L2.upd H q o) K (List.replicate env.sl.length none) (noOwE env) σ (L2.upd H q o) := by
  have mem : ∀ {p}, some p ∈ ps ++ [some q] → p ≠ q → some p ∈ ps := fun w ne => by
    rcases List.mem_append.mp w with w | w
    · exact w
    · simp at w; exact absurd w ne
  have dm : ∀ p, Sx S0 (ps ++ [some q]) p → L2.upd H q o p ≠ none := fun p hp => by
    by_cases e : p = q
    · subst e; rw [upd_same]; simp
    · rw [upd_ne e]; exact r.dom p (hp.imp id fun w => mem w e)
  refine ⟨by simp [noOwE], by simp [noOwE, r.lens], fun i j p h1 _ => absurd (List.mem_of_getElem? h1) none_rep, fun p h => absurd h none_rep, dm, fun p h => .inl (r.zs p h), fun p h => .inl (r.zf p h), fun p h => dm p (h.elim id fun w => absurd w none_rep), .refl, (show Sta z env.cr env.mr _ from r.sta.upd (r.sta.noneNe hq) (nostab_none hq) ho), fun j => ?_, hΦ⟩
  have hj := r.sl j
  have ev : Evx (hide (Sx S0 ps) H) (hide (Sx (Sx S0 (ps ++ [some q])) (List.replicate env.sl.length none)) (L2.upd H q o)) := .of_same fun p u e => by
    obtain ⟨n, e⟩ := hide_get.mp e
    have ne : p ≠ q := ne_of_none e hq
    refine hide_get.mpr ⟨fun w => ?_, by rw [upd_ne ne]; exact e⟩
    rcases w with w | w
    · exact n (w.imp id fun w => mem w ne)
    · exact none_rep w
  rw [noOwE_at]
  cases c : env.at j with
  | un => trivial
  | ow ds => trivial
  | da d =>
    rw [c] at hj
    obtain ⟨_, x, h2, h3⟩ := hj
    refine ⟨?_, x, h2, h3.evx ev⟩
    rw [List.getD_eq_getElem?_getD, List.getElem?_replicate]
    split <;> rfl
end
/-- the pairs of a display -/
def pairsW : List (ME × ME) → DEnv → (List (D × D) → DEnv → Prop) → Prop
  | [], env, k => k [] env
  | (mk, mv) :: r, env, k => mk env fun x e1 => mv e1 fun y e2 => pairsW r e2 fun ps e3 => k ((x, y) :: ps) e3
structure DPs (X : Cx) (Φ : Phi) (pos : Pos) (keys : List (Option Expr)) (values : List Expr) (ms : List (ME × ME)) : Prop where
  mono : ∀ m ∈ ms, (∀ env {k k' : D → DEnv → Prop}, (∀ d e, k d e → k' d e) → m.1 env k → m.1 env k') ∧ ∀ env {k k' : D → DEnv → Prop}, (∀ d e, k d e → k' d e) → m.2 env k → m.2 env k'
  pps : PPs X pos keys values (ms.map fun m => (tD Φ X.K m.1, tD Φ X.K m.2))
theorem pairsW_mono : ∀ {ms : List (ME × ME)} (_ : ∀ m ∈ ms, (∀ env {k k' : D → DEnv → Prop}, (∀ d e, k d e → k' d e) → m.1 env k → m.1 env k') ∧ ∀ env {k k' : D → DEnv → Prop}, (∀ d e, k d e → k' d e) → m.2 env k → m.2 env k')
    (env : DEnv) {k k' : List (D × D) → DEnv → Prop}, (∀ d e, k d e → k' d e) → pairsW ms env k → pairsW ms env k'
  | [], _, env, k, k', h, q => h _ _ q
  | (mk, mv) :: r, hm, env, k, k', h, q => by
    unfold pairsW at q ⊢
    exact (hm _ (List.mem_cons_self ..)).1 env (fun x e1 q => (hm _ (List.mem_cons_self ..)).2 e1 (fun y e2 q => pairsW_mono (fun m w => hm m (List.mem_cons_of_mem _ w)) e2 (fun ps e3 q => h _ _ q) q) q) q
def keyD : D → Option Key
  | .int i => some (.inl i)
  | .str x => some (.inr x)
  | _ => none
def keysD : List (D × D) → Option (List Key)
  | [] => some []
  | (k, _) :: r => match keyD k, keysD r with
    | some a, some b => some (a :: b)
    | _, _ => none
/-- the datum of a dict's display -/
def dictD (ks : List Key) (ds : List D) : Option D := if ks = frKeys then (match ds with | [f, n, .int m] => if 0 ≤ m then some (.frm f n) else none | _ => none) else some (.dct ks ds)
section
variable {X : Cx} {Φ : Phi} {pos : Pos}
theorem dps_nil : DPs X Φ pos [] [] [] := ⟨fun m h => by simp at h, pps_nil⟩
theorem dps_cons {k v : Expr} {ks : List (Option Expr)} {vs : List Expr} {mk mv : ME} {ms : List (ME × ME)} (hk : DE X Φ k mk) (hv : DE X Φ v mv) (hr : DPs X Φ pos ks vs ms) : DPs X Φ pos (some k :: ks) (v :: vs) ((mk, mv) :: ms) :=
  ⟨fun m h => by rcases List.mem_cons.mp h with rfl | h; exact ⟨hk.mono, hv.mono⟩; exact hr.mono m h, pps_cons hk.pe hv.pe hr.pps⟩
theorem pairs_of {Φ : Phi} {z : Z} {S0 : Addr → Prop} {H0 : Hp} {K : PySem.W.Frag} {n : Nat} {σ : L2.St} : ∀ {ms : List (ME × ME)} (_ : ∀ m ∈ ms, (∀ env {k k' : D → DEnv → Prop}, (∀ d e, k d e → k' d e) → m.1 env k → m.1 env k') ∧ ∀ env {k k' : D → DEnv → Prop}, (∀ d e, k d e → k' d e) → m.2 env k → m.2 env k')
    {env : DEnv} {H : Hp} {Q : List (V × V) → Hp → Prop}, Rel Φ z S0 H0 K (List.replicate n none) env σ H → (pairsW ms env fun ps e => ∀ vs H', Rel Φ z S0 H0 K (List.replicate n none) e σ H' → Ext (Zs z) S0 H H' → IsA z K (hide S0 H') (vs.map (·.1)) (ps.map (·.1)) → IsA z K (hide S0 H') (vs.map (·.2)) (ps.map (·.2)) → Q vs H') →
    tPairs (ms.map fun m => (tD Φ K m.1, tD Φ K m.2)) σ H Q
  | [], _, env, H, Q, r, q => q [] H r .refl .nil .nil
  | (mk, mv) :: ms, hm, env, H, Q, r, q => by
    have sub : ∀ {H1 H2 : Hp}, Ext (Mu z (List.replicate n none)) S0 H1 H2 → Ext (Zs z) S0 H1 H2 := fun x => x.mono (fun p w => w.elim id fun w => absurd w none_rep) fun _ w => w
    have un : ∀ {G : Hp} {v : V} {d : D}, Is z K (hide (Sx S0 (List.replicate n none)) G) v d → Is z K (hide S0 G) v d := fun i => i.evx (.of_same (hide_mono fun p w => .inl w))
    refine ⟨z, S0, H0, _, env, r, (hm _ (List.mem_cons_self ..)).1 env (fun x e1 q => ?_) q⟩
    intro v H1 r1 x1 i1
    refine ⟨z, S0, H0, _, e1, r1, (hm _ (List.mem_cons_self ..)).2 e1 (fun y e2 q => ?_) q⟩
    intro u H2 r2 x2 i2
    refine pairs_of (fun m w => hm m (List.mem_cons_of_mem _ w)) r2 (pairsW_mono (fun m w => hm m (List.mem_cons_of_mem _ w)) e2 (fun ps e3 q => ?_) q)
    intro vs H3 r3 x3 k1 k2
    have ev : ∀ {G G' : Hp}, Ext (Zs z) S0 G G' → Evx (hide S0 G) (hide S0 G') := fun x => x.hide fun p w => r.zs p w
    exact q _ H3 r3 ((sub x1).trans ((sub x2).trans x3)) (.cons ((un i1).evx ((ev (sub x2)).trans (ev x3))) k1) (.cons ((un i2).evx (ev x3)) k2)
theorem mergeK_nodup : ∀ (more acc : List (Key × V)), ((acc ++ more).map (·.1)).Nodup → mergeK acc more = acc ++ more
  | [], acc, _ => by simp [mergeK]
  | kv :: more, acc, h => by
    have e : putK acc kv.1 kv.2 = acc ++ [kv] := by
      unfold putK
      rw [if_neg]
      intro w
      obtain ⟨p, hp, ep⟩ := List.any_eq_true.mp w
      rw [List.map_append, List.nodup_append] at h
      exact h.2.2 p.1 (List.mem_map_of_mem hp) kv.1 (by simp) (by simpa using ep)
    show mergeK (putK acc kv.1 kv.2) more = _
    rw [e, mergeK_nodup more (acc ++ [kv]) (by simpa using h)]
    simp
theorem keysD_is {z : Z} {K : PySem.W.Frag} {G : Hp} : ∀ {vs : List (V × V)} {ps : List (D × D)} {ks : List Key}, IsA z K G (vs.map (·.1)) (ps.map (·.1)) → vs.length = ps.length → keysD ps = some ks → vs = (ks.zip (vs.map (·.2))).map (fun kv => (kV kv.1, kv.2)) ∧ ks.length = vs.length
  | [], [], ks, _, _, e => by simp [keysD] at e; subst e; simp
  | [], _ :: _, ks, _, l, e => by simp at l
  | _ :: _, [], ks, _, l, e => by simp at l
  | (v, u) :: vs, (k, d) :: ps, ks, h, l, e => by
    unfold keysD at e
    cases e1 : keyD k with
    | none => rw [e1] at e; simp at e
    | some a =>
      cases e2 : keysD ps with
      | none => rw [e1, e2] at e; simp at e
      | some b =>
        rw [e1, e2] at e
        simp at e
        subst e
        cases h with
        | cons h1 t1 =>
          obtain ⟨i1, i2⟩ := keysD_is t1 (by simpa using l) e2
          have ev : v = kV a := by
            cases k <;> simp [keyD] at e1 <;> subst e1 <;> cases h1 <;> rfl
          refine ⟨?_, by simp [i2]⟩
          simp only [List.map_cons, List.zip_cons_cons]
          rw [← i1, ev]
/-- {k: v, ..} -/
def mDisp (ms : List (ME × ME)) : ME := fun env k => pairsW ms (noOwE env) fun ps e => ∃ ks d, keysD ps = some ks ∧ ks.Nodup ∧ ps.length ≤ 15 ∧ dictD ks (ps.map (·.2)) = some d ∧ k d { env with cr := e.cr, mr := e.mr }
theorem pairsW_len : ∀ (ms : List (ME × ME)) (hm : ∀ m ∈ ms, (∀ env {k k' : D → DEnv → Prop}, (∀ d e, k d e → k' d e) → m.1 env k → m.1 env k') ∧ ∀ env {k k' : D → DEnv → Prop}, (∀ d e, k d e → k' d e) → m.2 env k → m.2 env k') (env : DEnv) (k : List (D × D) → DEnv → Prop), pairsW ms env k → pairsW ms env fun ps e => k ps e ∧ ps.length = ms.length
  | [], _, env, k, q => ⟨q, rfl⟩
  | (mk, mv) :: r, hm, env, k, q => by
    unfold pairsW at q ⊢
    exact (hm _ (List.mem_cons_self ..)).1 env (fun x e1 q => (hm _ (List.mem_cons_self ..)).2 e1 (fun y e2 q => pairsW_mono (fun m w => hm m (List.mem_cons_of_mem _ w)) e2 (fun ps e3 q => ⟨q.1, by simp [q.2]⟩) (pairsW_len r (fun m w => hm m (List.mem_cons_of_mem _ w)) e2 _ q)) q) q
theorem is_dictD {z : Z} {K : PySem.W.Frag} {S : Addr → Prop} {H : Hp} {q : Addr} {ks : List Key} {xs : List V} {ds : List D} {d : D} (hS : ¬ S q) (hd : dictD ks ds = some d) (l : ks.length = xs.length) (i : IsA z K (hide S (L2.upd H q (.dK (ks.zip xs)))) xs ds) :
    Is z K (hide S (L2.upd H q (.dK (ks.zip xs)))) (.ref q) d := by
  have at_ : hide S (L2.upd H q (.dK (ks.zip xs))) q = some (.dK (ks.zip xs)) := hide_get.mpr ⟨hS, upd_same⟩
  unfold dictD at hd
  split at hd
  · rename_i ek
    split at hd
    · rename_i f n m
      split at hd
      · rename_i hm
        cases hd
        cases i with
        | cons i1 t1 =>
          cases t1 with
          | cons i2 t2 =>
            cases t2 with
            | cons i3 t3 =>
              cases t3; cases i3
              subst ek
              exact .frm at_ hm i1 i2
      · cases hd
    · cases hd
  · rename_i ek
    cases hd
    exact .dct at_ l ek i
theorem de_disp {keys : List (Option Expr)} {values : List Expr} {ms : List (ME × ME)} (h : DPs X (PhiW X.w) pos keys values ms) (hall : keys.all (·.isSome) = true := by rfl) (hl : keys.length = values.length := by rfl) (h0 : keys ≠ [] := by (intro h; cases h))
    (h15 : keys.length ≤ 15 := by decide) (hw : PhiOk Φ X.w := by first | exact fun _ _ _ h => h | exact fun _ _ _ h => h.1) : DE X Φ (.Dict keys values pos) (mDisp ms) := by
  refine ⟨fun env k k' hk q => pairsW_mono h.mono _ (fun ps e ⟨ks, d, e1, e2, e3, e4, q⟩ => ⟨ks, d, e1, e2, e3, e4, hk _ _ q⟩) q, pe_imp (pe_disp h.pps hall hl h0 h15) fun σ H Q ⟨z, S0, H0, ps, env, r, q⟩ => ?_⟩
  intro p hp
  have hz := r.sta.noneNe hp
  have nD : ¬ Sx S0 ps p := fun w => r.dom p w hp
  have r1 := r.hideNew (Φ' := PhiW X.w) (o := .dK []) (hw _ _ _ r.phi) hp
  refine pairs_of h.mono r1 (pairsW_mono h.mono _ (fun pp e ⟨⟨ks, d, e1, e2, e3, e4, q⟩, e5⟩ => ?_) (pairsW_len ms h.mono _ _ q))
  intro vs H2 r2 x2 k1 k2
  have hlen : vs.length = pp.length := by
    have := k1.length
    simpa using this
  have hH2 : H2 p = some (.dK []) := by
    have hnz : ¬ Zs z p := fun w => nD (.inl (r.zs _ w))
    obtain ⟨o', h', v, _⟩ := x2 p _ hnz upd_same
    rw [v.dK (by simp [frKeys])] at h'
    exact h'
  obtain ⟨f1, f2⟩ := keysD_is k1 hlen e1
  have lz : ks.length = (vs.map (·.2)).length := by simpa using f2
  refine ⟨hH2, ks.zip (vs.map (·.2)), f1, by rw [List.length_zip, lz, Nat.min_self, List.length_map, hlen]; exact e3, ?_⟩
  rw [mergeK_nodup _ [] (by simpa [zip_keys lz] using e2), List.nil_append]
  have x12 : Ext (Zs z) (Sx S0 ps) H H2 := (Ext.of_same (same_upd hp)).trans (x2.mono (fun _ w => w) fun p w => w.imp id fun w => List.mem_append_left _ w)
  have x3 : Ext (Zs z) (Sx S0 ps) H (L2.upd H2 p (.dK (ks.zip (vs.map (·.2))))) := fun b o hb eb => by
    have ne : b ≠ p := ne_of_none eb hp
    rw [upd_ne ne]
    exact x12 b o hb eb
  refine q _ _ (r.call x3 (r2.sta.upd hz (nostab_at hH2 nostab_dK))) x3.loc (is_dictD nD e4 lz (k2.evx fun b o eb => ?_))
  obtain ⟨nb, eb⟩ := hide_get.mp eb
  have ne : b ≠ p := fun w => nb (.inr (by rw [w]; simp))
  exact ⟨o, hide_get.mpr ⟨fun w => nb (w.imp id fun w => List.mem_append_left _ w), by rw [upd_ne ne]; exact eb⟩, .same o⟩
/-- {} -/
def mDnew : ME := fun env k => k (.dct [] []) env
theorem de_dnew : DE X Φ (.Dict [] [] pos) mDnew := by
  refine ⟨fun env k k' hk q => hk _ _ q, pe_imp pe_dnewK fun σ H Q ⟨z, S0, H0, ps, env, r, q⟩ => ?_⟩
  intro p hp
  refine q _ _ (r.same (grow_upd hp)) (.of_same (grow_upd hp).same) (.dct (xs := []) (hide_upd r.dom hp) rfl (by simp [frKeys]) .nil)
/-- d[k] -/
def lookD (ks : List Key) (ds : List D) (k : Key) : Option D := ((ks.zip ds).find? fun p => decide (p.1 = k)).map (·.2)
def dgW : W2 := fun x y k => match x, keyD y with
  | .frm f n, some (.inr s) => if s = "fields" then k f else if s = "numbers" then k n else s = "marks" ∧ ∀ m : Int, 0 ≤ m → k (.int m)
  | .fra f n, some (.inr s) => if s = "fields" then k f else s = "numbers" ∧ k n
  | .dct ks ds, some key => ∃ d, lookD ks ds key = some d ∧ k d
  | _, _ => False
theorem lookD_val {z : Z} {K : PySem.W.Frag} {G : Hp} {k : Key} : ∀ {ks : List Key} {xs : List V} {ds : List D} {d : D}, IsA z K G xs ds → ks.length = xs.length → lookD ks ds k = some d → ∃ v, valV (ks.zip xs) k = some v ∧ Is z K G v d
  | [], _, _, d, _, _, e => by simp [lookD] at e
  | a :: ks, [], _, d, i, l, e => by simp at l
  | a :: ks, x :: xs, _, d, .cons h t, l, e => by
    unfold lookD at e
    rw [List.zip_cons_cons, List.find?_cons] at e
    by_cases ak : a = k
    · simp [ak] at e
      subst e
      exact ⟨x, by simp [valV, ak], h⟩
    · simp [ak] at e
      obtain ⟨v, e1, i1⟩ := lookD_val t (by simpa using l) (k := k) (d := d) (by unfold lookD; simpa using e)
      refine ⟨v, ?_, i1⟩
      unfold valV at e1 ⊢
      rw [List.zip_cons_cons, List.find?_cons]
      simp [ak]
      simpa using e1
theorem keyD_kV {z : Z} {K : PySem.W.Frag} {G : Hp} {v : V} {d : D} {k : Key} (h : Is z K G v d) (e : keyD d = some k) : v = kV k := by
  cases d <;> simp [keyD] at e <;> subst e <;> cases h <;> rfl
theorem str_ne1 : ¬ ((.inr "fields" : Key) = .inr "numbers") := by decide +kernel
theorem str_ne2 : ¬ ((.inr "fields" : Key) = .inr "marks") := by decide +kernel
theorem str_ne3 : ¬ ((.inr "numbers" : Key) = .inr "marks") := by decide +kernel
theorem de_dget {o i : Expr} {mo mi : ME} (hu : X.A.units + 1 < cLine) (ho : DE X Φ o mo) (hi : DE X Φ i mi) (hs : NoSl i) : DE X Φ (.Subscript o i pos) (mBin dgW mo mi) := by
  have hw : ∀ x y {k k' : KD}, (∀ d, k d → k' d) → dgW x y k → dgW x y k' := fun x y k k' h q => by
    revert q
    unfold dgW
    split
    · split
      · exact fun q => h _ q
      · split
        · exact fun q => h _ q
        · exact fun q => ⟨q.1, fun m hm => h _ (q.2 m hm)⟩
    · split
      · exact fun q => h _ q
      · exact fun q => ⟨q.1, h _ q.2⟩
    · exact fun ⟨d, e, q⟩ => ⟨d, e, h _ q⟩
    · exact fun q => q.elim
  refine ⟨mBin_mono hw ho.mono hi.mono, pe_imp (pe_dget hu ho.pe hi.pe hs) fun σ H Q ⟨z, S0, H0, ps, env, r, q⟩ => ⟨z, S0, H0, ps, env, r, ho.mono env (fun x e1 q => ?_) q⟩⟩
  intro v H1 r1 x1 i1
  refine ⟨z, S0, H0, ps, e1, r1, hi.mono e1 (fun y e2 q => ?_) q⟩
  intro u H2 r2 x2 i2
  have i1' := r1.isK i1 x2
  revert q
  unfold dgW
  split
  · rename_i f n s es
    intro q
    cases keyD_kV i2 es
    cases i1' with
    | frm g hm jf jn =>
      have g' := hide_same _ _ g
      split at q
      · rename_i e; subst e
        exact ⟨_, _, rfl, .inl ⟨_, _, .inl g', rfl, (valV_pos (k := (.inr "fields" : Key)) rfl).symm⟩, q _ H2 r2 (x1.trans x2) jf⟩
      · split at q
        · rename_i _ e; subst e
          exact ⟨_, _, rfl, .inl ⟨_, _, .inl g', rfl, by rw [valV_neg str_ne1, valV_pos rfl]⟩, q _ H2 r2 (x1.trans x2) jn⟩
        · obtain ⟨e, q⟩ := q
          subst e
          exact ⟨_, _, rfl, .inl ⟨_, _, .inl g', rfl, by rw [valV_neg str_ne2, valV_neg str_ne3, valV_pos rfl]⟩, q _ hm _ H2 r2 (x1.trans x2) (.int _)⟩
  · rename_i f n s es
    intro q
    cases keyD_kV i2 es
    cases i1' with
    | fra g jf jn =>
      obtain ⟨m, _, g', _⟩ := r2.sta.fr _ _ _ g
      split at q
      · rename_i e; subst e
        exact ⟨_, _, rfl, .inl ⟨_, _, .inl g', rfl, (valV_pos (k := (.inr "fields" : Key)) rfl).symm⟩, q _ H2 r2 (x1.trans x2) jf⟩
      · obtain ⟨e, q⟩ := q
        subst e
        exact ⟨_, _, rfl, .inl ⟨_, _, .inl g', rfl, by rw [valV_neg str_ne1, valV_pos rfl]⟩, q _ H2 r2 (x1.trans x2) jn⟩
  · rename_i ks ds key es
    rintro ⟨d, e, q⟩
    cases keyD_kV i2 es
    cases i1' with
    | dct g l _ t =>
      obtain ⟨v', e1, iv⟩ := lookD_val t l e
      exact ⟨_, _, rfl, .inl ⟨_, _, .inl (hide_same _ _ g), rfl, e1.symm⟩, q _ H2 r2 (x1.trans x2) iv⟩
  · exact fun q => q.elim
/-- frame["marks"] = e -/
def putW (x y v : D) (P : Prop) : Prop := ∃ f n m, x = .frm f n ∧ y = .str "marks" ∧ v = .int m ∧ 0 ≤ m ∧ P
def mDput (mo mi mv : ME) : MS := fun env k => mv env fun v e1 => mo e1 fun x e2 => mi e2 fun y e3 => putW x y v (k.nx e3)
theorem ds_dput {o i e : Expr} {mo mi mv : ME} {pos' : Pos} (hu : X.A.units + 1 < cLine) (ho : DE X Φ o mo) (hi : DE X Φ i mi) (hv : DE X Φ e mv) (hs : swapsWith e (some (.Subscript o i pos')) pos.line X.env = pure false := by rfl) :
    DS X Φ (.Assign [.Subscript o i pos'] e pos) (mDput mo mi mv) := by
  refine ⟨fun env k k' h q => hv.mono env (fun v e1 q => ho.mono e1 (fun x e2 q => hi.mono e2 (fun y e3 q => ?_) q) q) q, ps_imp (ps_dput hu ho.pe hi.pe hv.pe hs) fun E σ H ⟨z, S0, H0, ps, env, r, q⟩ => ⟨z, S0, H0, ps, env, r, hv.mono env (fun v e1 q => ?_) q⟩⟩
  · obtain ⟨f, n, m, h1, h2, h3, h4, q⟩ := q
    exact ⟨f, n, m, h1, h2, h3, h4, h.nx _ q⟩
  · intro v' H1 r1 x1 i1
    refine ⟨z, S0, H0, ps, e1, r1, ho.mono e1 (fun x e2 q => ?_) q⟩
    intro u H2 r2 x2 i2
    refine ⟨z, S0, H0, ps, e2, r2, hi.mono e2 (fun y e3 q => ?_) q⟩
    intro t H3 r3 x3 i3
    obtain ⟨f, n, m, rfl, rfl, rfl, hm, q⟩ := q
    · cases i1; cases i3
      cases r2.isK i2 x3 with
      | @frm a vf vn m0 f n g hm0 jf jn =>
        obtain ⟨ng, g'⟩ := hide_get.mp g
        have pe : putK [((.inr "fields" : Key), vf), (.inr "numbers", vn), (.inr "marks", V.int m0)] (.inr "marks") (V.int m) = [((.inr "fields" : Key), vf), (.inr "numbers", vn), (.inr "marks", V.int m)] := by
          unfold putK
          rw [if_pos (by simp)]
          simp only [List.map_cons, List.map_nil, if_neg str_ne2, if_neg str_ne3, if_pos]
        refine ⟨a, L2.upd H3 a (frO vf vn m), rfl, .inl ⟨_, .inr "marks", g', rfl, by show 3 < sizeLine; decide, ?_⟩, ?_⟩
        · rw [pe]; rfl
        have ext : Ext (Zs z) (Sx S0 ps) H3 (L2.upd H3 a (frO vf vn m)) := fun b o hb eb => by
          by_cases hba : b = a
          · subst hba
            rw [g'] at eb
            cases eb
            exact ⟨_, upd_same, .frm _ _ _ _ hm, fun w => absurd w ng⟩
          · rw [upd_ne hba]; exact ⟨o, eb, .same o, fun _ _ => rfl⟩
        have nz : ¬ Zt z a := fun w => by
          rcases w with ⟨w, e, k⟩ | k
          · obtain ⟨_, _, ws, cs, h1, h2, h3, _⟩ := (r3.sta.dr w e).ex
            rcases k with rfl | rfl | rfl
            · exact ne_of g' h1 (by intro w; unfold frO at w; cases w) rfl
            · exact ne_of g' h2 (by intro w; unfold frO at w; cases w) rfl
            · exact ne_of g' h3 (by intro w; unfold frO at w; cases w) rfl
          · exact ng (.inl (r3.zf _ k))
        have st : Sta z e3.cr e3.mr (L2.upd H3 a (frO vf vn m)) := r3.sta.upd nz (nostab_at g' nostab_dK) (fun _ _ _ w => by unfold frO at w; cases w)
        exact q _ _ _ (r3.call ext st) (.of_ext (x1.trans (x2.trans (x3.trans ext.loc))))
end
end DL
namespace DL
open PySem L2 PySem.Spec PyProof.Rows
/-! ### set(xs) of ints and texts -/
variable {κ : Type} [DecidableEq κ]
/-- what is met first, among the first i -/
def met (val : Nat → κ) : Nat → List κ
  | 0 => []
  | i + 1 => if val i ∈ met val i then met val i else met val i ++ [val i]
theorem met_len (val : Nat → κ) : ∀ i, (met val i).length ≤ i
  | 0 => Nat.le_refl _
  | i + 1 => by
    have ih := met_len val i
    unfold met
    split
    · omega
    · rw [List.length_append]; simp; omega
abbrev setO0 (led : Bool) : Obj := { cls := .type "set", dict := none, data := .set #[] 0 (.fresh 0 0 led) }
section
variable {prog : Program} {w : World} {A : Around} {R : Result → Shared → Prop} {I : Addr} {fp wr : List Addr} {G : Array GenState → Array GenState → Prop} {n : Nat} {P : Nat → Value → Prop} {St : Nat → Shared → Prop}
theorem loopK {knd : KeyKind prog w κ} (W : WalksS prog w A.in1 I fp wr G n P St) (S : Addr) (hSf : S ∉ fp) (val : Nat → κ) (hval : ∀ i v, P i v → knd.is (val i) v = true ∧ v.scannable = true) (hb : n + 1 < scanBound) :
    ∀ (k i : Nat) (s : Shared), n - i = k → i ≤ n → St i s → s.heap.SetOf knd S (fun x => decide (x ∈ met val i)) (met val i).length →
      (∀ s', Moved (S :: wr) G s s' → s'.heap.SetOf knd S (fun x => decide (x ∈ met val n)) (met val n).length → R (.ok (.ret .none)) s') → codeAny (model prog w) A (.builtin "set.update.loop" ⟨[.ref S, .ref I], []⟩) R s := by
  have nw : S ∉ wr := fun h => hSf (W.sub _ h)
  have sub : ∀ b ∈ wr, b ∈ S :: wr := fun b => List.mem_cons_of_mem _
  have keep : ∀ {j : Nat} {s s' : Shared}, Moved wr G s s' → s.heap.SetOf knd S (fun x => decide (x ∈ met val j)) (met val j).length → s'.heap.SetOf knd S (fun x => decide (x ∈ met val j)) (met val j).length :=
    fun hm ⟨o, es, ep, t, ho, rest⟩ => ⟨o, es, ep, t, hm.heap S _ nw ho, rest⟩
  intro k
  induction k with
  | zero =>
    intro i s hk hi hst hS hR
    obtain rfl : i = n := by omega
    refine codeAny_builtin PyProof.Rows.F.entry_set_update_loop ?_
    rw [Around.under_plainId PyProof.Rows.F.plain_set_update_loop _]
    show wpAny _ A.in1 (pyNext (.ref I) >>= _) _ _ s
    exact wpAny_bind (W.done s _ _ hst fun s' hm => wpAny_pure (hR s' (hm.mono sub) (keep hm hS)))
  | succ k ih =>
    intro i s hk hi hst hS hR
    have lt : i < n := by omega
    refine codeAny_builtin PyProof.Rows.F.entry_set_update_loop ?_
    rw [Around.under_plainId PyProof.Rows.F.plain_set_update_loop _]
    show wpAny _ A.in1 (pyNext (.ref I) >>= _) _ _ s
    refine wpAny_bind (W.item i s _ _ lt hst fun v s' hP hst' hm => ?_)
    obtain ⟨iv, sc⟩ := hval i v hP
    show wpAny _ A.in1 (holding [v] (setAdd S v) >>= _) _ _ s'
    refine wpAny_bind (wpAny_holding ?_)
    unfold setAdd
    refine wpAny_holding (wpAny_bind (knd.pyHash (k := val i) iv ?_))
    have room : (met val i).length + 1 < scanBound := by have := met_len val i; omega
    refine wpAny_setAddHashed_of (knd := knd) (s := { s' with toks := s'.toks + 1 }) iv sc (show s'.heap.SetOf knd S _ _ from keep hm hS) room fun h' hsb hS2 => ?_
    have hSi : h'.SetOf knd S (fun x => decide (x ∈ met val (i + 1))) (met val (i + 1)).length := by
      have e1 : (fun j => decide (j ∈ met val i) || decide (j = val i)) = fun x => decide (x ∈ met val (i + 1)) := by
        funext x
        by_cases hx : val i ∈ met val i
        · have : met val (i + 1) = met val i := by rw [met, if_pos hx]
          rw [this]
          by_cases ex : x = val i
          · subst ex; simp [hx]
          · simp [ex]
        · have : met val (i + 1) = met val i ++ [val i] := by rw [met, if_neg hx]
          rw [this]; simp
      have e2 : (if decide (val i ∈ met val i) = true then (met val i).length else (met val i).length + 1) = (met val (i + 1)).length := by
        by_cases hx : val i ∈ met val i
        · rw [met, if_pos hx]; simp [hx]
        · rw [met, if_neg hx]; simp [hx]
      rw [e1, e2] at hS2
      exact hS2
    have off : ∀ b, b ≠ S → h'.get? b = s'.heap.get? b := fun b hb => hsb.2 b hb
    refine wpAny_pure ⟨plainId_quiet PyProof.Rows.F.plain_set_update_loop _, ih (i + 1) _ (by omega) lt (W.frame _ s' _ _ hst' (Nat.le_succ _) fun b hb o e => ?_) hSi fun s'' hm'' hS'' => hR s'' (Moved.trans W.gtrans ((hm.mono sub).then_heap (Nat.le_succ _) fun b o hb e => ?_) hm'') hS''⟩
    · rw [off b fun h => hSf (h ▸ hb)]; exact e
    · rw [off b fun h => hb (h ▸ List.mem_cons_self)]; exact e
end
section
variable {prog : Program} {w : World} {A : Around} {E : Value → Shared → Prop} {s : Shared}
set_option maxHeartbeats 16000000 in
/-- set(l), l a list or a tuple -/
theorem call_setK {knd : KeyKind prog w κ} {l : Addr} {items : Array Value} {T : String} {val : Nat → κ} {Q : Value → Shared → Prop} (hh : A.handled = none) (hT0 : (T = "list" ∧ s.heap.IsList l items) ∨ (T = "tuple" ∧ s.heap.IsTuple l items))
    (hval : ∀ (i : Nat) (v : Value), items[i]? = some v → knd.is (val i) v = true ∧ v.scannable = true) (hb : items.size + 1 < scanBound)
    (h : ∀ (h' : Heap) (tk : Nat), h'.SetOf knd s.heap.objs.size (fun x => decide (x ∈ met val items.size)) (met val items.size).length → (∀ b o, b < s.heap.objs.size → s.heap.get? b = some o → h'.get? b = some o) → Q (.ref s.heap.objs.size) { s with heap := h', toks := tk }) :
    wpAny (model prog w) A (call (.type "set") [.ref l]) Q E s := by
  obtain ⟨c, tl, hmro⟩ := PySem.F.called_set.mro
  have c1 := PySem.F.called_set.made; have c2 := PySem.F.called_set.sub; have c3 := PySem.F.called_set.notType; have c4 := PySem.F.called_set.canCreate
  have c5 := PySem.F.typeCall_set_1 (.ref l)
  refine wpAny_call (codeAny_of_tree ?_); show wpAny _ _ (callAny (.type "set") _) _ _ _; refine wpAny_pure ⟨Code.quiet_builtin _ (by decide +kernel), codeAny_builtin PySem.F.entry_type_call ?_⟩
  rw [Around.under_plain (weight_type_call_type "set" [.ref l] []) (by rfl)]
  repeat (any_goals first | assumption | wp_step)
  refine codeAny_mono (code_set_new_1 (.ref l) (E := E) (Q₁ := fun obj s₁ => ∃ led : Bool, obj = .ref s.heap.objs.size ∧ s₁ = { s with heap := s.heap.push (setO0 led) }) (fun led => ⟨led, rfl, rfl⟩)) fun r s₁ hr => ?_
  match r, hr with
  | .error e, hr => exact hr
  | .ok .next, hr => exact hr.elim
  | .ok .brk, hr => exact hr.elim
  | .ok .cont, hr => exact hr.elim
  | .ok (.ret obj), hr =>
    obtain ⟨led, rfl, rfl⟩ := hr
    have hS : (s.heap.push (setO0 led)).get? s.heap.objs.size = some (setO0 led) := Heap.get?_push_size _ rfl
    have hT : Shared.TypeIs { s with heap := s.heap.push (setO0 led) } (.ref s.heap.objs.size) "set" := ⟨_, hS, rfl⟩
    have i1 := PySem.F.called_set.init.lookup; have i2 := PySem.F.called_set.init.bind (.ref s.heap.objs.size)
    repeat (any_goals first | assumption | wp_step)
    refine codeAny_mono (codeAny_call_builtin (R := wants (fun r s₂ => r = .none ∧ ∃ h' tk, s₂ = { s with heap := h', toks := tk } ∧ h'.SetOf knd s.heap.objs.size (fun x => decide (x ∈ met val items.size)) (met val items.size).length ∧ ∀ b o, b < s.heap.objs.size → s.heap.get? b = some o → h'.get? b = some o) E)
      PySem.F.called_set.init.plain PySem.F.entry_set_init (check_set_init_1 hT ?_)) fun r₂ s₂ hr₂ => ?_
    · have lS : l < s.heap.objs.size := hT0.elim (fun h => by obtain ⟨_, o, e, _⟩ := h; exact Heap.lt_size e) fun h => by obtain ⟨_, o, e, _⟩ := h; exact Heap.lt_size e
      have neI : l ≠ (s.heap.push (setO0 led)).objs.size := by rw [Heap.size_push]; exact Nat.ne_of_lt (Nat.lt_succ_of_lt lS)
      have nf : s.heap.objs.size ∉ [(s.heap.push (setO0 led)).objs.size, l] := by
        rw [Heap.size_push]
        intro w
        simp only [List.mem_cons, List.not_mem_nil, or_false] at w
        exact w.elim (Nat.ne_of_lt (Nat.lt_succ_self _)) (Nat.ne_of_gt lS)
      have hh3 : A.in1.in1.in1.handled = none := hh
      have last : ∀ (o : Obj) (s' : Shared), Moved (s.heap.objs.size :: [(s.heap.push (setO0 led)).objs.size]) (fun a b => b = a) { s with heap := (s.heap.push (setO0 led)).push o } s' → ∀ b u, b < s.heap.objs.size → s.heap.get? b = some u → s'.heap.get? b = some u := fun o s' hm b u hb e => by
        refine hm.heap b u (fun w => ?_) (Heap.get?_push_of_some _ (Heap.get?_push_of_some _ e))
        rw [Heap.size_push] at w
        simp only [List.mem_cons, List.not_mem_nil, or_false] at w
        exact w.elim (Nat.ne_of_lt hb) (Nat.ne_of_lt (Nat.lt_succ_of_lt hb))
      have first0 : ∀ o : Obj, ((s.heap.push (setO0 led)).push o).SetOf knd s.heap.objs.size (fun x => decide (x ∈ met val 0)) (met val 0).length := fun o =>
        PyProof.Rows.SetOf_congr ((PyProof.Rows.setObjOf_fresh (knd := knd) led).setOf (Heap.get?_push_of_some _ hS) (by unfold scanBound; omega)) (fun _ => by simp [met]) rfl
      rcases hT0 with ⟨_, hl⟩ | ⟨_, hl⟩
      · obtain ⟨⟨ocls, odict, odata, oslots⟩, hol, hcl, nl, hdl⟩ := id hl
        simp only at hcl hdl
        subst hcl hdl
        have ol : (s.heap.push (setO0 led)).get? l = some { cls := .type "list", dict := odict, data := .seq items nl, slots := oslots } := Heap.get?_push_of_some _ hol
        have t1 := PySem.F.sub_list_set; have t2 := PySem.F.sub_list_frozenset
        have t3 : (Value.type "list" == Value.type "dict") = false := by decide
        have hl1 : (s.heap.push (setO0 led)).IsList l items := ⟨_, ol, rfl, nl, rfl⟩
        unfold Builtin.«set.__init__» noKeywords Builtin.Frozenset.updateFrom; generalize hPI : pyIter = PI; wp_walk; subst hPI
        refine wpAny_pyIter_list hl1 (wpAny_bind (wpAny_runValue ?_))
        refine loopK (knd := knd) ((Walks.list hh3 _ l neI items).toS) s.heap.objs.size nf val hval hb (items.size - 0) 0 _ (by omega) (Nat.zero_le _) ⟨⟨_, Heap.get?_push_size _ rfl, rfl, rfl⟩, hl1.push _⟩ (first0 _) fun s' hm hS' => ?_
        have k4 := last _ s' hm
        obtain ⟨h', g', d', tk', os'⟩ := s'
        cases (hm.gens : g' = s.gens); cases (hm.drawn : d' = s.drawn); cases (hm.os : os' = s.os)
        exact wpAny_pure (wpAny_pure ⟨rfl, h', tk', rfl, hS', k4⟩)
      · obtain ⟨⟨ocls, odict, odata, oslots⟩, hol, hcl, nl, hdl⟩ := id hl
        simp only at hcl hdl
        subst hcl hdl
        have ol : (s.heap.push (setO0 led)).get? l = some { cls := .type "tuple", dict := odict, data := .seq items nl, slots := oslots } := Heap.get?_push_of_some _ hol
        have t1 := PySem.F.sub_tuple_set; have t2 := PySem.F.sub_tuple_frozenset
        have t3 : (Value.type "tuple" == Value.type "dict") = false := by decide
        have hl1 : (s.heap.push (setO0 led)).IsTuple l items := ⟨_, ol, rfl, nl, rfl⟩
        unfold Builtin.«set.__init__» noKeywords Builtin.Frozenset.updateFrom; generalize hPI : pyIter = PI; wp_walk; subst hPI
        refine wpAny_pyIter_tuple hl1 (wpAny_bind (wpAny_runValue ?_))
        refine loopK (knd := knd) ((Walks.tuple hh3 _ l neI items).toS) s.heap.objs.size nf val hval hb (items.size - 0) 0 _ (by omega) (Nat.zero_le _) ⟨⟨_, Heap.get?_push_size _ rfl, rfl, rfl⟩, hl1.push _⟩ (first0 _) fun s' hm hS' => ?_
        have k4 := last _ s' hm
        obtain ⟨h', g', d', tk', os'⟩ := s'
        cases (hm.gens : g' = s.gens); cases (hm.drawn : d' = s.drawn); cases (hm.os : os' = s.os)
        exact wpAny_pure (wpAny_pure ⟨rfl, h', tk', rfl, hS', k4⟩)
    · match r₂, hr₂ with
      | .error e, hr₂ => exact hr₂
      | .ok .next, hr₂ => exact hr₂.elim
      | .ok .brk, hr₂ => exact hr₂.elim
      | .ok .cont, hr₂ => exact hr₂.elim
      | .ok (.ret r), hr₂ =>
        obtain ⟨rfl, h', tk, rfl, hS', hk'⟩ := hr₂
        repeat (any_goals first | assumption | wp_step)
        exact h _ _ hS' hk'
end
end DL
namespace DL
open PySem L2 PySem.Spec PyProof.Rows
section
variable {X : Cx} {Φ : Phi} {pos : Pos}
/-! ### len(set(xs)) -/
def keysOf : List D → Option (List Key)
  | [] => some []
  | d :: ds => match keyD d, keysOf ds with
    | some a, some b => some (a :: b)
    | _, _ => none
theorem keysOf_is {z : Z} {K : PySem.W.Frag} {G : Hp} : ∀ {vs : List V} {ds : List D} {ks : List Key}, IsA z K G vs ds → keysOf ds = some ks → vs = ks.map kV
  | _, _, ks, .nil, e => by simp [keysOf] at e; subst e; rfl
  | _, _, ks, .cons (d := d) (ds := ds) h t, e => by
    unfold keysOf at e
    cases e1 : keyD d with
    | none => rw [e1] at e; simp at e
    | some a =>
      cases e2 : keysOf ds with
      | none => rw [e1, e2] at e; simp at e
      | some b =>
        rw [e1, e2] at e
        simp at e
        subst e
        rw [List.map_cons, keyD_kV h e1, keysOf_is t e2]
/-- how many different ones -/
def nDiff (ks : List Key) : Nat := (met (fun i => ks.getD i (.inl 0)) ks.length).length
theorem met_take {κ : Type} [DecidableEq κ] {ks : List κ} {d : κ} : ∀ i, i ≤ ks.length → (∀ x, x ∈ met (fun i => ks.getD i d) i ↔ x ∈ ks.take i) ∧ ((met (fun i => ks.getD i d) i).length = i ↔ (ks.take i).Nodup)
  | 0, _ => by simp [met]
  | i + 1, h => by
    obtain ⟨i1, i2⟩ := met_take (ks := ks) (d := d) i (by omega)
    have lt : i < ks.length := h
    have eg : ks.getD i d = ks[i] := by rw [List.getD_eq_getElem?_getD, List.getElem?_eq_getElem lt]; rfl
    have et : ks.take (i + 1) = ks.take i ++ [ks[i]] := by rw [List.take_add_one, List.getElem?_eq_getElem lt]; rfl
    have ml := met_len (fun i => ks.getD i d) i
    unfold met
    rw [eg, et]
    by_cases hm : ks[i] ∈ met (fun i => ks.getD i d) i
    · rw [if_pos hm]
      have hm2 := (i1 _).mp hm
      refine ⟨fun x => ?_, ?_⟩
      · rw [i1 x]
        constructor
        · intro w; exact List.mem_append_left _ w
        · intro w
          rcases List.mem_append.mp w with w | w
          · exact w
          · rw [List.mem_singleton.mp w]; exact hm2
      · constructor
        · intro w; omega
        · intro w
          rw [List.nodup_append] at w
          exact absurd rfl (w.2.2 _ hm2 _ (by simp))
    · rw [if_neg hm]
      have hm2 : ks[i] ∉ ks.take i := fun w => hm ((i1 _).mpr w)
      refine ⟨fun x => ?_, ?_⟩
      · rw [List.mem_append, List.mem_append, i1 x]
      · rw [List.length_append, List.nodup_append]
        simp only [List.length_singleton]
        constructor
        · intro w
          refine ⟨i2.mp (by omega), by simp, fun a ha b hb e => ?_⟩
          rw [List.mem_singleton] at hb
          subst hb e
          exact hm2 ha
        · intro w
          have := i2.mpr w.1
          omega
theorem nDiff_iff (ks : List Key) : nDiff ks = ks.length ↔ ks.Nodup := by
  have h := (met_take (ks := ks) (d := (.inl 0 : Key)) ks.length (Nat.le_refl _)).2
  rw [List.take_length] at h
  exact h
def lsW : W1 := fun x k => match x with
  | .lst ds => ∃ ks, keysOf ds = some ks ∧ ks.length + 1 < scanBound ∧ k (.int (nDiff ks))
  | .tup ds => ∃ ks, keysOf ds = some ks ∧ ks.length + 1 < scanBound ∧ k (.int (nDiff ks))
  | _ => False
theorem len_set_run {pins : List (Addr × Obj)} {σ : L2.St} {H : Hp} {s : Shared} {l : Addr} {ks : List Key} {Q : VK} {ex : Expr} (I : Inv X pins σ H s) (hc : X.calm = true) (hq : SqL X.K H l (ks.map kV) ∨ SqT X.K H l (ks.map kV)) (hb : ks.length + 1 < scanBound) (q : Q (.int (nDiff ks)) H) :
    wpAny (model X.prog X.w) X.A (call (.type "set") [.ref l]) (fun v s₁ => wpAny (model X.prog X.w) X.A (call (.builtin "len") [v]) (EP X pins σ Q) X.xe s₁) X.xe s := by
  have key : ∀ (its : List Value) (T : String), Vals (ks.map kV) its → (T = "list" ∧ s.heap.IsList l its.toArray) ∨ (T = "tuple" ∧ s.heap.IsTuple l its.toArray) →
      wpAny (model X.prog X.w) X.A (call (.type "set") [.ref l]) (fun v s₁ => wpAny (model X.prog X.w) X.A (call (.builtin "len") [v]) (EP X pins σ Q) X.xe s₁) X.xe s := fun its T r hT => by
    have sz : its.toArray.size = ks.length := by rw [List.size_toArray, ← r.length, List.length_map]
    refine call_setK (knd := mixKind X.prog X.w) (val := fun i => ks.getD i (.inl 0)) (I.ok.hd hc) hT (fun i v hv => ?_) (by rw [sz]; exact hb) fun h' tk hS hk => ?_
    · have hv' : its[i]? = some v := by simpa using hv
      have hlt : i < ks.length := by
        have := (List.getElem?_eq_some_iff.mp hv').1
        rw [← r.length, List.length_map] at this
        exact this
      obtain ⟨u, hu, ru⟩ := r.get (i := i) (x := kV ks[i]) (by rw [List.getElem?_map, List.getElem?_eq_getElem hlt]; rfl)
      rw [hv'] at hu
      cases hu
      have eg : ks.getD i (.inl 0) = ks[i] := by rw [List.getD_eq_getElem?_getD, List.getElem?_eq_getElem hlt]; rfl
      rw [eg]
      refine ⟨kV_is ru, ?_⟩
      cases ec : ks[i] with
      | inl c => rw [ec] at ru; obtain ⟨t, rfl⟩ := ru; rfl
      | inr c => rw [ec] at ru; obtain ⟨t, rfl⟩ := ru; rfl
    · rw [sz] at hS
      obtain ⟨o, es, ep, t, ho, hex, hd, _, _, _, hf, hn⟩ := hS
      have I2 : Inv X pins σ H { s with heap := h', toks := tk } := I.kept fun b o e => hk b o (Heap.lt_size e) e
      have mlen := met_len (fun i => ks.getD i (.inl 0 : Key)) ks.length
      refine call_len_set ho hex hd hf (by rw [hn]; unfold scanBound at hb; omega) ⟨.int (nDiff ks), H, I2.tok _, ⟨_, by rw [hn]; rfl⟩, q⟩
  rcases hq with hq | hq
  · obtain ⟨its, r, pl, _⟩ := I.list hq
    exact key its _ r (.inl ⟨rfl, pl.isList⟩)
  · obtain ⟨its, r, pl, _⟩ := I.tuple hq
    exact key its _ r (.inr ⟨rfl, pl⟩)
theorem de_lenset {a : Expr} {ma : ME} {p p2 q : Pos} (hm : X.mg "len" = none) (hm2 : X.mg "set" = none) (ha : DE X Φ a ma) (hg : Gl X "len" := by rfl) (hg2 : Gl X "set" := by rfl) (hc : X.calm = true := by rfl)
    (na : starEach [a] X.env = (false, eval a X.env) :: starEach [] X.env := by rfl) : DE X Φ (.Call (.Name "len" p) [.Call (.Name "set" p2) [a] [] q] [] pos) (mUn lsW ma) := by
  have hw : ∀ x {k k' : KD}, (∀ d, k d → k' d) → lsW x k → lsW x k' := fun x k k' h q => by
    revert q
    unfold lsW
    split
    · exact fun ⟨ks, e, l, q⟩ => ⟨ks, e, l, h _ q⟩
    · exact fun ⟨ks, e, l, q⟩ => ⟨ks, e, l, h _ q⟩
    · exact fun q => q.elim
  refine ⟨fun env k k' h q => ha.mono env (fun x e1 q => hw x (fun d q => h d e1 q) q) q, ⟨fun pins s σ H Q I ⟨z, S0, H0, ps, env, r, q⟩ => ?_⟩⟩
  have q2 : tD Φ X.K ma σ H fun x H1 => ∃ l ks, x = .ref l ∧ (SqL X.K H1 l (ks.map kV) ∨ SqT X.K H1 l (ks.map kV)) ∧ ks.length + 1 < scanBound ∧ Q (.int (nDiff ks)) H1 := by
    refine ⟨z, S0, H0, ps, env, r, ha.mono env (fun x e1 q => ?_) q⟩
    intro v H1 r1 x1 i1
    revert q
    unfold lsW
    split
    · rintro ⟨ks, e, l, q⟩
      cases i1 with
      | lst g i => rw [keysOf_is i e] at g; exact ⟨_, ks, rfl, .inl (SqL.of (hide_same _ _ g)), l, q _ H1 r1 x1 (.int _)⟩
    · rintro ⟨ks, e, l, q⟩
      cases i1 with
      | tup g i => rw [keysOf_is i e] at g; exact ⟨_, ks, rfl, .inr (sqT_hide g), l, q _ H1 r1 x1 (.int _)⟩
    · exact fun q => q.elim
  refine Call_ (ld_blt I hg hm PySem.boot_len (PyProof.Rows.callWith_builtin1 (PyProof.Rows.args_cons ?_ rfl) rfl rfl))
  refine Call_ (ld_blt I hg2 hm2 PyProof.Rows.boot_set (PyProof.Rows.callWith_type1 (PyProof.Rows.args_cons (thn (ha.pe.run pins s σ H _ I q2) fun v s1 ⟨x, H1, I1, r1, q1⟩ => PyProof.Rows.args_nil ?_) na) na rfl))
  obtain ⟨l, ks, rfl, h1, h2, h3⟩ := q1
  cases r1
  exact thn (len_set_run (ex := a) I1 hc h1 h2 h3) fun v s2 q3 => PyProof.Rows.args_nil q3
/-! ### sep.join(texts) -/
def joinW (a : Str) (y : D) (k : KD) : Prop := ∃ ds ys, (y = .lst ds ∨ y = .tup ds) ∧ strsOf ds = some ys ∧ (ys.map (·.length)).sum + ys.length * a.length ≤ 16777216 ∧ k (.str (Txt.join a ys))
def mJoin (mo me : ME) : ME := fun env k => mo env fun x e1 => ∃ a, x = .str a ∧ me e1 fun y e2 => joinW a y fun d => k d e2
theorem de_join {o e : Expr} {mo me : ME} {apos : Pos} (ho : DE X Φ o mo) (he : DE X Φ e me) (hs : starEach [e] X.env = [(false, eval e X.env)] := by rfl) (hbase : attributeBase o "join" X.env (eval o X.env) = eval o X.env := by rfl) (hline : (apos.endLine == pos.line) = true := by rfl) :
    DE X Φ (.Call (.Attribute o "join" apos) [e] [] pos) (mJoin mo me) := by
  refine ⟨fun env k k' h q => ho.mono env (fun x e1 ⟨a, ea, q⟩ => ⟨a, ea, he.mono e1 (fun y e2 ⟨ds, ys, w1, w2, w3, q⟩ => ⟨ds, ys, w1, w2, w3, h _ _ q⟩) q⟩) q,
    pe_imp (pe_join ho.pe he.pe hs hbase hline) fun σ H Q ⟨z, S0, H0, ps, env, r, q⟩ => ⟨z, S0, H0, ps, env, r, ho.mono env (fun x e1 q => ?_) q⟩⟩
  obtain ⟨a, rfl, q⟩ := q
  intro v H1 r1 x1 i1
  cases i1
  refine ⟨⟨a, rfl⟩, z, S0, H0, ps, e1, r1, he.mono e1 (fun y e2 q => ?_) q⟩
  obtain ⟨ds, ys, w1, w2, w3, q⟩ := q
  intro u H2 r2 x2 i2
  cases strs_eq w2
  rcases w1 with rfl | rfl
  · cases i2 with
    | lst g i => rw [i.strs] at g; exact ⟨a, _, ys, rfl, rfl, .inl (SqL.of (hide_same _ _ g)), w3, q _ H2 r2 (x1.trans x2) (.str _)⟩
  · cases i2 with
    | tup g i => rw [i.strs] at g; exact ⟨a, _, ys, rfl, rfl, .inr (sqT_hide g), w3, q _ H2 r2 (x1.trans x2) (.str _)⟩
/-! ### sorted(list) -/
def sortedW : WL := fun xs k => ∃ ds, xs = [.lst ds] ∧ ((∃ ns, intsOf ds = some ns ∧ ns.length < 64 ∧ ∀ ns' : List Int, ns'.Perm ns → ns'.Pairwise (· ≤ ·) → k (.lst (ns'.map D.int))) ∨
  ∃ ss, strsOf ds = some ss ∧ ss.length < 64 ∧ ∀ ys : List Str, ys.Perm ss → sortedS ys = true → k (.lst (ys.map D.str)))
theorem cd_sorted : CallD X (.builtin "sorted") sortedW := by
  refine ⟨fun x k k' h ⟨ds, e, q⟩ => ⟨ds, e, q.imp (fun ⟨ns, e, l, q⟩ => ⟨ns, e, l, fun a b c => h _ (q a b c)⟩) fun ⟨ns, e, l, q⟩ => ⟨ns, e, l, fun a b c => h _ (q a b c)⟩⟩, fun pins s σ H xs us Q I r ⟨z, S, ds, hS, hx, q⟩ => ?_⟩
  obtain ⟨ds', rfl, q⟩ := q
  cases hx with
  | cons h t =>
    cases t
    cases h with
    | lst g i =>
      rcases q with ⟨ns, e, l, q⟩ | ⟨ns, e, l, q⟩
      · cases ints_eq e
        rw [i.ints] at g
        exact cr_sorted pins s σ H _ us Q I r ⟨_, ns, rfl, SqL.of (hide_same _ _ g), l, fun ns' p hp hw hn => q ns' hp hw _ _ (grow_upd hn) (is_lst hS hn (.of_ints _))⟩
      · cases strs_eq e
        rw [i.strs] at g
        exact cr_sortedS pins s σ H _ us Q I r ⟨_, ns, rfl, SqL.of (hide_same _ _ g), l, fun ys p hp hw hn => q ys hp hw _ _ (grow_upd hn) (is_lst hS hn (.of_strs _))⟩
end
end DL
namespace DL
open PySem L2 PySem.Spec PyProof.Rows
/-! ### the state of all draws -/
def stK (b c : Addr) (r t : Int) : List (Key × V) := [(.inr "wide", .ref b), (.inr "cells", .ref c), (.inr "rest", .int r), (.inr "turn", .int t)]
theorem k_wc : ¬ ((.inr "wide" : Key) = .inr "cells") := by decide +kernel
theorem k_wr : ¬ ((.inr "wide" : Key) = .inr "rest") := by decide +kernel
theorem k_wt : ¬ ((.inr "wide" : Key) = .inr "turn") := by decide +kernel
theorem k_cr : ¬ ((.inr "cells" : Key) = .inr "rest") := by decide +kernel
theorem k_ct : ¬ ((.inr "cells" : Key) = .inr "turn") := by decide +kernel
theorem k_rt : ¬ ((.inr "rest" : Key) = .inr "turn") := by decide +kernel
theorem v_wide (b c : Addr) (r t : Int) : valV (stK b c r t) (.inr "wide") = some (.ref b) := valV_pos rfl
theorem v_cells (b c : Addr) (r t : Int) : valV (stK b c r t) (.inr "cells") = some (.ref c) := by unfold stK; rw [valV_neg k_wc, valV_pos rfl]
theorem v_rest (b c : Addr) (r t : Int) : valV (stK b c r t) (.inr "rest") = some (.int r) := by unfold stK; rw [valV_neg k_wr, valV_neg k_cr, valV_pos rfl]
theorem v_turn (b c : Addr) (r t : Int) : valV (stK b c r t) (.inr "turn") = some (.int t) := by unfold stK; rw [valV_neg k_wt, valV_neg k_ct, valV_neg k_rt, valV_pos rfl]
theorem p_rest (b c : Addr) (r t y : Int) : putK (stK b c r t) (.inr "rest") (.int y) = stK b c y t := by
  unfold putK stK
  rw [if_pos (by simp)]
  simp only [List.map_cons, List.map_nil, if_neg k_wr, if_neg k_cr, if_neg (fun e => k_rt (Eq.symm e)), if_pos]
theorem p_turn (b c : Addr) (r t y : Int) : putK (stK b c r t) (.inr "turn") (.int y) = stK b c r y := by
  unfold putK stK
  rw [if_pos (by simp)]
  simp only [List.map_cons, List.map_nil, if_neg k_wt, if_neg k_ct, if_neg k_rt, if_pos]
theorem stK_len (b c : Addr) (r t : Int) : (stK b c r t).length < sizeLine := by show 4 < sizeLine; decide
/-- no new instance -/
def NoIns (H H' : Hp) : Prop := ∀ p C dx fs, H' p = some (.ins C dx fs) → H p = some (.ins C dx fs)
theorem NoIns.refl (H : Hp) : NoIns H H := fun _ _ _ _ h => h
theorem NoIns.trans {H H1 H2 : Hp} (a : NoIns H H1) (b : NoIns H1 H2) : NoIns H H2 := fun p C dx fs e => a p C dx fs (b p C dx fs e)
theorem NoIns.upd {H : Hp} {a : Addr} {o : HO} (ho : ∀ C dx fs, o ≠ .ins C dx fs := by (intro _ _ _ w; cases w)) : NoIns H (L2.upd H a o) := fun p C dx fs e => by
  by_cases hb : p = a
  · subst hb; rw [upd_same] at e; exact absurd (Option.some.inj e) (ho _ _ _)
  · rw [upd_ne hb] at e; exact e
/-- the heap but for the state's dict -/
def But (a : Addr) (H H' : Hp) : Prop := (∀ b o, b ≠ a → H b = some o → H' b = some o) ∧ NoIns H H'
theorem But.refl (a : Addr) (H : Hp) : But a H H := ⟨fun _ _ _ e => e, .refl H⟩
theorem But.trans {a : Addr} {H H1 H2 : Hp} (h : But a H H1) (k : But a H1 H2) : But a H H2 := ⟨fun b o n e => k.1 b o n (h.1 b o n e), h.2.trans k.2⟩
theorem But.of_same {a : Addr} {H H1 : Hp} (h : Grow H H1) : But a H H1 := ⟨fun b o _ e => h.same b o e, h.ins⟩
theorem But.upd {a : Addr} {H : Hp} {o : HO} (ho : ∀ C dx fs, o ≠ .ins C dx fs := by (intro _ _ _ w; cases w)) : But a H (L2.upd H a o) := ⟨fun b u n e => by rw [upd_ne n]; exact e, .upd ho⟩
def spMixed : Sp := fun vs H Q _ => ∃ (a b c : Addr) (r t : Int) (cs : List Int), vs = [.ref a] ∧ H a = some (.dK (stK b c r t)) ∧ H c = some (.lst (cs.map V.int)) ∧ 0 ≤ t ∧ t < 2 ^ 40 ∧ (∀ x ∈ cs, 0 ≤ x ∧ x < 2 ^ 31) ∧
  ∀ (v : Int) (H' : Hp), 0 ≤ v → H' a = some (.dK (stK b c r (t + 1))) → But a H H' → Q (.int v) H'
def But2 (a b : Addr) (H H' : Hp) : Prop := (∀ p o, p ≠ a → p ≠ b → H p = some o → H' p = some o) ∧ NoIns H H'
def spTake : Sp := fun vs H Q _ => ∃ (q : ZA) (n : Nat) (m : Int), vs = [.ref q.a, .int m] ∧ StaOk q n H ∧ 1 ≤ n ∧ 0 < m ∧ m < 1073741824 ∧
  ∀ (v : Int) (H' : Hp), 0 ≤ v → v < m → StaOk q (n - 1) H' → But2 q.a q.b H H' → Q (.int v) H'
def spBegun (K : PySem.W.Frag) : Sp := fun vs H Q _ => ∃ (a : Addr) (ns : List Int), vs = [.ref a] ∧ SqL K H a (ns.map V.int) ∧ ns.length ≤ 63 ∧
  ∀ (q : ZA) (H' : Hp), H q.a = none → H q.b = none → H q.c = none → StaOk q (2 ^ 40) H' → Grow H H' → Q (.ref q.a) H'
/-- a def by its own promise -/
theorem FnG.ofOk {P : Program} {w : World} {K : PySem.W.Frag} {mg : Str → Option Value} {base : Heap} {k : Nat} {f : Addr} {fd : FuncData} {ps : List Str} {sp : Sp} {W : WF} (F : FnOk P w K mg base CX0 k f fd ps sp) (g : Good W ps.length)
    (h : ∀ vs H Q, spD K w W vs H Q → sp vs H Q E0) : FnG P w K mg base k f fd ps W :=
  ⟨g.1, g.2, fun A outer s H args us vs Q hr _ e0 hb r q => F.run A outer s H args us vs Q E0 hr e0 hb r (h vs H Q q)⟩
/-- a drawn number below the size -/
def W__law_take : WF := fun ds n k => ∃ m, ds = [.sta, .int m] ∧ 0 < m ∧ m < 1073741824 ∧ 1 ≤ n ∧ ∀ i : Int, 0 ≤ i → i < m → k (.int i) (n - 1)
theorem w__law_take : Good W__law_take 2 := ⟨fun ds n k k' h ⟨m, e, a, b, c, q⟩ => ⟨m, e, a, b, c, fun i x y => h _ _ (q i x y)⟩, fun ds n k ⟨m, e, _⟩ => by rw [e]; rfl⟩
theorem take_of {K : PySem.W.Frag} {w : World} : ∀ vs H Q, spD K w W__law_take vs H Q → spTake vs H Q E0 := by
  rintro vs H Q ⟨z, S0, ds, n, ⟨hw, ha⟩, st, hS, hz, i, m, rfl, h1, h2, h3, q⟩
  cases i with
  | cons i1 t1 =>
    cases t1 with
    | cons i2 t2 =>
      cases t2; cases i2
      cases i1 with
      | @sta q0 e =>
        have ne : ∀ p, q0.a ≠ p → q0.b ≠ p → ∀ H', But2 q0.a q0.b H H' → ∀ o, H p = some o → H' p = some o := fun p n1 n2 H' but o e => but.1 p o (Ne.symm n1) (Ne.symm n2) e
        refine ⟨q0, n, m, rfl, st.dr q0 e, h3, h1, h2, fun v H' v0 v1 st' but => q v v0 v1 _ H' (fun p o hp eo => ⟨o, but.1 p o (fun w => hp (.inl ⟨q0, e, .inl w⟩)) (fun w => hp (.inl ⟨q0, e, .inr w⟩)) eo, .same o, fun _ _ => rfl⟩) ⟨fun q1 e1 => by rw [e] at e1; cases e1; exact st', fun a vf vn ef => ?_, z.stay H H' (fun p o so eo => ?_) but.2 st.inv⟩ (.int v)⟩
        · obtain ⟨m', m0, g1, g2⟩ := st.fr a vf vn ef
          refine ⟨m', m0, but.1 a _ (fun w => ?_) (fun w => ?_) g1, g2⟩
          · exact st.notZs ⟨vf, vn, ef⟩ (.inl ⟨q0, e, .inl w⟩)
          · exact st.notZs ⟨vf, vn, ef⟩ (.inl ⟨q0, e, .inr w⟩)
        · obtain ⟨r', t, ws, cs, g1, g2, g3, g4⟩ := (st.dr q0 e).ex
          refine but.1 p o (fun w => ?_) (fun w => ?_) eo
          · rw [w, g1] at eo; cases eo; exact so.2 _ rfl
          · rw [w, g2] at eo; cases eo; exact so.1 _ rfl
end DL
namespace DL
open PySem L2 PySem.Spec PyProof.Rows
/-! ### shuffling -/
mutual
/-- as the layer's own reading of data -/
theorem Is.dp {z : Z} {K : PySem.W.Frag} {G : Hp} : ∀ {v : V} {d : D} {p : PyData}, Is z K G v d → d.py = some p → p.canLay0 = true → Dp K G v p
  | _, _, _, .non, e, _ => by cases e; exact .non
  | _, _, _, .bl b, e, _ => by cases e; exact .bl b
  | _, _, _, .int b, e, _ => by cases e; exact .int b
  | _, _, _, .str b, e, _ => by cases e; exact .str b
  | _, _, _, .ty _, e, _ => by simp [D.py] at e
  | _, _, _, .tup (ds := ds) h t, e, c => by
    unfold D.py at e
    cases e1 : D.pyA ds with
    | none => rw [e1] at e; cases e
    | some ps => rw [e1] at e; cases e; exact .tup h.sq (IsA.dp t e1 (by simpa [PyData.canLay0] using c))
  | _, _, _, .lst (ds := ds) h t, e, c => by
    unfold D.py at e
    cases e1 : D.pyA ds with
    | none => rw [e1] at e; cases e
    | some ps => rw [e1] at e; cases e; exact .lst (SqL.of h) (IsA.dp t e1 (by simpa [PyData.canLay0] using c))
  | _, _, _, .dct (ds := ds) _ _ _ t, e, c => by
    unfold D.py at e
    cases e1 : D.pyA ds with
    | none => rw [e1] at e; cases e
    | some ps => rw [e1] at e; cases e; simp [PyData.canLay0] at c
  | _, _, _, .ins _ _ _, e, _ => by simp [D.py] at e
  | _, _, _, .frm _ _ _ _, e, _ => by simp [D.py] at e
  | _, _, _, .scr _, e, _ => by simp [D.py] at e
  | _, _, _, .sta _, e, _ => by simp [D.py] at e
  | _, _, _, .cls _, e, _ => by simp [D.py] at e
theorem IsA.dp {z : Z} {K : PySem.W.Frag} {G : Hp} : ∀ {vs : List V} {ds : List D} {ps : List PyData}, IsA z K G vs ds → D.pyA ds = some ps → PyData.canLayAll0 ps = true → DpAll K G vs ps
  | _, _, _, .nil, e, _ => by simp [D.pyA] at e; subst e; exact .nil
  | _, _, _, .cons (d := d) (ds := ds) h t, e, c => by
    unfold D.pyA at e
    cases e1 : d.py with
    | none => rw [e1] at e; simp at e
    | some p =>
      cases e2 : D.pyA ds with
      | none => rw [e1, e2] at e; simp at e
      | some ps =>
        rw [e1, e2] at e; simp at e; subst e
        simp only [PyData.canLayAll0, Bool.and_eq_true] at c
        exact .cons (Is.dp h e1 c.1) (IsA.dp t e2 c.2)
end
/-- data without dicts and objects, not too deep -/
def plain (d : D) : Bool := match d.py with
  | some p => p.canLay0 && decide (p.depth ≤ 60)
  | none => false
theorem plain_all : ∀ {ds : List D}, ds.all plain = true → ∃ ps, D.pyA ds = some ps ∧ PyData.canLayAll0 ps = true ∧ PyData.depthAll ps ≤ 60
  | [], _ => ⟨[], rfl, rfl, Nat.zero_le _⟩
  | d :: ds, h => by
    rw [List.all_cons, Bool.and_eq_true] at h
    obtain ⟨ps, e, c, l⟩ := plain_all h.2
    have h1 := h.1
    unfold plain at h1
    cases e1 : d.py with
    | none => rw [e1] at h1; cases h1
    | some p =>
      rw [e1] at h1
      simp only [Bool.and_eq_true, decide_eq_true_eq] at h1
      refine ⟨p :: ps, by unfold D.pyA; rw [e1, e], by simp [PyData.canLayAll0, h1.1, c], ?_⟩
      show max p.depth (PyData.depthAll ps) ≤ 60
      omega
theorem shaped_plain {ps : List PyData} (c : PyData.canLayAll0 ps = true) (l : PyData.depthAll ps ≤ 60) : SeqAt.shaped (.list ps) = true := by
  unfold SeqAt.shaped
  simp only [PyData.canLay0, c, PyData.depth, Bool.true_and]
  exact decide_eq_true (by omega)
theorem perm_erase {α : Type} : ∀ {l : List α} {i : Nat} {x : α}, l[i]? = some x → (x :: l.eraseIdx i).Perm l
  | [], i, x, h => by simp at h
  | a :: l, 0, x, h => by simp at h; subst h; simp
  | a :: l, i + 1, x, h => by
    have h' : l[i]? = some x := by simpa using h
    have ih := perm_erase h'
    show (x :: a :: l.eraseIdx i).Perm (a :: l)
    exact (List.Perm.swap a x _).trans (ih.cons a)
def W__law_shuffled : WF := fun ds n k => ∃ x es, ds = [.sta, x] ∧ (x = .lst es ∨ x = .tup es) ∧ es.all plain = true ∧ es.length ≤ n ∧ es.length ≤ 1000 ∧ ∀ es', es'.Perm es → k (.lst es') (n - es.length)
theorem w__law_shuffled : Good W__law_shuffled 2 := ⟨fun ds n k k' h ⟨x, es, e, a, b, c, d, q⟩ => ⟨x, es, e, a, b, c, d, fun es' p => h _ _ (q es' p)⟩, fun ds n k ⟨x, es, e, _⟩ => by rw [e]; rfl⟩
end DL
namespace DL
open PySem L2 PySem.Spec PyProof.Rows
/-! ### the law's own def: first the state of all draws, then the rest as data -/
section
variable {P : Program} {w : World} {K : PySem.W.Frag} {mg : Str → Option Value} {base : Heap}
/-- what the law's def promises -/
def LawOk (P : Program) (w : World) (K : PySem.W.Frag) (mg : Str → Option Value) (base : Heap) (k : Nat) (f : Addr) (fd : FuncData) : Prop :=
  ∀ (A : Around) (outer : List Env) (s : Shared) (H : Hp) (args : Args) (u : Value) (a : Addr) (ns : List Int), Room k A → A.guards = some [] → Env0 P w K mg base A outer s H → BindsTo s fd args [("script", u)] → RelV (.ref a) u → SqL K H a (ns.map V.int) → ns.length ≤ 63 →
    codeAny (model P w) A (.call (.ref f) args) (CR CX0 outer P w H s (fun v _ => v = .bl true) E0) s
def lawE (N : Nat) (si : Nat) (ns : List Int) : DEnv := (startE N [.scr ns] (2 ^ 40)).put si (.da .sta)
theorem law_of {st : Stmt} {f fb : Addr} {fd fdb : FuncData} {N : List Str} {k si : Nat} {m : MS} {px pc pn pa ps' : Pos} {rest : List Stmt} (F : Fun K "law" "law" st f fd) (S : FnScope N ["script"] (defScope st))
    (hbo : defBody st = .Assign [.Name "state" px] (.Call (.Name "_law_begun" pn) [.Name "script" pa] [] pc) ps' :: rest) {sb : Stmt} (Fb : Fun K "_law_begun" "_law_begun" sb fb fdb) (hm : mg "_law_begun" = some (.ref fb)) (bb : Binds K fdb ["script"] []) (G : FnOk P w K mg base CX0 1 fb fdb ["script"] (spBegun K)) (k1 : 1 ≤ k)
    (h0 : N[0]? = some ("script" : Str)) (hsi : N[si]? = some ("state" : Str)) (hl0 : Vis (defScope st) "script") (hlo : Loc (defScope st) "state") (hgl : (defScope st).names.lookup ("_law_begun" : Str) = some NameKind.globalImplicit)
    (hrest : ∀ (cdv : Value) (A : Around) (outer : List Env) (s : Shared) (H : Hp), Room k (cxD P w K mg base N "law" (defScope st) f cdv A outer s H).A → (cxD P w K mg base N "law" (defScope st) f cdv A outer s H).A.guards = some [] →
      DSs (cxD P w K mg base N "law" (defScope st) f cdv A outer s H) (PhiW w) rest m)
    (hq : ∀ ns : List Int, ns.length ≤ 63 → m (lawE N.length si ns) { nx := fun _ => False, rt := fun d _ => d = .bl true }) : LawOk P w K mg base (k + 1) f fd := by
  obtain ⟨oc, od, kV, doc, pm, an, cdv, ct, osl, rfl, lk, hcd⟩ := F.ex
  intro A outer s H args u a ns hr hgd e0 hb ru hS hl
  have keep := fun b o e => (e0.bs b o e).1
  have KX : K.In s.heap := e0.mod.kin.keeps keep
  have lim : s.heap.NoLimit := e0.mod.nolimit.keeps keep
  have hm' := hrest cdv A outer s H (hr.deeper _) (deeper_guards hgd)
  refine codeAny_call_function hr.depth (KX _ _ lk) rfl S.co S.gen rfl (PySem.W.codeRec_of KX hcd) (hb _ _ _ _ ?_)
  have hpar := S.par "script" (by simp)
  refine wpAny_newFunctionEnv_cells S.kind (fun y hy => ?_) fun env he s1 x => ?_
  · rw [List.mem_singleton.mp hy]
    rcases hpar with q | q
    · exact .inl q
    · exact .inr ⟨q, PySem.W.cellsFrom_some _ _ _ (.inl q)⟩
  · subst he
    refine ⟨lim.keeps x.toInCall.keep, codeAny_func ?_⟩
    have I0 : Inv (cxOf CX0 P w K mg base N "law" (defScope st) f cdv A outer s H E0) [] (L2.start N [.ref a]) H s1 := inv_start (ps := ["script"]) (us := [u]) S hr.hd e0 rfl (.cons ru .nil) x
    have I : Inv (cxD P w K mg base N "law" (defScope st) f cdv A outer s H) [] (L2.start N [.ref a]) H s1 := I0.wish _
    have hN0 : 0 < N.length := (List.getElem?_eq_some_iff.mp h0).1
    have hbody : PSs (cxD P w K mg base N "law" (defScope st) f cdv A outer s H) (defBody st) (tSeq (tAsg (tCall (spBegun K) [] E0 (tCons (tVar 0) tNil)) (gName si)) (tDS (PhiW w) K m)) := by
      rw [hbo]
      exact pss_cons (ps_set (i := si) S.nd hsi hlo (pe_call G ((hr.deeper _).mono k1) hgl hm Fb.kp bb .nil pass0 (pa_cons (pe_var h0 hl0) pa_nil))) hm'.ps
    have hrun := hbody.run [] s1 (L2.start N [.ref a]) H { nx := fun _ H' => False, rt := fun v _ => v = .bl true } I ?_
    · refine wpAny_mono hrun (fun fl s' hs => ?_) fun e s' hs => hs.elim
      match fl, hs with
      | .ret u, ⟨v, σ', H', J, rv, q⟩ => exact ⟨v, H', J.os, J.bare, J.base, J.hok, rv, q⟩
      | .next, ⟨σ', H', J, q⟩ => exact q.elim
      | .brk, ⟨_, _, _, q⟩ => exact q.elim
      | .cont, ⟨_, _, _, q⟩ => exact q.elim
    · refine ⟨.ref a, rfl, a, ns, rfl, hS, hl, fun q H' na nb nc st' sm => ?_⟩
      let z : Z := { w := w, q := some q }
      have stz : Sta z (2 ^ 40) none H' := ⟨fun q1 e1 => by cases e1; exact st', fun _ _ _ e1 => (by cases e1), trivial⟩
      have hz : ∀ p, Zs z p → H' p ≠ none := fun p w => stz.dom w
      have hf : ∀ p, Zf z p → Zs z p := fun p ⟨_, _, w⟩ => (by cases w)
      have hS' : SqL K (hide (Zs z) H') a (ns.map V.int) := by
        have ne : ∀ {o}, H a = some o → ¬ Zs z a := fun e w => by
          rcases w with ⟨q1, e1, w | w⟩ | ⟨w, _⟩
          · cases e1; rw [w, na] at e; cases e
          · cases e1; rw [w, nb] at e; cases e
          · cases w
        rcases hS with (e | ⟨o, e⟩) | e
        · exact .inl (.inl (hide_get.mpr ⟨ne e, sm.same _ _ e⟩))
        · exact .inl (.inr ⟨o, hide_get.mpr ⟨ne e, sm.same _ _ e⟩⟩)
        · exact .inr e
      have r1 := rel_start (Φ := PhiW w) (z := z) (N := N) (n := 2 ^ 40) (K := K) rfl stz hz ⟨fun p w => w, hf⟩ (.cons (.scr hS') .nil)
      have r2 := r1.put (i := si) (v := .ref q.a) (d := .sta) (.sta rfl)
      refine ⟨z, Zs z, H', _, _, r2, hm'.mono _ ?_ (hq ns hl)⟩
      refine ⟨fun e q => q.elim, fun d e q ps' v σ' H'' r' i' => ?_, fun e q => q.elim, fun e q => q.elim⟩
      subst q
      cases i'
      rfl
end
/-! ### the law's row -/
/-- the goal that k_head leaves, from the law's promise -/
theorem walk_law {l : PySem.W.OpenLaw} {k : Nat} {q : Program} {loose : List Str} {XP : (Str → Option Value) → Heap → Prop} {YP : World → Heap → Prop} {d : DefRec} {K : Params → PySem.W.Frag}
    (hi : importsNone q = true) (hn : l.most = some 63) (hdf : d.params.defaults = []) (hr : Room k callerA) (hY : ∀ (w : World) (h : Heap), YP w h → (K w.params).In h)
    (F : ∀ (w : World) (mg : Str → Option Value) (fa : Addr) (h : Heap), (K w.params).In h → h.Ns mainGlobals mg → mg d.name = some (.ref fa) → ∃ fd : FuncData, (∀ (s : Shared) (u : Value), BindsTo s fd ⟨[u], []⟩ [("script", u)]) ∧
        ∀ base : Heap, (K w.params).In base → base.Ns mainGlobals mg → (∃ o, base.get? sysModules = some o) → LawOk l.prog w (K w.params) mg base k fa fd) : PySem.W.WalkO q loose XP YP l.row.toRowW d [] (fun f vs => PySem.call f vs) := by
  intro w s₀ s₁ mg mb G Y fa o pm cd doc dV kV ho hd hcd hD hmg hg args vals as hpre hlay hrd hwl hlo
  obtain rfl : dV = .none := PySem.W.Dflts.none hD hdf
  obtain rfl : kV = .none := PySem.W.Dflts.noKw hD
  obtain ⟨a, vs, ns, rfl, rfl, hobj, hints, hlen⟩ := Att.script_of hn hpre hwl
  have nlow : a ≠ sysModules := by
    cases hrd with
    | cons h1 h2 =>
      cases h2
      cases h1 with
      | list e1 e2 e3 e4 =>
        have := hlo a (by simp)
        simpa using this
  have KX := hY w _ Y
  obtain ⟨fd, hb, hF⟩ := F w mg fa _ KX G.T.g hmg
  have rv := vals_ints hints
  have lenV := hints.length
  have low : ∃ o, s₁.heap.get? sysModules = some o := by
    obtain ⟨mm, ⟨o, es, ep, e, _⟩, _⟩ := (G.T.seer hi).mods
    exact ⟨o, e⟩
  have core : ∀ H : Hp, Only H → SqL (K w.params) H a (ns.map V.int) → HOk l.prog w H s₁.heap → (∀ b, H b ≠ none → b = a) → (H a ≠ none → (K w.params).lookup a = none) →
      codeAny (model l.prog w) callerA (.call (.ref fa) ⟨[.ref a], []⟩) (fun r s' => r = .ok (.ret (.bool true)) ∧ OldK s₁.heap s'.heap ∧ s'.os = s₁.os ∧ AllBare s'.gens) s₁ := by
    intro H hO hS hok hA hK
    have hide0 : ∀ {b : Addr} {o : Obj}, s₁.heap.get? b = some o → H b = none → (hidT s₁.heap H).get? b = some o := fun e n => hidT_get e n
    have off : ∀ {b : Addr}, b ≠ a → H b = none := fun {b} ne => by
      cases e : H b with
      | none => rfl
      | some u => exact absurd (hA b (by rw [e]; simp)) ne
    have nsK : ∀ {b : Addr} {mm : Str → Option Value}, s₁.heap.Ns b mm → (hidT s₁.heap H).Ns b mm := fun {b mm} ⟨o, es, ep, e, dd, r⟩ => by
      refine ⟨o, es, ep, hide0 e (off fun eb => ?_), dd, r⟩
      subst eb
      rw [hobj] at e; cases e
      cases dd
    have kb : (K w.params).In (hidT s₁.heap H) := fun b o e => by
      refine hide0 (KX b o e) ?_
      cases e2 : H b with
      | none => rfl
      | some u =>
        have eb := hA b (by rw [e2]; simp)
        subst eb
        rw [hK (by rw [e2]; simp)] at e; cases e
    have hM : Mod (K w.params) mg (hidT s₁.heap H) := ⟨kb, nsK G.T.g, ⟨mb, nsK G.T.b, G.T.builtins⟩, by obtain ⟨mc, h1, h2⟩ := G.T.nolimit; exact ⟨mc, nsK h1, h2⟩⟩
    have e0 : Env0 l.prog w (K w.params) mg (hidT s₁.heap H) callerA [] s₁ H := ⟨rfl, hM, fun b o e => of_hidT e, Nat.le_of_eq (hidT_size _ _), trivial, fun b hb => absurd hb (by simp [frs]), hok, .of_eq hg⟩
    have hlow : ∃ o, (hidT s₁.heap H).get? sysModules = some o := by
      obtain ⟨o, e⟩ := low
      exact ⟨o, hide0 e (off nlow.symm)⟩
    refine codeAny_mono (hF _ kb (nsK G.T.g) hlow callerA [] s₁ H ⟨[.ref a], []⟩ (.ref a) a ns hr rfl e0 (hb s₁ (.ref a)) rfl hS hlen) fun r s' h => ?_
    match r, h with
    | .error e, h => exact h.elim
    | .ok .next, h => exact h.elim
    | .ok .brk, h => exact h.elim
    | .ok .cont, h => exact h.elim
    | .ok (.ret u), ⟨v, H', os, bare, un, hok', r', q⟩ =>
      cases (show v = .bl true from q)
      cases (show u = Value.bool true from r')
      refine ⟨rfl, OldK.of_keep fun b o e => ?_, os, bare⟩
      cases q : H b with
      | none => exact un.keep b o e q (by simp [frs]) (by simp)
      | some u =>
        rcases hO b with z | ⟨ob, xs, z⟩
        · rw [q] at z; cases z
        · have z2 := un.frzs b ob _ z
          have e1 := (hok b _ z).1
          have e2 := (hok' b _ z2).1
          rw [e] at e1; cases e1
          exact e2
  have main : codeAny (model l.prog w) callerA (.call (.ref fa) ⟨[.ref a], []⟩) (fun r s' => r = .ok (.ret (.bool true)) ∧ OldK s₁.heap s'.heap ∧ s'.os = s₁.os ∧ AllBare s'.gens) s₁ := by
    have hl : ns.length ≤ sizeLine := Nat.le_trans hlen (by decide)
    cases hk : (K w.params).lookup a with
    | some o =>
      have e := KX a o hk
      rw [hobj] at e
      cases e
      refine core (fun _ => none) (fun _ => .inl rfl) (.inr ⟨_, vs.toArray, _, hk, rfl, rfl, rfl, by rw [List.size_toArray, lenV]; exact hl, by simpa using rv⟩) (fun b u z => by cases z) (fun b z => absurd rfl z) fun z => absurd rfl z
    | none =>
      let o0 : Obj := { cls := .type "list", data := .seq vs.toArray }
      refine core (fun b => if b = a then some (.frz o0 (.lst (ns.map V.int))) else none) (fun b => ?_) (.inl (.inr ⟨o0, if_pos rfl⟩)) (fun b u z => ?_) (fun b z => ?_) fun _ => hk
      · by_cases hb : b = a
        · exact .inr ⟨_, _, if_pos hb⟩
        · exact .inl (if_neg hb)
      · by_cases hb : b = a
        · have z' := (if_pos hb).symm.trans z
          cases z'
          subst hb
          exact ⟨hobj, by rw [List.length_map]; exact hl, vs, _, rv, hobj⟩
        · have z' := (if_neg hb).symm.trans z
          cases z'
      · by_cases hb : b = a
        · exact hb
        · exact absurd (if_neg hb) z
  refine PySem.W.enter_call (codeAny_mono main fun r s' hq => ?_)
  obtain ⟨rfl, h2, h3, h4⟩ := hq
  exact ⟨.inl ⟨.bool true, .bool true, [], rfl, fun _ => rfl, .bool true, Att.post_true l _, fun _ => ⟨List.Pairwise.nil, fun _ hm => (nomatch hm)⟩⟩, h2, h3, h4⟩
end DL
namespace DL
open PySem L2 PySem.Spec PyProof.Rows
/-! ### rules for the plain side -/
theorem compW_pure {i : Nat} {me : ME} {f : D → D} : ∀ (ds : List D) (env : DEnv) (acc : List D) {k : List D → DEnv → Prop}, (∀ d ∈ ds, ∀ k' : D → DEnv → Prop, k' (f d) (env.put i (.da d)) → me (env.put i (.da d)) k') →
    acc.length + ds.length ≤ sizeLine → k (acc ++ ds.map f) env → compW i mYes me ds env acc k
  | [], env, acc, k, _, _, q => by simpa [compW] using q
  | d :: ds, env, acc, k, h, hl, q => by
    unfold compW
    simp only [List.length_cons] at hl
    show me (env.put i (.da d)) _
    refine h d List.mem_cons_self _ ⟨by omega, ?_⟩
    refine compW_pure ds env (acc ++ [f d]) (fun x hx => h x (List.mem_cons_of_mem _ hx)) (by simp; omega) ?_
    simpa using q
theorem compW_filt {i : Nat} {t : MT} {me : ME} {g : D → Bool} {f : D → D} : ∀ (ds : List D) (env : DEnv) (acc : List D) {k : List D → DEnv → Prop}, (∀ d ∈ ds, ∀ k' : Bool → DEnv → Prop, k' (g d) (env.put i (.da d)) → t (env.put i (.da d)) k') →
    (∀ d ∈ ds, g d = true → ∀ k' : D → DEnv → Prop, k' (f d) (env.put i (.da d)) → me (env.put i (.da d)) k') →
    acc.length + ds.length ≤ sizeLine → k (acc ++ (ds.filter g).map f) env → compW i t me ds env acc k
  | [], env, acc, k, _, _, _, q => by simpa [compW] using q
  | d :: ds, env, acc, k, h, h2, hl, q => by
    unfold compW
    simp only [List.length_cons] at hl
    refine h d List.mem_cons_self _ ?_
    cases e : g d with
    | true =>
      rw [if_pos rfl]
      refine h2 d List.mem_cons_self e _ ⟨by omega, ?_⟩
      refine compW_filt ds env (acc ++ [f d]) (fun x hx => h x (List.mem_cons_of_mem _ hx)) (fun x hx => h2 x (List.mem_cons_of_mem _ hx)) (by simp; omega) ?_
      simpa [List.filter_cons, e] using q
    | false =>
      rw [if_neg (by simp)]
      refine compW_filt ds env acc (fun x hx => h x (List.mem_cons_of_mem _ hx)) (fun x hx => h2 x (List.mem_cons_of_mem _ hx)) (by omega) ?_
      simpa [List.filter_cons, e] using q
/-- with draws: c at most for each -/
theorem compW_draw {i c : Nat} {me : ME} {R : D → D → Prop} : ∀ (ds : List D) (env : DEnv) (acc : List D) {k : List D → DEnv → Prop},
    (∀ d ∈ ds, ∀ (n : Nat) (k' : D → DEnv → Prop), c ≤ n → (∀ y n', R d y → n ≤ n' + c → ∀ sl, k' y { sl := sl, cr := n', mr := env.mr }) → me (DEnv.put { env with cr := n } i (.da d)) k') →
    acc.length + ds.length ≤ sizeLine → c * ds.length ≤ env.cr → (∀ ys n', ys.length = ds.length → (∀ y ∈ ys, ∃ d ∈ ds, R d y) → env.cr ≤ n' + c * ds.length → k (acc ++ ys) { env with cr := n' }) → compW i mYes me ds env acc k
  | [], env, acc, k, _, _, _, q => by
    have := q [] env.cr rfl (fun _ h => nomatch h) (by simp)
    simpa [compW] using this
  | d :: ds, env, acc, k, h, hl, hc, q => by
    unfold compW
    simp only [List.length_cons] at hl hc
    have hm : c * (ds.length + 1) = c * ds.length + c := Nat.mul_succ _ _
    show me (env.put i (.da d)) _
    refine h d List.mem_cons_self env.cr _ (by omega) fun y n' r hn sl => ⟨by omega, ?_⟩
    refine compW_draw ds { env with cr := n' } (acc ++ [y]) (fun x hx => h x (List.mem_cons_of_mem _ hx)) (by simp; omega) (by show c * ds.length ≤ n'; omega) fun ys n2 e1 e2 e3 => ?_
    have := q (y :: ys) n2 (by simp [e1]) (fun u hu => ?_) (by have e3' : n' ≤ n2 + c * ds.length := e3; rw [List.length_cons, hm]; omega)
    · simpa using this
    · rcases List.mem_cons.mp hu with rfl | hu
      · exact ⟨d, List.mem_cons_self, r⟩
      · obtain ⟨x, hx, rx⟩ := e2 u hu
        exact ⟨x, List.mem_cons_of_mem _ hx, rx⟩
theorem forW_inv {g : MG} {b : MS} (I : List D → DEnv → Prop) {k : KS} (hs : ∀ d ds env (k' : KS), I (d :: ds) env → (∀ e, I ds e → k'.nx e) → (∀ e, I ds e → k'.ct e) → (∀ v e, k.rt v e → k'.rt v e) → (∀ e, k.nx e → k'.bk e) → g d env fun e1 => b e1 k')
    (he : ∀ env, I [] env → k.nx env) : ∀ ds env, I ds env → forW g b ds env k
  | [], env, i => he env i
  | d :: ds, env, i => by
    unfold forW
    exact hs d ds env _ i (fun e i => forW_inv I hs he ds e i) (fun e i => forW_inv I hs he ds e i) (fun _ _ q => q) (fun _ q => q)
theorem seq_gen {m n : MS} {env : DEnv} {k : KS} (h : ∀ N : DEnv → Prop, N = (fun e => n e k) → m env { k with nx := N }) : mSeq m n env k := h _ rfl
/-! ### how long a text of data is -/
def D.sm (c k : Nat) (d : D) : Bool := match d.py with
  | some p => p.showable && decide (p.shown.length ≤ c) && decide (p.depth ≤ k)
  | none => false
theorem sm_py {d : D} {c k : Nat} (h : d.sm c k = true) : ∃ p, d.py = some p ∧ p.showable = true ∧ p.shown.length ≤ c ∧ p.depth ≤ k := by
  unfold D.sm at h
  cases e : d.py with
  | none => rw [e] at h; cases h
  | some p =>
    rw [e] at h
    simp only [Bool.and_eq_true, decide_eq_true_eq] at h
    exact ⟨p, rfl, h.1.1, h.1.2, h.2⟩
theorem sm_of {d : D} {c k : Nat} {p : PyData} (e : d.py = some p) (h1 : p.showable = true) (h2 : p.shown.length ≤ c) (h3 : p.depth ≤ k) : d.sm c k = true := by
  unfold D.sm
  rw [e]
  simp [h1, h2, h3]
theorem D.sm_mono {d : D} {c c' k k' : Nat} (h : d.sm c k = true) (hc : c ≤ c') (hk : k ≤ k') : d.sm c' k' = true := by
  obtain ⟨p, e, h1, h2, h3⟩ := sm_py h
  exact sm_of e h1 (Nat.le_trans h2 hc) (Nat.le_trans h3 hk)
theorem showable_of_sm {d : D} {c k : Nat} (h : d.sm c k = true) (hc : c ≤ sizeLine) (hk : k ≤ 64) : d.showable = true := by
  obtain ⟨p, e, h1, h2, h3⟩ := sm_py h
  unfold D.showable
  rw [e]
  simp only [h1, Bool.true_and, Bool.and_eq_true, decide_eq_true_eq]
  exact ⟨Nat.le_trans h2 hc, Nat.le_trans h3 hk⟩
theorem sm_all {c k : Nat} : ∀ {ds : List D}, (∀ d ∈ ds, d.sm c k = true) → ∃ ps, D.pyA ds = some ps ∧ PyData.showableAll ps = true ∧ ((PyData.shownAll ps).map (·.length)).sum ≤ ds.length * c ∧ (PyData.shownAll ps).length = ds.length ∧ PyData.depthAll ps ≤ k
  | [], _ => ⟨[], rfl, by simp [PyData.showableAll], by simp [PyData.shownAll], by simp [PyData.shownAll], by simp [PyData.depthAll]⟩
  | d :: ds, h => by
    obtain ⟨ps, e, a1, a2, a3, a4⟩ := sm_all (ds := ds) fun x hx => h x (List.mem_cons_of_mem _ hx)
    obtain ⟨p, e1, b1, b2, b3⟩ := sm_py (h d List.mem_cons_self)
    refine ⟨p :: ps, by unfold D.pyA; rw [e1, e], by simp [PyData.showableAll, b1, a1], ?_, by simp [PyData.shownAll, a3], ?_⟩
    · simp only [PyData.shownAll, List.map_cons, List.sum_cons, List.length_cons, Nat.succ_mul]
      omega
    · show max p.depth (PyData.depthAll ps) ≤ k
      omega
theorem sm_lst {c k : Nat} {ds : List D} (h : ∀ d ∈ ds, d.sm c k = true) : (D.lst ds).sm (ds.length * (c + 2) + 3) (k + 1) = true := by
  obtain ⟨ps, e, a1, a2, a3, a4⟩ := sm_all h
  refine sm_of (p := .list ps) (by unfold D.py; rw [e]; rfl) (by simpa [PyData.showable] using a1) ?_ (by show PyData.depthAll ps + 1 ≤ k + 1; omega)
  have := PySem.listText_len_le (PyData.shownAll ps)
  show (PyData.shown (.list ps)).length ≤ _
  simp only [PyData.shown]
  rw [Nat.mul_add]
  omega
theorem sm_tup {c k : Nat} {ds : List D} (h : ∀ d ∈ ds, d.sm c k = true) : (D.tup ds).sm (ds.length * (c + 2) + 3) (k + 1) = true := by
  obtain ⟨ps, e, a1, a2, a3, a4⟩ := sm_all h
  refine sm_of (p := .tuple ps) (by unfold D.py; rw [e]; rfl) (by simpa [PyData.showable] using a1) ?_ (by show PyData.depthAll ps + 1 ≤ k + 1; omega)
  have := PySem.tupleText_len_le (PyData.shownAll ps)
  show (PyData.shown (.tuple ps)).length ≤ _
  simp only [PyData.shown]
  rw [Nat.mul_add]
  omega
theorem sm_str {x : Str} (h : ∀ c ∈ x.cps.toList, c < 16 ^ 8) : (D.str x).sm (10 * x.length + 2) 0 = true :=
  sm_of (p := .str x) (by simp [D.py]) (by simp [PyData.showable]) (by simp only [PyData.shown]; exact PySem.StrLaws.reprText_len x h) (by simp [PyData.depth])
theorem sm_int {i : Int} (h : i.natAbs.log2 < 1920) : (D.int i).sm 1921 0 = true :=
  sm_of (p := .int i) (by simp [D.py]) (by simpa [PyData.showable] using h) (by simp only [PyData.shown]; have := int_text_length_le (a := i) (k := 1920) (by decide) h; rw [PySem.ofString_length]; exact this) (by simp [PyData.depth])
theorem sm_int' {i : Int} (h0 : -(2 ^ 1900) < i) (h1 : i < 2 ^ 1900) : (D.int i).sm 1921 0 = true := by
  refine sm_int ?_
  have : i.natAbs < 2 ^ 1920 := by
    have : (2 : Nat) ^ 1900 < 2 ^ 1920 := Nat.pow_lt_pow_right (by decide) (by decide)
    omega
  by_cases z : i.natAbs = 0
  · rw [z]; decide
  · exact (Nat.log2_lt z).mpr this
theorem sm_bl (b : Bool) : (D.bl b).sm 5 0 = true := by cases b <;> decide +kernel
theorem sm_non : D.non.sm 4 0 = true := by decide +kernel
/-! ### == -/
def twoStr (x y : D) : Bool := match x, y with
  | .str _, .str _ => true
  | _, _ => false
def eqX : W2 := fun x y k => (twoStr x y = true ∨ (x.shaped = true ∧ y.shaped = true)) ∧ k (.bl (D.eqv x y))
def neX : W2 := fun x y k => (twoStr x y = true ∨ (x.shaped = true ∧ y.shaped = true)) ∧ k (.bl (!D.eqv x y))
theorem twoStr_of {x y : D} (h : twoStr x y = true) : ∃ a b, x = .str a ∧ y = .str b := by
  cases x <;> cases y <;> first | exact ⟨_, _, rfl, rfl⟩ | cases h
theorem str_beq (a b : Str) : (a.cps.toList == b.cps.toList) = (a == b) := by
  by_cases e : a = b
  · subst e; simp
  · have : a.cps.toList ≠ b.cps.toList := fun q => e (by obtain ⟨⟨l⟩⟩ := a; obtain ⟨⟨l'⟩⟩ := b; simp at q; rw [q])
    rw [beq_eq_false_iff_ne.mpr this, beq_eq_false_iff_ne.mpr e]
theorem str_bne (a b : Str) : (a.cps.toList != b.cps.toList) = !(a == b) := by rw [← str_beq]; rfl
section
variable {X : Cx} {Φ : Phi}
theorem od_eqX (hu : X.A.units + 64 < cLine) (hl : LowK X) : OpD X (compareOp .Eq) eqX := by
  refine ⟨fun x y k k' h q => ⟨q.1, h _ q.2⟩, fun pins s σ H x y v u Q I rx ry ⟨z, S, dx, dy, hS, hx, hy, s1, q⟩ => ?_⟩
  rcases s1 with s1 | s1
  · obtain ⟨a, b, rfl, rfl⟩ := twoStr_of s1
    cases hx; cases hy
    obtain ⟨t, rfl⟩ := rx; obtain ⟨t', rfl⟩ := ry
    refine PySem.P.eq_str ?_
    rw [str_beq]
    have e : D.eqv (.str a) (.str b) = (a == b) := by simp [D.eqv, D.py, PyData.eqv]
    rw [e] at q
    exact ⟨.bl _, H, I, rfl, q _ H (Grow.refl H) (.bl _)⟩
  · exact (od_eq hu hl).run pins s σ H x y v u Q I rx ry ⟨z, S, dx, dy, hS, hx, hy, s1.1, s1.2, q⟩
theorem od_neX (hu : X.A.units + 64 < cLine) (hl : LowK X) : OpD X (compareOp .NotEq) neX := by
  refine ⟨fun x y k k' h q => ⟨q.1, h _ q.2⟩, fun pins s σ H x y v u Q I rx ry ⟨z, S, dx, dy, hS, hx, hy, s1, q⟩ => ?_⟩
  rcases s1 with s1 | s1
  · obtain ⟨a, b, rfl, rfl⟩ := twoStr_of s1
    cases hx; cases hy
    obtain ⟨t, rfl⟩ := rx; obtain ⟨t', rfl⟩ := ry
    refine PySem.P.ne_str ?_
    rw [str_bne]
    have e : D.eqv (.str a) (.str b) = (a == b) := by simp [D.eqv, D.py, PyData.eqv]
    rw [e] at q
    exact ⟨.bl _, H, I, rfl, q _ H (Grow.refl H) (.bl _)⟩
  · exact (od_ne hu hl).run pins s σ H x y v u Q I rx ry ⟨z, S, dx, dy, hS, hx, hy, s1.1, s1.2, q⟩
end
theorem size_empty {its : List Value} {ds : List D} (h : its.length = ds.length) : (its.toArray.size == (#[] : Array Value).size) = ds.isEmpty := by
  cases ds <;> cases its <;> simp_all
/-- == with an empty tuple or list -/
def eqZ : W2 := fun x y k => match x, y with
  | .tup a, .tup [] => k (.bl a.isEmpty)
  | .lst a, .lst [] => k (.bl a.isEmpty)
  | _, _ => False
theorem od_eqZ {X : Cx} (hu : X.A.units + 64 < cLine) : OpD X (compareOp .Eq) eqZ := by
  refine ⟨fun x y k k' h q => ?_, fun pins s σ H x y v u Q I rx ry ⟨z, S, dx, dy, hS, hx, hy, q⟩ => ?_⟩
  · revert q
    unfold eqZ
    split
    · exact fun q => h _ q
    · exact fun q => h _ q
    · exact fun q => q.elim
  · unfold eqZ at q
    split at q
    · cases hx with
      | tup e1 i1 =>
        cases hy with
        | tup e2 i2 =>
          cases i2
          cases rx; cases ry
          obtain ⟨its, rv, p1, _⟩ := I.tuple (sqT_hide e1)
          obtain ⟨its2, rv2, p2, _⟩ := I.tuple (sqT_hide e2)
          cases rv2
          have e5 : (its.toArray.size == (#[] : Array Value).size) = (List.isEmpty _) := size_empty (rv.length.symm.trans i1.length)
          refine SeqAt.eq_tupleAt (e := fun _ => true) (show s.heap.IsTuple _ its.toArray from p1) (show s.heap.IsTuple _ #[] from p2) (by omega) (fun j _ h2 => absurd h2 (by simp)) ⟨.bl _, H, I, rfl, ?_⟩
          rw [e5]
          simpa using q _ H (Grow.refl H) (.bl _)
    · cases hx with
      | lst e1 i1 =>
        cases hy with
        | lst e2 i2 =>
          cases i2
          cases rx; cases ry
          obtain ⟨its, rv, p1, _⟩ := I.list (SqL.of (K := X.K) (hide_same _ _ e1))
          obtain ⟨its2, rv2, p2, _⟩ := I.list (SqL.of (K := X.K) (hide_same _ _ e2))
          cases rv2
          have e5 : (its.toArray.size == (#[] : Array Value).size) = (List.isEmpty _) := size_empty (rv.length.symm.trans i1.length)
          have q' := q _ H (Grow.refl H) (.bl _)
          rw [← e5] at q'
          by_cases hz : its.toArray.size = 0
          · refine SeqAt.eq_listAt (e := fun _ => true) p1.isList p2.isList (by rw [hz]; rfl) (by omega) (fun j _ h2 => absurd h2 (by simp)) ⟨.bl _, H, I, rfl, ?_⟩
            rw [hz] at q' ⊢
            simpa using q'
          · refine SeqAt.eq_list_lengthsAt p1.isList p2.isList (by simpa using hz) (by omega) ⟨.bl _, H, I, rfl, ?_⟩
            have : (its.toArray.size == (#[] : Array Value).size) = false := by simpa using hz
            rw [this] at q'
            exact q'
    · exact q.elim
theorem eqv_str (a b : Str) : D.eqv (.str a) (.str b) = (a == b) := by simp [D.eqv, D.py, PyData.eqv]
theorem eqv_int (a b : Int) : D.eqv (.int a) (.int b) = (a == b) := by simp [D.eqv, D.py, PyData.eqv]
theorem shaped_int (a : Int) : (D.int a).shaped = true := by simp [D.shaped, D.py, SeqAt.shaped, PyData.canLay0, PyData.depth]
theorem shaped_bl (a : Bool) : (D.bl a).shaped = true := by simp [D.shaped, D.py, SeqAt.shaped, PyData.canLay0, PyData.depth]
theorem shaped_non : D.non.shaped = true := by simp [D.shaped, D.py, SeqAt.shaped, PyData.canLay0, PyData.depth]
/-! ### what == takes -/
def D.lay (k : Nat) (d : D) : Bool := match d.py with
  | some p => p.canLay0 && decide (p.depth ≤ k)
  | none => false
theorem lay_py {d : D} {k : Nat} (h : d.lay k = true) : ∃ p, d.py = some p ∧ p.canLay0 = true ∧ p.depth ≤ k := by
  unfold D.lay at h
  cases e : d.py with
  | none => rw [e] at h; cases h
  | some p =>
    rw [e] at h
    simp only [Bool.and_eq_true, decide_eq_true_eq] at h
    exact ⟨p, rfl, h.1, h.2⟩
theorem lay_of {d : D} {k : Nat} {p : PyData} (e : d.py = some p) (h1 : p.canLay0 = true) (h3 : p.depth ≤ k) : d.lay k = true := by
  unfold D.lay
  rw [e]
  simp [h1, h3]
theorem D.lay_mono {d : D} {k k' : Nat} (h : d.lay k = true) (hk : k ≤ k') : d.lay k' = true := by
  obtain ⟨p, e, h1, h3⟩ := lay_py h
  exact lay_of e h1 (Nat.le_trans h3 hk)
theorem shaped_of_lay {d : D} {k : Nat} (h : d.lay k = true) (hk : k ≤ 64) : d.shaped = true := by
  obtain ⟨p, e, h1, h3⟩ := lay_py h
  unfold D.shaped SeqAt.shaped
  rw [e]
  simp only [h1, Bool.true_and, decide_eq_true_eq]
  omega
theorem plain_of_lay {d : D} {k : Nat} (h : d.lay k = true) (hk : k ≤ 60) : plain d = true := by
  obtain ⟨p, e, h1, h3⟩ := lay_py h
  unfold plain
  rw [e]
  simp only [h1, Bool.true_and, decide_eq_true_eq]
  omega
theorem lay_all {k : Nat} : ∀ {ds : List D}, (∀ d ∈ ds, d.lay k = true) → ∃ ps, D.pyA ds = some ps ∧ PyData.canLayAll0 ps = true ∧ PyData.depthAll ps ≤ k
  | [], _ => ⟨[], rfl, rfl, Nat.zero_le _⟩
  | d :: ds, h => by
    obtain ⟨ps, e, a1, a4⟩ := lay_all (ds := ds) fun x hx => h x (List.mem_cons_of_mem _ hx)
    obtain ⟨p, e1, b1, b3⟩ := lay_py (h d List.mem_cons_self)
    refine ⟨p :: ps, by unfold D.pyA; rw [e1, e], by simp [PyData.canLayAll0, b1, a1], ?_⟩
    show max p.depth (PyData.depthAll ps) ≤ k
    omega
theorem lay_lst {k : Nat} {ds : List D} (h : ∀ d ∈ ds, d.lay k = true) : (D.lst ds).lay (k + 1) = true := by
  obtain ⟨ps, e, a1, a4⟩ := lay_all h
  exact lay_of (p := .list ps) (by unfold D.py; rw [e]; rfl) (by simpa [PyData.canLay0] using a1) (by show PyData.depthAll ps + 1 ≤ k + 1; omega)
theorem lay_tup {k : Nat} {ds : List D} (h : ∀ d ∈ ds, d.lay k = true) : (D.tup ds).lay (k + 1) = true := by
  obtain ⟨ps, e, a1, a4⟩ := lay_all h
  exact lay_of (p := .tuple ps) (by unfold D.py; rw [e]; rfl) (by simpa [PyData.canLay0] using a1) (by show PyData.depthAll ps + 1 ≤ k + 1; omega)
theorem lay_str {x : Str} (h : PyData.strOk x = true) : (D.str x).lay 0 = true := lay_of (p := .str x) (by simp [D.py]) (by simpa [PyData.canLay0] using h) (by simp [PyData.depth])
theorem lay_int (i : Int) : (D.int i).lay 0 = true := lay_of (p := .int i) (by simp [D.py]) (by simp [PyData.canLay0]) (by simp [PyData.depth])
theorem lay_bl (i : Bool) : (D.bl i).lay 0 = true := lay_of (p := .bool i) (by simp [D.py]) (by simp [PyData.canLay0]) (by simp [PyData.depth])
theorem lay_non : D.non.lay 0 = true := lay_of (p := .none) (by simp [D.py]) (by simp [PyData.canLay0]) (by simp [PyData.depth])
theorem eqv_nil {k : Nat} {ds : List D} (h : ∀ d ∈ ds, d.lay k = true) : D.eqv (.lst ds) (.lst []) = ds.isEmpty := by
  obtain ⟨ps, e, a1, a4⟩ := lay_all h
  have := pyA_len e
  unfold D.eqv D.py
  rw [e]
  cases ds with
  | nil => simp at this; subst this; simp [D.pyA, PyData.eqv, PyData.eqvAll]
  | cons d ds => cases ps with
    | nil => simp at this
    | cons p ps => simp [D.pyA, PyData.eqv, PyData.eqvAll]
end DL
namespace DL
open PySem L2 PySem.Spec PyProof.Rows
/-! ### what the top has written -/
section
variable {K : PySem.W.Frag} {h : Heap} {mg : Str → Option Value}
theorem def_at {x : Str} {st : Stmt} {f : Addr} {oc : Value} {od an : Option Addr} {osl : Array (Option Value)} {kV doc pm cdv ct : Value} (X : K.In h) (G : h.Ns mainGlobals mg) (a : PySem.W.nsIn K mainGlobals x = some (some (.ref f)))
    (l : K.lookup f = some ⟨oc, od, .func (PySem.W.fnOf x x (defArgs st) (defBody st) (defScope st) .none kV doc pm an cdv ct), osl⟩) (c : PySem.W.codeIn K cdv x = true) (k : PySem.W.keepIn K (.ref f) = true) :
    ∃ f fd, At K mg x st f fd := ⟨f, _, fun_mk l c k, PySem.W.mg_of X G a⟩
theorem pick {K : PySem.W.Frag} {h : Heap} (_ : K.In h) {p : PySem.W.Frag → Prop} (q : p K) : p K := q
theorem law_binds {st : Stmt} {f : Addr} {fd : FuncData} (F : Fun K "law" "law" st f fd)
    (h : ∀ (kV doc pm : Value) (an : Option Addr) (cdv ct u : Value), bindArgs (PySem.W.fnOf "law" "law" (defArgs st) (defBody st) (defScope st) .none kV doc pm an cdv ct) ⟨[u], []⟩ = pure [(("script" : Str), u)]) : ∀ (s : Shared) (u : Value), BindsTo s fd ⟨[u], []⟩ [(("script" : Str), u)] := by
  obtain ⟨oc, od, kV, doc, pm, an, cdv, ct, osl, rfl, lk, hcd⟩ := F.ex
  exact fun s u => .of_eq (h _ _ _ _ _ _ u)
theorem glob_str {x z : Str} {t : Tok} (X : K.In h) (G : h.Ns mainGlobals mg) (a : PySem.W.nsIn K mainGlobals x = some (some (.str z t))) : Glob K mg x (.str z) := ⟨.str z, _, PySem.W.mg_of X G a, ⟨t, rfl⟩, fun _ _ => .str z⟩
theorem glob_int {x : Str} {i : Int} {t : Tok} (X : K.In h) (G : h.Ns mainGlobals mg) (a : PySem.W.nsIn K mainGlobals x = some (some (.int i t))) : Glob K mg x (.int i) := ⟨.int i, _, PySem.W.mg_of X G a, ⟨t, rfl⟩, fun _ _ => .int i⟩
/-- flat values as data -/
def flatD : Value → Option (V × D)
  | .none => some (.non, .non)
  | .bool b => some (.bl b, .bl b)
  | .int i _ => some (.int i, .int i)
  | .str z _ => some (.str z, .str z)
  | _ => none
def flatDs : List Value → Option (List V × List D)
  | [] => some ([], [])
  | v :: vs => match flatD v, flatDs vs with
    | some a, some b => some (a.1 :: b.1, a.2 :: b.2)
    | _, _ => none
theorem flatD_is {v : Value} {a : V × D} (e : flatD v = some a) (z : Z) (G : Hp) : RelV a.1 v ∧ Is z K G a.1 a.2 := by
  cases v <;> simp [flatD] at e <;> subst e
  · exact ⟨rfl, .non⟩
  · exact ⟨rfl, .bl _⟩
  · exact ⟨⟨_, rfl⟩, .int _⟩
  · exact ⟨⟨_, rfl⟩, .str _⟩
theorem flatDs_is : ∀ {vs : List Value} {a : List V × List D}, flatDs vs = some a → ∀ (z : Z) (G : Hp), Vals a.1 vs ∧ IsA z K G a.1 a.2
  | [], a, e, z, G => by simp [flatDs] at e; subst e; exact ⟨.nil, .nil⟩
  | v :: vs, a, e, z, G => by
    unfold flatDs at e
    cases e1 : flatD v with
    | none => rw [e1] at e; simp at e
    | some b =>
      cases e2 : flatDs vs with
      | none => rw [e1, e2] at e; simp at e
      | some c =>
        rw [e1, e2] at e; simp at e; subst e
        have h1 := flatD_is (K := K) e1 z G
        have h2 := flatDs_is e2 z G
        exact ⟨.cons h1.1 h2.1, .cons h1.2 h2.2⟩
theorem glob_tup {x : Str} {p : Addr} {od : Option Addr} {osl : Array (Option Value)} {its : Array Value} {n : Nat} {vs : List V} {ds : List D} (X : K.In h) (G : h.Ns mainGlobals mg) (a : PySem.W.nsIn K mainGlobals x = some (some (.ref p)))
    (l : K.lookup p = some ⟨.type "tuple", od, .seq its n, osl⟩) (e : flatDs its.toList = some (vs, ds)) (hs : its.size ≤ sizeLine) : Glob K mg x (.tup ds) :=
  ⟨.ref p, _, PySem.W.mg_of X G a, rfl, fun z G => .tup (.inr ⟨_, its, n, l, rfl, rfl, hs, (flatDs_is (K := K) e z G).1⟩) (flatDs_is e z G).2⟩
theorem nb_of (X : K.In h) (G : h.Ns mainGlobals mg) (z1 : PySem.W.nsIn K mainGlobals "len" = some none) (z2 : PySem.W.nsIn K mainGlobals "isinstance" = some none) (z3 : PySem.W.nsIn K mainGlobals "abs" = some none) (z4 : PySem.W.nsIn K mainGlobals "min" = some none)
    (z5 : PySem.W.nsIn K mainGlobals "all" = some none) (z6 : PySem.W.nsIn K mainGlobals "any" = some none) (z7 : PySem.W.nsIn K mainGlobals "repr" = some none) (z8 : PySem.W.nsIn K mainGlobals "sorted" = some none)
    (z9 : PySem.W.nsIn K mainGlobals "int" = some none) (y1 : PySem.W.nsIn K mainGlobals "bool" = some none) (y2 : PySem.W.nsIn K mainGlobals "str" = some none) (y3 : PySem.W.nsIn K mainGlobals "tuple" = some none)
    (y4 : PySem.W.nsIn K mainGlobals "list" = some none) (y5 : PySem.W.nsIn K mainGlobals "dict" = some none) (y6 : PySem.W.nsIn K mainGlobals "set" = some none) (y7 : PySem.W.nsIn K mainGlobals "range" = some none) : NB mg :=
  ⟨PySem.W.mg_none_of X G z1, PySem.W.mg_none_of X G z2, PySem.W.mg_none_of X G z3, PySem.W.mg_none_of X G z4, PySem.W.mg_none_of X G z5, PySem.W.mg_none_of X G z6, PySem.W.mg_none_of X G z7, PySem.W.mg_none_of X G z8,
   PySem.W.mg_none_of X G z9, PySem.W.mg_none_of X G y1, PySem.W.mg_none_of X G y2, PySem.W.mg_none_of X G y3, PySem.W.mg_none_of X G y4, PySem.W.mg_none_of X G y5, PySem.W.mg_none_of X G y6, PySem.W.mg_none_of X G y7⟩
end
end DL
namespace DL
open PySem L2 PySem.Spec PyProof.Rows
/-! ### how long a datum's text is at most, how deep it is -/
mutual
def D.wt : D → Nat
  | .non => 4
  | .bl _ => 5
  | .int i => i.natAbs.log2 + 3
  | .str x => 10 * x.length + 2
  | .tup ds => D.wtA ds + 3
  | .lst ds => D.wtA ds + 3
  | .dct _ _ => 40
  | _ => 0
def D.wtA : List D → Nat
  | [] => 0
  | d :: ds => d.wt + 2 + D.wtA ds
end
mutual
def D.dp : D → Nat
  | .tup ds => D.dpA ds + 1
  | .lst ds => D.dpA ds + 1
  | .dct _ _ => 2
  | _ => 0
def D.dpA : List D → Nat
  | [] => 0
  | d :: ds => max d.dp (D.dpA ds)
end
theorem wtA_append : ∀ a b : List D, D.wtA (a ++ b) = D.wtA a + D.wtA b
  | [], b => by simp [D.wtA]
  | x :: a, b => by simp [D.wtA, wtA_append a b]; omega
theorem dpA_append : ∀ a b : List D, D.dpA (a ++ b) = max (D.dpA a) (D.dpA b)
  | [], b => by simp [D.dpA]
  | x :: a, b => by simp [D.dpA, dpA_append a b, Nat.max_assoc]
theorem wtA_len : ∀ a : List D, 2 * a.length ≤ D.wtA a
  | [] => by simp [D.wtA]
  | x :: a => by have := wtA_len a; simp [D.wtA]; omega
theorem wtA_mem : ∀ {a : List D} {x : D}, x ∈ a → x.wt + 2 ≤ D.wtA a
  | y :: a, x, h => by
    rcases List.mem_cons.mp h with rfl | h
    · simp [D.wtA]
    · have := wtA_mem h; simp [D.wtA]; omega
theorem dpA_mem : ∀ {a : List D} {x : D}, x ∈ a → x.dp ≤ D.dpA a
  | y :: a, x, h => by
    rcases List.mem_cons.mp h with rfl | h
    · simp [D.dpA]; omega
    · have := dpA_mem h; simp [D.dpA]; omega
theorem dpA_le : ∀ {a : List D} {k : Nat}, (∀ x ∈ a, x.dp ≤ k) → D.dpA a ≤ k
  | [], k, _ => by simp [D.dpA]
  | y :: a, k, h => by
    have h1 := h y List.mem_cons_self
    have h2 := dpA_le (a := a) fun x hx => h x (List.mem_cons_of_mem _ hx)
    simp [D.dpA]; omega
theorem wtA_le : ∀ {a : List D} {k : Nat}, (∀ x ∈ a, x.wt ≤ k) → D.wtA a ≤ a.length * (k + 2)
  | [], k, _ => by simp [D.wtA]
  | y :: a, k, h => by
    have h1 := h y List.mem_cons_self
    have h2 := wtA_le (a := a) fun x hx => h x (List.mem_cons_of_mem _ hx)
    simp [D.wtA, Nat.succ_mul]; omega
/-- data that have a text -/
inductive Nice : D → Prop
  | non : Nice .non
  | bl (b : Bool) : Nice (.bl b)
  | int {i : Int} : i.natAbs.log2 < 1900 → Nice (.int i)
  | str {x : Str} : PyData.strOk x = true → x.length ≤ 100000 → Nice (.str x)
  | tup {ds : List D} : (∀ d ∈ ds, Nice d) → Nice (.tup ds)
  | lst {ds : List D} : (∀ d ∈ ds, Nice d) → Nice (.lst ds)
  | d0 : Nice (.dct [] [])
  | d1 : Nice (.dct [.inr "a"] [.int 1])
theorem nice_all : ∀ {ds : List D}, (∀ d ∈ ds, ∃ p, d.py = some p ∧ p.showable = true ∧ p.shown.length ≤ d.wt ∧ p.depth ≤ d.dp) →
    ∃ ps, D.pyA ds = some ps ∧ PyData.showableAll ps = true ∧ ((PyData.shownAll ps).map (·.length)).sum + 2 * ds.length ≤ D.wtA ds ∧ (PyData.shownAll ps).length = ds.length ∧ PyData.depthAll ps ≤ D.dpA ds
  | [], _ => ⟨[], rfl, by simp [PyData.showableAll], by simp [PyData.shownAll, D.wtA], by simp [PyData.shownAll], by simp [PyData.depthAll]⟩
  | d :: ds, h => by
    obtain ⟨ps, e, a1, a2, a3, a4⟩ := nice_all (ds := ds) fun x hx => h x (List.mem_cons_of_mem _ hx)
    obtain ⟨p, e1, b1, b2, b3⟩ := h d List.mem_cons_self
    refine ⟨p :: ps, by unfold D.pyA; rw [e1, e], by simp [PyData.showableAll, b1, a1], ?_, by simp [PyData.shownAll, a3], ?_⟩
    · simp only [PyData.shownAll, List.map_cons, List.sum_cons, List.length_cons, D.wtA]
      omega
    · show max p.depth (PyData.depthAll ps) ≤ max d.dp (D.dpA ds)
      omega
theorem nice_py {d : D} (h : Nice d) : ∃ p, d.py = some p ∧ p.showable = true ∧ p.shown.length ≤ d.wt ∧ p.depth ≤ d.dp := by
  induction h with
  | non => obtain ⟨p, e, h1, h2, h3⟩ := sm_py sm_non; exact ⟨p, e, h1, h2, h3⟩
  | bl b => obtain ⟨p, e, h1, h2, h3⟩ := sm_py (sm_bl b); exact ⟨p, e, h1, h2, h3⟩
  | @int i h =>
    refine ⟨.int i, by simp [D.py], by simp [PyData.showable]; omega, ?_, by simp [PyData.depth]⟩
    have := int_text_length_le (a := i) (k := i.natAbs.log2 + 1) (by omega) (Nat.lt_succ_self _)
    simp only [PyData.shown, D.wt]
    rw [PySem.ofString_length]
    omega
  | @str x h hl =>
    have hs : ∀ c ∈ x.cps.toList, c < 16 ^ 8 := fun c hc => by
      unfold PyData.strOk at h
      rw [← Array.all_toList] at h
      have := List.all_eq_true.mp h c hc
      simp at this; omega
    obtain ⟨p, e, h1, h2, h3⟩ := sm_py (sm_str hs)
    exact ⟨p, e, h1, h2, h3⟩
  | @tup ds h ih =>
    obtain ⟨ps, e, a1, a2, a3, a4⟩ := nice_all ih
    refine ⟨.tuple ps, by unfold D.py; rw [e]; rfl, by simpa [PyData.showable] using a1, ?_, by show PyData.depthAll ps + 1 ≤ D.dpA ds + 1; omega⟩
    have := PySem.tupleText_len_le (PyData.shownAll ps)
    simp only [PyData.shown, D.wt]
    omega
  | @lst ds h ih =>
    obtain ⟨ps, e, a1, a2, a3, a4⟩ := nice_all ih
    refine ⟨.list ps, by unfold D.py; rw [e]; rfl, by simpa [PyData.showable] using a1, ?_, by show PyData.depthAll ps + 1 ≤ D.dpA ds + 1; omega⟩
    have := PySem.listText_len_le (PyData.shownAll ps)
    simp only [PyData.shown, D.wt]
    omega
  | d0 => exact ⟨.dict [], by rfl, by decide +kernel, by decide +kernel, by decide +kernel⟩
  | d1 => exact ⟨.dict [(.str "a", .int 1)], by rfl, by decide +kernel, by decide +kernel, by decide +kernel⟩
theorem nice_show {d : D} (h : Nice d) (hw : d.wt ≤ sizeLine) (hd : d.dp ≤ 64) : d.showable = true := by
  obtain ⟨p, e, h1, h2, h3⟩ := nice_py h
  exact showable_of_sm (sm_of e h1 (Nat.le_trans h2 hw) (Nat.le_trans h3 hd)) (Nat.le_refl _) (Nat.le_refl _)
theorem nice_okD {d : D} (h : Nice d) : okD d := by cases h <;> rfl
theorem nice_int {i : Int} (h0 : -(2 ^ 200) < i) (h1 : i < 2 ^ 200) : Nice (.int i) := by
  refine .int ?_
  have : i.natAbs < 2 ^ 1899 := by
    have : (2 : Nat) ^ 200 < 2 ^ 1899 := Nat.pow_lt_pow_right (by decide) (by decide)
    omega
  by_cases z : i.natAbs = 0
  · rw [z]; decide
  · have := (Nat.log2_lt z).mpr this; omega
theorem log2_le {i : Int} {k : Nat} (h : i.natAbs < 2 ^ k) : i.natAbs.log2 ≤ k := by
  by_cases z : i.natAbs = 0
  · rw [z]; simp
  · exact Nat.le_of_lt ((Nat.log2_lt z).mpr h)
end DL
namespace DL
open PySem L2 PySem.Spec PyProof.Rows
/-! ### a frame whose marks are counted -/
abbrev WFm := List D → Nat → Int → (D → Nat → Int → Prop) → Prop
abbrev PhiA (w : World) : Phi := fun z _ _ => z.w = w ∧ z.act = true
def spM (K : PySem.W.Frag) (wd : World) (w : WFm) (vs : List V) (H : Hp) (Q : VK) : Prop := ∃ z S0 ds n m, (z.w = wd ∧ z.act = true) ∧ Sta z n (some m) H ∧ (∀ p, S0 p → H p ≠ none) ∧ ((∀ p, Zs z p → S0 p) ∧ ∀ p, Zf z p → S0 p) ∧ IsA z K (hide S0 H) vs ds ∧
  w ds n m fun d n' m' => ∀ v H', Ext (Zs z) S0 H H' → Sta z n' (some m') H' → Is z K (hide S0 H') v d → Q v H'
structure FnM (P : Program) (w : World) (K : PySem.W.Frag) (mg : Str → Option Value) (base : Heap) (k : Nat) (f : Addr) (fd : FuncData) (ps : List Str) (W : WFm) : Prop where
  mono : ∀ ds n m {k k' : D → Nat → Int → Prop}, (∀ d n m, k d n m → k' d n m) → W ds n m k → W ds n m k'
  len : ∀ ds n m k, W ds n m k → ds.length = ps.length
  run : ∀ (A : Around) (outer : List Env) (s : Shared) (H : Hp) (args : Args) (us : List Value) (vs : List V) (Q : VK), Room k A → A.guards = some [] → Env0 P w K mg base A outer s H → BindsTo s fd args (ps.zip us) → Vals vs us → spM K w W vs H Q →
    codeAny (model P w) A (.call (.ref f) args) (CR CX0 outer P w H s Q E0) s
theorem FnM.up {P : Program} {w : World} {K : PySem.W.Frag} {mg : Str → Option Value} {base : Heap} {j k : Nat} {f : Addr} {fd : FuncData} {ps : List Str} {W : WFm} (F : FnM P w K mg base j f fd ps W) (h : j ≤ k) : FnM P w K mg base k f fd ps W :=
  ⟨F.mono, F.len, fun A outer s H args us vs Q hr => F.run A outer s H args us vs Q (hr.mono h)⟩
structure OkM (P : Program) (w : World) (K : PySem.W.Frag) (mg : Str → Option Value) (base : Heap) (x : Str) (st : Stmt) (k : Nat) (ps : List Str) (W : WFm) : Prop where
  ex : ∃ f fd, Fun K x x st f fd ∧ FnM P w K mg base k f fd ps W ∧ mg x = some (.ref f) ∧ Binds K fd ps []
theorem OkM.mk' {P : Program} {w : World} {K : PySem.W.Frag} {mg : Str → Option Value} {base : Heap} {x : Str} {st : Stmt} {k : Nat} {ps : List Str} {W : WFm} {f : Addr} {fd : FuncData} (a : At K mg x st f fd) (b : Binds K fd ps []) (F : FnM P w K mg base k f fd ps W) : OkM P w K mg base x st k ps W := ⟨f, fd, a.fn, F, a.mg, b⟩
def GoodM (W : WFm) (m : Nat) : Prop := (∀ ds n q {k k' : D → Nat → Int → Prop}, (∀ d n m, k d n m → k' d n m) → W ds n q k → W ds n q k') ∧ ∀ ds n q k, W ds n q k → ds.length = m
def WNoM : WFm := fun _ _ _ _ => False
def prevM (V : Nat → WFm) : Nat → WFm
  | 0 => WNoM
  | L + 1 => V L
theorem OkM.never {P : Program} {w : World} {K : PySem.W.Frag} {mg : Str → Option Value} {base : Heap} {x : Str} {st : Stmt} {k : Nat} {ps : List Str} {f : Addr} {fd : FuncData} (a : At K mg x st f fd) (b : Binds K fd ps []) : OkM P w K mg base x st k ps WNoM :=
  OkM.mk' a b ⟨fun _ _ _ _ _ _ q => q, fun _ _ _ _ q => q.elim, fun _ _ _ _ _ _ _ _ _ _ _ _ _ ⟨_, _, _, _, _, _, _, _, _, _, q⟩ => q.elim⟩
section
variable {X : Cx} {Φ : Phi} {k : Nat} {f : Addr} {fd : FuncData} {ps : List Str} {W : WFm}
theorem run_M {pins : List (Addr × Obj)} {σ : L2.St} {H : Hp} {s : Shared} {Q : VK} {args : Args} {us : List Value} {vs : List V} (F : FnM X.prog X.w X.K X.mg X.base k f fd ps W) (hr : Room k X.A) (hgd : X.A.guards = some [])
    (I : Inv X pins σ H s) (hb : BindsTo s fd args (ps.zip us)) (r : Vals vs us) (h : spM X.K X.w W vs H Q) : codeAny (model X.prog X.w) X.A (.call (.ref f) args) (fun r s' => match r with | .ok (.ret u) => EP X pins σ Q u s' | _ => False) s := by
  refine codeAny_mono (F.run X.A X.stack s H args us vs Q hr hgd I.env0 hb r h) fun r s' hq => ?_
  match r, hq with
  | .error e, hq => exact hq.elim
  | .ok (.ret u), hq => exact I.after hq
  | .ok .next, hq => exact hq.elim
  | .ok .brk, hq => exact hq.elim
  | .ok .cont, hq => exact hq.elim
/-- the call, by values -/
theorem pe_M {x : Str} {p pos : Pos} {e : Expr} {es : List Expr} {ta : TA} (F : FnM X.prog X.w X.K X.mg X.base k f fd ps W) (hr : Room k X.A) (hgd : X.A.guards = some []) (hg : Gl X x) (hm : X.mg x = some (.ref f)) (hk : PySem.W.keepIn X.K (.ref f) = true) (hb : Binds X.K fd ps [])
    (ha : PA X (e :: es) ta) (hdb : (x == ("__debug__" : Str)) = false := by decide) (he : starEach (e :: es) X.env = (false, eval e X.env) :: starEach es X.env := by rfl) (hpl : (backTo pos (starEach es X.env)).any (·.1) = false := by rfl) :
    PE X (.Call (.Name x p) (e :: es) [] pos) (fun σ H Q => ta σ H fun vs H1 => spM X.K X.w W vs H1 Q) := by
  refine ⟨fun pins s σ H Q I h => wpAny_Call_Name_kw (ld_glob I hg hm ?_ hdb)⟩
  refine PySem.W.callWith_K (h₀ := X.base) I.ok.mod.kin hk (thn (ha.run pos pins s σ H _ I h) fun us s1 ⟨vs, H1, I1, r, q⟩ => ⟨I1.kIn, ?_⟩) he hpl
  have hl : us.length = ps.length := by
    obtain ⟨z, S0, ds, n, m, _, _, _, _, i, w⟩ := q
    rw [← r.length, i.length]
    exact F.len _ _ _ _ w
  have bt := hb s1 us I1.kIn (by rw [List.append_nil]; exact hl)
  rw [List.append_nil] at bt
  refine wpAny_call (codeAny_mono (run_M F hr hgd I1 bt r q) fun rr s' hq => ?_)
  match rr, hq with
  | .error e, hq => exact hq.elim
  | .ok (.ret u), hq => exact hq
  | .ok .next, hq => exact hq.elim
  | .ok .brk, hq => exact hq.elim
  | .ok .cont, hq => exact hq.elim
def mCallM (W : WFm) (n : MA) : ME := fun env k => n env fun ds e => ∃ m, e.mr = some m ∧ W ds e.cr m fun d cr m' => k d { e with cr := cr, mr := some m' }
theorem de_okM {x : Str} {p pos : Pos} {st : Stmt} {e : Expr} {es : List Expr} {n : MA} (o : OkM X.prog X.w X.K X.mg X.base x st k ps W) (hr : Room k X.A) (hgd : X.A.guards = some []) (ha : DA X Φ (e :: es) n) (hw : ∀ z S0 H0, Φ z S0 H0 → z.w = X.w ∧ z.act = true := by exact fun _ _ _ h => h) (hg : Gl X x := by rfl)
    (hdb : (x == ("__debug__" : Str)) = false := by decide) (he : starEach (e :: es) X.env = (false, eval e X.env) :: starEach es X.env := by rfl) (hpl : (backTo pos (starEach es X.env)).any (·.1) = false := by rfl) : DE X Φ (.Call (.Name x p) (e :: es) [] pos) (mCallM W n) := by
  obtain ⟨f, fd, a, F, m, b⟩ := o.ex
  refine ⟨fun env k k' h q => ha.mono env (fun ds e ⟨m, em, q⟩ => ⟨m, em, F.mono _ _ _ (fun d n m q => h _ _ q) q⟩) q, pe_imp (pe_M F hr hgd hg m a.kp b ha.pa hdb he hpl) fun σ H Q ⟨z, S0, H0, ps, env, r, q⟩ => ⟨z, S0, H0, ps, env, r, ha.mono env (fun ds e q => ?_) q⟩⟩
  obtain ⟨m, em, q⟩ := q
  intro vs H1 r1 x1 i1
  have st1 := r1.sta
  rw [em] at st1
  refine ⟨z, Sx S0 ps, ds, e.cr, m, hw _ _ _ r1.phi, st1, r1.dom, ⟨fun p h => .inl (r1.zs p h), fun p h => .inl (r1.zf p h)⟩, i1, F.mono _ _ _ (fun d cr m' q => ?_) q⟩
  intro v H2 x2 s2 i2
  exact q v H2 (r1.call x2 s2) (x1.trans x2.loc) i2
/-- frame["marks"] -/
def mMarks (mo : ME) : ME := fun env k => mo env fun x e1 => (∃ f n, x = .fra f n) ∧ ∃ m, e1.mr = some m ∧ k (.int m) e1
theorem de_marks {o : Expr} {mo : ME} {j : Nat} {pos p2 : Pos} (hu : X.A.units + 1 < cLine) (ho : DE X Φ o mo) : DE X Φ (.Subscript o (.Constant (.str "marks") j p2) pos) (mMarks mo) := by
  refine ⟨fun env k k' h q => ho.mono env (fun x e1 ⟨w, m, em, q⟩ => ⟨w, m, em, h _ _ q⟩) q, pe_imp (pe_dget hu ho.pe pe_str (fun _ _ => rfl)) fun σ H Q ⟨z, S0, H0, ps, env, r, q⟩ => ⟨z, S0, H0, ps, env, r, ho.mono env (fun x e1 q => ?_) q⟩⟩
  obtain ⟨⟨f, n, rfl⟩, m, em, q⟩ := q
  intro v H1 r1 x1 i1
  cases i1 with
  | fra g jf jn =>
    obtain ⟨m', _, g', e'⟩ := r1.sta.fr _ _ _ g
    cases e' m em
    exact ⟨_, _, rfl, .inl ⟨_, .inr "marks", .inl g', rfl, by rw [valV_neg str_ne2, valV_neg str_ne3, valV_pos rfl]⟩, q _ H1 r1 x1 (.int _)⟩
/-- frame["marks"] = e -/
def mMput (mo mv : ME) : MS := fun env k => mv env fun v e1 => mo e1 fun x e2 => (∃ f n, x = .fra f n) ∧ ∃ m, v = .int m ∧ 0 ≤ m ∧ k.nx { e2 with mr := some m }
theorem putK_marks (vf vn : V) (m0 m : Int) : putK [((.inr "fields" : Key), vf), (.inr "numbers", vn), (.inr "marks", V.int m0)] (.inr "marks") (V.int m) = [((.inr "fields" : Key), vf), (.inr "numbers", vn), (.inr "marks", V.int m)] := by
  unfold putK
  rw [if_pos (by simp)]
  simp only [List.map_cons, List.map_nil, if_neg str_ne2, if_neg str_ne3, if_pos]
theorem ds_mput {o e : Expr} {mo mv : ME} {j : Nat} {pos pos' p2 : Pos} (hu : X.A.units + 1 < cLine) (ho : DE X Φ o mo) (hv : DE X Φ e mv) (hw : ∀ z S0 H0, Φ z S0 H0 → z.w = X.w ∧ z.act = true := by exact fun _ _ _ h => h) (hs : swapsWith e (some (.Subscript o (.Constant (.str "marks") j p2) pos')) pos.line X.env = pure false := by rfl) :
    DS X Φ (.Assign [.Subscript o (.Constant (.str "marks") j p2) pos'] e pos) (mMput mo mv) := by
  refine ⟨fun env k k' h q => hv.mono env (fun v e1 q => ho.mono e1 (fun x e2 ⟨w, m, a, b, q⟩ => ⟨w, m, a, b, h.nx _ q⟩) q) q, ps_imp (ps_dput hu ho.pe pe_str hv.pe hs) fun E σ H ⟨z, S0, H0, ps, env, r, q⟩ => ⟨z, S0, H0, ps, env, r, hv.mono env (fun v e1 q => ?_) q⟩⟩
  intro v' H1 r1 x1 i1
  refine ⟨z, S0, H0, ps, e1, r1, ho.mono e1 (fun x e2 q => ?_) q⟩
  intro u H2 r2 x2 i2
  obtain ⟨⟨f, n, rfl⟩, m, rfl, hm, q⟩ := q
  cases i1
  cases i2 with
  | @fra a vf vn _ _ g jf jn =>
    obtain ⟨m0, _, g', _⟩ := r2.sta.fr _ _ _ g
    have za : Zs z a := .inr ⟨(hw _ _ _ r2.phi).2, _, _, g⟩
    refine ⟨a, L2.upd H2 a (frO vf vn m), rfl, .inl ⟨_, .inr "marks", g', rfl, by show 3 < sizeLine; decide, ?_⟩, ?_⟩
    · rw [putK_marks]; rfl
    have ext : Ext (Zs z) (Sx S0 ps) H2 (L2.upd H2 a (frO vf vn m)) := fun b o hb eb => by
      have hba : b ≠ a := fun w => hb (w ▸ za)
      rw [upd_ne hba]; exact ⟨o, eb, .same o, fun _ _ => rfl⟩
    have st : Sta z e2.cr (some m) (L2.upd H2 a (frO vf vn m)) := by
      refine ⟨fun q e => (r2.sta.dr q e).same fun b hb => upd_ne fun w => ?_, fun a' vf' vn' e => ?_, z.stay H2 _ (fun b u su e => ?_) (fun b C dx fs e => ?_) r2.sta.inv⟩
      · obtain ⟨_, _, ws, cs, h1, h2, h3, _⟩ := (r2.sta.dr q e).ex
        subst w
        rcases hb with rfl | rfl | rfl
        · exact ne_of g' h1 (by intro w; unfold frO at w; cases w) rfl
        · exact ne_of g' h2 (by intro w; unfold frO at w; cases w) rfl
        · exact ne_of g' h3 (by intro w; unfold frO at w; cases w) rfl
      · rw [g] at e; cases e
        exact ⟨m, hm, upd_same, fun m' w => by cases w; rfl⟩
      · rw [upd_ne]
        · exact e
        · intro w; subst w; rw [g'] at e; cases e; exact su.2 _ rfl
      · by_cases hb : b = a
        · subst hb; rw [upd_same] at e; unfold frO at e; cases e
        · rw [upd_ne hb] at e; exact e
    exact q _ _ _ (r2.call ext st) (.of_ext (x1.trans (x2.trans ext.loc)))
end
section
variable {P : Program} {w : World} {K : PySem.W.Frag} {mg : Str → Option Value} {base : Heap}
/-- a def that writes the frame -/
theorem fnM_of {x qual : Str} {st : Stmt} {f : Addr} {fd : FuncData} {N ps : List Str} {k : Nat} {W : WFm} (F : Fun K x qual st f fd) (S : FnScope N ps (defScope st)) (gd : GoodM W ps.length)
    (hbody : ∀ (cdv : Value) (A : Around) (outer : List Env) (s : Shared) (H : Hp), Room k (cxD P w K mg base N qual (defScope st) f cdv A outer s H).A → (cxD P w K mg base N qual (defScope st) f cdv A outer s H).A.guards = some [] →
      ∃ m, DSs (cxD P w K mg base N qual (defScope st) f cdv A outer s H) (PhiA w) (defBody st) m ∧ ∀ ds n q kk, W ds n q kk → m { startE N.length ds n with mr := some q } { nx := fun e => ∃ m, e.mr = some m ∧ kk .non e.cr m, rt := fun d e => ∃ m, e.mr = some m ∧ kk d e.cr m }) : FnM P w K mg base (k + 1) f fd ps W := by
  obtain ⟨oc, od, kV, doc, pm, an, cdv, ct, osl, rfl, lk, hcd⟩ := F.ex
  refine ⟨gd.1, gd.2, fun A outer s H args us vs Q hr hgd e0 hb r hsp => ?_⟩
  obtain ⟨z, S0, ds, n, q0, h0, h1, h2, h3, h4, h5⟩ := hsp
  have hl : vs.length = ps.length := by rw [h4.length]; exact gd.2 _ _ _ _ h5
  have keep := fun b o e => (e0.bs b o e).1
  have KX : K.In s.heap := e0.mod.kin.keeps keep
  have lim : s.heap.NoLimit := e0.mod.nolimit.keeps keep
  obtain ⟨m, hm, hq⟩ := hbody cdv A outer s H (hr.deeper _) (deeper_guards hgd)
  refine codeAny_call_function hr.depth (KX _ _ lk) rfl S.co S.gen rfl (PySem.W.codeRec_of KX hcd) (hb _ _ _ _ ?_)
  refine wpAny_newFunctionEnv_cells S.kind (fun y hy => ?_) fun env he s1 x => ?_
  · rcases S.par y.1 (List.of_mem_zip hy).1 with q | q
    · exact .inl q
    · exact .inr ⟨q, PySem.W.cellsFrom_some _ _ _ (.inl q)⟩
  · subst he
    refine ⟨lim.keeps x.toInCall.keep, codeAny_func ?_⟩
    have I0 : Inv (cxOf CX0 P w K mg base N qual (defScope st) f cdv A outer s H E0) [] (L2.start N vs) H s1 := inv_start S hr.hd e0 hl r x
    have I : Inv (cxD P w K mg base N qual (defScope st) f cdv A outer s H) [] (L2.start N vs) H s1 := I0.wish _
    have rl0 := rel_start (Φ := PhiA w) (N := N) h0 h1.wk h2 h3 h4
    have rl := rl0.call (n := n) .refl h1
    have done : ∀ {H' : Hp} {σ' : L2.St} {v : V} {u : Value} {s' : Shared}, Inv (cxD P w K mg base N qual (defScope st) f cdv A outer s H) [] σ' H' s' → RelV v u → Q v H' → CE outer P w H s Q u s' := fun J rv q => ⟨_, _, J.os, J.bare, J.base, J.hok, rv, q⟩
    have hrun := hm.ps.run [] s1 (L2.start N vs) H { nx := fun _ H' => Q .non H', rt := Q } I ⟨z, S0, H, _, _, rl, hm.mono _ ?_ (hq ds n q0 _ h5)⟩
    · refine wpAny_mono hrun (fun fl s' hs => ?_) fun e s' hs => hs.elim
      match fl, hs with
      | .ret u, ⟨v, σ', H', J, rv, q⟩ => exact done J rv q
      | .next, ⟨σ', H', J, q⟩ => exact done (v := V.non) (u := Value.none) J rfl q
      | .brk, ⟨_, _, _, q⟩ => exact q.elim
      | .cont, ⟨_, _, _, q⟩ => exact q.elim
    · refine ⟨fun e ⟨m', em, q⟩ ps' σ' H' r' st' => ?_, fun d e ⟨m', em, q⟩ ps' v σ' H' r' i' => ?_, fun e q => q.elim, fun e q => q.elim⟩
      · have sr := r'.sta; rw [em] at sr
        exact q .non H' r'.ext sr .non
      · have sr := r'.sta; rw [em] at sr
        exact q v H' r'.ext sr (i'.evx (.of_same (hide_mono fun p w => .inl w)))
end
/-! ### data that stand for themselves -/
mutual
def D.own : D → Bool
  | .non => true
  | .bl _ => true
  | .int _ => true
  | .str _ => true
  | .tup ds => D.ownA ds
  | .lst ds => D.ownA ds
  | _ => false
def D.ownA : List D → Bool
  | [] => true
  | d :: ds => d.own && D.ownA ds
end
mutual
theorem Is.self {z z' : Z} {K : PySem.W.Frag} {G : Hp} : ∀ {v : V} {d : D}, d.own = true → Is z K G v d → Is z' K G v d
  | _, _, _, .non => .non
  | _, _, _, .bl b => .bl b
  | _, _, _, .int i => .int i
  | _, _, _, .str x => .str x
  | _, _, h, .tup e t => .tup e (IsA.self (by simpa [D.own] using h) t)
  | _, _, h, .lst e t => .lst e (IsA.self (by simpa [D.own] using h) t)
  | _, _, h, .ty _ => by simp [D.own] at h
  | _, _, h, .dct _ _ _ _ => by simp [D.own] at h
  | _, _, h, .ins _ _ _ => by simp [D.own] at h
  | _, _, h, .frm _ _ _ _ => by simp [D.own] at h
  | _, _, h, .fra _ _ _ => by simp [D.own] at h
  | _, _, h, .scr _ => by simp [D.own] at h
  | _, _, h, .sta _ => by simp [D.own] at h
  | _, _, h, .cls _ => by simp [D.own] at h
theorem IsA.self {z z' : Z} {K : PySem.W.Frag} {G : Hp} : ∀ {vs : List V} {ds : List D}, D.ownA ds = true → IsA z K G vs ds → IsA z' K G vs ds
  | _, _, _, .nil => .nil
  | _, _, h, .cons i t => by
    simp only [D.ownA, Bool.and_eq_true] at h
    exact .cons (Is.self h.1 i) (IsA.self h.2 t)
end
end DL
namespace DL
open PySem L2 PySem.Spec PyProof.Rows
/-! ### _law_marked_tree: the frame's marks are counted from here on -/
def mMarked (W : WFm) : MS := fun env k => ∃ F N d mk, env.at 0 = .da .sta ∧ env.at 1 = .da (.frm F N) ∧ env.at 2 = .da (.int d) ∧ env.at 3 = .da (.int mk) ∧ F.own = true ∧ N.own = true ∧ 0 ≤ mk ∧
  W [.sta, .fra F N, .int d] env.cr mk fun r n' _ => r.own = true ∧ k.rt r { env with cr := n' }
/-- what stands elsewhere than at a -/
theorem own_off {z z' : Z} {K : PySem.W.Frag} {S S' : Addr → Prop} {H H' : Hp} {a : Addr} {vf0 vn0 : V} {m0 : Int} (ha : H a = some (frO vf0 vn0 m0)) (h : ∀ p o, p ≠ a → ¬ S p → H p = some o → ¬ S' p ∧ H' p = some o) : ∀ {v : V} {d : D}, d.own = true → Is z K (hide S H) v d → Is z' K (hide S' H') v d := by
  have key : ∀ p o, (∀ vf vn m, o ≠ frO vf vn m) → hide S H p = some o → hide S' H' p = some o := fun p o no e => by
    obtain ⟨n, e⟩ := hide_get.mp e
    have ne : p ≠ a := fun w => by subst w; rw [ha] at e; cases e; exact no _ _ _ rfl
    obtain ⟨n', e'⟩ := h p o ne n e
    exact hide_get.mpr ⟨n', e'⟩
  have key2 : ∀ {p xs}, TupAt K (hide S H) p xs → TupAt K (hide S' H') p xs := fun {p xs} t => t.imp (fun e => key p _ (fun _ _ _ w => by unfold frO at w; cases w) e) id
  intro v d ho i
  exact @Is.rec z K (hide S H) (fun v d _ => d.own = true → Is z' K (hide S' H') v d) (fun vs ds _ => D.ownA ds = true → IsA z' K (hide S' H') vs ds)
    (fun _ => .non) (fun b _ => .bl b) (fun i _ => .int i) (fun x _ => .str x) (fun _ h => by simp [D.own] at h)
    (fun e t ih h => .tup (key2 e) (ih (by simpa [D.own] using h))) (fun e t ih h => .lst (key _ _ (fun _ _ _ w => by unfold frO at w; cases w) e) (ih (by simpa [D.own] using h)))
    (fun _ _ _ _ _ h => by simp [D.own] at h) (fun _ _ _ _ h => by simp [D.own] at h) (fun _ _ _ _ _ _ h => by simp [D.own] at h) (fun _ _ _ _ _ h => by simp [D.own] at h) (fun _ h => by simp [D.own] at h) (fun _ h => by simp [D.own] at h) (fun _ h => by simp [D.own] at h)
    (fun _ => .nil) (fun _ _ i1 i2 h => by simp only [D.ownA, Bool.and_eq_true] at h; exact .cons (i1 h.1) (i2 h.2)) v d i ho
section
variable {X : Cx} {Φ : Phi}
theorem slot_da {z : Z} {S0 : Addr → Prop} {H0 H : Hp} {K : PySem.W.Frag} {ps : List (Option Addr)} {env : DEnv} {σ : L2.St} (r : Rel Φ z S0 H0 K ps env σ H) {i : Nat} {d : D} (e : env.at i = .da d) : ∃ v, σ[i]? = some (some v) ∧ Is z K (hide (Sx S0 ps) H) v d := by
  have h := r.sl i
  rw [e] at h
  obtain ⟨_, v, hv, iv⟩ := h
  refine ⟨v, ?_, iv⟩
  rw [List.getD_eq_getElem?_getD] at hv
  cases e2 : σ[i]? with
  | none => rw [e2] at hv; cases hv
  | some y => rw [e2] at hv; exact congrArg some hv
theorem dss_marked {f : Addr} {fd : FuncData} {k : Nat} {W : WFm} {pps : List Str} {x s0 s1 s2 s3 : Str} {p0 p1 p1' p2 p3 pa pb pd pe pf pk : Pos} {j : Nat} (F : FnM X.prog X.w X.K X.mg X.base k f fd pps W) (hr : Room k X.A) (hgd : X.A.guards = some []) (hg : Gl X x) (hm : X.mg x = some (.ref f)) (hk : PySem.W.keepIn X.K (.ref f) = true) (hb : Binds X.K fd pps [])
    (hu : X.A.units + 1 < cLine) (v0 : PE X (.Name s0 p0) (tVar 0)) (v1 : PE X (.Name s1 p1) (tVar 1)) (v1' : PE X (.Name s1 p1') (tVar 1)) (v2 : PE X (.Name s2 p2) (tVar 2)) (v3 : PE X (.Name s3 p3) (tVar 3)) (hw : PhiOk Φ X.w)
    (hdb : (x == ("__debug__" : Str)) = false := by decide) (hs : swapsWith (.Name s3 p3) (some (.Subscript (.Name s1 p1) (.Constant (.str "marks") j pk) pa)) pb.line X.env = pure false := by rfl)
    (q1 : starEach [.Name s0 p0, .Name s1 p1', .Name s2 p2] X.env = (false, eval (.Name s0 p0) X.env) :: starEach [.Name s1 p1', .Name s2 p2] X.env := by rfl) (q2 : starEach [.Name s1 p1', .Name s2 p2] X.env = (false, eval (.Name s1 p1') X.env) :: starEach [.Name s2 p2] X.env := by rfl)
    (q3 : starEach [.Name s2 p2] X.env = (false, eval (.Name s2 p2) X.env) :: starEach [] X.env := by rfl) (hpl : (backTo pe (starEach [.Name s1 p1', .Name s2 p2] X.env)).any (·.1) = false := by rfl) :
    DSs X Φ [.Assign [.Subscript (.Name s1 p1) (.Constant (.str "marks") j pk) pa] (.Name s3 p3) pb, .Return (some (.Call (.Name x pd) [.Name s0 p0, .Name s1 p1', .Name s2 p2] [] pe)) pf] (mMarked W) := by
  refine ⟨fun env k k' h ⟨F1, N, d, mk, a0, a1, a2, a3, b1, b2, b3, q⟩ => ⟨F1, N, d, mk, a0, a1, a2, a3, b1, b2, b3, F.mono _ _ _ (fun r n' m q => ⟨q.1, h.rt _ _ q.2⟩) q⟩,
    pss_imp (pss_cons (ps_dput hu v1 pe_str v3 hs) (pss_one (ps_ret (pe_M F hr hgd hg hm hk hb (pa_cons v0 (pa_cons v1' (pa_cons v2 pa_nil q3) q2) q1) hdb q1 hpl)))) fun E σ H ⟨z, S0, H0, ps, env, r, F1, N, d, mk, a0, a1, a2, a3, b1, b2, b3, q⟩ => ?_⟩
  obtain ⟨w0, e0, i0⟩ := slot_da r a0
  obtain ⟨w1, e1, i1⟩ := slot_da r a1
  obtain ⟨w2, e2, i2⟩ := slot_da r a2
  obtain ⟨w3, e3, i3⟩ := slot_da r a3
  cases i2; cases i3
  cases i0 with
  | @sta qz eq =>
  cases i1 with
  | @frm a vf vn m0 _ _ g hm0 jf jn =>
    obtain ⟨ng, g'⟩ := hide_get.mp g
    refine ⟨_, e3, _, e1, a, L2.upd H a (frO vf vn mk), rfl, .inl ⟨_, .inr "marks", g', rfl, by show 3 < sizeLine; decide, by rw [putK_marks]; rfl⟩, _, e0, _, e1, _, e2, ?_⟩
    have nq : ∀ p, p = qz.a ∨ p = qz.b ∨ p = qz.c → p ≠ a := fun p hp w => by
      obtain ⟨_, _, ws, cs, h1, h2, h3, _⟩ := (r.sta.dr qz eq).ex
      rw [← w] at g'
      rcases hp with rfl | rfl | rfl
      · rw [h1] at g'; unfold frO at g'; simp at g'
      · rw [h2] at g'; cases g'
      · rw [h3] at g'; cases g'
    let z1 : Z := { z with fr := some (a, vf, vn), act := true }
    let S1 : Addr → Prop := fun p => Sx S0 ps p ∨ p = a
    have off : ∀ p o, p ≠ a → ¬ Sx S0 ps p → H p = some o → ¬ S1 p ∧ (L2.upd H a (frO vf vn mk)) p = some o := fun p o ne n e => ⟨fun w => w.elim n ne, by rw [upd_ne ne]; exact e⟩
    refine ⟨z1, S1, [.sta, .fra F1 N, .int d], env.cr, mk, ⟨show z.w = _ from hw _ _ _ r.phi, rfl⟩, ⟨fun q1 e1 => (r.sta.dr q1 e1).same fun p hp => upd_ne ?_, fun a' vf' vn' e => ?_, ?_⟩, fun p hp => ?_, ⟨fun p hp => ?_, fun p hp => ?_⟩, .cons (.sta eq) (.cons (.fra rfl (own_off g' off b1 jf) (own_off g' off b2 jn)) (.cons (.int d) .nil)), F.mono _ _ _ (fun res n' m' q => ?_) q⟩
    · rw [eq] at e1; cases e1; exact nq p hp
    · cases e; exact ⟨mk, b3, upd_same, fun m' w => by cases w; rfl⟩
    · refine z.stay H _ (fun b u su e => ?_) (fun b C dx fs e => ?_) r.sta.inv
      · rw [upd_ne]
        · exact e
        · intro w; subst w; rw [g'] at e; cases e; exact su.2 _ rfl
      · by_cases hb : b = a
        · subst hb; rw [upd_same] at e; unfold frO at e; cases e
        · rw [upd_ne hb] at e; exact e
    · by_cases hp' : p = a
      · subst hp'; rw [upd_same]; simp
      · rw [upd_ne hp']; exact r.dom p (hp.elim id fun w => absurd w hp')
    · rcases hp with hp | ⟨_, vf', vn', hp⟩
      · exact .inl (.inl (r.zs p (.inl hp)))
      · cases hp; exact .inr rfl
    · obtain ⟨vf', vn', hp⟩ := hp; cases hp; exact .inr rfl
    · intro v H' x' st' i'
      obtain ⟨ow, q⟩ := q
      obtain ⟨m1, m10, ha', _⟩ := st'.fr a vf vn rfl
      have na : ¬ Sx S0 ps a := ng
      have zz : ∀ p, Zs z1 p → Zs z p ∨ p = a := fun p hp => by
        rcases hp with hp | ⟨_, vf', vn', hp⟩
        · exact .inl (.inl hp)
        · cases hp; exact .inr rfl
      have ext : Ext (Zs z) (Sx S0 ps) H H' := fun p o hp e => by
        by_cases hpa : p = a
        · subst hpa
          rw [g'] at e; cases e
          exact ⟨_, ha', .frm _ _ _ _ m10, fun w => absurd w na⟩
        · obtain ⟨o', e', ev, s'⟩ := x' p o (fun w => (zz p w).elim hp hpa) (by rw [upd_ne hpa]; exact e)
          exact ⟨o', e', ev, fun w => s' (.inl w)⟩
      have st2 : Sta z n' env.mr H' := by
        refine ⟨st'.dr, fun a' vf' vn' e => ?_, st'.inv⟩
        obtain ⟨m2, m20, h1, h2⟩ := r.sta.fr a' vf' vn' e
        have hS : S0 a' := r.zf a' ⟨vf', vn', e⟩
        have ne : a' ≠ a := fun w => na (w ▸ .inl hS)
        have nz : ¬ Zs z1 a' := fun w => by
          rcases w with ⟨q1, e1, k⟩ | ⟨_, vf2, vn2, w⟩
          · obtain ⟨r', t, ws, cs, g1, g2, g3, g4⟩ := (r.sta.dr q1 e1).ex
            rcases k with rfl | rfl
            · rw [g1] at h1; unfold frO at h1; simp at h1
            · rw [g2] at h1; cases h1
          · cases w; exact ne rfl
        obtain ⟨o', e', ev, s'⟩ := x' a' _ nz (by rw [upd_ne ne]; exact h1)
        refine ⟨m2, m20, ?_, h2⟩
        rw [e', s' (.inl (.inl hS)) (fun φ w => by unfold frO at w; cases w)]
      exact q ps v σ H' (r.call ext st2) ((Is.self ow i').evx (.of_same (hide_mono fun p w => .inl w)))
end
end DL
namespace Fn
open PySem L2 PySem.Spec PyProof.Rows DL
def g_LETTERS : D := .str "abcdefghijklmnopqrstuvwxyz"
def g_KEPT_WORDS : D := .tup [.str "drop", .str "mark", .str "not", .str "pass"]
def g_MOST_LETTERS : D := .int 6
def g_MOST_FIELDS : D := .int 3
def keptL : List Str := ["drop", "mark", "not", "pass"]
def small (c : Nat) : Bool := decide (97 ≤ c) && decide (c ≤ 122)
def isField : D → Bool
  | .str x => decide (1 ≤ x.length) && decide (x.length ≤ 6) && !keptL.contains x && x.cps.toList.all small
  | _ => false
def okS (d : D) : Prop := okD d ∧ ∀ x, d = .str x → x.length ≤ sizeLine ∧ PyData.strOk x = true
def isPacket (m : Int) : D → Bool
  | .tup ds => decide ((ds.length : Int) = m) && ds.all isCnt
  | _ => false
def W_is_number : WF := fW1 okD fun d => .bl (isNum d)
def W_is_count : WF := fW1 okD fun d => .bl (isCnt d)
def W_is_list : WF := fW1 okD fun d => .bl (d.isa "list" || d.isa "tuple")
def W_is_field : WF := fW1 okS fun d => .bl (isField d)
def W_are_different : WF := fun ds n k => ∃ (x : D) (xs : List Str), ds = [x] ∧ (x = .lst (xs.map D.str) ∨ x = .tup (xs.map D.str)) ∧ xs.length ≤ 100 ∧ k (.bl (decide xs.Nodup)) n
def W_need_fields : WF := fun ds n k => ∃ (x : D) (xs : List Str), ds = [x] ∧ (x = .lst (xs.map D.str) ∨ x = .tup (xs.map D.str)) ∧ 1 ≤ xs.length ∧ xs.length ≤ 3 ∧ (∀ y ∈ xs, isField (.str y) = true) ∧ xs.Nodup ∧ k .non n
def W_is_packet_of : WF := fun ds n k => ∃ m x, ds = [.int m, x] ∧ okD x ∧ (∀ es, x = .tup es → ∀ e ∈ es, okD e) ∧ (∀ es, x = .tup es → es.length ≤ sizeLine) ∧ k (.bl (isPacket m x)) n
def W_is_packet : WF := fun ds n k => ∃ (f : D) (xs : List Str) (x : D), ds = [f, x] ∧ (f = .lst (xs.map D.str) ∨ f = .tup (xs.map D.str)) ∧ 1 ≤ xs.length ∧ xs.length ≤ 3 ∧ (∀ y ∈ xs, isField (.str y) = true) ∧ xs.Nodup ∧ okD x ∧ (∀ es, x = .tup es → ∀ e ∈ es, okD e) ∧ (∀ es, x = .tup es → es.length ≤ sizeLine) ∧ k (.bl (isPacket xs.length x)) n
theorem in_kept (x : Str) : inD (.str x) [.str "drop", .str "mark", .str "not", .str "pass"] = keptL.contains x := by
  unfold inD keptL
  simp only [List.any_cons, List.any_nil, D.eqF, List.contains_cons, List.contains_nil, Bool.or_false]
  have e : ∀ a b : Str, (a == b) = (b == a) := fun a b => by
    by_cases h : a = b
    · subst h; rfl
    · rw [beq_eq_false_iff_ne.mpr h, beq_eq_false_iff_ne.mpr (Ne.symm h)]
  rw [e x "drop", e x "mark", e x "not", e x "pass"]
theorem letters_iff (c : Nat) : decide (c ∈ (("abcdefghijklmnopqrstuvwxyz" : String) : Str).cps.toList) = small c := by
  have e : (("abcdefghijklmnopqrstuvwxyz" : String) : Str).cps.toList = [97,98,99,100,101,102,103,104,105,106,107,108,109,110,111,112,113,114,115,116,117,118,119,120,121,122] := by decide +kernel
  rw [e]
  unfold small
  rw [← Bool.decide_and]
  refine decide_eq_decide.mpr ?_
  simp only [List.mem_cons, List.not_mem_nil, or_false]
  omega
theorem bools_signs (f : Nat → Bool) (l : List Nat) : boolsOf ((l.map fun c => D.str ⟨#[c]⟩).map fun d => match d with | .str x => D.bl (match x.cps.toList with | [c] => f c | _ => false) | _ => .non) = some (l.map f) := by
  induction l with
  | nil => rfl
  | cons c l ih => simp only [List.map_cons, boolsOf, ih]; rfl
theorem keysOf_strs (xs : List Str) : keysOf (xs.map D.str) = some (xs.map Sum.inr) := by
  induction xs with
  | nil => rfl
  | cons x xs ih => simp [keysOf, ih, keyD]
theorem nodup_inr {xs : List Str} : (xs.map (Sum.inr : Str → Key)).Nodup ↔ xs.Nodup := by
  induction xs with
  | nil => simp
  | cons x xs ih => simp [ih]
theorem field_ok {y : Str} (h : isField (.str y) = true) : PyData.strOk y = true := by
  simp only [isField, Bool.and_eq_true, decide_eq_true_eq] at h
  unfold PyData.strOk
  rw [← Array.all_toList]
  refine List.all_eq_true.mpr fun c hc => ?_
  have := List.all_eq_true.mp h.2 c hc
  simp only [small, Bool.and_eq_true, decide_eq_true_eq] at this
  simp; omega
theorem field_len {y : Str} (h : isField (.str y) = true) : 1 ≤ y.length ∧ y.length ≤ 6 := by
  simp only [isField, Bool.and_eq_true, decide_eq_true_eq] at h
  exact ⟨h.1.1.1, h.1.1.2⟩
def elems : D → Option (List D)
  | .lst ds => some ds
  | .tup ds => some ds
  | .str z => some (DL.signs z)
  | _ => none
def W__law_pick : WF := fun ds n k => ∃ x es, ds = [.sta, x] ∧ elems x = some es ∧ es ≠ [] ∧ es.length ≤ 1000 ∧ 1 ≤ n ∧ ∀ d ∈ es, k d (n - 1)
theorem w__law_pick : Good W__law_pick 2 := ⟨fun ds n k k' h ⟨x, es, e, a, b, c, d, q⟩ => ⟨x, es, e, a, b, c, d, fun u m => h _ _ (q u m)⟩, fun ds n k ⟨x, es, e, _⟩ => by rw [e]; rfl⟩
theorem atI_mem {α : Type} {xs : List α} {i : Int} (h0 : 0 ≤ i) (h1 : i < xs.length) : ∃ d, atI xs i = some d ∧ d ∈ xs := by
  have hl : i.toNat < xs.length := by omega
  refine ⟨xs[i.toNat], ?_, List.getElem_mem hl⟩
  unfold atI ixN
  rw [if_pos h0, if_pos h1]
  simp [List.getElem?_eq_getElem hl]
def oddL : List D := [.non, .bl true, .int (-1), .str "pass", .str "", .str "mark", .tup [], .tup [.non], .tup [.str "pas"], .tup [.str "is", .str "a"], .tup [.str "mark", .int 1], .lst [], .dct [] [],
  .tup [.str "row", .tup [.str "pass"]], .tup [.str "not", .tup [.str "mark"]], .tup [.str "set", .str "A", .int 1], .tup [.str "take", .str "a", .str "a"], .lst [.str "pass"], .dct [.inr "a"] [.int 1],
  .tup [.str "loop"], .tup [.int (-1), .int 0], .tup [.bl true, .int 1], .int (10 ^ 40 + 7), .str "a=1", .tup [.str "is", .str "pass", .int 1]]
def W__law_odd : WF := fun ds n k => ds = [.sta] ∧ 1 ≤ n ∧ ∀ d ∈ oddL, k d (n - 1)
def frameL : List Str := ["a", "at", "ab", "b", "dst", "note", "marks", "zz", "zzzzzz", "zzzzzy", "drops", "passes"]
def numsL : List Int := [0, 1, 2, 3, 7, 10 ^ 12]
def W__law_frame : WF := fun ds n k => ∃ u : Int, ds = [.sta, .int u] ∧ 0 < u ∧ u ≤ 3 ∧ 20 ≤ n ∧ ∀ (fs : List Str) (ns : List Int) n', fs.Nodup → (∀ y ∈ fs, y ∈ frameL) → 1 ≤ fs.length → (fs.length : Int) ≤ u → sortedS fs = true → ns.Nodup → (∀ y ∈ ns, y ∈ numsL) → (1 ≤ ns.length ∧ ns.length ≤ 3) → n ≤ n' + 20 →
  k (.frm (.tup (fs.map D.str)) (.lst (ns.map D.int))) n'
theorem perm_map' {α β : Type} {f : α → β} {es ms : List β} (h : es.Perm ms) : ∀ l : List α, ms = l.map f → ∃ l' : List α, es = l'.map f ∧ l'.Perm l := by
  induction h with
  | nil => intro l e; cases l with
    | nil => exact ⟨[], rfl, .nil⟩
    | cons a l => simp at e
  | cons x p ih => intro l e; cases l with
    | nil => simp at e
    | cons a l =>
      simp at e
      obtain ⟨l', e1, p1⟩ := ih l e.2
      exact ⟨a :: l', by simp [e.1, e1], p1.cons a⟩
  | swap x y t => intro l e; match l, e with
    | a :: b :: l, e =>
      simp at e
      exact ⟨b :: a :: l, by simp [e.1, e.2.1, e.2.2], .swap a b l⟩
  | trans p q ih1 ih2 =>
    intro l e
    obtain ⟨l1, e1, p1⟩ := ih2 l e
    obtain ⟨l2, e2, p2⟩ := ih1 l1 e1
    exact ⟨l2, e2, p2.trans p1⟩
theorem perm_map {α β : Type} {f : α → β} {l : List α} {es : List β} (h : es.Perm (l.map f)) : ∃ l' : List α, es = l'.map f ∧ l'.Perm l := perm_map' h l rfl
theorem cut_take0 {α : Type} (xs : List α) {i : Int} (h : 0 ≤ i) : cut xs none (some i) = xs.take i.toNat := by
  unfold cut
  rw [HT.sIx_none]
  obtain ⟨k, rfl⟩ := Int.eq_ofNat_of_zero_le h
  have := HT.sIx_nat xs.length xs.length k
  rw [this, List.drop_zero, Nat.sub_zero]
  simp only [Int.toNat_natCast]
  rw [List.take_eq_take_iff]
  omega
theorem cut_take {α β : Type} {f : α → β} (xs : List α) {i : Int} (h : 0 ≤ i) : cut (xs.map f) none (some i) = (xs.take i.toNat).map f := by
  rw [cut_take0 _ h, List.map_take]
abbrev W__law_is_field_due : WF := W_is_field
theorem in_kept2 (x : Str) : inD (.str x) [.str "pass", .str "drop", .str "mark", .str "not"] = keptL.contains x := by
  rw [← in_kept]
  unfold inD
  simp only [List.any_cons, List.any_nil, D.eqF, Bool.or_false]
  generalize (Str.ofString "pass" == x) = a
  generalize (Str.ofString "drop" == x) = b
  generalize (Str.ofString "mark" == x) = c
  generalize (Str.ofString "not" == x) = d
  cases a <;> cases b <;> cases c <;> cases d <;> rfl
def nearL : List D := [.str "a", .str "z", .str "ab", .str "zzzzzz", .str "zzzzzzz", .str "pass", .str "drop", .str "mark", .str "not", .str "passe", .str "marks", .str "no", .str "nott", .str "", .str "A",
  .str "aA", .str "a1", .str "1", .str "a b", .str " a", .str "a\n", .str "`", .str "{", .str "a=", .non, .bl true, .int 5, .tup [.str "a"], .lst [.str "a"], .dct [.inr "a"] [.int 1]]
def nearName (d : D) : Prop := d ∈ nearL ∨ ∃ x, d = .str x ∧ x.length ≤ 8 ∧ ∀ c ∈ x.cps.toList, c < 200
def W__law_near_name : WF := fun ds n k => ds = [.sta] ∧ 20 ≤ n ∧ ∀ d n', nearName d → n ≤ n' + 20 → k d n'
theorem signs_of : ∀ {ys : List D}, (∀ y ∈ ys, y ∈ DL.signs "abmnopqrstz{`") → ∃ cs : List Nat, ys = cs.map (fun c => D.str ⟨#[c]⟩) ∧ ∀ c ∈ cs, c < 200
  | [], _ => ⟨[], rfl, fun _ h => nomatch h⟩
  | y :: ys, h => by
    obtain ⟨cs, rfl, hc⟩ := signs_of (ys := ys) fun y hy => h y (List.mem_cons_of_mem _ hy)
    obtain ⟨c, hm, rfl⟩ := List.mem_map.mp (h y List.mem_cons_self)
    refine ⟨c :: cs, rfl, fun x hx => ?_⟩
    rcases List.mem_cons.mp hx with rfl | hx
    · have : ∀ c ∈ (("abmnopqrstz{`" : String) : Str).cps.toList, c < 200 := by decide +kernel
      exact this _ hm
    · exact hc x hx
theorem joinL_one : ∀ cs : List Nat, TL.joinL [] (cs.map fun c => [c]) = cs
  | [] => rfl
  | [c] => rfl
  | c :: d :: r => by
    have := joinL_one (d :: r)
    simp only [List.map_cons] at this ⊢
    unfold TL.joinL
    rw [this]; rfl
theorem join_one (cs : List Nat) : (PySem.Txt.join "" (cs.map fun c => (⟨#[c]⟩ : Str))).cps.toList = cs := by
  rw [TL.join_eq]
  have := TL.tl_join "" (cs.map fun c => (⟨#[c]⟩ : Str))
  have e : (Str.ofString "").cps.toList = [] := by decide +kernel
  simp [TL.tl, Function.comp_def, e] at this
  rw [this]
  exact joinL_one cs
abbrev W__law_is_packet_due : WF := W_is_packet_of
theorem sum_ones : ∀ cs : List Nat, (cs.map fun _ => 1).sum = cs.length
  | [] => rfl
  | c :: cs => by simp [sum_ones cs]; omega
def elemOk (d : D) : Prop := d.sm 2000 2 = true ∧ okD d
theorem elem_int {i : Int} (h0 : -(2 ^ 200) < i) (h1 : i < 2 ^ 200) : elemOk (.int i) := by
  have p : (2 : Int) ^ 200 ≤ 2 ^ 1900 := by decide +kernel
  exact ⟨D.sm_mono (sm_int' (by omega) (by omega)) (by decide) (by decide), rfl⟩
def nearPacket (d : D) : Prop := (∃ es : List D, (d = .tup es ∨ d = .lst es) ∧ es.length ≤ 5 ∧ ∀ e ∈ es, elemOk e) ∨ d ∈ oddL
def W__law_near_packet : WF := fun ds n k => ∃ m : Int, ds = [.sta, .int m] ∧ 1 ≤ m ∧ m ≤ 3 ∧ 20 ≤ n ∧ ∀ d n', nearPacket d → n ≤ n' + 20 → k d n'
theorem mem_cut {α : Type} {xs : List α} {lo hi : Option Int} {x : α} (h : x ∈ cut xs lo hi) : x ∈ xs := List.mem_of_mem_drop (List.mem_of_mem_take h)
theorem len_cut_lo {α : Type} (xs : List α) {i : Int} (h : 0 ≤ i) : ((cut xs none (some i)).length : Int) ≤ i ∧ (cut xs none (some i)).length ≤ xs.length := by
  rw [cut_take0 _ h, List.length_take]; omega
theorem len_cut_hi {α : Type} (xs : List α) {i : Int} (h : 0 ≤ i) (h1 : i ≤ xs.length) : ((cut xs (some i) none).length : Int) = xs.length - i := by
  unfold cut
  rw [HT.sIx_none]
  obtain ⟨k, rfl⟩ := Int.eq_ofNat_of_zero_le h
  have := HT.sIx_nat xs.length 0 k
  rw [this, List.length_take, List.length_drop]
  omega
theorem len_cut_hi' {α : Type} (xs : List α) {i : Int} (h : 0 ≤ i) : (cut xs (some i) none).length ≤ xs.length := by
  unfold cut
  rw [List.length_take, List.length_drop]
  omega
abbrev n_is_number : List Str := ["thing"]
def m_is_number : MS := (mRet (mAndV (mCB isiW (mCons (mVar 0) (mCons (mC (.ty "int")) mNil))) (mNotV (mCB isiW (mCons (mVar 0) (mCons (mC (.ty "bool")) mNil))))))
theorem w_is_number : Good W_is_number 1 := fW1_good
theorem r_is_number : ∀ ds n kk, W_is_number ds n kk → m_is_number (startE n_is_number.length ds n) { nx := fun e => kk .non e.cr, rt := fun d e => kk d e.cr } := by
  rintro ds n kk ⟨a, rfl, h1, h2⟩
  cases a <;> first | (exact absurd h1 (by decide)) | (simp [m_is_number, mRet, mSeq, mNext, mIfS, mSet, mPar, mDrop, mAndV, mOrV, mNotV, mAnd, mOr, mNot, mB, mIf, mCB, mCons, mNil, mVar, mC, mBin, mUn, mTup, mLst, mCall, mCallK, mChain, isiW, startE, DEnv.at, DEnv.put, D.isa, tyN, sixNames, isNum, isCnt, okD, ordW, intW, sizeLine, tyNames, lenW, mNever] at h1 h2 ⊢; try assumption)
abbrev n_is_count : List Str := ["thing"]
def m_is_count : MS := (mRet (mAndV (mCall W_is_number (mCons (mVar 0) mNil)) (mBin geW (mVar 0) (mC (.int 0)))))
theorem w_is_count : Good W_is_count 1 := fW1_good
theorem r_is_count : ∀ ds n kk, W_is_count ds n kk → m_is_count (startE n_is_count.length ds n) { nx := fun e => kk .non e.cr, rt := fun d e => kk d e.cr } := by
  rintro ds n kk ⟨a, rfl, h1, h2⟩
  cases a <;> first | (exact absurd h1 (by decide)) | (simp [m_is_count, W_is_number, fW1, mRet, mSeq, mNext, mIfS, mSet, mPar, mDrop, mAndV, mOrV, mNotV, mAnd, mOr, mNot, mB, mIf, mCB, mCons, mNil, mVar, mC, mBin, mUn, mTup, mLst, mCall, mCallK, mChain, isiW, startE, DEnv.at, DEnv.put, D.isa, tyN, sixNames, isNum, isCnt, okD, ordW, intW, sizeLine, tyNames, lenW, mNever] at h1 h2 ⊢; try assumption)
abbrev n_is_list : List Str := ["thing"]
def m_is_list : MS := (mRet (mCB isiW (mCons (mVar 0) (mCons (mTup (mCons (mC (.ty "list")) (mCons (mC (.ty "tuple")) mNil))) mNil))))
theorem w_is_list : Good W_is_list 1 := fW1_good
theorem r_is_list : ∀ ds n kk, W_is_list ds n kk → m_is_list (startE n_is_list.length ds n) { nx := fun e => kk .non e.cr, rt := fun d e => kk d e.cr } := by
  rintro ds n kk ⟨a, rfl, h1, h2⟩
  cases a <;> first | (exact absurd h1 (by decide)) | (simp [m_is_list, mRet, mSeq, mNext, mIfS, mSet, mPar, mDrop, mAndV, mOrV, mNotV, mAnd, mOr, mNot, mB, mIf, mCB, mCons, mNil, mVar, mC, mBin, mUn, mTup, mLst, mCall, mCallK, mChain, isiW, startE, DEnv.at, DEnv.put, D.isa, tyN, sixNames, isNum, isCnt, okD, ordW, intW, sizeLine, tyNames, lenW, mNever] at h1 h2 ⊢; try assumption)
abbrev n_is_field : List Str := ["thing", "sign"]
def m_is_field : MS := (mSeq (mIfS (mOr (mNot (mB (mCB isiW (mCons (mVar 0) (mCons (mC (.ty "str")) mNil))))) (mOr (mNot (mB (mChain leW leW (mC (.int 1)) (mCB lenW (mCons (mVar 0) mNil)) (mC g_MOST_LETTERS)))) (mB (mBin (inW false) (mVar 0) (mC g_KEPT_WORDS))))) (mRet (mC (.bl false))) mNext)
  (mRet (mCB (allW fun bs => bs.all id) (mCons (mLc 1 (mIter (mVar 0)) mYes (mBin (inW false) (mVar 1) (mC g_LETTERS))) mNil))))
theorem w_is_field : Good W_is_field 1 := fW1_good
theorem r_is_field : ∀ ds n kk, W_is_field ds n kk → m_is_field (startE n_is_field.length ds n) { nx := fun e => kk .non e.cr, rt := fun d e => kk d e.cr } := by
  rintro ds n kk ⟨a, rfl, ⟨h1, h3⟩, h2⟩
  cases a with
  | str x =>
    obtain ⟨hl, hso⟩ := h3 x rfl
    clear h3
    show m_is_field ⟨[.da (.str x), .un], n, none⟩ _
    refine seq_gen fun N hN => ?_
    simp [g_MOST_LETTERS, g_KEPT_WORDS, inW, D.flat, in_kept, mRet, mSeq, mNext, mIfS, mSet, mPar, mDrop, mAndV, mOrV, mNotV, mAnd, mOr, mNot, mB, mIf, mCB, mCons, mNil, mVar, mC, mBin, mUn, mTup, mLst, mCall, mCallK, mChain, isiW, startE, DEnv.at, DEnv.put, D.isa, tyN, sixNames, isNum, isCnt, okD, ordW, intW, sizeLine, tyNames, lenW, mNever]
    refine ⟨hl, ?_⟩
    have e : isField (.str x) = (decide (1 ≤ x.length) && decide (x.length ≤ 6) && !keptL.contains x && x.cps.toList.all small) := rfl
    have h2' : kk (.bl (isField (.str x))) n := h2
    rw [e] at h2'
    split
    · split
      · split
        · rename_i a b c
          simpa [c] using h2'
        · rename_i a b c
          rw [hN]
          simp only [mRet, mCB, mCons, mLc, mIter]
          simp only [mVar, DEnv.at, List.getD_cons_zero]
          refine compW_pure (f := fun d => match d with | .str x => D.bl (match x.cps.toList with | [c] => small c | _ => false) | _ => .non) _ _ _ (fun d hd k' q => ?_) (by simp [DL.signs]; exact hl) ?_
          · obtain ⟨c, hc, rfl⟩ := List.mem_map.mp hd
            have : strIn ⟨#[c]⟩ "abcdefghijklmnopqrstuvwxyz" = small c := letters_iff c
            simp [g_LETTERS, inW, compE, noOw, this, mRet, mSeq, mNext, mIfS, mSet, mPar, mDrop, mAndV, mOrV, mNotV, mAnd, mOr, mNot, mB, mIf, mCB, mCons, mNil, mVar, mC, mBin, mUn, mTup, mLst, mCall, mCallK, mChain, isiW, startE, DEnv.at, DEnv.put, D.isa, tyN, sixNames, isNum, isCnt, okD, ordW, intW, sizeLine, tyNames, lenW, mNever] at q ⊢
            exact q
          · have := bools_signs small x.cps.toList
            have e2 : decide (1 ≤ x.length) = true := by simp; omega
            have e3 : decide (x.length ≤ 6) = true := by simp; omega
            rw [e2, e3] at h2'
            simp only [mNil, List.nil_append, DL.signs, allW, this, compE]
            simpa [c] using h2'
      · rename_i a b
        have e3 : decide (x.length ≤ 6) = false := by simp; omega
        rw [e3] at h2'
        simpa using h2'
    · rename_i a
      have e3 : decide (1 ≤ x.length) = false := by simp; omega
      rw [e3] at h2'
      simpa using h2'
  | _ => first | (exact absurd h1 (by decide)) | (simp [m_is_field, mRet, mSeq, mNext, mIfS, mSet, mPar, mDrop, mAndV, mOrV, mNotV, mAnd, mOr, mNot, mB, mIf, mCB, mCons, mNil, mVar, mC, mBin, mUn, mTup, mLst, mCall, mCallK, mChain, isiW, startE, DEnv.at, DEnv.put, D.isa, tyN, sixNames, isNum, isCnt, okD, ordW, intW, sizeLine, tyNames, lenW, mNever] at h1 h2 ⊢; try assumption)
abbrev n_are_different : List Str := ["things"]
def m_are_different : MS := (mRet (mBin eqX (mUn lsW (mVar 0)) (mCB lenW (mCons (mVar 0) mNil))))
theorem w_are_different : Good W_are_different 1 := ⟨fun ds n k k' h ⟨x, xs, e, a, b, q⟩ => ⟨x, xs, e, a, b, h _ _ q⟩, fun ds n k ⟨x, xs, e, _⟩ => by rw [e]; rfl⟩
theorem r_are_different : ∀ ds n kk, W_are_different ds n kk → m_are_different (startE n_are_different.length ds n) { nx := fun e => kk .non e.cr, rt := fun d e => kk d e.cr } := by
  rintro ds n kk ⟨x, xs, rfl, h1, h2, h3⟩
  have e1 : keysOf (xs.map D.str) = some (xs.map Sum.inr) := keysOf_strs xs
  have e2 : nDiff (xs.map Sum.inr) = (xs.map (Sum.inr : Str → Key)).length ↔ xs.Nodup := (nDiff_iff _).trans nodup_inr
  rw [List.length_map] at e2
  have e3 : decide xs.Nodup = ((nDiff (xs.map Sum.inr) : Int) == (xs.length : Int)) := by
    by_cases h : nDiff (xs.map Sum.inr) = xs.length
    · have h' := e2.mp h
      simp [h, h']
    · have h' : ¬ xs.Nodup := fun q => h (e2.mpr q)
      have : ¬ ((nDiff (xs.map Sum.inr) : Int) = xs.length) := by omega
      simp [h', this]
  rw [e3] at h3
  have e4 : xs.length + 1 < scanBound := by unfold scanBound; omega
  rcases h1 with rfl | rfl <;>
  · simp [m_are_different, lsW, e1, eqX, eqv_int, shaped_int, mRet, mSeq, mNext, mIfS, mSet, mPar, mDrop, mAndV, mOrV, mNotV, mAnd, mOr, mNot, mB, mIf, mCB, mCons, mNil, mVar, mC, mBin, mUn, mTup, mLst, mCall, mCallK, mChain, isiW, startE, DEnv.at, DEnv.put, D.isa, tyN, sixNames, isNum, isCnt, okD, ordW, intW, sizeLine, tyNames, lenW, mNever]
    exact ⟨e4, h3⟩
abbrev n_need_fields : List Str := ["fields", "name"]
def m_need_fields : MS := (mSeq (mIfS (mOr (mNot (mB (mCall W_is_list (mCons (mVar 0) mNil)))) (mOr (mNot (mB (mChain leW leW (mC (.int 1)) (mCB lenW (mCons (mVar 0) mNil)) (mC g_MOST_FIELDS)))) (mNot (mB (mCB (allW fun bs => bs.all id) (mCons (mLc 1 (mIter (mVar 0)) mYes (mCall W_is_field (mCons (mVar 1) mNil))) mNil)))))) mNever mNext)
  (mIfS (mNot (mB (mCall W_are_different (mCons (mVar 0) mNil)))) mNever mNext))
theorem w_need_fields : Good W_need_fields 1 := ⟨fun ds n k k' h ⟨x, xs, e, a, b, c, d, f, q⟩ => ⟨x, xs, e, a, b, c, d, f, h _ _ q⟩, fun ds n k ⟨x, xs, e, _⟩ => by rw [e]; rfl⟩
theorem r_need_fields : ∀ ds n kk, W_need_fields ds n kk → m_need_fields (startE n_need_fields.length ds n) { nx := fun e => kk .non e.cr, rt := fun d e => kk d e.cr } := by
  rintro ds n kk ⟨x, xs, rfl, h1, h2, h3, h4, h5, h6⟩
  have hdif : ∀ n k, k (.bl true) n → W_are_different [x] n k := fun n k q => ⟨x, xs, rfl, h1, by omega, by simpa [h5] using q⟩
  have hb : boolsOf (xs.map fun y => D.bl true) = some (xs.map fun _ => true) := by simpa [Function.comp_def] using bools_map (xs.map fun _ => true)
  have i1 : ((1 : Int) ≤ xs.length) := by omega
  have i2 : ((xs.length : Int) ≤ 3) := by omega
  have hcp : ∀ (env : DEnv) (k : List D → DEnv → Prop), env.sl.length = 2 → k (xs.map fun y => D.bl true) env → compW 1 mYes (mCall W_is_field (mCons (mVar 1) mNil)) (xs.map D.str) env [] k := by
    rintro ⟨sl, cr⟩ k hl q
    obtain ⟨a, b, rfl⟩ : ∃ a b, sl = [a, b] := by
      match sl, hl with
      | [a, b], _ => exact ⟨a, b, rfl⟩
    refine compW_pure (f := fun d => D.bl true) _ _ _ (fun d hd k' q => ?_) (by simp; unfold sizeLine; omega) (by simpa [Function.comp_def] using q)
    obtain ⟨y, hy, rfl⟩ := List.mem_map.mp hd
    have := field_len (h4 y hy)
    have hso := field_ok (h4 y hy)
    simp [W_is_field, fW1, okS, h4 y hy, mRet, mSeq, mNext, mIfS, mSet, mPar, mDrop, mAndV, mOrV, mNotV, mAnd, mOr, mNot, mB, mIf, mCB, mCons, mNil, mVar, mC, mBin, mUn, mTup, mLst, mCall, mCallK, mChain, isiW, startE, DEnv.at, DEnv.put, D.isa, tyN, sixNames, isNum, isCnt, okD, ordW, intW, sizeLine, tyNames, lenW, mNever] at q ⊢
    exact ⟨⟨by omega, hso⟩, q⟩
  rcases h1 with rfl | rfl <;>
  · refine seq_gen fun N hN => ?_
    simp [W_is_list, fW1, g_MOST_FIELDS, mLc, mIter, i1, i2, mRet, mSeq, mNext, mIfS, mSet, mPar, mDrop, mAndV, mOrV, mNotV, mAnd, mOr, mNot, mB, mIf, mCB, mCons, mNil, mVar, mC, mBin, mUn, mTup, mLst, mCall, mCallK, mChain, isiW, startE, DEnv.at, DEnv.put, D.isa, tyN, sixNames, isNum, isCnt, okD, ordW, intW, sizeLine, tyNames, lenW, mNever]
    refine hcp _ _ rfl ?_
    simp only [allW, hb]
    refine ⟨by simp, ?_⟩
    rw [hN]
    simp only [compE]
    simp [mRet, mSeq, mNext, mIfS, mSet, mPar, mDrop, mAndV, mOrV, mNotV, mAnd, mOr, mNot, mB, mIf, mCB, mCons, mNil, mVar, mC, mBin, mUn, mTup, mLst, mCall, mCallK, mChain, isiW, startE, DEnv.at, DEnv.put, D.isa, tyN, sixNames, isNum, isCnt, okD, ordW, intW, sizeLine, tyNames, lenW, mNever]
    exact hdif _ _ (by simpa using h6)
abbrev n_is_packet_of : List Str := ["many", "thing", "number"]
def m_is_packet_of : MS := (mRet (mAndV (mCB isiW (mCons (mVar 1) (mCons (mC (.ty "tuple")) mNil))) (mAndV (mBin eqX (mCB lenW (mCons (mVar 1) mNil)) (mVar 0)) (mCB (allW fun bs => bs.all id) (mCons (mLc 2 (mIter (mVar 1)) mYes (mCall W_is_count (mCons (mVar 2) mNil))) mNil)))))
theorem w_is_packet_of : Good W_is_packet_of 2 := ⟨fun ds n k k' h ⟨x, xs, e, a, b, c, q⟩ => ⟨x, xs, e, a, b, c, h _ _ q⟩, fun ds n k ⟨x, xs, e, _⟩ => by rw [e]; rfl⟩
theorem r_is_packet_of : ∀ ds n kk, W_is_packet_of ds n kk → m_is_packet_of (startE n_is_packet_of.length ds n) { nx := fun e => kk .non e.cr, rt := fun d e => kk d e.cr } := by
  rintro ds n kk ⟨m, x, rfl, h1, h2, h3, h4⟩
  cases x with
  | tup es =>
    have hb : boolsOf (es.map fun d => D.bl (isCnt d)) = some (es.map isCnt) := by simpa [Function.comp_def] using bools_map (es.map isCnt)
    have h5 : kk (.bl (decide ((es.length : Int) = m) && es.all isCnt)) n := h4
    simp [m_is_packet_of, eqX, eqv_int, shaped_int, mLc, mIter, mRet, mSeq, mNext, mIfS, mSet, mPar, mDrop, mAndV, mOrV, mNotV, mAnd, mOr, mNot, mB, mIf, mCB, mCons, mNil, mVar, mC, mBin, mUn, mTup, mLst, mCall, mCallK, mChain, isiW, startE, DEnv.at, DEnv.put, D.isa, tyN, sixNames, isNum, isCnt, okD, ordW, intW, sizeLine, tyNames, lenW, mNever]
    split
    · rename_i e
      refine compW_pure (f := fun d => D.bl (isCnt d)) _ _ _ (fun d hd k' q => ?_) (by simpa using h3 es rfl) ?_
      · have := h2 es rfl d hd
        simp [compE, noOw, W_is_count, fW1, this, mRet, mSeq, mNext, mIfS, mSet, mPar, mDrop, mAndV, mOrV, mNotV, mAnd, mOr, mNot, mB, mIf, mCB, mCons, mNil, mVar, mC, mBin, mUn, mTup, mLst, mCall, mCallK, mChain, isiW, startE, DEnv.at, DEnv.put, D.isa, tyN, sixNames, isNum, isCnt, okD, ordW, intW, sizeLine, tyNames, lenW, mNever] at q ⊢
        exact ⟨this, q⟩
      · simp only [allW, hb, List.nil_append, compE]
        simpa [e] using h5
    · rename_i e
      simpa [e] using h5
  | _ => first | (exact absurd h1 (by decide)) | (simp [m_is_packet_of, isPacket, mRet, mSeq, mNext, mIfS, mSet, mPar, mDrop, mAndV, mOrV, mNotV, mAnd, mOr, mNot, mB, mIf, mCB, mCons, mNil, mVar, mC, mBin, mUn, mTup, mLst, mCall, mCallK, mChain, isiW, startE, DEnv.at, DEnv.put, D.isa, tyN, sixNames, isNum, isCnt, okD, ordW, intW, sizeLine, tyNames, lenW, mNever] at h1 h4 ⊢; try assumption)
abbrev n_is_packet : List Str := ["fields", "thing"]
def m_is_packet : MS := (mSeq (mDrop (mCall W_need_fields (mCons (mVar 0) mNil)))
  (mRet (mCall W_is_packet_of (mCons (mCB lenW (mCons (mVar 0) mNil)) (mCons (mVar 1) mNil)))))
theorem w_is_packet : Good W_is_packet 2 := ⟨fun ds n k k' h ⟨x, xs, y, e, a, b, c, d, f, g, i, j, q⟩ => ⟨x, xs, y, e, a, b, c, d, f, g, i, j, h _ _ q⟩, fun ds n k ⟨x, xs, y, e, _⟩ => by rw [e]; rfl⟩
theorem r_is_packet : ∀ ds n kk, W_is_packet ds n kk → m_is_packet (startE n_is_packet.length ds n) { nx := fun e => kk .non e.cr, rt := fun d e => kk d e.cr } := by
  rintro ds n kk ⟨f, xs, x, rfl, a, b, c, d, e, g, i, j, q⟩
  have hp : ∀ k, k (.bl (isPacket xs.length x)) n → W_is_packet_of [.int xs.length, x] n k := fun k q => ⟨_, x, rfl, g, i, j, q⟩
  have hn : ∀ k, k .non n → W_need_fields [f] n k := fun k q => ⟨f, xs, rfl, a, b, c, d, e, q⟩
  rcases a with rfl | rfl <;>
  · simp [m_is_packet, mRet, mSeq, mNext, mIfS, mSet, mPar, mDrop, mAndV, mOrV, mNotV, mAnd, mOr, mNot, mB, mIf, mCB, mCons, mNil, mVar, mC, mBin, mUn, mTup, mLst, mCall, mCallK, mChain, isiW, startE, DEnv.at, DEnv.put, D.isa, tyN, sixNames, isNum, isCnt, okD, ordW, intW, sizeLine, tyNames, lenW, mNever]
    refine hn _ ?_
    exact hp _ q
abbrev n__law_pick : List Str := ["state", "some"]
def m__law_pick : MS := (mRet (mBin ixW (mVar 1) (mCall W__law_take (mCons (mVar 0) (mCons (mCB lenW (mCons (mVar 1) mNil)) mNil)))))
theorem r__law_pick : ∀ ds n kk, W__law_pick ds n kk → m__law_pick (startE n__law_pick.length ds n) { nx := fun e => kk .non e.cr, rt := fun d e => kk d e.cr } := by
  rintro ds n kk ⟨x, es, rfl, h1, h2, h3, h4, h5⟩
  have hp : 0 < es.length := List.length_pos_iff.mpr h2
  cases x with
  | lst l =>
    cases h1
    simp [m__law_pick, W__law_take, mRet, mSeq, mNext, mIfS, mSet, mPar, mDrop, mAndV, mOrV, mNotV, mAnd, mOr, mNot, mB, mIf, mCB, mCons, mNil, mVar, mC, mBin, mUn, mTup, mLst, mCall, mCallK, mChain, isiW, startE, DEnv.at, DEnv.put, D.isa, tyN, sixNames, isNum, isCnt, okD, ordW, intW, sizeLine, tyNames, lenW, mNever]
    refine ⟨hp, by omega, h4, fun i i0 i1 => ?_⟩
    obtain ⟨d, e, hd⟩ := atI_mem i0 i1
    exact ⟨d, e, h5 d hd⟩
  | tup l =>
    cases h1
    simp [m__law_pick, W__law_take, mRet, mSeq, mNext, mIfS, mSet, mPar, mDrop, mAndV, mOrV, mNotV, mAnd, mOr, mNot, mB, mIf, mCB, mCons, mNil, mVar, mC, mBin, mUn, mTup, mLst, mCall, mCallK, mChain, isiW, startE, DEnv.at, DEnv.put, D.isa, tyN, sixNames, isNum, isCnt, okD, ordW, intW, sizeLine, tyNames, lenW, mNever]
    refine ⟨hp, by omega, h4, fun i i0 i1 => ?_⟩
    obtain ⟨d, e, hd⟩ := atI_mem i0 i1
    exact ⟨d, e, h5 d hd⟩
  | str z =>
    cases h1
    have hl : z.length = (DL.signs z).length := by simp [DL.signs, Str.length]
    simp [m__law_pick, W__law_take, mRet, mSeq, mNext, mIfS, mSet, mPar, mDrop, mAndV, mOrV, mNotV, mAnd, mOr, mNot, mB, mIf, mCB, mCons, mNil, mVar, mC, mBin, mUn, mTup, mLst, mCall, mCallK, mChain, isiW, startE, DEnv.at, DEnv.put, D.isa, tyN, sixNames, isNum, isCnt, okD, ordW, intW, sizeLine, tyNames, lenW, mNever]
    rw [hl]
    refine ⟨by omega, by omega, by omega, h4, fun i i0 i1 => ⟨by unfold sizeLine; omega, ?_⟩⟩
    have i2 : i < ((z.cps.toList).length : Int) := by simpa [DL.signs] using i1
    obtain ⟨c, e, hc⟩ := atI_mem i0 i2
    exact ⟨c, e, h5 _ (List.mem_map.mpr ⟨c, hc, rfl⟩)⟩
  | _ => cases h1
abbrev n__law_odd : List Str := ["state", "some"]
def m__law_odd : MS := (mSeq (mSet 1 (mLst (mCons (mC .non) (mCons (mC (.bl true)) (mCons (mUn negW (mC (.int 1))) (mCons (mC (.str "pass")) (mCons (mC (.str "")) (mCons (mC (.str "mark")) (mCons (mTup mNil) (mCons (mTup (mCons (mC .non) mNil)) (mCons (mTup (mCons (mC (.str "pas")) mNil)) (mCons (mTup (mCons (mC (.str "is")) (mCons (mC (.str "a")) mNil))) (mCons (mTup (mCons (mC (.str "mark")) (mCons (mC (.int 1)) mNil))) (mCons (mLst mNil) (mCons mDnew mNil)))))))))))))))
  (mSeq (mSet 1 (mBin addW (mVar 1) (mLst (mCons (mTup (mCons (mC (.str "row")) (mCons (mTup (mCons (mC (.str "pass")) mNil)) mNil))) (mCons (mTup (mCons (mC (.str "not")) (mCons (mTup (mCons (mC (.str "mark")) mNil)) mNil))) (mCons (mTup (mCons (mC (.str "set")) (mCons (mC (.str "A")) (mCons (mC (.int 1)) mNil)))) (mCons (mTup (mCons (mC (.str "take")) (mCons (mC (.str "a")) (mCons (mC (.str "a")) mNil)))) (mCons (mLst (mCons (mC (.str "pass")) mNil)) (mCons (mDisp (((mC (.str "a")), (mC (.int 1))) :: [])) mNil)))))))))
  (mRet (mCall W__law_pick (mCons (mVar 0) (mCons (mBin addW (mVar 1) (mLst (mCons (mTup (mCons (mC (.str "loop")) mNil)) (mCons (mTup (mCons (mUn negW (mC (.int 1))) (mCons (mC (.int 0)) mNil))) (mCons (mTup (mCons (mC (.bl true)) (mCons (mC (.int 1)) mNil))) (mCons (mBin addW (mBin powW (mC (.int 10)) (mC (.int 40))) (mC (.int 7))) (mCons (mC (.str "a=1")) (mCons (mTup (mCons (mC (.str "is")) (mCons (mC (.str "pass")) (mCons (mC (.int 1)) mNil)))) mNil)))))))) mNil))))))
theorem w__law_odd : Good W__law_odd 1 := ⟨fun ds n k k' h ⟨e, a, q⟩ => ⟨e, a, fun d m => h _ _ (q d m)⟩, fun ds n k ⟨e, _⟩ => by rw [e]; rfl⟩
theorem r__law_odd : ∀ ds n kk, W__law_odd ds n kk → m__law_odd (startE n__law_odd.length ds n) { nx := fun e => kk .non e.cr, rt := fun d e => kk d e.cr } := by
  rintro ds n kk ⟨rfl, h1, h2⟩
  refine seq_gen fun N hN => ?_
  simp [mDnew, negW, mRet, mSeq, mNext, mIfS, mSet, mPar, mDrop, mAndV, mOrV, mNotV, mAnd, mOr, mNot, mB, mIf, mCB, mCons, mNil, mVar, mC, mBin, mUn, mTup, mLst, mCall, mCallK, mChain, isiW, startE, DEnv.at, DEnv.put, D.isa, tyN, sixNames, isNum, isCnt, okD, ordW, intW, sizeLine, tyNames, lenW, mNever]
  rw [hN]
  refine seq_gen fun N hN => ?_
  simp [mDisp, pairsW, noOwE, noOw, keysD, keyD, dictD, frKeys, addW, mRet, mSeq, mNext, mIfS, mSet, mPar, mDrop, mAndV, mOrV, mNotV, mAnd, mOr, mNot, mB, mIf, mCB, mCons, mNil, mVar, mC, mBin, mUn, mTup, mLst, mCall, mCallK, mChain, isiW, startE, DEnv.at, DEnv.put, D.isa, tyN, sixNames, isNum, isCnt, okD, ordW, intW, sizeLine, tyNames, lenW, mNever]
  rw [hN]
  simp [addW, negW, powW, CPow, mRet, mSeq, mNext, mIfS, mSet, mPar, mDrop, mAndV, mOrV, mNotV, mAnd, mOr, mNot, mB, mIf, mCB, mCons, mNil, mVar, mC, mBin, mUn, mTup, mLst, mCall, mCallK, mChain, isiW, startE, DEnv.at, DEnv.put, D.isa, tyN, sixNames, isNum, isCnt, okD, ordW, intW, sizeLine, tyNames, lenW, mNever]
  refine ⟨_, _, rfl, rfl, by simp, by decide, h1, ?_⟩
  exact h2
abbrev n__law_frame : List Str := ["state", "upto", "some", "names", "digits"]
def m__law_frame : MS := (mSeq (mSet 2 (mLst (mCons (mC (.str "a")) (mCons (mC (.str "at")) (mCons (mC (.str "ab")) (mCons (mC (.str "b")) (mCons (mC (.str "dst")) (mCons (mC (.str "note")) (mCons (mC (.str "marks")) (mCons (mC (.str "zz")) (mCons (mC (.str "zzzzzz")) (mCons (mC (.str "zzzzzy")) (mCons (mC (.str "drops")) (mCons (mC (.str "passes")) mNil))))))))))))))
  (mSeq (mSet 3 (mCB sortedW (mCons (mSl slW (mCall W__law_shuffled (mCons (mVar 0) (mCons (mVar 2) mNil))) mNo (mSome (mBin addW (mC (.int 1)) (mCall W__law_take (mCons (mVar 0) (mCons (mVar 1) mNil)))))) mNil)))
  (mSeq (mSet 4 (mSl slW (mCall W__law_shuffled (mCons (mVar 0) (mCons (mLst (mCons (mC (.int 0)) (mCons (mC (.int 1)) (mCons (mC (.int 2)) (mCons (mC (.int 3)) (mCons (mC (.int 7)) (mCons (mBin powW (mC (.int 10)) (mC (.int 12))) mNil))))))) mNil))) mNo (mSome (mBin addW (mC (.int 1)) (mCall W__law_take (mCons (mVar 0) (mCons (mC (.int 3)) mNil)))))))
  (mRet (mDisp (((mC (.str "fields")), (mCB tupleW (mCons (mVar 3) mNil))) :: (((mC (.str "numbers")), (mVar 4)) :: (((mC (.str "marks")), (mC (.int 0))) :: []))))))))
theorem w__law_frame : Good W__law_frame 2 := ⟨fun ds n k k' h ⟨u, e, a, b, c, q⟩ => ⟨u, e, a, b, c, fun fs ns n' r1 r2 r3 r4 r5 r6 r7 r8 l => h _ _ (q fs ns n' r1 r2 r3 r4 r5 r6 r7 r8 l)⟩, fun ds n k ⟨u, e, _⟩ => by rw [e]; rfl⟩
theorem r__law_frame : ∀ ds n kk, W__law_frame ds n kk → m__law_frame (startE n__law_frame.length ds n) { nx := fun e => kk .non e.cr, rt := fun d e => kk d e.cr } := by
  rintro ds n kk ⟨u, rfl, h1, h2, h3, h4⟩
  refine seq_gen fun N hN => ?_
  simp [mRet, mSeq, mNext, mIfS, mSet, mPar, mDrop, mAndV, mOrV, mNotV, mAnd, mOr, mNot, mB, mIf, mCB, mCons, mNil, mVar, mC, mBin, mUn, mTup, mLst, mCall, mCallK, mChain, isiW, startE, DEnv.at, DEnv.put, D.isa, tyN, sixNames, isNum, isCnt, okD, ordW, intW, sizeLine, tyNames, lenW, mNever]
  rw [hN]
  refine seq_gen fun N hN => ?_
  simp [mSl, mNo, mSome, mRet, mSeq, mNext, mIfS, mSet, mPar, mDrop, mAndV, mOrV, mNotV, mAnd, mOr, mNot, mB, mIf, mCB, mCons, mNil, mVar, mC, mBin, mUn, mTup, mLst, mCall, mCallK, mChain, isiW, startE, DEnv.at, DEnv.put, D.isa, tyN, sixNames, isNum, isCnt, okD, ordW, intW, sizeLine, tyNames, lenW, mNever]
  refine ⟨_, frameL.map D.str, rfl, .inl rfl, by decide +kernel, by show 12 ≤ n; omega, by decide, fun es' p => ?_⟩
  have hn : n - (frameL.map D.str).length = n - 12 := rfl
  rw [hn]
  simp [W__law_take, addW, mRet, mSeq, mNext, mIfS, mSet, mPar, mDrop, mAndV, mOrV, mNotV, mAnd, mOr, mNot, mB, mIf, mCB, mCons, mNil, mVar, mC, mBin, mUn, mTup, mLst, mCall, mCallK, mChain, isiW, startE, DEnv.at, DEnv.put, D.isa, tyN, sixNames, isNum, isCnt, okD, ordW, intW, sizeLine, tyNames, lenW, mNever]
  refine ⟨by omega, by omega, by omega, fun i i0 i1 => ?_⟩
  obtain ⟨l, rfl, pl⟩ := perm_map p
  have c1 : cut (l.map D.str) none (some (1 + i)) = (l.take (1 + i).toNat).map D.str := cut_take _ (by omega)
  simp only [slW, sortedW, c1]
  refine ⟨_, rfl, .inr ⟨_, DL.strs_map _, ?_⟩⟩
  refine ⟨by rw [List.length_take, pl.length_eq]; show min _ 12 < 64; omega, fun ys py sy => ?_⟩
  rw [hN]
  refine seq_gen fun N hN => ?_
  simp [mSl, mNo, mSome, powW, CPow, mRet, mSeq, mNext, mIfS, mSet, mPar, mDrop, mAndV, mOrV, mNotV, mAnd, mOr, mNot, mB, mIf, mCB, mCons, mNil, mVar, mC, mBin, mUn, mTup, mLst, mCall, mCallK, mChain, isiW, startE, DEnv.at, DEnv.put, D.isa, tyN, sixNames, isNum, isCnt, okD, ordW, intW, sizeLine, tyNames, lenW, mNever]
  refine ⟨_, numsL.map D.int, rfl, .inl rfl, by decide +kernel, by show 6 ≤ _; omega, by decide, fun es' p => ?_⟩
  have hn : n - 12 - 1 - (numsL.map D.int).length = n - 19 := by show n - 12 - 1 - 6 = _; omega
  rw [hn]
  simp [W__law_take, addW, mRet, mSeq, mNext, mIfS, mSet, mPar, mDrop, mAndV, mOrV, mNotV, mAnd, mOr, mNot, mB, mIf, mCB, mCons, mNil, mVar, mC, mBin, mUn, mTup, mLst, mCall, mCallK, mChain, isiW, startE, DEnv.at, DEnv.put, D.isa, tyN, sixNames, isNum, isCnt, okD, ordW, intW, sizeLine, tyNames, lenW, mNever]
  refine ⟨by omega, fun j j0 j1 => ?_⟩
  obtain ⟨m, rfl, pm⟩ := perm_map p
  have c1 : cut (m.map D.int) none (some (1 + j)) = (m.take (1 + j).toNat).map D.int := cut_take _ (by omega)
  simp [slW, c1]
  rw [hN]
  simp [mDisp, pairsW, noOwE, noOw, keysD, keyD, dictD, frKeys, tupleW, mRet, mSeq, mNext, mIfS, mSet, mPar, mDrop, mAndV, mOrV, mNotV, mAnd, mOr, mNot, mB, mIf, mCB, mCons, mNil, mVar, mC, mBin, mUn, mTup, mLst, mCall, mCallK, mChain, isiW, startE, DEnv.at, DEnv.put, D.isa, tyN, sixNames, isNum, isCnt, okD, ordW, intW, sizeLine, tyNames, lenW, mNever]
  have nl : l.Nodup := pl.nodup_iff.mpr (by decide +kernel)
  have nm : m.Nodup := pm.nodup_iff.mpr (by decide +kernel)
  have ll : l.length = 12 := pl.length_eq
  have lm : m.length = 6 := pm.length_eq
  have ly := py.length_eq
  rw [List.length_take, ll] at ly
  refine ⟨by decide +kernel, ?_⟩
  rw [← List.map_take]
  refine h4 ys (m.take (1 + j).toNat) (n - 19 - 1) (py.nodup_iff.mpr (nl.sublist (List.take_sublist _ _))) (fun y hy => pl.mem_iff.mp (List.mem_of_mem_take (py.mem_iff.mp hy))) (by omega) (by omega) sy (nm.sublist (List.take_sublist _ _)) (fun y hy => pm.mem_iff.mp (List.mem_of_mem_take hy)) ?_ (by omega)
  rw [List.length_take, lm]
  omega
abbrev n__law_is_field_due : List Str := ["thing_here", "sign"]
def m__law_is_field_due : MS := (mSeq (mIfS (mOr (mNot (mB (mCB isiW (mCons (mVar 0) (mCons (mC (.ty "str")) mNil))))) (mNot (mB (mChain leW leW (mC (.int 1)) (mCB lenW (mCons (mVar 0) mNil)) (mC (.int 6)))))) (mRet (mC (.bl false))) mNext)
  (mSeq (mIfS (mB (mBin (inW false) (mVar 0) (mTup (mCons (mC (.str "pass")) (mCons (mC (.str "drop")) (mCons (mC (.str "mark")) (mCons (mC (.str "not")) mNil))))))) (mRet (mC (.bl false))) mNext)
  (mRet (mBin eqZ (mLc 1 (mIter (mVar 0)) (mNot (mB (mChain leW leW (mC (.str "a")) (mVar 1) (mC (.str "z"))))) (mVar 1)) (mLst mNil)))))
theorem w__law_is_field_due : Good W_is_field 1 := fW1_good
theorem r__law_is_field_due : ∀ ds n kk, W_is_field ds n kk → m__law_is_field_due (startE n__law_is_field_due.length ds n) { nx := fun e => kk .non e.cr, rt := fun d e => kk d e.cr } := by
  rintro ds n kk ⟨a, rfl, ⟨h1, h3⟩, h2⟩
  cases a with
  | str x =>
    obtain ⟨hl, hso⟩ := h3 x rfl
    clear h3
    have h2' : kk (.bl (isField (.str x))) n := h2
    have e : isField (.str x) = (decide (1 ≤ x.length) && decide (x.length ≤ 6) && !keptL.contains x && x.cps.toList.all small) := rfl
    rw [e] at h2'
    refine seq_gen fun N hN => ?_
    simp [mRet, mSeq, mNext, mIfS, mSet, mPar, mDrop, mAndV, mOrV, mNotV, mAnd, mOr, mNot, mB, mIf, mCB, mCons, mNil, mVar, mC, mBin, mUn, mTup, mLst, mCall, mCallK, mChain, isiW, startE, DEnv.at, DEnv.put, D.isa, tyN, sixNames, isNum, isCnt, okD, ordW, intW, sizeLine, tyNames, lenW, mNever]
    refine ⟨hl, ?_⟩
    have rest : 1 ≤ x.length → x.length ≤ 6 → N ⟨[.da (.str x), .un], n, none⟩ := by
      intro a b
      rw [hN]
      refine seq_gen fun N hN => ?_
      simp [inW, D.flat, in_kept2, mRet, mSeq, mNext, mIfS, mSet, mPar, mDrop, mAndV, mOrV, mNotV, mAnd, mOr, mNot, mB, mIf, mCB, mCons, mNil, mVar, mC, mBin, mUn, mTup, mLst, mCall, mCallK, mChain, isiW, startE, DEnv.at, DEnv.put, D.isa, tyN, sixNames, isNum, isCnt, okD, ordW, intW, sizeLine, tyNames, lenW, mNever]
      have e2 : decide (1 ≤ x.length) = true := by simp; omega
      have e3 : decide (x.length ≤ 6) = true := by simp; omega
      rw [e2, e3] at h2'
      split
      · rename_i c
        simpa [c] using h2'
      · rename_i c
        rw [hN]
        simp only [mRet, mBin, mLc, mIter]
        simp only [mVar, DEnv.at, List.getD_cons_zero]
        refine compW_filt (g := fun d => match d with | .str x => !(match x.cps.toList with | [c] => small c | _ => false) | _ => false) (f := fun d => d) _ _ _ (fun d hd k' q => ?_) (fun d hd _ k' q => ?_) (by simp [DL.signs]; exact hl) ?_
        · obtain ⟨c, hc, rfl⟩ := List.mem_map.mp hd
          have sa : (Str.ofString "a").cps.toList = [97] := by decide +kernel
          have sz : (Str.ofString "z").cps.toList = [122] := by decide +kernel
          simp [compE, noOw, sa, sz, mRet, mSeq, mNext, mIfS, mSet, mPar, mDrop, mAndV, mOrV, mNotV, mAnd, mOr, mNot, mB, mIf, mCB, mCons, mNil, mVar, mC, mBin, mUn, mTup, mLst, mCall, mCallK, mChain, isiW, startE, DEnv.at, DEnv.put, D.isa, tyN, sixNames, isNum, isCnt, okD, ordW, intW, sizeLine, tyNames, lenW, mNever] at q ⊢
          have l1 : [97] ≤ [c] ↔ 97 ≤ c := by
            have : ¬ ([c] < [97]) ↔ 97 ≤ c := by rw [List.cons_lt_cons_iff]; simp
            exact this
          have l2 : [122] < [c] ↔ 122 < c := by rw [List.cons_lt_cons_iff]; simp
          have l3 : decide ([122] < [c]) = decide (122 < c) := decide_eq_decide.mpr l2
          rw [l3]
          unfold small at q
          by_cases h : 97 ≤ c
          · rw [if_pos (l1.mpr h)]
            have l4 : (!decide (c ≤ 122)) = decide (122 < c) := by
              by_cases h2 : c ≤ 122
              · have : ¬ 122 < c := by omega
                simp [h2, this]
              · have : 122 < c := by omega
                simp [h2, this]
            simpa [h, l4] using q
          · rw [if_neg fun w => h (l1.mp w)]
            simpa [h] using q
        · obtain ⟨c, hc, rfl⟩ := List.mem_map.mp hd
          simp [compE, noOw, mRet, mSeq, mNext, mIfS, mSet, mPar, mDrop, mAndV, mOrV, mNotV, mAnd, mOr, mNot, mB, mIf, mCB, mCons, mNil, mVar, mC, mBin, mUn, mTup, mLst, mCall, mCallK, mChain, isiW, startE, DEnv.at, DEnv.put, D.isa, tyN, sixNames, isNum, isCnt, okD, ordW, intW, sizeLine, tyNames, lenW, mNever] at q ⊢
          exact q
        · simp only [List.nil_append, DL.signs, compE, eqZ, mLst, mNil, List.map_id', List.length_nil]
          refine ⟨by decide, ?_⟩
          have : (List.filter (fun d => match d with | .str x => !(match x.cps.toList with | [c] => small c | _ => false) | _ => false) (x.cps.toList.map fun c => D.str ⟨#[c]⟩)).isEmpty = x.cps.toList.all small := by
            induction x.cps.toList with
            | nil => rfl
            | cons a l ih => 
              simp only [List.map_cons, List.all_cons]
              rw [List.filter_cons]
              cases e : small a with
              | true => simp [e, ih]
              | false => simp [e]
          rw [this]
          simpa [c] using h2'
    by_cases a : 1 ≤ x.length
    · by_cases b : x.length ≤ 6
      · have a' : ((1 : Int) ≤ (x.length : Int)) := by omega
        have b' : ((x.length : Int) ≤ 6) := by omega
        rw [if_pos a', if_pos b']
        exact rest a b
      · have : ¬ ((x.length : Int) ≤ 6) := by omega
        have a' : ((1 : Int) ≤ (x.length : Int)) := by omega
        rw [if_pos a', if_neg this]
        simpa [b] using h2'
    · have : ¬ ((1 : Int) ≤ (x.length : Int)) := by omega
      simp [a] at h2'
      simpa [a, this] using h2'
  | _ => first | (exact absurd h1 (by decide)) | (simp [m__law_is_field_due, mRet, mSeq, mNext, mIfS, mSet, mPar, mDrop, mAndV, mOrV, mNotV, mAnd, mOr, mNot, mB, mIf, mCB, mCons, mNil, mVar, mC, mBin, mUn, mTup, mLst, mCall, mCallK, mChain, isiW, startE, DEnv.at, DEnv.put, D.isa, tyN, sixNames, isNum, isCnt, okD, ordW, intW, sizeLine, tyNames, lenW, mNever] at h1 h2 ⊢; try assumption)
abbrev n__law_near_name : List Str := ["state", "some", "label", "spot"]
def m__law_near_name : MS := (mSeq (mSet 1 (mLst (mCons (mC (.str "a")) (mCons (mC (.str "z")) (mCons (mC (.str "ab")) (mCons (mC (.str "zzzzzz")) (mCons (mC (.str "zzzzzzz")) (mCons (mC (.str "pass")) (mCons (mC (.str "drop")) (mCons (mC (.str "mark")) (mCons (mC (.str "not")) (mCons (mC (.str "passe")) (mCons (mC (.str "marks")) (mCons (mC (.str "no")) (mCons (mC (.str "nott")) (mCons (mC (.str "")) (mCons (mC (.str "A")) mNil)))))))))))))))))
  (mSeq (mSet 1 (mBin addW (mVar 1) (mLst (mCons (mC (.str "aA")) (mCons (mC (.str "a1")) (mCons (mC (.str "1")) (mCons (mC (.str "a b")) (mCons (mC (.str " a")) (mCons (mC (.str "a\n")) (mCons (mC (.str "`")) (mCons (mC (.str "{")) (mCons (mC (.str "a=")) (mCons (mC .non) (mCons (mC (.bl true)) (mCons (mC (.int 5)) (mCons (mTup (mCons (mC (.str "a")) mNil)) (mCons (mLst (mCons (mC (.str "a")) mNil)) (mCons (mDisp (((mC (.str "a")), (mC (.int 1))) :: [])) mNil))))))))))))))))))
  (mSeq (mSet 2 (mCall W__law_pick (mCons (mVar 0) (mCons (mVar 1) mNil))))
  (mSeq (mIfS (mB (mBin eqX (mCall W__law_take (mCons (mVar 0) (mCons (mC (.int 4)) mNil))) (mC (.int 0)))) (mSet 2 (mJoin (mC (.str "")) (mLc 3 (mRange (mCons (mCall W__law_take (mCons (mVar 0) (mCons (mC (.int 9)) mNil))) mNil)) mYes (mCall W__law_pick (mCons (mVar 0) (mCons (mC (.str "abmnopqrstz{`")) mNil)))))) mNext)
  (mRet (mVar 2))))))
theorem w__law_near_name : Good W__law_near_name 1 := ⟨fun ds n k k' h ⟨e, a, q⟩ => ⟨e, a, fun d n' m l => h _ _ (q d n' m l)⟩, fun ds n k ⟨e, _⟩ => by rw [e]; rfl⟩
theorem r__law_near_name : ∀ ds n kk, W__law_near_name ds n kk → m__law_near_name (startE n__law_near_name.length ds n) { nx := fun e => kk .non e.cr, rt := fun d e => kk d e.cr } := by
  rintro ds n kk ⟨rfl, h1, h2⟩
  refine seq_gen fun N hN => ?_
  simp [mRet, mSeq, mNext, mIfS, mSet, mPar, mDrop, mAndV, mOrV, mNotV, mAnd, mOr, mNot, mB, mIf, mCB, mCons, mNil, mVar, mC, mBin, mUn, mTup, mLst, mCall, mCallK, mChain, isiW, startE, DEnv.at, DEnv.put, D.isa, tyN, sixNames, isNum, isCnt, okD, ordW, intW, sizeLine, tyNames, lenW, mNever]
  rw [hN]
  refine seq_gen fun N hN => ?_
  simp [mDisp, pairsW, noOwE, noOw, keysD, keyD, dictD, frKeys, addW, mRet, mSeq, mNext, mIfS, mSet, mPar, mDrop, mAndV, mOrV, mNotV, mAnd, mOr, mNot, mB, mIf, mCB, mCons, mNil, mVar, mC, mBin, mUn, mTup, mLst, mCall, mCallK, mChain, isiW, startE, DEnv.at, DEnv.put, D.isa, tyN, sixNames, isNum, isCnt, okD, ordW, intW, sizeLine, tyNames, lenW, mNever]
  rw [hN]
  refine seq_gen fun N hN => ?_
  simp [mRet, mSeq, mNext, mIfS, mSet, mPar, mDrop, mAndV, mOrV, mNotV, mAnd, mOr, mNot, mB, mIf, mCB, mCons, mNil, mVar, mC, mBin, mUn, mTup, mLst, mCall, mCallK, mChain, isiW, startE, DEnv.at, DEnv.put, D.isa, tyN, sixNames, isNum, isCnt, okD, ordW, intW, sizeLine, tyNames, lenW, mNever]
  refine ⟨_, nearL, rfl, rfl, by decide, by decide, by omega, fun d hd => ?_⟩
  rw [hN]
  refine seq_gen fun N hN => ?_
  simp [W__law_take, mRet, mSeq, mNext, mIfS, mSet, mPar, mDrop, mAndV, mOrV, mNotV, mAnd, mOr, mNot, mB, mIf, mCB, mCons, mNil, mVar, mC, mBin, mUn, mTup, mLst, mCall, mCallK, mChain, isiW, startE, DEnv.at, DEnv.put, D.isa, tyN, sixNames, isNum, isCnt, okD, ordW, intW, sizeLine, tyNames, lenW, mNever, eqX, eqv_int, shaped_int]
  refine ⟨by omega, fun i i0 i1 => ?_⟩
  split
  · simp only [mJoin, mC, mLc, mRange]
    refine ⟨_, rfl, ?_⟩
    simp [W__law_take, mRet, mSeq, mNext, mIfS, mSet, mPar, mDrop, mAndV, mOrV, mNotV, mAnd, mOr, mNot, mB, mIf, mCB, mCons, mNil, mVar, mC, mBin, mUn, mTup, mLst, mCall, mCallK, mChain, isiW, startE, DEnv.at, DEnv.put, D.isa, tyN, sixNames, isNum, isCnt, okD, ordW, intW, sizeLine, tyNames, lenW, mNever]
    refine ⟨by omega, fun j j0 j1 => ⟨⟨by omega, by omega⟩, ?_⟩⟩
    have hrl : (rangeD j).length = j.toNat := by simp [rangeD]
    refine compW_draw (c := 1) (R := fun _ y => y ∈ DL.signs "abmnopqrstz{`") _ _ _ (fun d hd m k' hm q => ?_) ?_ ?_ fun ys n' e1 e2 e3 => ?_
    · simp [compE, noOw, mRet, mSeq, mNext, mIfS, mSet, mPar, mDrop, mAndV, mOrV, mNotV, mAnd, mOr, mNot, mB, mIf, mCB, mCons, mNil, mVar, mC, mBin, mUn, mTup, mLst, mCall, mCallK, mChain, isiW, startE, DEnv.at, DEnv.put, D.isa, tyN, sixNames, isNum, isCnt, okD, ordW, intW, sizeLine, tyNames, lenW, mNever]
      exact ⟨_, _, rfl, rfl, by decide +kernel, by decide +kernel, hm, fun y hy => q y _ hy (by omega) _⟩
    · simp [hrl]; unfold sizeLine; omega
    · rw [hrl]; simp only [compE]; omega
    · obtain ⟨cs, rfl, hcs⟩ := signs_of (ys := ys) fun y hy => let ⟨_, _, h⟩ := e2 y hy; h
      have l1 : cs.length ≤ 8 := by rw [List.length_map, hrl] at e1; omega
      refine ⟨_, cs.map fun c => (⟨#[c]⟩ : Str), .inl rfl, by simpa [Function.comp_def] using DL.strs_map (cs.map fun c => (⟨#[c]⟩ : Str)), ?_, ?_⟩
      · simp [Str.length, Function.comp_def]
        have : (Str.ofString "").cps.size = 0 := by decide +kernel
        rw [this, sum_ones]; omega
      · rw [hN]
        simp [mRet, mSeq, mNext, mIfS, mSet, mPar, mDrop, mAndV, mOrV, mNotV, mAnd, mOr, mNot, mB, mIf, mCB, mCons, mNil, mVar, mC, mBin, mUn, mTup, mLst, mCall, mCallK, mChain, isiW, startE, DEnv.at, DEnv.put, D.isa, tyN, sixNames, isNum, isCnt, okD, ordW, intW, sizeLine, tyNames, lenW, mNever]
        simp only [compE] at e3
        refine h2 _ _ (.inr ⟨_, rfl, ?_⟩) (by rw [hrl] at e3; omega)
        have := join_one cs
        refine ⟨by rw [Str.length, ← Array.length_toList, this]; exact l1, fun c hc => ?_⟩
        rw [this] at hc
        exact hcs c hc
  · rw [hN]
    simp [mRet, mSeq, mNext, mIfS, mSet, mPar, mDrop, mAndV, mOrV, mNotV, mAnd, mOr, mNot, mB, mIf, mCB, mCons, mNil, mVar, mC, mBin, mUn, mTup, mLst, mCall, mCallK, mChain, isiW, startE, DEnv.at, DEnv.put, D.isa, tyN, sixNames, isNum, isCnt, okD, ordW, intW, sizeLine, tyNames, lenW, mNever]
    exact h2 _ _ (.inl hd) (by omega)
abbrev n__law_is_packet_due : List Str := ["many", "thing_here", "number"]
def m__law_is_packet_due : MS := (mSeq (mIfS (mOr (mNot (mB (mCB isiW (mCons (mVar 1) (mCons (mC (.ty "tuple")) mNil))))) (mB (mBin neX (mCB lenW (mCons (mVar 1) mNil)) (mVar 0)))) (mRet (mC (.bl false))) mNext)
  (mSeq (mFor (mIter (mVar 1)) (gN 2) (mIfS (mOr (mNot (mB (mCB isiW (mCons (mVar 2) (mCons (mC (.ty "int")) mNil))))) (mOr (mB (mCB isiW (mCons (mVar 2) (mCons (mC (.ty "bool")) mNil)))) (mB (mBin ltW (mVar 2) (mC (.int 0)))))) (mRet (mC (.bl false))) mNext))
  (mRet (mC (.bl true)))))
theorem w__law_is_packet_due : Good W_is_packet_of 2 := w_is_packet_of
theorem r__law_is_packet_due : ∀ ds n kk, W_is_packet_of ds n kk → m__law_is_packet_due (startE n__law_is_packet_due.length ds n) { nx := fun e => kk .non e.cr, rt := fun d e => kk d e.cr } := by
  rintro ds n kk ⟨m, x, rfl, h1, h2, h3, h4⟩
  cases x with
  | tup es =>
    have h5 : kk (.bl (decide ((es.length : Int) = m) && es.all isCnt)) n := h4
    have h6 := h2 es rfl
    clear h4 h2
    refine seq_gen fun N hN => ?_
    simp [neX, eqv_int, shaped_int, mRet, mSeq, mNext, mIfS, mSet, mPar, mDrop, mAndV, mOrV, mNotV, mAnd, mOr, mNot, mB, mIf, mCB, mCons, mNil, mVar, mC, mBin, mUn, mTup, mLst, mCall, mCallK, mChain, isiW, startE, DEnv.at, DEnv.put, D.isa, tyN, sixNames, isNum, isCnt, okD, ordW, intW, sizeLine, tyNames, lenW, mNever]
    split
    · rename_i e
      rw [hN]
      refine seq_gen fun N2 hN2 => ?_
      have e1 : decide ((es.length : Int) = m) = true := by simpa using e
      rw [e1, Bool.true_and] at h5
      simp only [mFor, mIter]
      simp only [mVar, DEnv.at, List.getD_cons_zero, List.getD_cons_succ]
      refine forW_inv (fun ds env => (∃ s0 s1 s2, env.sl = [s0, s1, s2]) ∧ env.cr = n ∧ kk (.bl (ds.all isCnt)) n ∧ ∀ d ∈ ds, okD d) (fun d ds env k' i a1 a2 a3 a4 => ?_) (fun env i => ?_) es _ ⟨⟨_, _, _, rfl⟩, rfl, h5, h6⟩
      · obtain ⟨⟨s0, s1, s2, i1⟩, i2, i3, i4⟩ := i
        obtain ⟨sl, cr, mr⟩ := env
        simp only at i1 i2
        subst i1 i2
        have hd := i4 d List.mem_cons_self
        have i5 : ∀ d ∈ ds, okD d := fun d h => i4 d (List.mem_cons_of_mem _ h)
        have fin : isCnt d = true → k'.nx ⟨[s0, s1, .da d], cr, mr⟩ := fun e => a1 _ ⟨⟨_, _, _, rfl⟩, rfl, by simpa [e] using i3, i5⟩
        have bad : isCnt d = false → k'.rt (.bl false) ⟨[s0, s1, .da d], cr, mr⟩ := fun e => a3 _ _ (by simpa [e] using i3)
        cases d with
        | int v =>
          simp [gN, mRet, mSeq, mNext, mIfS, mSet, mPar, mDrop, mAndV, mOrV, mNotV, mAnd, mOr, mNot, mB, mIf, mCB, mCons, mNil, mVar, mC, mBin, mUn, mTup, mLst, mCall, mCallK, mChain, isiW, startE, DEnv.at, DEnv.put, D.isa, tyN, sixNames, isNum, isCnt, okD, ordW, intW, sizeLine, tyNames, lenW, mNever]
          split
          · rename_i e; exact bad (by simp [isCnt]; omega)
          · rename_i e; exact fin (by simp [isCnt]; omega)
        | _ => first | (simp [okD, tyN] at hd; done) | (simp [gN, mRet, mSeq, mNext, mIfS, mSet, mPar, mDrop, mAndV, mOrV, mNotV, mAnd, mOr, mNot, mB, mIf, mCB, mCons, mNil, mVar, mC, mBin, mUn, mTup, mLst, mCall, mCallK, mChain, isiW, startE, DEnv.at, DEnv.put, D.isa, tyN, sixNames, isNum, isCnt, okD, ordW, intW, sizeLine, tyNames, lenW, mNever]; exact bad rfl)
      · obtain ⟨⟨s0, s1, s2, i1⟩, i2, i3, i4⟩ := i
        rw [hN2]
        simp [mRet, mSeq, mNext, mIfS, mSet, mPar, mDrop, mAndV, mOrV, mNotV, mAnd, mOr, mNot, mB, mIf, mCB, mCons, mNil, mVar, mC, mBin, mUn, mTup, mLst, mCall, mCallK, mChain, isiW, startE, DEnv.at, DEnv.put, D.isa, tyN, sixNames, isNum, isCnt, okD, ordW, intW, sizeLine, tyNames, lenW, mNever, i2]
        simpa using i3
    · rename_i e
      have e1 : decide ((es.length : Int) = m) = false := by simpa using e
      rw [e1] at h5
      simpa using h5
  | _ => first | (exact absurd h1 (by decide)) | (simp [m__law_is_packet_due, isPacket, mRet, mSeq, mNext, mIfS, mSet, mPar, mDrop, mAndV, mOrV, mNotV, mAnd, mOr, mNot, mB, mIf, mCB, mCons, mNil, mVar, mC, mBin, mUn, mTup, mLst, mCall, mCallK, mChain, isiW, startE, DEnv.at, DEnv.put, D.isa, tyN, sixNames, isNum, isCnt, okD, ordW, intW, sizeLine, tyNames, lenW, mNever] at h1 h4 ⊢; try assumption)
abbrev n__law_near_packet : List Str := ["state", "many", "found", "spot", "change", "sort", "fresh"]
def m__law_near_packet : MS := (mSeq (mSet 2 (mLc 3 (mRange (mCons (mVar 1) mNil)) mYes (mCall W__law_pick (mCons (mVar 0) (mCons (mLst (mCons (mC (.int 0)) (mCons (mC (.int 1)) (mCons (mC (.int 7)) (mCons (mBin powW (mC (.int 10)) (mC (.int 12))) (mCons (mBin powW (mC (.int 10)) (mC (.int 40))) (mCons (mCall W__law_take (mCons (mVar 0) (mCons (mBin powW (mC (.int 10)) (mC (.int 9))) mNil))) mNil))))))) mNil)))))
  (mSeq (mFor (mRange (mCons (mCall W__law_pick (mCons (mVar 0) (mCons (mLst (mCons (mC (.int 0)) (mCons (mC (.int 0)) (mCons (mC (.int 1)) (mCons (mC (.int 1)) (mCons (mC (.int 2)) mNil)))))) mNil))) mNil)) (gN 4) (mSeq (mSet 3 (mCall W__law_take (mCons (mVar 0) (mCons (mBin addW (mCB lenW (mCons (mVar 2) mNil)) (mC (.int 1))) mNil))))
  (mSeq (mSet 5 (mCall W__law_take (mCons (mVar 0) (mCons (mC (.int 3)) mNil))))
  (mSeq (mIfS (mB (mBin eqX (mVar 5) (mC (.int 0)))) (mSeq (mSet 6 (mCall W__law_pick (mCons (mVar 0) (mCons (mLst (mCons (mUn negW (mC (.int 1))) (mCons (mC (.bl true)) (mCons (mC (.bl false)) (mCons (mC .non) (mCons (mC (.str "1")) (mCons (mTup (mCons (mC (.int 1)) mNil)) (mCons (mLst (mCons (mC (.int 1)) mNil)) (mCons (mBin subW (mC (.int 0)) (mBin powW (mC (.int 10)) (mC (.int 30)))) mNil))))))))) mNil))))
  (mSet 2 (mBin addW (mBin addW (mSl slW (mVar 2) mNo (mSome (mVar 3))) (mLst (mCons (mVar 6) mNil))) (mSl slW (mVar 2) (mSome (mBin addW (mVar 3) (mC (.int 1)))) mNo)))) mNext)
  (mSeq (mIfS (mB (mBin eqX (mVar 5) (mC (.int 1)))) (mSet 2 (mBin addW (mSl slW (mVar 2) mNo (mSome (mVar 3))) (mSl slW (mVar 2) (mSome (mBin addW (mVar 3) (mC (.int 1)))) mNo))) mNext)
  (mIfS (mB (mBin eqX (mVar 5) (mC (.int 2)))) (mSet 2 (mBin addW (mBin addW (mSl slW (mVar 2) mNo (mSome (mVar 3))) (mLst (mCons (mC (.int 3)) mNil))) (mSl slW (mVar 2) (mSome (mVar 3)) mNo))) mNext))))))
  (mRet (mCall W__law_pick (mCons (mVar 0) (mCons (mLst (mCons (mCB tupleW (mCons (mVar 2) mNil)) (mCons (mCB tupleW (mCons (mVar 2) mNil)) (mCons (mCB tupleW (mCons (mVar 2) mNil)) (mCons (mVar 2) (mCons (mCall W__law_odd (mCons (mVar 0) mNil)) mNil)))))) mNil))))))
theorem w__law_near_packet : Good W__law_near_packet 2 := ⟨fun ds n k k' h ⟨m, e, a, b, c, q⟩ => ⟨m, e, a, b, c, fun d n' m l => h _ _ (q d n' m l)⟩, fun ds n k ⟨m, e, _⟩ => by rw [e]; rfl⟩
theorem r__law_near_packet : ∀ ds n kk, W__law_near_packet ds n kk → m__law_near_packet (startE n__law_near_packet.length ds n) { nx := fun e => kk .non e.cr, rt := fun d e => kk d e.cr } := by
  rintro ds n kk ⟨m, rfl, h1, h2, h3, h4⟩
  refine seq_gen fun N hN => ?_
  simp only [mSet, mLc, mRange]
  simp [mRet, mSeq, mNext, mIfS, mSet, mPar, mDrop, mAndV, mOrV, mNotV, mAnd, mOr, mNot, mB, mIf, mCB, mCons, mNil, mVar, mC, mBin, mUn, mTup, mLst, mCall, mCallK, mChain, isiW, startE, DEnv.at, DEnv.put, D.isa, tyN, sixNames, isNum, isCnt, okD, ordW, intW, sizeLine, tyNames, lenW, mNever]
  refine ⟨⟨by omega, by omega⟩, ?_⟩
  have hrl : (rangeD m).length = m.toNat := by simp [rangeD]
  refine compW_draw (c := 2) (R := fun _ y => elemOk y) _ _ _ (fun d hd n k' hm q => ?_) ?_ ?_ fun ys n1 e1 e2 e3 => ?_
  · simp [compE, noOw, powW, CPow, W__law_take, mRet, mSeq, mNext, mIfS, mSet, mPar, mDrop, mAndV, mOrV, mNotV, mAnd, mOr, mNot, mB, mIf, mCB, mCons, mNil, mVar, mC, mBin, mUn, mTup, mLst, mCall, mCallK, mChain, isiW, startE, DEnv.at, DEnv.put, D.isa, tyN, sixNames, isNum, isCnt, okD, ordW, intW, sizeLine, tyNames, lenW, mNever]
    refine ⟨by omega, fun i i0 i1 => ⟨_, _, rfl, rfl, by simp, by simp, by omega, fun y hy => q y _ ?_ (by omega) _⟩⟩
    simp only [List.mem_cons, List.not_mem_nil, or_false] at hy
    rcases hy with rfl | rfl | rfl | rfl | rfl | rfl <;> first | exact elem_int (by decide) (by decide) | exact elem_int (by omega) (by omega)
  · simp [hrl]; unfold sizeLine; omega
  · rw [hrl]; simp only [compE]; omega
  have ok1 : ∀ y ∈ ys, elemOk y := fun y hy => let ⟨_, _, h⟩ := e2 y hy; h
  rw [hrl] at e1 e3
  simp only [compE] at e3
  rw [hN]
  simp
  refine seq_gen fun N2 hN2 => ?_
  simp only [mFor, mRange]
  simp [mRet, mSeq, mNext, mIfS, mSet, mPar, mDrop, mAndV, mOrV, mNotV, mAnd, mOr, mNot, mB, mIf, mCB, mCons, mNil, mVar, mC, mBin, mUn, mTup, mLst, mCall, mCallK, mChain, isiW, startE, DEnv.at, DEnv.put, D.isa, tyN, sixNames, isNum, isCnt, okD, ordW, intW, sizeLine, tyNames, lenW, mNever]
  refine ⟨_, _, rfl, rfl, by simp, by decide, by omega, fun d hd => ?_⟩
  obtain ⟨t, rfl, t0, t1⟩ : ∃ t : Int, d = .int t ∧ 0 ≤ t ∧ t ≤ 2 := by
    simp only [List.mem_cons, List.not_mem_nil, or_false] at hd
    rcases hd with rfl | rfl | rfl | rfl | rfl <;> exact ⟨_, rfl, by decide, by decide⟩
  simp
  refine ⟨⟨by omega, by omega⟩, ?_⟩
  have hrt : (rangeD t).length = t.toNat := by simp [rangeD]
  refine forW_inv (fun ds env => ∃ found s3 s4 s5 s6, env.sl = [.da .sta, .da (.int m), .da (.lst found), s3, s4, s5, s6] ∧ (∀ y ∈ found, elemOk y) ∧ found.length + ds.length ≤ 5 ∧ 3 * ds.length + 3 ≤ env.cr ∧ n ≤ env.cr + 13 - 3 * ds.length) (fun d ds env k' i a1 a2 a3 a4 => ?_) (fun env i => ?_) _ _ ⟨ys, _, _, _, _, rfl, ok1, by rw [hrt]; omega, by rw [hrt]; simp only; omega, by rw [hrt]; simp only; omega⟩
  · obtain ⟨found, s3, s4, s5, s6, i1, i2, i3, i4, i5⟩ := i
    obtain ⟨sl, cr, mr⟩ := env
    simp only [List.length_cons] at i1 i3 i4 i5
    subst i1
    simp only [gN]
    refine seq_gen fun N3 hN3 => ?_
    simp [addW, W__law_take, mRet, mSeq, mNext, mIfS, mSet, mPar, mDrop, mAndV, mOrV, mNotV, mAnd, mOr, mNot, mB, mIf, mCB, mCons, mNil, mVar, mC, mBin, mUn, mTup, mLst, mCall, mCallK, mChain, isiW, startE, DEnv.at, DEnv.put, D.isa, tyN, sixNames, isNum, isCnt, okD, ordW, intW, sizeLine, tyNames, lenW, mNever]
    refine ⟨by omega, by omega, fun sp p0 p1 => ?_⟩
    have c1 := len_cut_lo found p0
    have c2 := len_cut_hi found p0 (by omega)
    have c3 := len_cut_hi' found (i := sp + 1) (by omega)
    have c4 : (cut found none (some sp)).length + (cut found (some (sp + 1)) none).length ≤ found.length := by
      by_cases e : sp < found.length
      · have := len_cut_hi found (i := sp + 1) (by omega) (by omega)
        omega
      · have : sp = found.length := by omega
        have c5 : cut found (some (sp + 1)) none = [] := by
          unfold cut
          obtain ⟨k, rfl⟩ := Int.eq_ofNat_of_zero_le p0
          have h5 := HT.sIx_nat found.length 0 (k + 1)
          have h6 : ((k + 1 : Nat) : Int) = (k : Int) + 1 := by omega
          rw [h6] at h5
          rw [h5, List.drop_eq_nil_of_le (by omega)]
          simp
        rw [c5]; simp; omega
    rw [hN3]
    refine seq_gen fun N4 hN4 => ?_
    simp [W__law_take, mRet, mSeq, mNext, mIfS, mSet, mPar, mDrop, mAndV, mOrV, mNotV, mAnd, mOr, mNot, mB, mIf, mCB, mCons, mNil, mVar, mC, mBin, mUn, mTup, mLst, mCall, mCallK, mChain, isiW, startE, DEnv.at, DEnv.put, D.isa, tyN, sixNames, isNum, isCnt, okD, ordW, intW, sizeLine, tyNames, lenW, mNever]
    refine ⟨by omega, fun so q0 q1 => ?_⟩
    have fin : ∀ (l : List D) (s6 : Sl) (cr' : Nat), (∀ y ∈ l, elemOk y) → l.length ≤ found.length + 1 → cr ≤ cr' + 3 → k'.nx ⟨[.da .sta, .da (.int m), .da (.lst l), .da (.int sp), .da d, .da (.int so), s6], cr', mr⟩ := fun l s6 cr' h1 h2 h3 =>
      a1 _ ⟨l, _, _, _, _, rfl, h1, by omega, by simp only; omega, by simp only; omega⟩
    have memc : ∀ (lo1 hi1 lo2 hi2 : Option Int) (mid : List D), (∀ y ∈ mid, elemOk y) → ∀ y ∈ cut found lo1 hi1 ++ (mid ++ cut found lo2 hi2), elemOk y := fun lo1 hi1 lo2 hi2 mid hm y hy => by
      rcases List.mem_append.mp hy with hy | hy
      · exact i2 y (mem_cut hy)
      · rcases List.mem_append.mp hy with hy | hy
        · exact hm y hy
        · exact i2 y (mem_cut hy)
    have sz : ∀ n : Nat, n ≤ 20 → n ≤ 16777216 := fun n h => by omega
    rw [hN4]
    have cases3 : so = 0 ∨ so = 1 ∨ so = 2 := by omega
    rcases cases3 with rfl | rfl | rfl
    · refine seq_gen fun N5 hN5 => ?_
      simp [eqX, eqv_int, shaped_int, negW, powW, CPow, subW, mRet, mSeq, mNext, mIfS, mSet, mPar, mDrop, mAndV, mOrV, mNotV, mAnd, mOr, mNot, mB, mIf, mCB, mCons, mNil, mVar, mC, mBin, mUn, mTup, mLst, mCall, mCallK, mChain, isiW, startE, DEnv.at, DEnv.put, D.isa, tyN, sixNames, isNum, isCnt, okD, ordW, intW, sizeLine, tyNames, lenW, mNever]
      refine ⟨_, _, rfl, rfl, by simp, by simp, by omega, fun y hy => ?_⟩
      have hy' : elemOk y := by
        simp only [List.mem_cons, List.not_mem_nil, or_false] at hy
        rcases hy with rfl | rfl | rfl | rfl | rfl | rfl | rfl | rfl <;> first | exact elem_int (by decide) (by decide) | exact ⟨by decide +kernel, rfl⟩
      simp [mSl, mNo, mSome, slW, addW, sizeLine]
      refine ⟨by omega, by omega, ?_⟩
      rw [hN5]
      simp [eqX, eqv_int, shaped_int, mRet, mSeq, mNext, mIfS, mSet, mPar, mDrop, mAndV, mOrV, mNotV, mAnd, mOr, mNot, mB, mIf, mCB, mCons, mNil, mVar, mC, mBin, mUn, mTup, mLst, mCall, mCallK, mChain, isiW, startE, DEnv.at, DEnv.put, D.isa, tyN, sixNames, isNum, isCnt, okD, ordW, intW, sizeLine, tyNames, lenW, mNever]
      refine fin _ _ _ (memc _ _ _ _ [y] (by simpa using hy')) ?_ (by omega)
      simp; omega
    · refine seq_gen fun N5 hN5 => ?_
      simp [eqX, eqv_int, shaped_int, mRet, mSeq, mNext, mIfS, mSet, mPar, mDrop, mAndV, mOrV, mNotV, mAnd, mOr, mNot, mB, mIf, mCB, mCons, mNil, mVar, mC, mBin, mUn, mTup, mLst, mCall, mCallK, mChain, isiW, startE, DEnv.at, DEnv.put, D.isa, tyN, sixNames, isNum, isCnt, okD, ordW, intW, sizeLine, tyNames, lenW, mNever]
      rw [hN5]
      refine seq_gen fun N6 hN6 => ?_
      simp [eqX, eqv_int, shaped_int, mSl, mNo, mSome, slW, addW, mRet, mSeq, mNext, mIfS, mSet, mPar, mDrop, mAndV, mOrV, mNotV, mAnd, mOr, mNot, mB, mIf, mCB, mCons, mNil, mVar, mC, mBin, mUn, mTup, mLst, mCall, mCallK, mChain, isiW, startE, DEnv.at, DEnv.put, D.isa, tyN, sixNames, isNum, isCnt, okD, ordW, intW, sizeLine, tyNames, lenW, mNever]
      refine ⟨by omega, ?_⟩
      rw [hN6]
      simp [eqX, eqv_int, shaped_int, mRet, mSeq, mNext, mIfS, mSet, mPar, mDrop, mAndV, mOrV, mNotV, mAnd, mOr, mNot, mB, mIf, mCB, mCons, mNil, mVar, mC, mBin, mUn, mTup, mLst, mCall, mCallK, mChain, isiW, startE, DEnv.at, DEnv.put, D.isa, tyN, sixNames, isNum, isCnt, okD, ordW, intW, sizeLine, tyNames, lenW, mNever]
      refine fin _ _ _ (memc _ _ _ _ [] (by simp)) ?_ (by omega)
      simp; omega
    · refine seq_gen fun N5 hN5 => ?_
      simp [eqX, eqv_int, shaped_int, mRet, mSeq, mNext, mIfS, mSet, mPar, mDrop, mAndV, mOrV, mNotV, mAnd, mOr, mNot, mB, mIf, mCB, mCons, mNil, mVar, mC, mBin, mUn, mTup, mLst, mCall, mCallK, mChain, isiW, startE, DEnv.at, DEnv.put, D.isa, tyN, sixNames, isNum, isCnt, okD, ordW, intW, sizeLine, tyNames, lenW, mNever]
      rw [hN5]
      refine seq_gen fun N6 hN6 => ?_
      simp [eqX, eqv_int, shaped_int, mRet, mSeq, mNext, mIfS, mSet, mPar, mDrop, mAndV, mOrV, mNotV, mAnd, mOr, mNot, mB, mIf, mCB, mCons, mNil, mVar, mC, mBin, mUn, mTup, mLst, mCall, mCallK, mChain, isiW, startE, DEnv.at, DEnv.put, D.isa, tyN, sixNames, isNum, isCnt, okD, ordW, intW, sizeLine, tyNames, lenW, mNever]
      rw [hN6]
      simp [eqX, eqv_int, shaped_int, mSl, mNo, mSome, slW, addW, mRet, mSeq, mNext, mIfS, mSet, mPar, mDrop, mAndV, mOrV, mNotV, mAnd, mOr, mNot, mB, mIf, mCB, mCons, mNil, mVar, mC, mBin, mUn, mTup, mLst, mCall, mCallK, mChain, isiW, startE, DEnv.at, DEnv.put, D.isa, tyN, sixNames, isNum, isCnt, okD, ordW, intW, sizeLine, tyNames, lenW, mNever]
      refine ⟨by omega, by omega, ?_⟩
      refine fin _ _ _ (memc _ _ _ _ [.int 3] (by simpa using elem_int (by decide) (by decide))) ?_ (by omega)
      simp; omega
  · obtain ⟨found, s3, s4, s5, s6, i1, i2, i3, i4, i5⟩ := i
    obtain ⟨sl, cr⟩ := env
    simp only at i1 i4 i5
    subst i1
    rw [hN2]
    simp [tupleW, W__law_odd, mRet, mSeq, mNext, mIfS, mSet, mPar, mDrop, mAndV, mOrV, mNotV, mAnd, mOr, mNot, mB, mIf, mCB, mCons, mNil, mVar, mC, mBin, mUn, mTup, mLst, mCall, mCallK, mChain, isiW, startE, DEnv.at, DEnv.put, D.isa, tyN, sixNames, isNum, isCnt, okD, ordW, intW, sizeLine, tyNames, lenW, mNever]
    refine ⟨by omega, fun od hod => ⟨_, _, rfl, rfl, by simp, by simp, by simp at i4; omega, fun y hy => h4 _ _ ?_ (by simp at i5; omega)⟩⟩
    have i3' : found.length ≤ 5 := by simpa using i3
    simp only [List.mem_cons, List.not_mem_nil, or_false] at hy
    rcases hy with rfl | rfl | rfl | rfl | rfl
    · exact .inl ⟨found, .inl rfl, i3', i2⟩
    · exact .inl ⟨found, .inl rfl, i3', i2⟩
    · exact .inl ⟨found, .inl rfl, i3', i2⟩
    · exact .inl ⟨found, .inr rfl, i3', i2⟩
    · exact .inr hod
theorem near_ok {d : D} (h : nearName d) : okS d ∧ d.sm 100 2 = true := by
  rcases h with h | ⟨x, rfl, hl, hc⟩
  · have : ∀ d ∈ nearL, (tyN d).isSome = true ∧ (match d with | .str x => decide (x.length ≤ sizeLine) && PyData.strOk x | _ => true) = true ∧ d.sm 100 2 = true := by decide +kernel
    obtain ⟨a, b, c⟩ := this d h
    refine ⟨⟨a, fun x e => ?_⟩, c⟩
    subst e
    simpa using b
  · refine ⟨⟨rfl, fun y e => ?_⟩, D.sm_mono (sm_str fun c h => by have := hc c h; omega) (by omega) (by decide)⟩
    cases e
    refine ⟨by unfold sizeLine; omega, ?_⟩
    unfold PyData.strOk
    rw [← Array.all_toList]
    refine List.all_eq_true.mpr fun c h => ?_
    have := hc c h
    simp; omega
theorem packet_ok {d : D} (h : nearPacket d) : okD d ∧ (∀ es, d = .tup es → ∀ e ∈ es, okD e) ∧ (∀ es, d = .tup es → es.length ≤ sizeLine) ∧ d.sm 20000 5 = true := by
  rcases h with ⟨es, h, hl, he⟩ | h
  · have hl' : es.length ≤ sizeLine := by unfold sizeLine; omega
    have hm : es.length * (2000 + 2) + 3 ≤ 20000 := by omega
    rcases h with rfl | rfl
    · exact ⟨rfl, fun es' e => by cases e; exact fun y hy => (he y hy).2, fun es' e => by cases e; exact hl', D.sm_mono (sm_tup fun y hy => (he y hy).1) hm (by decide)⟩
    · exact ⟨rfl, fun es' e => (by cases e), fun es' e => (by cases e), D.sm_mono (sm_lst fun y hy => (he y hy).1) hm (by decide)⟩
  · have : ∀ d ∈ oddL, (tyN d).isSome = true ∧ (match d with | .tup es => decide (es.length ≤ sizeLine) && es.all fun e => (tyN e).isSome | _ => true) = true ∧ d.sm 20000 5 = true := by decide +kernel
    obtain ⟨a, b, c⟩ := this d h
    refine ⟨a, fun es e y hy => ?_, fun es e => ?_, c⟩
    · subst e
      simp only [Bool.and_eq_true] at b
      exact List.all_eq_true.mp b.2 y hy
    · subst e
      simp only [Bool.and_eq_true, decide_eq_true_eq] at b
      exact b.1
theorem show_two (b : Bool) : (D.lst [.bl b, .bl b]).showable = true := by cases b <;> decide +kernel
theorem frame_fields : ∀ y ∈ frameL, isField (.str y) = true := by decide +kernel
end Fn
namespace Fn
open PySem L2 PySem.Spec PyProof.Rows DL
def g_MOST_LEVELS : D := .int 12
def g_BARE : D := .tup [.str "drop", .str "mark", .str "pass"]
def g_WITH_NUMBER : D := .tup [.str "is", .str "set"]
def g_JOINING : D := .tup [.str "choice", .str "row"]
def g_ONLY_TREES : D := .tup [.str "loop", .str "mark", .str "set", .str "take"]
/-! ### trees -/
inductive Tr where
  | pass | drop | mark
  | is (f : Str) (n : Int) | set (f : Str) (n : Int) | take (f g : Str)
  | row (ts : List Tr) | choice (ts : List Tr) | loop (t : Tr) | nt (t : Tr)
mutual
def Tr.d : Tr → D
  | .pass => .tup [.str "pass"]
  | .drop => .tup [.str "drop"]
  | .mark => .tup [.str "mark"]
  | .is f n => .tup [.str "is", .str f, .int n]
  | .set f n => .tup [.str "set", .str f, .int n]
  | .take f g => .tup [.str "take", .str f, .str g]
  | .row ts => .tup (.str "row" :: Tr.ds ts)
  | .choice ts => .tup (.str "choice" :: Tr.ds ts)
  | .loop t => .tup [.str "loop", t.d]
  | .nt t => .tup [.str "not", t.d]
def Tr.ds : List Tr → List D
  | [] => []
  | t :: ts => t.d :: Tr.ds ts
end
theorem Tr.ds_eq : ∀ ts : List Tr, Tr.ds ts = ts.map Tr.d
  | [] => rfl
  | t :: ts => by rw [Tr.ds, Tr.ds_eq ts]; rfl
def wordsL : List Str := ["pass", "drop", "mark", "is", "set", "take", "row", "choice", "loop", "not"]
/-- the words are different -/
theorem wne : wordsL.Nodup := by decide +kernel
theorem wx : ¬ (("pass" : Str) = "drop") ∧ ¬ (("pass" : Str) = "mark") ∧ ¬ (("pass" : Str) = "is") ∧ ¬ (("pass" : Str) = "set") ∧ ¬ (("pass" : Str) = "take") ∧ ¬ (("pass" : Str) = "row") ∧ ¬ (("pass" : Str) = "choice") ∧ ¬ (("pass" : Str) = "loop") ∧ ¬ (("pass" : Str) = "not") ∧ ¬ (("drop" : Str) = "pass") ∧ ¬ (("drop" : Str) = "mark") ∧ ¬ (("drop" : Str) = "is") ∧ ¬ (("drop" : Str) = "set") ∧ ¬ (("drop" : Str) = "take") ∧ ¬ (("drop" : Str) = "row") ∧ ¬ (("drop" : Str) = "choice") ∧ ¬ (("drop" : Str) = "loop") ∧ ¬ (("drop" : Str) = "not") ∧ ¬ (("mark" : Str) = "pass") ∧ ¬ (("mark" : Str) = "drop") ∧ ¬ (("mark" : Str) = "is") ∧ ¬ (("mark" : Str) = "set") ∧ ¬ (("mark" : Str) = "take") ∧ ¬ (("mark" : Str) = "row") ∧ ¬ (("mark" : Str) = "choice") ∧ ¬ (("mark" : Str) = "loop") ∧ ¬ (("mark" : Str) = "not") ∧ ¬ (("is" : Str) = "pass") ∧ ¬ (("is" : Str) = "drop") ∧ ¬ (("is" : Str) = "mark") ∧ ¬ (("is" : Str) = "set") ∧ ¬ (("is" : Str) = "take") ∧ ¬ (("is" : Str) = "row") ∧ ¬ (("is" : Str) = "choice") ∧ ¬ (("is" : Str) = "loop") ∧ ¬ (("is" : Str) = "not") ∧ ¬ (("set" : Str) = "pass") ∧ ¬ (("set" : Str) = "drop") ∧ ¬ (("set" : Str) = "mark") ∧ ¬ (("set" : Str) = "is") ∧ ¬ (("set" : Str) = "take") ∧ ¬ (("set" : Str) = "row") ∧ ¬ (("set" : Str) = "choice") ∧ ¬ (("set" : Str) = "loop") ∧ ¬ (("set" : Str) = "not") ∧ ¬ (("take" : Str) = "pass") ∧ ¬ (("take" : Str) = "drop") ∧ ¬ (("take" : Str) = "mark") ∧ ¬ (("take" : Str) = "is") ∧ ¬ (("take" : Str) = "set") ∧ ¬ (("take" : Str) = "row") ∧ ¬ (("take" : Str) = "choice") ∧ ¬ (("take" : Str) = "loop") ∧ ¬ (("take" : Str) = "not") ∧ ¬ (("row" : Str) = "pass") ∧ ¬ (("row" : Str) = "drop") ∧ ¬ (("row" : Str) = "mark") ∧ ¬ (("row" : Str) = "is") ∧ ¬ (("row" : Str) = "set") ∧ ¬ (("row" : Str) = "take") ∧ ¬ (("row" : Str) = "choice") ∧ ¬ (("row" : Str) = "loop") ∧ ¬ (("row" : Str) = "not") ∧ ¬ (("choice" : Str) = "pass") ∧ ¬ (("choice" : Str) = "drop") ∧ ¬ (("choice" : Str) = "mark") ∧ ¬ (("choice" : Str) = "is") ∧ ¬ (("choice" : Str) = "set") ∧ ¬ (("choice" : Str) = "take") ∧ ¬ (("choice" : Str) = "row") ∧ ¬ (("choice" : Str) = "loop") ∧ ¬ (("choice" : Str) = "not") ∧ ¬ (("loop" : Str) = "pass") ∧ ¬ (("loop" : Str) = "drop") ∧ ¬ (("loop" : Str) = "mark") ∧ ¬ (("loop" : Str) = "is") ∧ ¬ (("loop" : Str) = "set") ∧ ¬ (("loop" : Str) = "take") ∧ ¬ (("loop" : Str) = "row") ∧ ¬ (("loop" : Str) = "choice") ∧ ¬ (("loop" : Str) = "not") ∧ ¬ (("not" : Str) = "pass") ∧ ¬ (("not" : Str) = "drop") ∧ ¬ (("not" : Str) = "mark") ∧ ¬ (("not" : Str) = "is") ∧ ¬ (("not" : Str) = "set") ∧ ¬ (("not" : Str) = "take") ∧ ¬ (("not" : Str) = "row") ∧ ¬ (("not" : Str) = "choice") ∧ ¬ (("not" : Str) = "loop") := by refine ⟨?_, ?_, ?_, ?_, ?_, ?_, ?_, ?_, ?_, ?_, ?_, ?_, ?_, ?_, ?_, ?_, ?_, ?_, ?_, ?_, ?_, ?_, ?_, ?_, ?_, ?_, ?_, ?_, ?_, ?_, ?_, ?_, ?_, ?_, ?_, ?_, ?_, ?_, ?_, ?_, ?_, ?_, ?_, ?_, ?_, ?_, ?_, ?_, ?_, ?_, ?_, ?_, ?_, ?_, ?_, ?_, ?_, ?_, ?_, ?_, ?_, ?_, ?_, ?_, ?_, ?_, ?_, ?_, ?_, ?_, ?_, ?_, ?_, ?_, ?_, ?_, ?_, ?_, ?_, ?_, ?_, ?_, ?_, ?_, ?_, ?_, ?_, ?_, ?_, ?_⟩ <;> decide +kernel
theorem words_or (x : Str) : x = "pass" ∨ x = "drop" ∨ x = "mark" ∨ x = "is" ∨ x = "set" ∨ x = "take" ∨ x = "row" ∨ x = "choice" ∨ x = "loop" ∨ x = "not" ∨ (¬ (x = "pass") ∧ ¬ (("pass" : Str) = x) ∧ ¬ (x = "drop") ∧ ¬ (("drop" : Str) = x) ∧ ¬ (x = "mark") ∧ ¬ (("mark" : Str) = x) ∧ ¬ (x = "is") ∧ ¬ (("is" : Str) = x) ∧ ¬ (x = "set") ∧ ¬ (("set" : Str) = x) ∧ ¬ (x = "take") ∧ ¬ (("take" : Str) = x) ∧ ¬ (x = "row") ∧ ¬ (("row" : Str) = x) ∧ ¬ (x = "choice") ∧ ¬ (("choice" : Str) = x) ∧ ¬ (x = "loop") ∧ ¬ (("loop" : Str) = x) ∧ ¬ (x = "not") ∧ ¬ (("not" : Str) = x)) := by
  by_cases h : x ∈ wordsL
  · simp only [wordsL, List.mem_cons, List.not_mem_nil, or_false] at h
    rcases h with h | h | h | h | h | h | h | h | h | h <;> simp [h]
  · simp only [wordsL, List.mem_cons, List.not_mem_nil, or_false, not_or] at h
    obtain ⟨h0, h1, h2, h3, h4, h5, h6, h7, h8, h9⟩ := h
    simp [h0, Ne.symm h0, h1, Ne.symm h1, h2, Ne.symm h2, h3, Ne.symm h3, h4, Ne.symm h4, h5, Ne.symm h5, h6, Ne.symm h6, h7, Ne.symm h7, h8, Ne.symm h8, h9, Ne.symm h9, eq_comm]
theorem cut_one {α : Type} (x : α) (xs : List α) : cut (x :: xs) (some 1) none = xs := by
  unfold cut
  have h5 := HT.sIx_nat (x :: xs).length 0 1
  rw [HT.sIx_none, show (some (1 : Int)) = some ((1 : Nat) : Int) from rfl, h5]
  simp
theorem atI_zero {α : Type} (x : α) (xs : List α) : atI (x :: xs) 0 = some x := by
  unfold atI ixN
  simp
/-- what the program calls a tree, a test -/
def isTree : Nat → Bool → D → Bool
  | L + 1, t, .tup (.str x :: inner) =>
    if x = "pass" ∨ x = "drop" then inner.isEmpty
    else if x = "mark" then !t && inner.isEmpty
    else if x = "is" then (match inner with | [f, n] => isField f && isCnt n | _ => false)
    else if x = "set" then !t && (match inner with | [f, n] => isField f && isCnt n | _ => false)
    else if x = "take" then !t && (match inner with | [f, g] => isField f && isField g && !D.eqv f g | _ => false)
    else if x = "row" ∨ x = "choice" then decide (2 ≤ inner.length) && inner.all (isTree L t)
    else if x = "loop" then !t && (match inner with | [y] => isTree L false y | _ => false)
    else if x = "not" then (match inner with | [y] => isTree L true y | _ => false)
    else false
  | _, _, _ => false
def V_is_tree_of (L : Nat) : WF := fun ds n k => ∃ (x : D) (l : Nat) (t : Bool), ds = [x, .int l, .bl t] ∧ l ≤ L ∧ Nice x ∧ x.wt ≤ sizeLine ∧ k (.bl (isTree l t x)) n
def V_are_trees (L : Nat) : WF := fun ds n k => ∃ (xs : List D) (l : Nat) (t : Bool), ds = [.tup xs, .int l, .bl t] ∧ l ≤ L ∧ (∀ x ∈ xs, Nice x ∧ x.wt ≤ sizeLine) ∧ xs.length ≤ sizeLine ∧ k (.bl (xs.all (isTree l t))) n
def W_is_tree_of : WF := V_is_tree_of 12
def W_are_trees : WF := V_are_trees 12
theorem g_is_tree_of (L : Nat) : Good (V_is_tree_of L) 3 := ⟨fun ds n k k' h ⟨x, l, t, e, a, b, c, q⟩ => ⟨x, l, t, e, a, b, c, h _ _ q⟩, fun ds n k ⟨x, l, t, e, _⟩ => by rw [e]; rfl⟩
theorem g_are_trees (L : Nat) : Good (V_are_trees L) 3 := ⟨fun ds n k k' h ⟨x, l, t, e, a, b, c, q⟩ => ⟨x, l, t, e, a, b, c, h _ _ q⟩, fun ds n k ⟨x, l, t, e, _⟩ => by rw [e]; rfl⟩
abbrev n_are_trees : List Str := ["things", "levels", "is_test_alone", "thing"]
def m_are_trees (W_is_tree_of : WF) : MS := (mRet (mCB (allW fun bs => bs.all id) (mCons (mLc 3 (mIter (mVar 0)) mYes (mCall W_is_tree_of (mCons (mVar 3) (mCons (mVar 1) (mCons (mVar 2) mNil))))) mNil)))
theorem r_are_trees : ∀ (L : Nat) ds n kk, V_are_trees L ds n kk → m_are_trees (V_is_tree_of L) (startE n_are_trees.length ds n) { nx := fun e => kk .non e.cr, rt := fun d e => kk d e.cr } := by
  rintro L ds n kk ⟨xs, l, t, rfl, h1, h2, h3, h4⟩
  have hb : boolsOf (xs.map fun d => D.bl (isTree l t d)) = some (xs.map (isTree l t)) := by simpa [Function.comp_def] using bools_map (xs.map (isTree l t))
  have e : (xs.map (isTree l t)).all id = xs.all (isTree l t) := by simp [List.all_map, Function.comp_def]
  simp [m_are_trees, mLc, mIter, mRet, mSeq, mNext, mIfS, mSet, mPar, mDrop, mAndV, mOrV, mNotV, mAnd, mOr, mNot, mB, mIf, mCB, mCons, mNil, mVar, mC, mBin, mUn, mTup, mLst, mCall, mCallK, mChain, isiW, startE, DEnv.at, DEnv.put, D.isa, tyN, sixNames, isNum, isCnt, okD, ordW, intW, sizeLine, tyNames, lenW, mNever]
  refine compW_pure (f := fun d => D.bl (isTree l t d)) _ _ _ (fun d hd k' q => ?_) (by simpa using h3) ?_
  · have := h2 d hd
    simp [compE, noOw, mRet, mSeq, mNext, mIfS, mSet, mPar, mDrop, mAndV, mOrV, mNotV, mAnd, mOr, mNot, mB, mIf, mCB, mCons, mNil, mVar, mC, mBin, mUn, mTup, mLst, mCall, mCallK, mChain, isiW, startE, DEnv.at, DEnv.put, D.isa, tyN, sixNames, isNum, isCnt, okD, ordW, intW, sizeLine, tyNames, lenW, mNever] at q ⊢
    exact ⟨d, l, t, rfl, h1, this.1, this.2, q⟩
  · simp only [allW, hb, List.nil_append, compE]
    rw [e]
    exact h4
abbrev n_is_tree_of : List Str := ["thing", "levels", "is_test_alone", "word", "inner"]
def m_is_tree_of (W_are_trees : WF) : MS := (mSeq (mIfS (mOr (mB (mBin eqX (mVar 1) (mC (.int 0)))) (mOr (mNot (mB (mCB isiW (mCons (mVar 0) (mCons (mC (.ty "tuple")) mNil))))) (mOr (mB (mBin eqX (mCB lenW (mCons (mVar 0) mNil)) (mC (.int 0)))) (mNot (mB (mCB isiW (mCons (mBin ixW (mVar 0) (mC (.int 0))) (mCons (mC (.ty "str")) mNil)))))))) (mRet (mC (.bl false))) mNext)
  (mSeq (mPar 3 4 (mCons (mBin ixW (mVar 0) (mC (.int 0))) (mCons (mSl slW (mVar 0) (mSome (mC (.int 1))) mNo) mNil)))
  (mSeq (mIfS (mAnd (mB (mVar 2)) (mB (mBin (inW false) (mVar 3) (mC g_ONLY_TREES)))) (mRet (mC (.bl false))) mNext)
  (mSeq (mIfS (mB (mBin (inW false) (mVar 3) (mC g_BARE))) (mRet (mBin eqZ (mVar 4) (mTup mNil))) mNext)
  (mSeq (mIfS (mB (mBin (inW false) (mVar 3) (mC g_WITH_NUMBER))) (mRet (mAndV (mBin eqX (mCB lenW (mCons (mVar 4) mNil)) (mC (.int 2))) (mAndV (mCall W_is_field (mCons (mBin ixW (mVar 4) (mC (.int 0))) mNil)) (mCall W_is_count (mCons (mBin ixW (mVar 4) (mC (.int 1))) mNil))))) mNext)
  (mSeq (mIfS (mB (mBin eqX (mVar 3) (mC (.str "take")))) (mRet (mAndV (mBin eqX (mCB lenW (mCons (mVar 4) mNil)) (mC (.int 2))) (mAndV (mCall W_is_field (mCons (mBin ixW (mVar 4) (mC (.int 0))) mNil)) (mAndV (mCall W_is_field (mCons (mBin ixW (mVar 4) (mC (.int 1))) mNil)) (mBin neX (mBin ixW (mVar 4) (mC (.int 0))) (mBin ixW (mVar 4) (mC (.int 1)))))))) mNext)
  (mSeq (mIfS (mB (mBin (inW false) (mVar 3) (mC g_JOINING))) (mRet (mAndV (mBin geW (mCB lenW (mCons (mVar 4) mNil)) (mC (.int 2))) (mCall W_are_trees (mCons (mVar 4) (mCons (mBin subW (mVar 1) (mC (.int 1))) (mCons (mVar 2) mNil)))))) mNext)
  (mSeq (mIfS (mOr (mB (mBin eqX (mVar 3) (mC (.str "not")))) (mB (mBin eqX (mVar 3) (mC (.str "loop"))))) (mRet (mAndV (mBin eqX (mCB lenW (mCons (mVar 4) mNil)) (mC (.int 1))) (mCall W_are_trees (mCons (mVar 4) (mCons (mBin subW (mVar 1) (mC (.int 1))) (mCons (mOrV (mVar 2) (mBin eqX (mVar 3) (mC (.str "not")))) mNil)))))) mNext)
  (mRet (mC (.bl false)))))))))))
theorem nice_okS {d : D} (h : Nice d) : okS d := by
  refine ⟨nice_okD h, fun x e => ?_⟩
  subst e
  cases h with
  | str h1 h2 => exact ⟨by unfold sizeLine; omega, h1⟩
theorem fieldStr {d : D} (h : isField d = true) : ∃ x, d = .str x := by
  cases d <;> first | exact ⟨_, rfl⟩ | cases h
theorem atI_one {α : Type} (x y : α) (xs : List α) : atI (x :: y :: xs) 1 = some y := by
  unfold atI ixN
  rw [if_pos (by decide), if_pos (by simp; omega)]
  simp
theorem in_flat (x : Str) (l : List Str) : inD (.str x) (l.map D.str) = decide (x ∈ l) := by
  unfold inD
  induction l with
  | nil => simp
  | cons a l ih =>
    rw [List.map_cons, List.any_cons, ih]
    simp only [D.eqF]
    by_cases h : a = x
    · subst h; simp
    · have : ¬ x = a := fun w => h w.symm
      simp [h, this]
theorem r_is_tree_of : ∀ (L : Nat) ds n kk, V_is_tree_of L ds n kk → m_is_tree_of (prev V_are_trees L) (startE n_is_tree_of.length ds n) { nx := fun e => kk .non e.cr, rt := fun d e => kk d e.cr } := by
  rintro L ds n kk ⟨x, l, t, rfl, h1, h2, h3, h4⟩
  have fin : (∀ u inner, x = .tup (.str u :: inner) → l = 0) → kk (.bl false) n := fun h => by
    have e : isTree l t x = false := by
      unfold isTree
      split
      · have := h _ _ rfl; omega
      · rfl
    rw [e] at h4; exact h4
  cases l with
  | zero =>
    refine seq_gen fun N hN => ?_
    simp [eqX, eqv_int, shaped_int, mRet, mSeq, mNext, mIfS, mSet, mPar, mDrop, mAndV, mOrV, mNotV, mAnd, mOr, mNot, mB, mIf, mCB, mCons, mNil, mVar, mC, mBin, mUn, mTup, mLst, mCall, mCallK, mChain, isiW, startE, DEnv.at, DEnv.put, D.isa, tyN, sixNames, isNum, isCnt, okD, ordW, intW, sizeLine, tyNames, lenW, mNever]
    exact fin fun _ _ _ => rfl
  | succ l =>
    obtain ⟨L, rfl⟩ : ∃ M, L = M + 1 := ⟨L - 1, by omega⟩
    have l0 : ¬ ((l : Int) + 1 = 0) := by omega
    cases h2 with
    | @tup ds hd =>
      cases ds with
      | nil =>
        refine seq_gen fun N hN => ?_
        simp [eqX, eqv_int, shaped_int, l0, mRet, mSeq, mNext, mIfS, mSet, mPar, mDrop, mAndV, mOrV, mNotV, mAnd, mOr, mNot, mB, mIf, mCB, mCons, mNil, mVar, mC, mBin, mUn, mTup, mLst, mCall, mCallK, mChain, isiW, startE, DEnv.at, DEnv.put, D.isa, tyN, sixNames, isNum, isCnt, okD, ordW, intW, sizeLine, tyNames, lenW, mNever]
        exact fin fun _ _ e => by cases e
      | cons d inner =>
        have l1 : ¬ ((inner.length : Int) + 1 = 0) := by omega
        by_cases hs : ∃ u, d = .str u
        · obtain ⟨u, rfl⟩ := hs
          refine seq_gen fun N hN => ?_
          simp [eqX, eqv_int, shaped_int, l0, l1, atI_zero, ixW, mRet, mSeq, mNext, mIfS, mSet, mPar, mDrop, mAndV, mOrV, mNotV, mAnd, mOr, mNot, mB, mIf, mCB, mCons, mNil, mVar, mC, mBin, mUn, mTup, mLst, mCall, mCallK, mChain, isiW, startE, DEnv.at, DEnv.put, D.isa, tyN, sixNames, isNum, isCnt, okD, ordW, intW, sizeLine, tyNames, lenW, mNever]
          rw [hN]
          refine seq_gen fun N hN => ?_
          simp [mSl, mSome, mNo, slW, cut_one, atI_zero, ixW, mRet, mSeq, mNext, mIfS, mSet, mPar, mDrop, mAndV, mOrV, mNotV, mAnd, mOr, mNot, mB, mIf, mCB, mCons, mNil, mVar, mC, mBin, mUn, mTup, mLst, mCall, mCallK, mChain, isiW, startE, DEnv.at, DEnv.put, D.isa, tyN, sixNames, isNum, isCnt, okD, ordW, intW, sizeLine, tyNames, lenW, mNever]
          rw [hN]
          have hin : ∀ d ∈ inner, Nice d ∧ d.wt ≤ sizeLine := fun d hd' => ⟨hd d (List.mem_cons_of_mem _ hd'), by
            have := wtA_mem (List.mem_cons_of_mem (D.str u) hd')
            simp only [D.wt] at h3
            omega⟩
          have hlen : inner.length ≤ sizeLine := by
            have := wtA_len (D.str u :: inner)
            simp only [D.wt, List.length_cons] at h3 this
            omega
          have rec1 : ∀ (t : Bool) k, k (.bl (inner.all (isTree l t))) n → prev V_are_trees (L + 1) [.tup inner, .int ((l : Int) + 1 - 1), .bl t] n k := fun t k q => by
            refine ⟨inner, l, t, ?_, by omega, hin, hlen, q⟩
            have : ((l : Int) + 1 - 1) = l := by omega
            rw [this]
          have rec2 : ∀ (t : Bool) k, k (.bl (inner.all (isTree l t))) n → prev V_are_trees (L + 1) [.tup inner, .int (l : Int), .bl t] n k := fun t k q => ⟨inner, l, t, rfl, by omega, hin, hlen, q⟩
          clear hN
          rcases words_or u with rfl | rfl | rfl | rfl | rfl | rfl | rfl | rfl | rfl | rfl | hu
          · cases t <;> simp [isTree, g_ONLY_TREES, g_BARE, g_WITH_NUMBER, g_JOINING, inW, inD, D.eqF, D.flat, wx, eqX, eqZ, twoStr, eqv_str, eqv_int, shaped_int, mRet, mSeq, mNext, mIfS, mSet, mPar, mDrop, mAndV, mOrV, mNotV, mAnd, mOr, mNot, mB, mIf, mCB, mCons, mNil, mVar, mC, mBin, mUn, mTup, mLst, mCall, mCallK, mChain, isiW, startE, DEnv.at, DEnv.put, D.isa, tyN, sixNames, isNum, isCnt, okD, ordW, intW, sizeLine, tyNames, lenW, mNever] at h4 ⊢ <;> exact h4
          · cases t <;> simp [isTree, g_ONLY_TREES, g_BARE, g_WITH_NUMBER, g_JOINING, inW, inD, D.eqF, D.flat, wx, eqX, eqZ, twoStr, eqv_str, eqv_int, shaped_int, mRet, mSeq, mNext, mIfS, mSet, mPar, mDrop, mAndV, mOrV, mNotV, mAnd, mOr, mNot, mB, mIf, mCB, mCons, mNil, mVar, mC, mBin, mUn, mTup, mLst, mCall, mCallK, mChain, isiW, startE, DEnv.at, DEnv.put, D.isa, tyN, sixNames, isNum, isCnt, okD, ordW, intW, sizeLine, tyNames, lenW, mNever] at h4 ⊢ <;> exact h4
          · cases t <;> simp [isTree, g_ONLY_TREES, g_BARE, g_WITH_NUMBER, g_JOINING, inW, inD, D.eqF, D.flat, wx, eqX, eqZ, twoStr, eqv_str, eqv_int, shaped_int, mRet, mSeq, mNext, mIfS, mSet, mPar, mDrop, mAndV, mOrV, mNotV, mAnd, mOr, mNot, mB, mIf, mCB, mCons, mNil, mVar, mC, mBin, mUn, mTup, mLst, mCall, mCallK, mChain, isiW, startE, DEnv.at, DEnv.put, D.isa, tyN, sixNames, isNum, isCnt, okD, ordW, intW, sizeLine, tyNames, lenW, mNever] at h4 ⊢ <;> exact h4
          · rcases inner with _ | ⟨f, _ | ⟨g, _ | ⟨c, r⟩⟩⟩
            · cases t <;> simp [isTree, g_ONLY_TREES, g_BARE, g_WITH_NUMBER, g_JOINING, inW, inD, D.eqF, D.flat, wx, eqX, eqZ, twoStr, eqv_str, eqv_int, shaped_int, ixW, mRet, mSeq, mNext, mIfS, mSet, mPar, mDrop, mAndV, mOrV, mNotV, mAnd, mOr, mNot, mB, mIf, mCB, mCons, mNil, mVar, mC, mBin, mUn, mTup, mLst, mCall, mCallK, mChain, isiW, startE, DEnv.at, DEnv.put, D.isa, tyN, sixNames, isNum, isCnt, okD, ordW, intW, sizeLine, tyNames, lenW, mNever] at h4 ⊢ <;> exact h4
            · cases t <;> simp [isTree, g_ONLY_TREES, g_BARE, g_WITH_NUMBER, g_JOINING, inW, inD, D.eqF, D.flat, wx, eqX, eqZ, twoStr, eqv_str, eqv_int, shaped_int, ixW, mRet, mSeq, mNext, mIfS, mSet, mPar, mDrop, mAndV, mOrV, mNotV, mAnd, mOr, mNot, mB, mIf, mCB, mCons, mNil, mVar, mC, mBin, mUn, mTup, mLst, mCall, mCallK, mChain, isiW, startE, DEnv.at, DEnv.put, D.isa, tyN, sixNames, isNum, isCnt, okD, ordW, intW, sizeLine, tyNames, lenW, mNever] at h4 ⊢ <;> exact h4
            · have f1 := nice_okS (hin f (by simp)).1
              have g1 := nice_okD (hin g (by simp)).1
              cases t <;> simp [isTree, g_ONLY_TREES, g_BARE, g_WITH_NUMBER, g_JOINING, inW, inD, D.eqF, D.flat, wx, eqX, eqZ, twoStr, eqv_str, eqv_int, shaped_int, ixW, atI_zero, atI_one, W_is_field, W_is_count, fW1, f1, g1, mRet, mSeq, mNext, mIfS, mSet, mPar, mDrop, mAndV, mOrV, mNotV, mAnd, mOr, mNot, mB, mIf, mCB, mCons, mNil, mVar, mC, mBin, mUn, mTup, mLst, mCall, mCallK, mChain, isiW, startE, DEnv.at, DEnv.put, D.isa, tyN, sixNames, isNum, isCnt, okD, ordW, intW, sizeLine, tyNames, lenW, mNever] at h4 ⊢ <;> first | exact h4 | (split <;> rename_i e <;> simp [e] at h4 ⊢ <;> first | exact h4 | exact ⟨g1, h4⟩)
            · have l3 : ¬ ((r.length : Int) + 1 + 1 + 1 = 2) := by omega
              cases t <;> simp [isTree, g_ONLY_TREES, g_BARE, g_WITH_NUMBER, g_JOINING, inW, inD, D.eqF, D.flat, wx, eqX, eqZ, twoStr, eqv_str, eqv_int, shaped_int, ixW, l3, mRet, mSeq, mNext, mIfS, mSet, mPar, mDrop, mAndV, mOrV, mNotV, mAnd, mOr, mNot, mB, mIf, mCB, mCons, mNil, mVar, mC, mBin, mUn, mTup, mLst, mCall, mCallK, mChain, isiW, startE, DEnv.at, DEnv.put, D.isa, tyN, sixNames, isNum, isCnt, okD, ordW, intW, sizeLine, tyNames, lenW, mNever] at h4 ⊢ <;> exact h4
          · rcases inner with _ | ⟨f, _ | ⟨g, _ | ⟨c, r⟩⟩⟩
            · cases t <;> simp [isTree, g_ONLY_TREES, g_BARE, g_WITH_NUMBER, g_JOINING, inW, inD, D.eqF, D.flat, wx, eqX, eqZ, twoStr, eqv_str, eqv_int, shaped_int, ixW, mRet, mSeq, mNext, mIfS, mSet, mPar, mDrop, mAndV, mOrV, mNotV, mAnd, mOr, mNot, mB, mIf, mCB, mCons, mNil, mVar, mC, mBin, mUn, mTup, mLst, mCall, mCallK, mChain, isiW, startE, DEnv.at, DEnv.put, D.isa, tyN, sixNames, isNum, isCnt, okD, ordW, intW, sizeLine, tyNames, lenW, mNever] at h4 ⊢ <;> exact h4
            · cases t <;> simp [isTree, g_ONLY_TREES, g_BARE, g_WITH_NUMBER, g_JOINING, inW, inD, D.eqF, D.flat, wx, eqX, eqZ, twoStr, eqv_str, eqv_int, shaped_int, ixW, mRet, mSeq, mNext, mIfS, mSet, mPar, mDrop, mAndV, mOrV, mNotV, mAnd, mOr, mNot, mB, mIf, mCB, mCons, mNil, mVar, mC, mBin, mUn, mTup, mLst, mCall, mCallK, mChain, isiW, startE, DEnv.at, DEnv.put, D.isa, tyN, sixNames, isNum, isCnt, okD, ordW, intW, sizeLine, tyNames, lenW, mNever] at h4 ⊢ <;> exact h4
            · have f1 := nice_okS (hin f (by simp)).1
              have g1 := nice_okD (hin g (by simp)).1
              cases t <;> simp [isTree, g_ONLY_TREES, g_BARE, g_WITH_NUMBER, g_JOINING, inW, inD, D.eqF, D.flat, wx, eqX, eqZ, twoStr, eqv_str, eqv_int, shaped_int, ixW, atI_zero, atI_one, W_is_field, W_is_count, fW1, f1, g1, mRet, mSeq, mNext, mIfS, mSet, mPar, mDrop, mAndV, mOrV, mNotV, mAnd, mOr, mNot, mB, mIf, mCB, mCons, mNil, mVar, mC, mBin, mUn, mTup, mLst, mCall, mCallK, mChain, isiW, startE, DEnv.at, DEnv.put, D.isa, tyN, sixNames, isNum, isCnt, okD, ordW, intW, sizeLine, tyNames, lenW, mNever] at h4 ⊢ <;> first | exact h4 | (split <;> rename_i e <;> simp [e] at h4 ⊢ <;> first | exact h4 | exact ⟨g1, h4⟩)
            · have l3 : ¬ ((r.length : Int) + 1 + 1 + 1 = 2) := by omega
              cases t <;> simp [isTree, g_ONLY_TREES, g_BARE, g_WITH_NUMBER, g_JOINING, inW, inD, D.eqF, D.flat, wx, eqX, eqZ, twoStr, eqv_str, eqv_int, shaped_int, ixW, l3, mRet, mSeq, mNext, mIfS, mSet, mPar, mDrop, mAndV, mOrV, mNotV, mAnd, mOr, mNot, mB, mIf, mCB, mCons, mNil, mVar, mC, mBin, mUn, mTup, mLst, mCall, mCallK, mChain, isiW, startE, DEnv.at, DEnv.put, D.isa, tyN, sixNames, isNum, isCnt, okD, ordW, intW, sizeLine, tyNames, lenW, mNever] at h4 ⊢ <;> exact h4
          · rcases inner with _ | ⟨f, _ | ⟨g, _ | ⟨c, r⟩⟩⟩
            · cases t <;> simp [isTree, g_ONLY_TREES, g_BARE, g_WITH_NUMBER, g_JOINING, inW, inD, D.eqF, D.flat, wx, eqX, eqZ, twoStr, eqv_str, eqv_int, shaped_int, ixW, mRet, mSeq, mNext, mIfS, mSet, mPar, mDrop, mAndV, mOrV, mNotV, mAnd, mOr, mNot, mB, mIf, mCB, mCons, mNil, mVar, mC, mBin, mUn, mTup, mLst, mCall, mCallK, mChain, isiW, startE, DEnv.at, DEnv.put, D.isa, tyN, sixNames, isNum, isCnt, okD, ordW, intW, sizeLine, tyNames, lenW, mNever] at h4 ⊢ <;> exact h4
            · cases t <;> simp [isTree, g_ONLY_TREES, g_BARE, g_WITH_NUMBER, g_JOINING, inW, inD, D.eqF, D.flat, wx, eqX, eqZ, twoStr, eqv_str, eqv_int, shaped_int, ixW, mRet, mSeq, mNext, mIfS, mSet, mPar, mDrop, mAndV, mOrV, mNotV, mAnd, mOr, mNot, mB, mIf, mCB, mCons, mNil, mVar, mC, mBin, mUn, mTup, mLst, mCall, mCallK, mChain, isiW, startE, DEnv.at, DEnv.put, D.isa, tyN, sixNames, isNum, isCnt, okD, ordW, intW, sizeLine, tyNames, lenW, mNever] at h4 ⊢ <;> exact h4
            · have f1 := nice_okS (hin f (by simp)).1
              have g1 := nice_okS (hin g (by simp)).1
              cases t <;> simp [isTree, g_ONLY_TREES, g_BARE, g_WITH_NUMBER, g_JOINING, inW, inD, D.eqF, D.flat, wx, eqX, eqZ, twoStr, eqv_str, eqv_int, shaped_int, ixW, atI_zero, atI_one, W_is_field, fW1, f1, g1, neX, mRet, mSeq, mNext, mIfS, mSet, mPar, mDrop, mAndV, mOrV, mNotV, mAnd, mOr, mNot, mB, mIf, mCB, mCons, mNil, mVar, mC, mBin, mUn, mTup, mLst, mCall, mCallK, mChain, isiW, startE, DEnv.at, DEnv.put, D.isa, tyN, sixNames, isNum, isCnt, okD, ordW, intW, sizeLine, tyNames, lenW, mNever] at h4 ⊢ <;> first | exact h4 | skip
              split
              · rename_i e1
                split
                · rename_i e2
                  obtain ⟨a, rfl⟩ := fieldStr e1
                  obtain ⟨b, rfl⟩ := fieldStr e2
                  simp [e1, e2, twoStr, eqv_str] at h4 ⊢
                  exact h4
                · rename_i e2
                  simp [e1, e2] at h4 ⊢
                  exact h4
              · rename_i e1
                simp [e1] at h4 ⊢
                exact h4
            · have l3 : ¬ ((r.length : Int) + 1 + 1 + 1 = 2) := by omega
              cases t <;> simp [isTree, g_ONLY_TREES, g_BARE, g_WITH_NUMBER, g_JOINING, inW, inD, D.eqF, D.flat, wx, eqX, eqZ, twoStr, eqv_str, eqv_int, shaped_int, ixW, l3, mRet, mSeq, mNext, mIfS, mSet, mPar, mDrop, mAndV, mOrV, mNotV, mAnd, mOr, mNot, mB, mIf, mCB, mCons, mNil, mVar, mC, mBin, mUn, mTup, mLst, mCall, mCallK, mChain, isiW, startE, DEnv.at, DEnv.put, D.isa, tyN, sixNames, isNum, isCnt, okD, ordW, intW, sizeLine, tyNames, lenW, mNever] at h4 ⊢ <;> exact h4
          · have c2 : (2 ≤ (inner.length : Int)) ↔ 2 ≤ inner.length := by omega
            simp [isTree, g_ONLY_TREES, g_BARE, g_WITH_NUMBER, g_JOINING, inW, inD, D.eqF, D.flat, wx, eqX, eqZ, twoStr, eqv_str, eqv_int, shaped_int, ixW, mRet, mSeq, mNext, mIfS, mSet, mPar, mDrop, mAndV, mOrV, mNotV, mAnd, mOr, mNot, mB, mIf, mCB, mCons, mNil, mVar, mC, mBin, mUn, mTup, mLst, mCall, mCallK, mChain, isiW, startE, DEnv.at, DEnv.put, D.isa, tyN, sixNames, isNum, isCnt, okD, ordW, intW, sizeLine, tyNames, lenW, mNever] at h4 ⊢
            split
            · rename_i e
              refine rec2 t _ ?_
              have e' : 2 ≤ inner.length := by omega
              simpa [e'] using h4
            · rename_i e
              have e' : ¬ 2 ≤ inner.length := by omega
              simpa [e'] using h4
          · have c2 : (2 ≤ (inner.length : Int)) ↔ 2 ≤ inner.length := by omega
            simp [isTree, g_ONLY_TREES, g_BARE, g_WITH_NUMBER, g_JOINING, inW, inD, D.eqF, D.flat, wx, eqX, eqZ, twoStr, eqv_str, eqv_int, shaped_int, ixW, mRet, mSeq, mNext, mIfS, mSet, mPar, mDrop, mAndV, mOrV, mNotV, mAnd, mOr, mNot, mB, mIf, mCB, mCons, mNil, mVar, mC, mBin, mUn, mTup, mLst, mCall, mCallK, mChain, isiW, startE, DEnv.at, DEnv.put, D.isa, tyN, sixNames, isNum, isCnt, okD, ordW, intW, sizeLine, tyNames, lenW, mNever] at h4 ⊢
            split
            · rename_i e
              refine rec2 t _ ?_
              have e' : 2 ≤ inner.length := by omega
              simpa [e'] using h4
            · rename_i e
              have e' : ¬ 2 ≤ inner.length := by omega
              simpa [e'] using h4
          · rcases inner with _ | ⟨f, _ | ⟨c, r⟩⟩
            · cases t <;> simp [isTree, g_ONLY_TREES, g_BARE, g_WITH_NUMBER, g_JOINING, inW, inD, D.eqF, D.flat, wx, eqX, eqZ, twoStr, eqv_str, eqv_int, shaped_int, ixW, mRet, mSeq, mNext, mIfS, mSet, mPar, mDrop, mAndV, mOrV, mNotV, mAnd, mOr, mNot, mB, mIf, mCB, mCons, mNil, mVar, mC, mBin, mUn, mTup, mLst, mCall, mCallK, mChain, isiW, startE, DEnv.at, DEnv.put, D.isa, tyN, sixNames, isNum, isCnt, okD, ordW, intW, sizeLine, tyNames, lenW, mNever] at h4 ⊢ <;> exact h4
            · cases t <;> simp [isTree, g_ONLY_TREES, g_BARE, g_WITH_NUMBER, g_JOINING, inW, inD, D.eqF, D.flat, wx, eqX, eqZ, twoStr, eqv_str, eqv_int, shaped_int, ixW, mRet, mSeq, mNext, mIfS, mSet, mPar, mDrop, mAndV, mOrV, mNotV, mAnd, mOr, mNot, mB, mIf, mCB, mCons, mNil, mVar, mC, mBin, mUn, mTup, mLst, mCall, mCallK, mChain, isiW, startE, DEnv.at, DEnv.put, D.isa, tyN, sixNames, isNum, isCnt, okD, ordW, intW, sizeLine, tyNames, lenW, mNever] at h4 ⊢ <;> first | exact h4 | exact rec2 _ _ (by simpa [show (("loop" : Str) == "not") = false from by decide +kernel] using h4)
            · have l3 : ¬ ((r.length : Int) + 1 + 1 = 1) := by omega
              cases t <;> simp [isTree, g_ONLY_TREES, g_BARE, g_WITH_NUMBER, g_JOINING, inW, inD, D.eqF, D.flat, wx, eqX, eqZ, twoStr, eqv_str, eqv_int, shaped_int, ixW, l3, mRet, mSeq, mNext, mIfS, mSet, mPar, mDrop, mAndV, mOrV, mNotV, mAnd, mOr, mNot, mB, mIf, mCB, mCons, mNil, mVar, mC, mBin, mUn, mTup, mLst, mCall, mCallK, mChain, isiW, startE, DEnv.at, DEnv.put, D.isa, tyN, sixNames, isNum, isCnt, okD, ordW, intW, sizeLine, tyNames, lenW, mNever] at h4 ⊢ <;> exact h4
          · rcases inner with _ | ⟨f, _ | ⟨c, r⟩⟩
            · cases t <;> simp [isTree, g_ONLY_TREES, g_BARE, g_WITH_NUMBER, g_JOINING, inW, inD, D.eqF, D.flat, wx, eqX, eqZ, twoStr, eqv_str, eqv_int, shaped_int, ixW, mRet, mSeq, mNext, mIfS, mSet, mPar, mDrop, mAndV, mOrV, mNotV, mAnd, mOr, mNot, mB, mIf, mCB, mCons, mNil, mVar, mC, mBin, mUn, mTup, mLst, mCall, mCallK, mChain, isiW, startE, DEnv.at, DEnv.put, D.isa, tyN, sixNames, isNum, isCnt, okD, ordW, intW, sizeLine, tyNames, lenW, mNever] at h4 ⊢ <;> exact h4
            · cases t <;> simp [isTree, g_ONLY_TREES, g_BARE, g_WITH_NUMBER, g_JOINING, inW, inD, D.eqF, D.flat, wx, eqX, eqZ, twoStr, eqv_str, eqv_int, shaped_int, ixW, mRet, mSeq, mNext, mIfS, mSet, mPar, mDrop, mAndV, mOrV, mNotV, mAnd, mOr, mNot, mB, mIf, mCB, mCons, mNil, mVar, mC, mBin, mUn, mTup, mLst, mCall, mCallK, mChain, isiW, startE, DEnv.at, DEnv.put, D.isa, tyN, sixNames, isNum, isCnt, okD, ordW, intW, sizeLine, tyNames, lenW, mNever] at h4 ⊢ <;> first | exact h4 | exact rec2 _ _ (by simpa [show (("loop" : Str) == "not") = false from by decide +kernel] using h4)
            · have l3 : ¬ ((r.length : Int) + 1 + 1 = 1) := by omega
              cases t <;> simp [isTree, g_ONLY_TREES, g_BARE, g_WITH_NUMBER, g_JOINING, inW, inD, D.eqF, D.flat, wx, eqX, eqZ, twoStr, eqv_str, eqv_int, shaped_int, ixW, l3, mRet, mSeq, mNext, mIfS, mSet, mPar, mDrop, mAndV, mOrV, mNotV, mAnd, mOr, mNot, mB, mIf, mCB, mCons, mNil, mVar, mC, mBin, mUn, mTup, mLst, mCall, mCallK, mChain, isiW, startE, DEnv.at, DEnv.put, D.isa, tyN, sixNames, isNum, isCnt, okD, ordW, intW, sizeLine, tyNames, lenW, mNever] at h4 ⊢ <;> exact h4
          · cases t <;> simp [isTree, g_ONLY_TREES, g_BARE, g_WITH_NUMBER, g_JOINING, inW, inD, D.eqF, D.flat, hu, eqX, eqZ, twoStr, eqv_str, eqv_int, shaped_int, ixW, mRet, mSeq, mNext, mIfS, mSet, mPar, mDrop, mAndV, mOrV, mNotV, mAnd, mOr, mNot, mB, mIf, mCB, mCons, mNil, mVar, mC, mBin, mUn, mTup, mLst, mCall, mCallK, mChain, isiW, startE, DEnv.at, DEnv.put, D.isa, tyN, sixNames, isNum, isCnt, okD, ordW, intW, sizeLine, tyNames, lenW, mNever] at h4 ⊢ <;> exact h4
        · refine seq_gen fun N hN => ?_
          have hi : d.isa "str" = false := by
            cases d <;> first | rfl | exact absurd ⟨_, rfl⟩ hs
          have ho := nice_okD (hd d List.mem_cons_self)
          unfold okD at ho
          simp [eqX, eqv_int, shaped_int, l0, l1, atI_zero, ixW, hi, ho, mRet, mSeq, mNext, mIfS, mSet, mPar, mDrop, mAndV, mOrV, mNotV, mAnd, mOr, mNot, mB, mIf, mCB, mCons, mNil, mVar, mC, mBin, mUn, mTup, mLst, mCall, mCallK, mChain, isiW, startE, DEnv.at, DEnv.put, sixNames, isNum, isCnt, okD, ordW, intW, sizeLine, tyNames, lenW, mNever]
          exact ⟨rfl, fin fun u i e => by cases e; exact absurd ⟨_, rfl⟩ hs⟩
    | _ =>
      refine seq_gen fun N hN => ?_
      simp [eqX, eqv_int, shaped_int, l0, mRet, mSeq, mNext, mIfS, mSet, mPar, mDrop, mAndV, mOrV, mNotV, mAnd, mOr, mNot, mB, mIf, mCB, mCons, mNil, mVar, mC, mBin, mUn, mTup, mLst, mCall, mCallK, mChain, isiW, startE, DEnv.at, DEnv.put, D.isa, tyN, sixNames, isNum, isCnt, okD, ordW, intW, sizeLine, tyNames, lenW, mNever]
      exact fin fun _ _ e => by cases e
def niceD (x : D) : Prop := Nice x ∧ x.wt ≤ sizeLine
def W_is_tree : WF := fW1 niceD fun x => .bl (isTree 12 false x)
def W_is_test : WF := fW1 niceD fun x => .bl (isTree 12 true x)
theorem w_is_tree : Good W_is_tree 1 := fW1_good
theorem w_is_test : Good W_is_test 1 := fW1_good
abbrev n_is_tree : List Str := ["thing"]
def m_is_tree : MS := (mRet (mCall W_is_tree_of (mCons (mVar 0) (mCons (mC g_MOST_LEVELS) (mCons (mC (.bl false)) mNil)))))
theorem r_is_tree : ∀ ds n kk, W_is_tree ds n kk → m_is_tree (startE n_is_tree.length ds n) { nx := fun e => kk .non e.cr, rt := fun d e => kk d e.cr } := by
  rintro ds n kk ⟨a, rfl, h1, h2⟩
  simp [m_is_tree, g_MOST_LEVELS, mRet, mSeq, mNext, mIfS, mSet, mPar, mDrop, mAndV, mOrV, mNotV, mAnd, mOr, mNot, mB, mIf, mCB, mCons, mNil, mVar, mC, mBin, mUn, mTup, mLst, mCall, mCallK, mChain, isiW, startE, DEnv.at, DEnv.put, D.isa, tyN, sixNames, isNum, isCnt, okD, ordW, intW, sizeLine, tyNames, lenW, mNever]
  exact ⟨a, 12, false, rfl, by omega, h1.1, h1.2, h2⟩
abbrev n_is_test : List Str := ["thing"]
def m_is_test : MS := (mRet (mCall W_is_tree_of (mCons (mVar 0) (mCons (mC g_MOST_LEVELS) (mCons (mC (.bl true)) mNil)))))
theorem r_is_test : ∀ ds n kk, W_is_test ds n kk → m_is_test (startE n_is_test.length ds n) { nx := fun e => kk .non e.cr, rt := fun d e => kk d e.cr } := by
  rintro ds n kk ⟨a, rfl, h1, h2⟩
  simp [m_is_test, g_MOST_LEVELS, mRet, mSeq, mNext, mIfS, mSet, mPar, mDrop, mAndV, mOrV, mNotV, mAnd, mOr, mNot, mB, mIf, mCB, mCons, mNil, mVar, mC, mBin, mUn, mTup, mLst, mCall, mCallK, mChain, isiW, startE, DEnv.at, DEnv.put, D.isa, tyN, sixNames, isNum, isCnt, okD, ordW, intW, sizeLine, tyNames, lenW, mNever]
  exact ⟨a, 12, true, rfl, by omega, h1.1, h1.2, h2⟩
/-! ### drawn trees -/
/-- a tree of these fields and numbers, a test alone if told, at most so deep, with rows and choices of two or three -/
inductive TI (fs : List Str) (ns : List Int) : Bool → Nat → Tr → Prop
  | pass {b n} : TI fs ns b n .pass
  | drop {b n} : TI fs ns b n .drop
  | mark {n} : TI fs ns false n .mark
  | is {b n f m} : f ∈ fs → m ∈ ns → TI fs ns b n (.is f m)
  | set {n f m} : f ∈ fs → m ∈ ns → TI fs ns false n (.set f m)
  | take {n f g} : f ∈ fs → g ∈ fs → f ≠ g → TI fs ns false n (.take f g)
  | row {b n ts} : 2 ≤ ts.length → ts.length ≤ 3 → (∀ t ∈ ts, TI fs ns b n t) → TI fs ns b (n + 1) (.row ts)
  | choice {b n ts} : 2 ≤ ts.length → ts.length ≤ 3 → (∀ t ∈ ts, TI fs ns b n t) → TI fs ns b (n + 1) (.choice ts)
  | loop {n t} : TI fs ns false n t → TI fs ns false (n + 1) (.loop t)
  | nt {b n t} : TI fs ns true n t → TI fs ns b (n + 1) (.nt t)
theorem TI.up {fs : List Str} {ns : List Int} {b : Bool} {n : Nat} {t : Tr} (h : TI fs ns b n t) : ∀ {c : Bool} {m : Nat}, (b = false → c = false) → n ≤ m → TI fs ns c m t := by
  induction h with
  | pass => intros; exact .pass
  | drop => intros; exact .drop
  | mark => intro c m hc hm; cases hc rfl; exact .mark
  | is h1 h2 => intros; exact .is h1 h2
  | set h1 h2 => intro c m hc hm; cases hc rfl; exact .set h1 h2
  | take h1 h2 h3 => intro c m hc hm; cases hc rfl; exact .take h1 h2 h3
  | row h1 h2 h3 ih =>
    intro c m hc hm
    obtain ⟨m, rfl⟩ : ∃ k, m = k + 1 := ⟨m - 1, by omega⟩
    exact .row h1 h2 fun t ht => ih t ht hc (by omega)
  | choice h1 h2 h3 ih =>
    intro c m hc hm
    obtain ⟨m, rfl⟩ : ∃ k, m = k + 1 := ⟨m - 1, by omega⟩
    exact .choice h1 h2 fun t ht => ih t ht hc (by omega)
  | loop h ih =>
    intro c m hc hm
    obtain ⟨m, rfl⟩ : ∃ k, m = k + 1 := ⟨m - 1, by omega⟩
    cases hc rfl
    exact .loop (ih (fun h => h) (by omega))
  | nt h ih =>
    intro c m hc hm
    obtain ⟨m, rfl⟩ : ∃ k, m = k + 1 := ⟨m - 1, by omega⟩
    exact .nt (ih (fun h => h) (by omega))
/-- a frame of these fields and numbers -/
def isFr (x : D) (fs : List Str) (ns : List Int) : Prop := (x = .frm (.tup (fs.map D.str)) (.lst (ns.map D.int)) ∨ x = .fra (.tup (fs.map D.str)) (.lst (ns.map D.int))) ∧ fs ≠ [] ∧ ns ≠ [] ∧ fs.length ≤ 20 ∧ ns.length ≤ 20 ∧ (∀ f ∈ fs, f ∈ frameL) ∧ fs.Nodup
theorem fr_fields {x : D} {fs : List Str} {ns : List Int} (h : isFr x fs ns) {k : KD} (q : k (.tup (fs.map D.str))) : dgW x (.str "fields") k := by
  rcases h.1 with rfl | rfl <;> simpa [dgW, keyD] using q
theorem fr_numbers {x : D} {fs : List Str} {ns : List Int} (h : isFr x fs ns) {k : KD} (q : k (.lst (ns.map D.int))) : dgW x (.str "numbers") k := by
  have e : ¬ (("numbers" : Str) = "fields") := by decide +kernel
  rcases h.1 with rfl | rfl <;> simpa [dgW, keyD, e] using q
def cT (d : Nat) : Nat := 6 * 4 ^ d
def V__law_test (L : Nat) : WF := fun ds n k => ∃ fr fs ns, ∃ d : Nat, ds = [.sta, fr, .int d] ∧ isFr fr fs ns ∧ d ≤ L ∧ cT d ≤ n ∧ ∀ t n', TI fs ns true d t → n ≤ n' + cT d → k t.d n'
def W__law_test : WF := V__law_test 5
theorem g__law_test (L : Nat) : Good (V__law_test L) 3 := ⟨fun ds n k k' h ⟨a, b, c, d, e, f, g, i, q⟩ => ⟨a, b, c, d, e, f, g, i, fun t n' x y => h _ _ (q t n' x y)⟩, fun ds n k ⟨a, b, c, d, e, _⟩ => by rw [e]; rfl⟩
theorem pick_lst {es : List D} {n : Nat} {k : D → Nat → Prop} (h1 : es ≠ []) (h2 : es.length ≤ 1000) (h3 : 1 ≤ n) (h : ∀ d ∈ es, k d (n - 1)) : W__law_pick [.sta, .lst es] n k := ⟨_, es, rfl, rfl, h1, h2, h3, h⟩
theorem pick_tup {es : List D} {n : Nat} {k : D → Nat → Prop} (h1 : es ≠ []) (h2 : es.length ≤ 1000) (h3 : 1 ≤ n) (h : ∀ d ∈ es, k d (n - 1)) : W__law_pick [.sta, .tup es] n k := ⟨_, es, rfl, rfl, h1, h2, h3, h⟩
theorem trees_of {P : Tr → Prop} : ∀ {ys : List D}, (∀ y ∈ ys, ∃ t : Tr, y = t.d ∧ P t) → ∃ ts : List Tr, ys = Tr.ds ts ∧ ts.length = ys.length ∧ ∀ t ∈ ts, P t
  | [], _ => ⟨[], rfl, rfl, fun _ h => nomatch h⟩
  | y :: ys, h => by
    obtain ⟨ts, rfl, e, h1⟩ := trees_of (ys := ys) fun z hz => h z (List.mem_cons_of_mem _ hz)
    obtain ⟨t, rfl, ht⟩ := h y List.mem_cons_self
    refine ⟨t :: ts, rfl, by simp [e], fun u hu => ?_⟩
    rcases List.mem_cons.mp hu with rfl | hu
    · exact ht
    · exact h1 u hu
theorem rangeD_len (j : Int) : (rangeD j).length = j.toNat := by simp [rangeD]
theorem ds_len (ts : List Tr) : (Tr.ds ts).length = ts.length := by rw [Tr.ds_eq]; simp
abbrev n__law_test : List Str := ["state", "frame", "deep", "sort", "many", "portions", "turn"]
def m__law_test (W__law_test : WF) : MS := (mSeq (mSet 3 (mCall W__law_take (mCons (mVar 0) (mCons (mC (.int 12)) mNil))))
  (mSeq (mIfS (mB (mBin eqX (mVar 3) (mC (.int 0)))) (mRet (mCall W__law_pick (mCons (mVar 0) (mCons (mLst (mCons (mTup (mCons (mC (.str "pass")) mNil)) (mCons (mTup (mCons (mC (.str "drop")) mNil)) mNil))) mNil)))) mNext)
  (mSeq (mIfS (mOr (mB (mBin eqX (mVar 2) (mC (.int 0)))) (mB (mBin ltW (mVar 3) (mC (.int 7))))) (mRet (mTup (mCons (mC (.str "is")) (mCons (mCall W__law_pick (mCons (mVar 0) (mCons (mBin dgW (mVar 1) (mC (.str "fields"))) mNil))) (mCons (mCall W__law_pick (mCons (mVar 0) (mCons (mBin dgW (mVar 1) (mC (.str "numbers"))) mNil))) mNil))))) mNext)
  (mSeq (mIfS (mOr (mB (mBin eqX (mVar 3) (mC (.int 7)))) (mB (mBin eqX (mVar 3) (mC (.int 8))))) (mRet (mTup (mCons (mC (.str "not")) (mCons (mCall W__law_test (mCons (mVar 0) (mCons (mVar 1) (mCons (mBin subW (mVar 2) (mC (.int 1))) mNil)))) mNil)))) mNext)
  (mSeq (mSet 4 (mBin addW (mC (.int 2)) (mCB int1W (mCons (mBin eqX (mCall W__law_take (mCons (mVar 0) (mCons (mC (.int 3)) mNil))) (mC (.int 0))) mNil))))
  (mSeq (mSet 5 (mLc 6 (mRange (mCons (mVar 4) mNil)) mYes (mCall W__law_test (mCons (mVar 0) (mCons (mVar 1) (mCons (mBin subW (mVar 2) (mC (.int 1))) mNil))))))
  (mRet (mBin addW (mTup (mCons (mCall W__law_pick (mCons (mVar 0) (mCons (mLst (mCons (mC (.str "row")) (mCons (mC (.str "choice")) mNil))) mNil))) mNil)) (mCB tupleW (mCons (mVar 5) mNil))))))))))
theorem r__law_test : ∀ (L : Nat) ds n kk, V__law_test L ds n kk → m__law_test (prev V__law_test L) (startE n__law_test.length ds n) { nx := fun e => kk .non e.cr, rt := fun d e => kk d e.cr } := by
  rintro L ds n kk ⟨fr, fs, ns, d, rfl, hf, h1, h2, h3⟩
  have c1 : 6 ≤ cT d := by unfold cT; have := Nat.one_le_pow d 4 (by decide); omega
  refine seq_gen fun N hN => ?_
  simp [W__law_take, mRet, mSeq, mNext, mIfS, mSet, mPar, mDrop, mAndV, mOrV, mNotV, mAnd, mOr, mNot, mB, mIf, mCB, mCons, mNil, mVar, mC, mBin, mUn, mTup, mLst, mCall, mCallK, mChain, isiW, startE, DEnv.at, DEnv.put, D.isa, tyN, sixNames, isNum, isCnt, okD, ordW, intW, sizeLine, tyNames, lenW, mNever]
  refine ⟨by omega, fun i i0 i1 => ?_⟩
  rw [hN]; clear hN
  refine seq_gen fun N hN => ?_
  simp [eqX, eqv_int, shaped_int, mRet, mSeq, mNext, mIfS, mSet, mPar, mDrop, mAndV, mOrV, mNotV, mAnd, mOr, mNot, mB, mIf, mCB, mCons, mNil, mVar, mC, mBin, mUn, mTup, mLst, mCall, mCallK, mChain, isiW, startE, DEnv.at, DEnv.put, D.isa, tyN, sixNames, isNum, isCnt, okD, ordW, intW, sizeLine, tyNames, lenW, mNever]
  split
  · refine pick_lst (by simp) (by simp) (by omega) fun x hx => ?_
    simp at hx
    rcases hx with rfl | rfl
    · exact h3 .pass _ .pass (by omega)
    · exact h3 .drop _ .drop (by omega)
  rw [hN]; clear hN
  refine seq_gen fun N hN => ?_
  simp [eqX, eqv_int, shaped_int, mRet, mSeq, mNext, mIfS, mSet, mPar, mDrop, mAndV, mOrV, mNotV, mAnd, mOr, mNot, mB, mIf, mCB, mCons, mNil, mVar, mC, mBin, mUn, mTup, mLst, mCall, mCallK, mChain, isiW, startE, DEnv.at, DEnv.put, D.isa, tyN, sixNames, isNum, isCnt, okD, ordW, intW, sizeLine, tyNames, lenW, mNever]
  have leaf : dgW fr (D.str "fields") fun d => W__law_pick [D.sta, d] (n - 1) fun d cr => dgW fr (D.str "numbers") fun d_1 => W__law_pick [D.sta, d_1] cr fun d_2 cr => kk (D.tup [D.str "is", d, d_2]) cr := by
    refine fr_fields hf (pick_tup (by simpa using hf.2.1) (by simp; have := hf.2.2.2.1; omega) (by omega) fun x hx => ?_)
    obtain ⟨f, hff, rfl⟩ := List.mem_map.mp hx
    refine fr_numbers hf (pick_lst (by simpa using hf.2.2.1) (by simp; have := hf.2.2.2.2.1; omega) (by omega) fun y hy => ?_)
    obtain ⟨m, hm, rfl⟩ := List.mem_map.mp hy
    exact h3 (.is f m) _ (.is hff hm) (by omega)
  split
  · exact leaf
  rename_i d0
  split
  · exact leaf
  clear leaf
  obtain ⟨d, rfl⟩ : ∃ e, d = e + 1 := ⟨d - 1, by omega⟩
  obtain ⟨L, rfl⟩ : ∃ e, L = e + 1 := ⟨L - 1, by omega⟩
  have c2 : cT (d + 1) = 4 * cT d := by unfold cT; rw [Nat.pow_succ]; omega
  have c3 : 6 ≤ cT d := by unfold cT; have := Nat.one_le_pow d 4 (by decide); omega
  have rec1 : ∀ m (k : D → Nat → Prop), cT d ≤ m → (∀ t n', TI fs ns true d t → m ≤ n' + cT d → k t.d n') → prev V__law_test (L + 1) [.sta, fr, .int ((d : Int))] m k := fun m k hm q => ⟨fr, fs, ns, d, rfl, hf, by omega, hm, q⟩
  have dd : ((d + 1 : Nat) : Int) - 1 = (d : Int) := by omega
  rw [hN]; clear hN
  refine seq_gen fun N hN => ?_
  simp [eqX, eqv_int, shaped_int, dd, mRet, mSeq, mNext, mIfS, mSet, mPar, mDrop, mAndV, mOrV, mNotV, mAnd, mOr, mNot, mB, mIf, mCB, mCons, mNil, mVar, mC, mBin, mUn, mTup, mLst, mCall, mCallK, mChain, isiW, startE, DEnv.at, DEnv.put, D.isa, tyN, sixNames, isNum, isCnt, okD, ordW, intW, sizeLine, tyNames, lenW, mNever]
  have nt : prev V__law_test (L + 1) [.sta, fr, .int (d : Int)] (n - 1) fun d cr => kk (D.tup [D.str "not", d]) cr :=
    rec1 _ _ (by omega) fun t n' ht hn => h3 (.nt t) n' (.nt ht) (by omega)
  split
  · exact nt
  split
  · exact nt
  clear nt
  rw [hN]; clear hN
  refine seq_gen fun N hN => ?_
  simp [W__law_take, addW, int1W, eqX, eqv_int, shaped_int, mRet, mSeq, mNext, mIfS, mSet, mPar, mDrop, mAndV, mOrV, mNotV, mAnd, mOr, mNot, mB, mIf, mCB, mCons, mNil, mVar, mC, mBin, mUn, mTup, mLst, mCall, mCallK, mChain, isiW, startE, DEnv.at, DEnv.put, D.isa, tyN, sixNames, isNum, isCnt, okD, ordW, intW, sizeLine, tyNames, lenW, mNever]
  refine ⟨by omega, fun j j0 j1 => ?_⟩
  rw [hN]; clear hN
  refine seq_gen fun N hN => ?_
  simp [mLc, mRange, mRet, mSeq, mNext, mIfS, mSet, mPar, mDrop, mAndV, mOrV, mNotV, mAnd, mOr, mNot, mB, mIf, mCB, mCons, mNil, mVar, mC, mBin, mUn, mTup, mLst, mCall, mCallK, mChain, isiW, startE, DEnv.at, DEnv.put, D.isa, tyN, sixNames, isNum, isCnt, okD, ordW, intW, sizeLine, tyNames, lenW, mNever]
  obtain ⟨q, hq, q2, q3⟩ : ∃ q : Int, (2 + if j = 0 then 1 else 0) = q ∧ 2 ≤ q ∧ q ≤ 3 := ⟨_, rfl, by split <;> omega, by split <;> omega⟩
  rw [hq]
  refine ⟨⟨by omega, by omega⟩, ?_⟩
  have ql : (rangeD q).length = q.toNat := rangeD_len q
  have qc : cT d * (rangeD q).length ≤ 3 * cT d := by rw [ql, Nat.mul_comm]; exact Nat.mul_le_mul_right _ (by omega)
  refine compW_draw (c := cT d) (R := fun _ y => ∃ t : Tr, y = t.d ∧ TI fs ns true d t) _ _ _ (fun x hx m k' hm q => ?_) (by rw [ql]; unfold sizeLine; simp; omega) (by simp only [compE]; omega) fun ys n' e1 e2 e3 => ?_
  · simp [compE, noOw, dd, mRet, mSeq, mNext, mIfS, mSet, mPar, mDrop, mAndV, mOrV, mNotV, mAnd, mOr, mNot, mB, mIf, mCB, mCons, mNil, mVar, mC, mBin, mUn, mTup, mLst, mCall, mCallK, mChain, isiW, startE, DEnv.at, DEnv.put, D.isa, tyN, sixNames, isNum, isCnt, okD, ordW, intW, sizeLine, tyNames, lenW, mNever]
    refine rec1 _ _ hm fun t n' ht hn => ?_
    exact q t.d n' ⟨t, rfl, ht⟩ hn _
  · obtain ⟨ts, rfl, e4, e5⟩ := trees_of (P := TI fs ns true d) fun y hy => (e2 y hy).elim fun _ h => h.2
    simp only [compE] at e3
    rw [hN]
    have l1 : 1 + ts.length ≤ sizeLine := by unfold sizeLine; omega
    have l2 : 1 + ts.length ≤ 16777216 := l1
    simp [addW, tupleW, ds_len, l2, mRet, mSeq, mNext, mIfS, mSet, mPar, mDrop, mAndV, mOrV, mNotV, mAnd, mOr, mNot, mB, mIf, mCB, mCons, mNil, mVar, mC, mBin, mUn, mTup, mLst, mCall, mCallK, mChain, isiW, startE, DEnv.at, DEnv.put, D.isa, tyN, sixNames, isNum, isCnt, okD, ordW, intW, sizeLine, tyNames, lenW, mNever]
    refine pick_lst (by simp) (by simp) (by omega) fun x hx => ?_
    simp at hx
    rcases hx with rfl | rfl
    · exact h3 (.row ts) _ (.row (by omega) (by omega) e5) (by omega)
    · exact h3 (.choice ts) _ (.choice (by omega) (by omega) e5) (by omega)
end Fn
namespace Fn
open PySem L2 PySem.Spec PyProof.Rows DL
/-! ### drawn trees with counted marks -/
mutual
def Tr.mk : Tr → Nat
  | .mark => 1
  | .row ts => Tr.mks ts
  | .choice ts => Tr.mks ts
  | .loop t => t.mk
  | .nt t => t.mk
  | _ => 0
def Tr.mks : List Tr → Nat
  | [] => 0
  | t :: ts => t.mk + Tr.mks ts
end
theorem TI.nomark {fs : List Str} {ns : List Int} {b : Bool} {n : Nat} {t : Tr} (h : TI fs ns b n t) (hb : b = true) : t.mk = 0 := by
  induction h with
  | pass => rfl
  | drop => rfl
  | mark => cases hb
  | is h1 h2 => rfl
  | set h1 h2 => cases hb
  | take h1 h2 h3 => cases hb
  | row h1 h2 h3 ih =>
    have : ∀ l : List Tr, (∀ t ∈ l, t.mk = 0) → Tr.mks l = 0 := fun l => by
      induction l with
      | nil => intro _; rfl
      | cons a l ih => intro h; simp [Tr.mks, h a List.mem_cons_self, ih fun t ht => h t (List.mem_cons_of_mem _ ht)]
    exact this _ fun t ht => ih t ht hb
  | choice h1 h2 h3 ih =>
    have : ∀ l : List Tr, (∀ t ∈ l, t.mk = 0) → Tr.mks l = 0 := fun l => by
      induction l with
      | nil => intro _; rfl
      | cons a l ih => intro h; simp [Tr.mks, h a List.mem_cons_self, ih fun t ht => h t (List.mem_cons_of_mem _ ht)]
    exact this _ fun t ht => ih t ht hb
  | loop h ih => cases hb
  | nt h ih => exact ih rfl
theorem compW_trees {i c : Nat} {me : ME} {P : Tr → Prop} : ∀ (ds : List D) (env : DEnv) (acc : List D) (m : Int) {k : List D → DEnv → Prop}, env.mr = some m → 0 ≤ m →
    (∀ d ∈ ds, ∀ (n : Nat) (m : Int) (k' : D → DEnv → Prop), c ≤ n → 0 ≤ m → (∀ (t : Tr) n', P t → (t.mk : Int) ≤ m → n ≤ n' + c → ∀ sl, k' t.d { sl := sl, cr := n', mr := some (m - t.mk) }) → me (DEnv.put { env with cr := n, mr := some m } i (.da d)) k') →
    acc.length + ds.length ≤ sizeLine → c * ds.length ≤ env.cr → (∀ ts n', ts.length = ds.length → (∀ t ∈ ts, P t) → (Tr.mks ts : Int) ≤ m → env.cr ≤ n' + c * ds.length → k (acc ++ Tr.ds ts) { env with cr := n', mr := some (m - Tr.mks ts) }) → compW i mYes me ds env acc k
  | [], env, acc, m, k, em, m0, _, _, _, q => by
    have := q [] env.cr rfl (fun _ h => nomatch h) (by simpa [Tr.mks] using m0) (by simp)
    simpa [compW, Tr.ds, Tr.mks, ← em] using this
  | d :: ds, env, acc, m, k, em, m0, h, hl, hc, q => by
    unfold compW
    simp only [List.length_cons] at hl hc
    have hm : c * (ds.length + 1) = c * ds.length + c := Nat.mul_succ _ _
    show me (env.put i (.da d)) _
    have e1 : env.put i (.da d) = DEnv.put { env with cr := env.cr, mr := some m } i (.da d) := by rw [← em]
    rw [e1]
    refine h d List.mem_cons_self env.cr m _ (by omega) m0 fun t n' pt hm1 hn sl => ⟨by omega, ?_⟩
    refine compW_trees ds { env with cr := n', mr := some (m - t.mk) } (acc ++ [t.d]) (m - t.mk) rfl (by omega) (fun x hx => h x (List.mem_cons_of_mem _ hx)) (by simp; omega) (by show c * ds.length ≤ n'; omega) fun ts n2 e1 e2 e3 e4 => ?_
    have e4' : n' ≤ n2 + c * ds.length := e4
    have := q (t :: ts) n2 (by simp [e1]) (fun u hu => ?_) (by simp only [Tr.mks]; omega) (by rw [List.length_cons, hm]; omega)
    · have e5 : m - (t.mk : Int) - (Tr.mks ts : Int) = m - (Tr.mks (t :: ts) : Int) := by simp only [Tr.mks]; omega
      rw [← e5] at this
      simpa [Tr.ds] using this
    · rcases List.mem_cons.mp hu with rfl | hu
      · exact pt
      · exact e2 u hu
def isFrA (x : D) (fs : List Str) (ns : List Int) : Prop := isFr x fs ns ∧ ∃ f n, x = .fra f n
def W__law_leaf : WFm := fun ds n m k => ∃ fr fs ns, ds = [.sta, fr] ∧ isFrA fr fs ns ∧ 0 ≤ m ∧ 30 ≤ n ∧ ∀ t n', TI fs ns false 0 t → (t.mk : Int) ≤ m → n ≤ n' + 30 → k t.d n' (m - t.mk)
theorem w__law_leaf : GoodM W__law_leaf 2 := ⟨fun ds n q k k' h ⟨a, b, c, e, f, g, i, w⟩ => ⟨a, b, c, e, f, g, i, fun t n' x y z => h _ _ _ (w t n' x y z)⟩, fun ds n q k ⟨a, b, c, e, _⟩ => by rw [e]; rfl⟩
theorem frameL_ok {y : Str} (h : y ∈ frameL) : PyData.strOk y = true := field_ok (frame_fields y h)
abbrev n__law_leaf : List Str := ["state", "frame", "names", "sort"]
def m__law_leaf : MS := (mSeq (mPar 2 3 (mCons (mBin dgW (mVar 1) (mC (.str "fields"))) (mCons (mCall W__law_take (mCons (mVar 0) (mCons (mC (.int 10)) mNil))) mNil)))
  (mSeq (mIfS (mAnd (mB (mBin ltW (mVar 3) (mC (.int 2)))) (mB (mBin gtW (mMarks (mVar 1)) (mC (.int 0))))) (mSeq (mMput (mVar 1) (mBin subW (mMarks (mVar 1)) (mC (.int 1))))
  (mRet (mTup (mCons (mC (.str "mark")) mNil)))) mNext)
  (mSeq (mIfS (mB (mBin ltW (mVar 3) (mC (.int 5)))) (mRet (mCall W__law_test (mCons (mVar 0) (mCons (mVar 1) (mCons (mC (.int 0)) mNil))))) mNext)
  (mSeq (mIfS (mAnd (mB (mBin ltW (mVar 3) (mC (.int 7)))) (mB (mBin gtW (mCB lenW (mCons (mVar 2) mNil)) (mC (.int 1))))) (mSeq (mSet 2 (mCall W__law_shuffled (mCons (mVar 0) (mCons (mVar 2) mNil))))
  (mRet (mTup (mCons (mC (.str "take")) (mCons (mBin ixW (mVar 2) (mC (.int 0))) (mCons (mBin ixW (mVar 2) (mC (.int 1))) mNil)))))) mNext)
  (mRet (mTup (mCons (mC (.str "set")) (mCons (mCall W__law_pick (mCons (mVar 0) (mCons (mVar 2) mNil))) (mCons (mCall W__law_pick (mCons (mVar 0) (mCons (mBin dgW (mVar 1) (mC (.str "numbers"))) mNil))) mNil)))))))))
theorem r__law_leaf : ∀ ds n q kk, W__law_leaf ds n q kk → m__law_leaf { startE n__law_leaf.length ds n with mr := some q } { nx := fun e => ∃ m, e.mr = some m ∧ kk .non e.cr m, rt := fun d e => ∃ m, e.mr = some m ∧ kk d e.cr m } := by
  rintro ds n q kk ⟨fr, fs, ns, rfl, ⟨hf, ha⟩, q0, h2, h3⟩
  refine seq_gen fun N hN => ?_
  simp [W__law_take, mRet, mSeq, mNext, mIfS, mSet, mPar, mDrop, mAndV, mOrV, mNotV, mAnd, mOr, mNot, mB, mIf, mCB, mCons, mNil, mVar, mC, mBin, mUn, mTup, mLst, mCall, mCallK, mChain, isiW, startE, DEnv.at, DEnv.put, D.isa, tyN, sixNames, isNum, isCnt, okD, ordW, intW, sizeLine, tyNames, lenW, mNever]
  refine fr_fields hf ?_
  refine ⟨by omega, fun i i0 i1 => ?_⟩
  rw [hN]; clear hN
  refine seq_gen fun N hN => ?_
  simp [mMarks, mMput, mAnd, ha, mRet, mSeq, mNext, mIfS, mSet, mPar, mDrop, mAndV, mOrV, mNotV, mAnd, mOr, mNot, mB, mIf, mCB, mCons, mNil, mVar, mC, mBin, mUn, mTup, mLst, mCall, mCallK, mChain, isiW, startE, DEnv.at, DEnv.put, D.isa, tyN, sixNames, isNum, isCnt, okD, ordW, intW, sizeLine, tyNames, lenW, mNever]
  have rest : N { sl := [Sl.da D.sta, Sl.da fr, Sl.da (D.tup (fs.map D.str)), Sl.da (D.int i)], cr := n - 1, mr := some q } := by
    rw [hN]; clear hN
    refine seq_gen fun N hN => ?_
    simp [mRet, mSeq, mNext, mIfS, mSet, mPar, mDrop, mAndV, mOrV, mNotV, mAnd, mOr, mNot, mB, mIf, mCB, mCons, mNil, mVar, mC, mBin, mUn, mTup, mLst, mCall, mCallK, mChain, isiW, startE, DEnv.at, DEnv.put, D.isa, tyN, sixNames, isNum, isCnt, okD, ordW, intW, sizeLine, tyNames, lenW, mNever]
    split
    · refine ⟨fr, fs, ns, 0, rfl, hf, by omega, by unfold cT; simp; omega, fun t n' ht hn => ?_⟩
      have e0 := ht.nomark rfl
      have := h3 t n' (ht.up (by simp) (Nat.le_refl _)) (by rw [e0]; omega) (by unfold cT at hn; simp at hn; omega)
      rw [e0] at this
      simpa using this
    rw [hN]; clear hN
    refine seq_gen fun N hN => ?_
    simp [mRet, mSeq, mNext, mIfS, mSet, mPar, mDrop, mAndV, mOrV, mNotV, mAnd, mOr, mNot, mB, mIf, mCB, mCons, mNil, mVar, mC, mBin, mUn, mTup, mLst, mCall, mCallK, mChain, isiW, startE, DEnv.at, DEnv.put, D.isa, tyN, sixNames, isNum, isCnt, okD, ordW, intW, sizeLine, tyNames, lenW, mNever]
    have setl : N { sl := [Sl.da D.sta, Sl.da fr, Sl.da (D.tup (fs.map D.str)), Sl.da (D.int i)], cr := n - 1, mr := some q } := by
      rw [hN]
      simp [mRet, mSeq, mNext, mIfS, mSet, mPar, mDrop, mAndV, mOrV, mNotV, mAnd, mOr, mNot, mB, mIf, mCB, mCons, mNil, mVar, mC, mBin, mUn, mTup, mLst, mCall, mCallK, mChain, isiW, startE, DEnv.at, DEnv.put, D.isa, tyN, sixNames, isNum, isCnt, okD, ordW, intW, sizeLine, tyNames, lenW, mNever]
      refine pick_tup (by simpa using hf.2.1) (by simp; have := hf.2.2.2.1; omega) (by omega) fun x hx => ?_
      obtain ⟨f, hff, rfl⟩ := List.mem_map.mp hx
      refine fr_numbers hf (pick_lst (by simpa using hf.2.2.1) (by simp; have := hf.2.2.2.2.1; omega) (by omega) fun y hy => ?_)
      obtain ⟨m, hm, rfl⟩ := List.mem_map.mp hy
      simpa [Tr.mk, Tr.d] using h3 (.set f m) _ (.set hff hm) (by simpa [Tr.mk] using q0) (by omega)
    split
    · split
      · rename_i l1
        have fl := hf.2.2.2.1
        refine ⟨_, fs.map D.str, rfl, .inr rfl, ?_, by simp; omega, by simp; omega, fun es' p => ?_⟩
        · refine List.all_eq_true.mpr fun d hd => ?_
          obtain ⟨y, hy, rfl⟩ := List.mem_map.mp hd
          exact plain_of_lay (lay_str (frameL_ok (hf.2.2.2.2.2.1 y hy))) (by decide)
        obtain ⟨l, rfl, pl⟩ := perm_map p
        have nl : l.Nodup := pl.nodup_iff.mpr hf.2.2.2.2.2.2
        have ll := pl.length_eq
        match l, pl, nl, ll with
        | a :: b :: r, pl, nl, ll =>
          have hab : a ≠ b := fun e => by subst e; simp at nl
          simp [ixW, atI_zero, atI_one, mRet, mSeq, mNext, mIfS, mSet, mPar, mDrop, mAndV, mOrV, mNotV, mAnd, mOr, mNot, mB, mIf, mCB, mCons, mNil, mVar, mC, mBin, mUn, mTup, mLst, mCall, mCallK, mChain, isiW, startE, DEnv.at, DEnv.put, D.isa, tyN, sixNames, isNum, isCnt, okD, ordW, intW, sizeLine, tyNames, lenW, mNever]
          simpa [Tr.mk, Tr.d] using h3 (.take a b) _ (.take (pl.mem_iff.mp (by simp)) (pl.mem_iff.mp (by simp)) hab) (by simpa [Tr.mk] using q0) (by omega)
        | [a], pl, nl, ll => simp at ll; omega
        | [], pl, nl, ll => simp at ll; omega
      · exact setl
    · exact setl
  split
  · split
    · rename_i q1
      refine ⟨by omega, ?_⟩
      have := h3 .mark (n - 1) .mark (by simp [Tr.mk]; omega) (by omega)
      simpa [Tr.mk, Tr.d] using this
    · exact rest
  · exact rest
def cR (d : Nat) : Nat := 100 * 4 ^ d
def V__law_tree (L : Nat) : WFm := fun ds n m k => ∃ fr fs ns, ∃ d : Nat, ds = [.sta, fr, .int d] ∧ isFrA fr fs ns ∧ d ≤ L ∧ 0 ≤ m ∧ cR d ≤ n ∧ ∀ t n', TI fs ns false (d + 2) t → (t.mk : Int) ≤ m → n ≤ n' + cR d → k t.d n' (m - t.mk)
def W__law_tree : WFm := V__law_tree 5
theorem g__law_tree (L : Nat) : GoodM (V__law_tree L) 3 := ⟨fun ds n q k k' h ⟨a, b, c, d, e, f, g, i, j, w⟩ => ⟨a, b, c, d, e, f, g, i, j, fun t n' x y z => h _ _ _ (w t n' x y z)⟩, fun ds n q k ⟨a, b, c, d, e, _⟩ => by rw [e]; rfl⟩
abbrev n__law_tree : List Str := ["state", "frame", "deep", "sort", "many", "portions", "turn"]
def m__law_tree (W__law_tree : WFm) : MS := (mSeq (mSet 3 (mCall W__law_take (mCons (mVar 0) (mCons (mC (.int 12)) mNil))))
  (mSeq (mIfS (mOr (mB (mBin eqX (mVar 2) (mC (.int 0)))) (mB (mBin eqX (mVar 3) (mC (.int 0))))) (mRet (mCallM W__law_leaf (mCons (mVar 0) (mCons (mVar 1) mNil)))) mNext)
  (mSeq (mIfS (mB (mBin eqX (mVar 3) (mC (.int 1)))) (mRet (mCall W__law_test (mCons (mVar 0) (mCons (mVar 1) (mCons (mC (.int 2)) mNil))))) mNext)
  (mSeq (mIfS (mB (mBin ltW (mVar 3) (mC (.int 4)))) (mRet (mTup (mCons (mC (.str "loop")) (mCons (mCallM W__law_tree (mCons (mVar 0) (mCons (mVar 1) (mCons (mBin subW (mVar 2) (mC (.int 1))) mNil)))) mNil)))) mNext)
  (mSeq (mSet 4 (mBin addW (mC (.int 2)) (mCB int1W (mCons (mBin eqX (mCall W__law_take (mCons (mVar 0) (mCons (mC (.int 3)) mNil))) (mC (.int 0))) mNil))))
  (mSeq (mSet 5 (mLc 6 (mRange (mCons (mVar 4) mNil)) mYes (mCallM W__law_tree (mCons (mVar 0) (mCons (mVar 1) (mCons (mBin subW (mVar 2) (mC (.int 1))) mNil))))))
  (mRet (mBin addW (mTup (mCons (mIf (mB (mBin ltW (mVar 3) (mC (.int 8)))) (mC (.str "row")) (mC (.str "choice"))) mNil)) (mCB tupleW (mCons (mVar 5) mNil))))))))))
theorem r__law_tree : ∀ (L : Nat) ds n q kk, V__law_tree L ds n q kk → m__law_tree (prevM V__law_tree L) { startE n__law_tree.length ds n with mr := some q } { nx := fun e => ∃ m, e.mr = some m ∧ kk .non e.cr m, rt := fun d e => ∃ m, e.mr = some m ∧ kk d e.cr m } := by
  rintro L ds n q kk ⟨fr, fs, ns, d, rfl, hfa, h1, q0, h2, h3⟩
  have hf := hfa.1
  have c1 : 100 ≤ cR d := by unfold cR; have := Nat.one_le_pow d 4 (by decide); omega
  refine seq_gen fun N hN => ?_
  simp [W__law_take, mRet, mSeq, mNext, mIfS, mSet, mPar, mDrop, mAndV, mOrV, mNotV, mAnd, mOr, mNot, mB, mIf, mCB, mCons, mNil, mVar, mC, mBin, mUn, mTup, mLst, mCall, mCallK, mChain, isiW, startE, DEnv.at, DEnv.put, D.isa, tyN, sixNames, isNum, isCnt, okD, ordW, intW, sizeLine, tyNames, lenW, mNever]
  refine ⟨by omega, fun i i0 i1 => ?_⟩
  rw [hN]; clear hN
  refine seq_gen fun N hN => ?_
  simp [eqX, eqv_int, shaped_int, mCallM, mRet, mSeq, mNext, mIfS, mSet, mPar, mDrop, mAndV, mOrV, mNotV, mAnd, mOr, mNot, mB, mIf, mCB, mCons, mNil, mVar, mC, mBin, mUn, mTup, mLst, mCall, mCallK, mChain, isiW, startE, DEnv.at, DEnv.put, D.isa, tyN, sixNames, isNum, isCnt, okD, ordW, intW, sizeLine, tyNames, lenW, mNever]
  have leaf : W__law_leaf [D.sta, fr] (n - 1) q fun d cr m' => kk d cr m' := ⟨fr, fs, ns, rfl, hfa, q0, by omega, fun t n' ht hm hn => h3 t n' (ht.up (fun h => h) (by omega)) hm (by omega)⟩
  split
  · exact leaf
  rename_i d0
  split
  · exact leaf
  clear leaf
  obtain ⟨d, rfl⟩ : ∃ e, d = e + 1 := ⟨d - 1, by omega⟩
  obtain ⟨L, rfl⟩ : ∃ e, L = e + 1 := ⟨L - 1, by omega⟩
  have c2 : cR (d + 1) = 4 * cR d := by unfold cR; rw [Nat.pow_succ]; omega
  have c3 : 100 ≤ cR d := by unfold cR; have := Nat.one_le_pow d 4 (by decide); omega
  have rec1 : ∀ n m (k : D → Nat → Int → Prop), cR d ≤ n → 0 ≤ m → (∀ (t : Tr) n', TI fs ns false (d + 2) t → (t.mk : Int) ≤ m → n ≤ n' + cR d → k t.d n' (m - t.mk)) → prevM V__law_tree (L + 1) [.sta, fr, .int ((d : Int))] n m k := fun n m k hn hm q => ⟨fr, fs, ns, d, rfl, hfa, by omega, hm, hn, q⟩
  have dd : ((d + 1 : Nat) : Int) - 1 = (d : Int) := by omega
  rw [hN]; clear hN
  refine seq_gen fun N hN => ?_
  simp [eqX, eqv_int, shaped_int, mRet, mSeq, mNext, mIfS, mSet, mPar, mDrop, mAndV, mOrV, mNotV, mAnd, mOr, mNot, mB, mIf, mCB, mCons, mNil, mVar, mC, mBin, mUn, mTup, mLst, mCall, mCallK, mChain, isiW, startE, DEnv.at, DEnv.put, D.isa, tyN, sixNames, isNum, isCnt, okD, ordW, intW, sizeLine, tyNames, lenW, mNever]
  split
  · refine ⟨fr, fs, ns, 2, rfl, hf, by omega, by unfold cT; simp; omega, fun t n' ht hn => ?_⟩
    have e0 := ht.nomark rfl
    have := h3 t n' (ht.up (by simp) (by omega)) (by rw [e0]; omega) (by unfold cT at hn; simp at hn; omega)
    rw [e0] at this
    simpa using this
  rw [hN]; clear hN
  refine seq_gen fun N hN => ?_
  simp [mCallM, dd, mRet, mSeq, mNext, mIfS, mSet, mPar, mDrop, mAndV, mOrV, mNotV, mAnd, mOr, mNot, mB, mIf, mCB, mCons, mNil, mVar, mC, mBin, mUn, mTup, mLst, mCall, mCallK, mChain, isiW, startE, DEnv.at, DEnv.put, D.isa, tyN, sixNames, isNum, isCnt, okD, ordW, intW, sizeLine, tyNames, lenW, mNever]
  split
  · exact rec1 _ _ _ (by omega) q0 fun t n' ht hm hn => by simpa [Tr.mk, Tr.d] using h3 (.loop t) n' (.loop ht) (by simpa [Tr.mk] using hm) (by omega)
  rw [hN]; clear hN
  refine seq_gen fun N hN => ?_
  simp [W__law_take, addW, int1W, eqX, eqv_int, shaped_int, mRet, mSeq, mNext, mIfS, mSet, mPar, mDrop, mAndV, mOrV, mNotV, mAnd, mOr, mNot, mB, mIf, mCB, mCons, mNil, mVar, mC, mBin, mUn, mTup, mLst, mCall, mCallK, mChain, isiW, startE, DEnv.at, DEnv.put, D.isa, tyN, sixNames, isNum, isCnt, okD, ordW, intW, sizeLine, tyNames, lenW, mNever]
  refine ⟨by omega, fun j j0 j1 => ?_⟩
  rw [hN]; clear hN
  refine seq_gen fun N hN => ?_
  simp [mLc, mRange, mRet, mSeq, mNext, mIfS, mSet, mPar, mDrop, mAndV, mOrV, mNotV, mAnd, mOr, mNot, mB, mIf, mCB, mCons, mNil, mVar, mC, mBin, mUn, mTup, mLst, mCall, mCallK, mChain, isiW, startE, DEnv.at, DEnv.put, D.isa, tyN, sixNames, isNum, isCnt, okD, ordW, intW, sizeLine, tyNames, lenW, mNever]
  obtain ⟨u, hu, u2, u3⟩ : ∃ q : Int, (2 + if j = 0 then 1 else 0) = q ∧ 2 ≤ q ∧ q ≤ 3 := ⟨_, rfl, by split <;> omega, by split <;> omega⟩
  rw [hu]
  refine ⟨⟨by omega, by omega⟩, ?_⟩
  have ql : (rangeD u).length = u.toNat := rangeD_len u
  have qc : cR d * (rangeD u).length ≤ 3 * cR d := by rw [ql, Nat.mul_comm]; exact Nat.mul_le_mul_right _ (by omega)
  refine compW_trees (c := cR d) (P := TI fs ns false (d + 2)) _ _ _ q rfl q0 (fun x hx n m k' hn hm w => ?_) (by rw [ql]; unfold sizeLine; simp; omega) (by simp only [compE]; omega) fun ts n' e1 e2 e3 e4 => ?_
  · simp [compE, noOw, mCallM, dd, mRet, mSeq, mNext, mIfS, mSet, mPar, mDrop, mAndV, mOrV, mNotV, mAnd, mOr, mNot, mB, mIf, mCB, mCons, mNil, mVar, mC, mBin, mUn, mTup, mLst, mCall, mCallK, mChain, isiW, startE, DEnv.at, DEnv.put, D.isa, tyN, sixNames, isNum, isCnt, okD, ordW, intW, sizeLine, tyNames, lenW, mNever]
    exact rec1 _ _ _ hn hm fun t n' ht hm2 hn2 => w t n' ht hm2 hn2 _
  · simp only [compE] at e4
    rw [hN]
    have l1 : 1 + ts.length ≤ sizeLine := by unfold sizeLine; omega
    have l2 : 1 + ts.length ≤ 16777216 := l1
    simp [addW, tupleW, ds_len, l2, mRet, mSeq, mNext, mIfS, mSet, mPar, mDrop, mAndV, mOrV, mNotV, mAnd, mOr, mNot, mB, mIf, mCB, mCons, mNil, mVar, mC, mBin, mUn, mTup, mLst, mCall, mCallK, mChain, isiW, startE, DEnv.at, DEnv.put, D.isa, tyN, sixNames, isNum, isCnt, okD, ordW, intW, sizeLine, tyNames, lenW, mNever]
    split
    · simpa [Tr.mk, Tr.d] using h3 (.row ts) n' (.row (by omega) (by omega) e2) (by simpa [Tr.mk] using e3) (by omega)
    · simpa [Tr.mk, Tr.d] using h3 (.choice ts) n' (.choice (by omega) (by omega) e2) (by simpa [Tr.mk] using e3) (by omega)
mutual
theorem Tr.own : ∀ t : Tr, t.d.own = true
  | .pass => by simp [Tr.d, D.own, D.ownA]
  | .drop => by simp [Tr.d, D.own, D.ownA]
  | .mark => by simp [Tr.d, D.own, D.ownA]
  | .is _ _ => by simp [Tr.d, D.own, D.ownA]
  | .set _ _ => by simp [Tr.d, D.own, D.ownA]
  | .take _ _ => by simp [Tr.d, D.own, D.ownA]
  | .row ts => by simp [Tr.d, D.own, D.ownA, Tr.owns ts]
  | .choice ts => by simp [Tr.d, D.own, D.ownA, Tr.owns ts]
  | .loop t => by simp [Tr.d, D.own, D.ownA, Tr.own t]
  | .nt t => by simp [Tr.d, D.own, D.ownA, Tr.own t]
theorem Tr.owns : ∀ ts : List Tr, D.ownA (Tr.ds ts) = true
  | [] => rfl
  | t :: ts => by simp [Tr.ds, D.ownA, Tr.own t, Tr.owns ts]
end
theorem ownA_map {α : Type} {f : α → D} (h : ∀ a, (f a).own = true) : ∀ l : List α, D.ownA (l.map f) = true
  | [] => rfl
  | a :: l => by simp [D.ownA, h a, ownA_map h l]
def isFrM (x : D) (fs : List Str) (ns : List Int) : Prop := isFr x fs ns ∧ ∃ f n, x = .frm f n
def W__law_marked_tree : WF := fun ds n k => ∃ fr fs ns, ∃ (d : Nat) (m : Int), ds = [.sta, fr, .int d, .int m] ∧ isFrM fr fs ns ∧ d ≤ 5 ∧ 0 ≤ m ∧ cR d ≤ n ∧ ∀ t n', TI fs ns false (d + 2) t → (t.mk : Int) ≤ m → n ≤ n' + cR d → k t.d n'
theorem w__law_marked_tree : Good W__law_marked_tree 4 := ⟨fun ds n k k' h ⟨a, b, c, d, e, f, g, i, j, l, w⟩ => ⟨a, b, c, d, e, f, g, i, j, l, fun t n' x y z => h _ _ (w t n' x y z)⟩, fun ds n k ⟨a, b, c, d, e, f, _⟩ => by rw [f]; rfl⟩
abbrev n__law_marked_tree : List Str := ["state", "frame", "deep", "marks"]
theorem r__law_marked_tree : ∀ ds n kk, W__law_marked_tree ds n kk → mMarked W__law_tree (startE n__law_marked_tree.length ds n) { nx := fun e => kk .non e.cr, rt := fun d e => kk d e.cr } := by
  rintro ds n kk ⟨fr, fs, ns, d, m, rfl, ⟨hf, f, u, rfl⟩, h1, m0, h2, h3⟩
  obtain ⟨rfl, rfl⟩ : f = .tup (fs.map D.str) ∧ u = .lst (ns.map D.int) := by
    rcases hf.1 with e | e
    · cases e; exact ⟨rfl, rfl⟩
    · cases e
  refine ⟨_, _, d, m, rfl, rfl, rfl, rfl, by simpa [D.own] using ownA_map (f := D.str) (fun _ => rfl) fs, by simpa [D.own] using ownA_map (f := D.int) (fun _ => rfl) ns, m0, _, fs, ns, d, rfl, ⟨⟨.inr rfl, hf.2⟩, _, _, rfl⟩, h1, m0, h2, fun t n' ht hm hn => ⟨Tr.own t, h3 t n' ht hm hn⟩⟩
end Fn
namespace Fn
open PySem L2 PySem.Spec PyProof.Rows DL
abbrev W__law_is_word : WF := W_is_field
theorem w__law_is_word : Good W_is_field 1 := fW1_good
abbrev n__law_is_word : List Str := ["thing_here", "sign"]
def m__law_is_word : MS := (mSeq (mIfS (mOr (mNot (mB (mCB isiW (mCons (mVar 0) (mCons (mC (.ty "str")) mNil))))) (mNot (mB (mChain leW leW (mC (.int 1)) (mCB lenW (mCons (mVar 0) mNil)) (mC (.int 6)))))) (mRet (mC (.bl false))) mNext)
  (mSeq (mIfS (mB (mBin (inW false) (mVar 0) (mTup (mCons (mC (.str "pass")) (mCons (mC (.str "drop")) (mCons (mC (.str "mark")) (mCons (mC (.str "not")) mNil))))))) (mRet (mC (.bl false))) mNext)
  (mRet (mBin eqZ (mLc 1 (mIter (mVar 0)) (mNot (mB (mChain leW leW (mC (.str "a")) (mVar 1) (mC (.str "z"))))) (mVar 1)) (mLst mNil)))))
theorem r__law_is_word : ∀ ds n kk, W_is_field ds n kk → m__law_is_word (startE n__law_is_word.length ds n) { nx := fun e => kk .non e.cr, rt := fun d e => kk d e.cr } := r__law_is_field_due
def V__law_is_due (L : Nat) : WF := V_is_tree_of L
def W__law_is_due : WF := V__law_is_due 12
theorem g__law_is_due (L : Nat) : Good (V__law_is_due L) 3 := g_is_tree_of L
theorem filt_all {l : List D} {p : D → Bool} : (l.filter fun d => !p d).isEmpty = l.all p := by
  induction l with
  | nil => rfl
  | cons a l ih => rw [List.filter_cons, List.all_cons]; cases h : p a <;> simp [h, ih]
theorem atI_two {α : Type} (x y u : α) (xs : List α) : atI (x :: y :: u :: xs) 2 = some u := by
  unfold atI ixN
  rw [if_pos (by decide), if_pos (by simp; omega)]
  simp
theorem cnt_due {d : D} (h : okD d) (n : Nat) (k : D → Prop) (q : k (.bl (isCnt d))) : (if d.isa "int" = true then (if d.isa "bool" = true then k (.bl false) else geW d (.int 0) k) else k (.bl false)) := by
  cases d <;> first | (exact absurd h (by decide)) | (simp [D.isa, isCnt, ordW] at q ⊢; try exact q)
abbrev n__law_is_due : List Str := ["matter", "levels", "is_bare", "word", "many", "one"]
def m__law_is_due (W__law_is_due : WF) : MS := (mSeq (mIfS (mOr (mB (mBin eqX (mVar 1) (mC (.int 0)))) (mOr (mNot (mB (mCB isiW (mCons (mVar 0) (mCons (mC (.ty "tuple")) mNil))))) (mOr (mB (mBin eqZ (mVar 0) (mTup mNil))) (mNot (mB (mCB isiW (mCons (mBin ixW (mVar 0) (mC (.int 0))) (mCons (mC (.ty "str")) mNil)))))))) (mRet (mC (.bl false))) mNext)
  (mSeq (mPar 3 4 (mCons (mBin ixW (mVar 0) (mC (.int 0))) (mCons (mBin subW (mCB lenW (mCons (mVar 0) mNil)) (mC (.int 1))) mNil)))
  (mSeq (mIfS (mB (mBin (inW false) (mVar 3) (mTup (mCons (mC (.str "pass")) (mCons (mC (.str "drop")) mNil))))) (mRet (mBin eqX (mVar 4) (mC (.int 0)))) mNext)
  (mSeq (mIfS (mB (mBin eqX (mVar 3) (mC (.str "mark")))) (mRet (mAndV (mBin eqX (mVar 4) (mC (.int 0))) (mNotV (mVar 2)))) mNext)
  (mSeq (mIfS (mB (mBin (inW false) (mVar 3) (mTup (mCons (mC (.str "is")) (mCons (mC (.str "set")) (mCons (mC (.str "take")) mNil)))))) (mSeq (mIfS (mOr (mB (mBin neX (mVar 4) (mC (.int 2)))) (mOr (mAnd (mB (mBin neX (mVar 3) (mC (.str "is")))) (mB (mVar 2))) (mNot (mB (mCall W__law_is_word (mCons (mBin ixW (mVar 0) (mC (.int 1))) mNil)))))) (mRet (mC (.bl false))) mNext)
  (mSeq (mIfS (mB (mBin eqX (mVar 3) (mC (.str "take")))) (mRet (mAndV (mCall W__law_is_word (mCons (mBin ixW (mVar 0) (mC (.int 2))) mNil)) (mBin neX (mBin ixW (mVar 0) (mC (.int 1))) (mBin ixW (mVar 0) (mC (.int 2)))))) mNext)
  (mRet (mAndV (mCB isiW (mCons (mBin ixW (mVar 0) (mC (.int 2))) (mCons (mC (.ty "int")) mNil))) (mAndV (mNotV (mCB isiW (mCons (mBin ixW (mVar 0) (mC (.int 2))) (mCons (mC (.ty "bool")) mNil)))) (mBin geW (mBin ixW (mVar 0) (mC (.int 2))) (mC (.int 0)))))))) mNext)
  (mSeq (mIfS (mB (mBin (inW false) (mVar 3) (mTup (mCons (mC (.str "row")) (mCons (mC (.str "choice")) mNil))))) (mRet (mAndV (mBin geW (mVar 4) (mC (.int 2))) (mBin eqZ (mLc 5 (mIter (mSl slW (mVar 0) (mSome (mC (.int 1))) mNo)) (mNot (mB (mCall W__law_is_due (mCons (mVar 5) (mCons (mBin subW (mVar 1) (mC (.int 1))) (mCons (mVar 2) mNil)))))) (mVar 5)) (mLst mNil)))) mNext)
  (mSeq (mIfS (mB (mBin eqX (mVar 3) (mC (.str "loop")))) (mRet (mAndV (mBin eqX (mVar 4) (mC (.int 1))) (mAndV (mNotV (mVar 2)) (mCall W__law_is_due (mCons (mBin ixW (mVar 0) (mC (.int 1))) (mCons (mBin subW (mVar 1) (mC (.int 1))) (mCons (mC (.bl false)) mNil))))))) mNext)
  (mRet (mAndV (mBin eqX (mVar 3) (mC (.str "not"))) (mAndV (mBin eqX (mVar 4) (mC (.int 1))) (mCall W__law_is_due (mCons (mBin ixW (mVar 0) (mC (.int 1))) (mCons (mBin subW (mVar 1) (mC (.int 1))) (mCons (mC (.bl true)) mNil))))))))))))))
theorem r__law_is_due : ∀ (L : Nat) ds n kk, V__law_is_due L ds n kk → m__law_is_due (prev V__law_is_due L) (startE n__law_is_due.length ds n) { nx := fun e => kk .non e.cr, rt := fun d e => kk d e.cr } := by
  rintro L ds n kk ⟨x, l, t, rfl, h1, h2, h3, h4⟩
  have fin : (∀ u inner, x = .tup (.str u :: inner) → l = 0) → kk (.bl false) n := fun h => by
    have e : isTree l t x = false := by
      unfold isTree
      split
      · have := h _ _ rfl; omega
      · rfl
    rw [e] at h4; exact h4
  cases l with
  | zero =>
    refine seq_gen fun N hN => ?_
    simp [eqX, eqv_int, shaped_int, mRet, mSeq, mNext, mIfS, mSet, mPar, mDrop, mAndV, mOrV, mNotV, mAnd, mOr, mNot, mB, mIf, mCB, mCons, mNil, mVar, mC, mBin, mUn, mTup, mLst, mCall, mCallK, mChain, isiW, startE, DEnv.at, DEnv.put, D.isa, tyN, sixNames, isNum, isCnt, okD, ordW, intW, sizeLine, tyNames, lenW, mNever]
    exact fin fun _ _ _ => rfl
  | succ l =>
    obtain ⟨L, rfl⟩ : ∃ M, L = M + 1 := ⟨L - 1, by omega⟩
    have l0 : ¬ ((l : Int) + 1 = 0) := by omega
    cases h2 with
    | @tup ds hd =>
      cases ds with
      | nil =>
        refine seq_gen fun N hN => ?_
        simp [eqX, eqZ, eqv_int, shaped_int, l0, mRet, mSeq, mNext, mIfS, mSet, mPar, mDrop, mAndV, mOrV, mNotV, mAnd, mOr, mNot, mB, mIf, mCB, mCons, mNil, mVar, mC, mBin, mUn, mTup, mLst, mCall, mCallK, mChain, isiW, startE, DEnv.at, DEnv.put, D.isa, tyN, sixNames, isNum, isCnt, okD, ordW, intW, sizeLine, tyNames, lenW, mNever]
        exact fin fun _ _ e => by cases e
      | cons d inner =>
        by_cases hs : ∃ u, d = .str u
        · obtain ⟨u, rfl⟩ := hs
          refine seq_gen fun N hN => ?_
          simp [eqX, eqZ, eqv_int, shaped_int, l0, atI_zero, ixW, mRet, mSeq, mNext, mIfS, mSet, mPar, mDrop, mAndV, mOrV, mNotV, mAnd, mOr, mNot, mB, mIf, mCB, mCons, mNil, mVar, mC, mBin, mUn, mTup, mLst, mCall, mCallK, mChain, isiW, startE, DEnv.at, DEnv.put, D.isa, tyN, sixNames, isNum, isCnt, okD, ordW, intW, sizeLine, tyNames, lenW, mNever]
          rw [hN]
          refine seq_gen fun N hN => ?_
          simp [mSl, mSome, mNo, slW, cut_one, atI_zero, ixW, mRet, mSeq, mNext, mIfS, mSet, mPar, mDrop, mAndV, mOrV, mNotV, mAnd, mOr, mNot, mB, mIf, mCB, mCons, mNil, mVar, mC, mBin, mUn, mTup, mLst, mCall, mCallK, mChain, isiW, startE, DEnv.at, DEnv.put, D.isa, tyN, sixNames, isNum, isCnt, okD, ordW, intW, sizeLine, tyNames, lenW, mNever]
          rw [hN]
          have hin : ∀ d ∈ inner, Nice d ∧ d.wt ≤ sizeLine := fun d hd' => ⟨hd d (List.mem_cons_of_mem _ hd'), by
            have := wtA_mem (List.mem_cons_of_mem (D.str u) hd')
            simp only [D.wt] at h3
            omega⟩
          have hlen : inner.length ≤ sizeLine := by
            have := wtA_len (D.str u :: inner)
            simp only [D.wt, List.length_cons] at h3 this
            omega
          have rec2 : ∀ (t : Bool) (d : D) k, d ∈ inner → k (.bl (isTree l t d)) n → prev V__law_is_due (L + 1) [d, .int (l : Int), .bl t] n k := fun t d k hd q => ⟨d, l, t, rfl, by omega, (hin d hd).1, (hin d hd).2, q⟩
          clear hN
          rcases words_or u with rfl | rfl | rfl | rfl | rfl | rfl | rfl | rfl | rfl | rfl | hu
          · cases inner <;> cases t <;> simp [isTree, g_ONLY_TREES, g_BARE, g_WITH_NUMBER, g_JOINING, inW, inD, D.eqF, D.flat, wx, eqX, eqZ, neX, twoStr, eqv_str, eqv_int, shaped_int, ixW, atI_one, atI_two, atI_zero, mRet, mSeq, mNext, mIfS, mSet, mPar, mDrop, mAndV, mOrV, mNotV, mAnd, mOr, mNot, mB, mIf, mCB, mCons, mNil, mVar, mC, mBin, mUn, mTup, mLst, mCall, mCallK, mChain, isiW, startE, DEnv.at, DEnv.put, D.isa, tyN, sixNames, isNum, isCnt, okD, ordW, intW, sizeLine, tyNames, lenW, mNever] at h4 ⊢ <;> first | exact h4 | exact ⟨h4, by omega⟩
          · cases inner <;> cases t <;> simp [isTree, g_ONLY_TREES, g_BARE, g_WITH_NUMBER, g_JOINING, inW, inD, D.eqF, D.flat, wx, eqX, eqZ, neX, twoStr, eqv_str, eqv_int, shaped_int, ixW, atI_one, atI_two, atI_zero, mRet, mSeq, mNext, mIfS, mSet, mPar, mDrop, mAndV, mOrV, mNotV, mAnd, mOr, mNot, mB, mIf, mCB, mCons, mNil, mVar, mC, mBin, mUn, mTup, mLst, mCall, mCallK, mChain, isiW, startE, DEnv.at, DEnv.put, D.isa, tyN, sixNames, isNum, isCnt, okD, ordW, intW, sizeLine, tyNames, lenW, mNever] at h4 ⊢ <;> first | exact h4 | exact ⟨h4, by omega⟩
          · cases inner <;> cases t <;> simp [isTree, g_ONLY_TREES, g_BARE, g_WITH_NUMBER, g_JOINING, inW, inD, D.eqF, D.flat, wx, eqX, eqZ, neX, twoStr, eqv_str, eqv_int, shaped_int, ixW, atI_one, atI_two, atI_zero, mRet, mSeq, mNext, mIfS, mSet, mPar, mDrop, mAndV, mOrV, mNotV, mAnd, mOr, mNot, mB, mIf, mCB, mCons, mNil, mVar, mC, mBin, mUn, mTup, mLst, mCall, mCallK, mChain, isiW, startE, DEnv.at, DEnv.put, D.isa, tyN, sixNames, isNum, isCnt, okD, ordW, intW, sizeLine, tyNames, lenW, mNever] at h4 ⊢ <;> first | exact h4 | exact ⟨h4, by omega⟩
          · rcases inner with _ | ⟨f, _ | ⟨g, _ | ⟨c, r⟩⟩⟩
            · cases t <;> simp [isTree, g_ONLY_TREES, g_BARE, g_WITH_NUMBER, g_JOINING, inW, inD, D.eqF, D.flat, wx, eqX, eqZ, neX, twoStr, eqv_str, eqv_int, shaped_int, ixW, atI_one, atI_two, atI_zero, mRet, mSeq, mNext, mIfS, mSet, mPar, mDrop, mAndV, mOrV, mNotV, mAnd, mOr, mNot, mB, mIf, mCB, mCons, mNil, mVar, mC, mBin, mUn, mTup, mLst, mCall, mCallK, mChain, isiW, startE, DEnv.at, DEnv.put, D.isa, tyN, sixNames, isNum, isCnt, okD, ordW, intW, sizeLine, tyNames, lenW, mNever] at h4 ⊢ <;> exact h4
            · cases t <;> simp [isTree, g_ONLY_TREES, g_BARE, g_WITH_NUMBER, g_JOINING, inW, inD, D.eqF, D.flat, wx, eqX, eqZ, neX, twoStr, eqv_str, eqv_int, shaped_int, ixW, atI_one, atI_two, atI_zero, mRet, mSeq, mNext, mIfS, mSet, mPar, mDrop, mAndV, mOrV, mNotV, mAnd, mOr, mNot, mB, mIf, mCB, mCons, mNil, mVar, mC, mBin, mUn, mTup, mLst, mCall, mCallK, mChain, isiW, startE, DEnv.at, DEnv.put, D.isa, tyN, sixNames, isNum, isCnt, okD, ordW, intW, sizeLine, tyNames, lenW, mNever] at h4 ⊢ <;> exact h4
            · have f1 := nice_okS (hin f (by simp)).1
              have hg := (hin g (by simp)).1
              cases hg <;> cases t <;> simp [isTree, g_ONLY_TREES, g_BARE, g_WITH_NUMBER, g_JOINING, inW, inD, D.eqF, D.flat, wx, eqX, eqZ, neX, twoStr, eqv_str, eqv_int, shaped_int, ixW, atI_one, atI_two, atI_zero, W_is_field, fW1, f1, mRet, mSeq, mNext, mIfS, mSet, mPar, mDrop, mAndV, mOrV, mNotV, mAnd, mOr, mNot, mB, mIf, mCB, mCons, mNil, mVar, mC, mBin, mUn, mTup, mLst, mCall, mCallK, mChain, isiW, startE, DEnv.at, DEnv.put, D.isa, tyN, sixNames, isNum, isCnt, okD, ordW, intW, sizeLine, tyNames, lenW, mNever] at h4 ⊢ <;> first | exact h4 | (split <;> rename_i e <;> simp [e] at h4 ⊢ <;> exact h4)
            · have l3 : ¬ ((r.length : Int) + 1 + 1 + 1 = 2) := by omega
              cases t <;> simp [isTree, g_ONLY_TREES, g_BARE, g_WITH_NUMBER, g_JOINING, inW, inD, D.eqF, D.flat, wx, eqX, eqZ, neX, twoStr, eqv_str, eqv_int, shaped_int, ixW, atI_one, atI_two, atI_zero, l3, mRet, mSeq, mNext, mIfS, mSet, mPar, mDrop, mAndV, mOrV, mNotV, mAnd, mOr, mNot, mB, mIf, mCB, mCons, mNil, mVar, mC, mBin, mUn, mTup, mLst, mCall, mCallK, mChain, isiW, startE, DEnv.at, DEnv.put, D.isa, tyN, sixNames, isNum, isCnt, okD, ordW, intW, sizeLine, tyNames, lenW, mNever] at h4 ⊢ <;> exact h4
          · rcases inner with _ | ⟨f, _ | ⟨g, _ | ⟨c, r⟩⟩⟩
            · cases t <;> simp [isTree, g_ONLY_TREES, g_BARE, g_WITH_NUMBER, g_JOINING, inW, inD, D.eqF, D.flat, wx, eqX, eqZ, neX, twoStr, eqv_str, eqv_int, shaped_int, ixW, atI_one, atI_two, atI_zero, mRet, mSeq, mNext, mIfS, mSet, mPar, mDrop, mAndV, mOrV, mNotV, mAnd, mOr, mNot, mB, mIf, mCB, mCons, mNil, mVar, mC, mBin, mUn, mTup, mLst, mCall, mCallK, mChain, isiW, startE, DEnv.at, DEnv.put, D.isa, tyN, sixNames, isNum, isCnt, okD, ordW, intW, sizeLine, tyNames, lenW, mNever] at h4 ⊢ <;> exact h4
            · cases t <;> simp [isTree, g_ONLY_TREES, g_BARE, g_WITH_NUMBER, g_JOINING, inW, inD, D.eqF, D.flat, wx, eqX, eqZ, neX, twoStr, eqv_str, eqv_int, shaped_int, ixW, atI_one, atI_two, atI_zero, mRet, mSeq, mNext, mIfS, mSet, mPar, mDrop, mAndV, mOrV, mNotV, mAnd, mOr, mNot, mB, mIf, mCB, mCons, mNil, mVar, mC, mBin, mUn, mTup, mLst, mCall, mCallK, mChain, isiW, startE, DEnv.at, DEnv.put, D.isa, tyN, sixNames, isNum, isCnt, okD, ordW, intW, sizeLine, tyNames, lenW, mNever] at h4 ⊢ <;> exact h4
            · have f1 := nice_okS (hin f (by simp)).1
              have hg := (hin g (by simp)).1
              cases hg <;> cases t <;> simp [isTree, g_ONLY_TREES, g_BARE, g_WITH_NUMBER, g_JOINING, inW, inD, D.eqF, D.flat, wx, eqX, eqZ, neX, twoStr, eqv_str, eqv_int, shaped_int, ixW, atI_one, atI_two, atI_zero, W_is_field, fW1, f1, mRet, mSeq, mNext, mIfS, mSet, mPar, mDrop, mAndV, mOrV, mNotV, mAnd, mOr, mNot, mB, mIf, mCB, mCons, mNil, mVar, mC, mBin, mUn, mTup, mLst, mCall, mCallK, mChain, isiW, startE, DEnv.at, DEnv.put, D.isa, tyN, sixNames, isNum, isCnt, okD, ordW, intW, sizeLine, tyNames, lenW, mNever] at h4 ⊢ <;> first | exact h4 | (split <;> rename_i e <;> simp [e] at h4 ⊢ <;> exact h4)
            · have l3 : ¬ ((r.length : Int) + 1 + 1 + 1 = 2) := by omega
              cases t <;> simp [isTree, g_ONLY_TREES, g_BARE, g_WITH_NUMBER, g_JOINING, inW, inD, D.eqF, D.flat, wx, eqX, eqZ, neX, twoStr, eqv_str, eqv_int, shaped_int, ixW, atI_one, atI_two, atI_zero, l3, mRet, mSeq, mNext, mIfS, mSet, mPar, mDrop, mAndV, mOrV, mNotV, mAnd, mOr, mNot, mB, mIf, mCB, mCons, mNil, mVar, mC, mBin, mUn, mTup, mLst, mCall, mCallK, mChain, isiW, startE, DEnv.at, DEnv.put, D.isa, tyN, sixNames, isNum, isCnt, okD, ordW, intW, sizeLine, tyNames, lenW, mNever] at h4 ⊢ <;> exact h4
          · rcases inner with _ | ⟨f, _ | ⟨g, _ | ⟨c, r⟩⟩⟩
            · cases t <;> simp [isTree, g_ONLY_TREES, g_BARE, g_WITH_NUMBER, g_JOINING, inW, inD, D.eqF, D.flat, wx, eqX, eqZ, neX, twoStr, eqv_str, eqv_int, shaped_int, ixW, atI_one, atI_two, atI_zero, mRet, mSeq, mNext, mIfS, mSet, mPar, mDrop, mAndV, mOrV, mNotV, mAnd, mOr, mNot, mB, mIf, mCB, mCons, mNil, mVar, mC, mBin, mUn, mTup, mLst, mCall, mCallK, mChain, isiW, startE, DEnv.at, DEnv.put, D.isa, tyN, sixNames, isNum, isCnt, okD, ordW, intW, sizeLine, tyNames, lenW, mNever] at h4 ⊢ <;> exact h4
            · cases t <;> simp [isTree, g_ONLY_TREES, g_BARE, g_WITH_NUMBER, g_JOINING, inW, inD, D.eqF, D.flat, wx, eqX, eqZ, neX, twoStr, eqv_str, eqv_int, shaped_int, ixW, atI_one, atI_two, atI_zero, mRet, mSeq, mNext, mIfS, mSet, mPar, mDrop, mAndV, mOrV, mNotV, mAnd, mOr, mNot, mB, mIf, mCB, mCons, mNil, mVar, mC, mBin, mUn, mTup, mLst, mCall, mCallK, mChain, isiW, startE, DEnv.at, DEnv.put, D.isa, tyN, sixNames, isNum, isCnt, okD, ordW, intW, sizeLine, tyNames, lenW, mNever] at h4 ⊢ <;> exact h4
            · have f1 := nice_okS (hin f (by simp)).1
              have g1 := nice_okS (hin g (by simp)).1
              cases t <;> simp [isTree, g_ONLY_TREES, g_BARE, g_WITH_NUMBER, g_JOINING, inW, inD, D.eqF, D.flat, wx, eqX, eqZ, neX, twoStr, eqv_str, eqv_int, shaped_int, ixW, atI_one, atI_two, atI_zero, W_is_field, fW1, f1, g1, mRet, mSeq, mNext, mIfS, mSet, mPar, mDrop, mAndV, mOrV, mNotV, mAnd, mOr, mNot, mB, mIf, mCB, mCons, mNil, mVar, mC, mBin, mUn, mTup, mLst, mCall, mCallK, mChain, isiW, startE, DEnv.at, DEnv.put, D.isa, tyN, sixNames, isNum, isCnt, okD, ordW, intW, sizeLine, tyNames, lenW, mNever] at h4 ⊢ <;> first | exact h4 | skip
              by_cases e1 : isField f = true
              · by_cases e2 : isField g = true
                · obtain ⟨a, rfl⟩ := fieldStr e1
                  obtain ⟨b, rfl⟩ := fieldStr e2
                  simp [e1, e2, twoStr, eqv_str] at h4 ⊢
                  exact h4
                · simp [e1, e2] at h4 ⊢
                  exact h4
              · simp [e1] at h4 ⊢
                exact h4
            · have l3 : ¬ ((r.length : Int) + 1 + 1 + 1 = 2) := by omega
              cases t <;> simp [isTree, g_ONLY_TREES, g_BARE, g_WITH_NUMBER, g_JOINING, inW, inD, D.eqF, D.flat, wx, eqX, eqZ, neX, twoStr, eqv_str, eqv_int, shaped_int, ixW, atI_one, atI_two, atI_zero, l3, mRet, mSeq, mNext, mIfS, mSet, mPar, mDrop, mAndV, mOrV, mNotV, mAnd, mOr, mNot, mB, mIf, mCB, mCons, mNil, mVar, mC, mBin, mUn, mTup, mLst, mCall, mCallK, mChain, isiW, startE, DEnv.at, DEnv.put, D.isa, tyN, sixNames, isNum, isCnt, okD, ordW, intW, sizeLine, tyNames, lenW, mNever] at h4 ⊢ <;> exact h4
          · simp [isTree, g_ONLY_TREES, g_BARE, g_WITH_NUMBER, g_JOINING, inW, inD, D.eqF, D.flat, wx, eqX, eqZ, neX, twoStr, eqv_str, eqv_int, shaped_int, ixW, atI_one, atI_two, atI_zero, mLc, mIter, mSl, mSome, mNo, slW, cut_one, mRet, mSeq, mNext, mIfS, mSet, mPar, mDrop, mAndV, mOrV, mNotV, mAnd, mOr, mNot, mB, mIf, mCB, mCons, mNil, mVar, mC, mBin, mUn, mTup, mLst, mCall, mCallK, mChain, isiW, startE, DEnv.at, DEnv.put, D.isa, tyN, sixNames, isNum, isCnt, okD, ordW, intW, sizeLine, tyNames, lenW, mNever] at h4 ⊢
            by_cases e : 2 ≤ inner.length
            · have e' : (2 : Int) ≤ (inner.length : Int) := by omega
              simp [e, e'] at h4 ⊢
              refine compW_filt (g := fun d => !isTree l t d) (f := fun d => d) _ _ _ (fun d hd k' q => ?_) (fun d hd _ k' q => ?_) (by simpa using hlen) ?_
              · simp [compE, noOw, mRet, mSeq, mNext, mIfS, mSet, mPar, mDrop, mAndV, mOrV, mNotV, mAnd, mOr, mNot, mB, mIf, mCB, mCons, mNil, mVar, mC, mBin, mUn, mTup, mLst, mCall, mCallK, mChain, isiW, startE, DEnv.at, DEnv.put, D.isa, tyN, sixNames, isNum, isCnt, okD, ordW, intW, sizeLine, tyNames, lenW, mNever] at q ⊢
                exact rec2 t d _ hd q
              · simp [compE, noOw, mRet, mSeq, mNext, mIfS, mSet, mPar, mDrop, mAndV, mOrV, mNotV, mAnd, mOr, mNot, mB, mIf, mCB, mCons, mNil, mVar, mC, mBin, mUn, mTup, mLst, mCall, mCallK, mChain, isiW, startE, DEnv.at, DEnv.put, D.isa, tyN, sixNames, isNum, isCnt, okD, ordW, intW, sizeLine, tyNames, lenW, mNever] at q ⊢
                exact q
              · simp only [List.nil_append, compE, List.map_id', filt_all]
                exact h4
            · have e' : ¬ (2 : Int) ≤ (inner.length : Int) := by omega
              simp [e, e'] at h4 ⊢
              exact h4
          · simp [isTree, g_ONLY_TREES, g_BARE, g_WITH_NUMBER, g_JOINING, inW, inD, D.eqF, D.flat, wx, eqX, eqZ, neX, twoStr, eqv_str, eqv_int, shaped_int, ixW, atI_one, atI_two, atI_zero, mLc, mIter, mSl, mSome, mNo, slW, cut_one, mRet, mSeq, mNext, mIfS, mSet, mPar, mDrop, mAndV, mOrV, mNotV, mAnd, mOr, mNot, mB, mIf, mCB, mCons, mNil, mVar, mC, mBin, mUn, mTup, mLst, mCall, mCallK, mChain, isiW, startE, DEnv.at, DEnv.put, D.isa, tyN, sixNames, isNum, isCnt, okD, ordW, intW, sizeLine, tyNames, lenW, mNever] at h4 ⊢
            by_cases e : 2 ≤ inner.length
            · have e' : (2 : Int) ≤ (inner.length : Int) := by omega
              simp [e, e'] at h4 ⊢
              refine compW_filt (g := fun d => !isTree l t d) (f := fun d => d) _ _ _ (fun d hd k' q => ?_) (fun d hd _ k' q => ?_) (by simpa using hlen) ?_
              · simp [compE, noOw, mRet, mSeq, mNext, mIfS, mSet, mPar, mDrop, mAndV, mOrV, mNotV, mAnd, mOr, mNot, mB, mIf, mCB, mCons, mNil, mVar, mC, mBin, mUn, mTup, mLst, mCall, mCallK, mChain, isiW, startE, DEnv.at, DEnv.put, D.isa, tyN, sixNames, isNum, isCnt, okD, ordW, intW, sizeLine, tyNames, lenW, mNever] at q ⊢
                exact rec2 t d _ hd q
              · simp [compE, noOw, mRet, mSeq, mNext, mIfS, mSet, mPar, mDrop, mAndV, mOrV, mNotV, mAnd, mOr, mNot, mB, mIf, mCB, mCons, mNil, mVar, mC, mBin, mUn, mTup, mLst, mCall, mCallK, mChain, isiW, startE, DEnv.at, DEnv.put, D.isa, tyN, sixNames, isNum, isCnt, okD, ordW, intW, sizeLine, tyNames, lenW, mNever] at q ⊢
                exact q
              · simp only [List.nil_append, compE, List.map_id', filt_all]
                exact h4
            · have e' : ¬ (2 : Int) ≤ (inner.length : Int) := by omega
              simp [e, e'] at h4 ⊢
              exact h4
          · rcases inner with _ | ⟨f, _ | ⟨c, r⟩⟩
            · cases t <;> simp [isTree, g_ONLY_TREES, g_BARE, g_WITH_NUMBER, g_JOINING, inW, inD, D.eqF, D.flat, wx, eqX, eqZ, neX, twoStr, eqv_str, eqv_int, shaped_int, ixW, atI_one, atI_two, atI_zero, mRet, mSeq, mNext, mIfS, mSet, mPar, mDrop, mAndV, mOrV, mNotV, mAnd, mOr, mNot, mB, mIf, mCB, mCons, mNil, mVar, mC, mBin, mUn, mTup, mLst, mCall, mCallK, mChain, isiW, startE, DEnv.at, DEnv.put, D.isa, tyN, sixNames, isNum, isCnt, okD, ordW, intW, sizeLine, tyNames, lenW, mNever] at h4 ⊢ <;> exact h4
            · cases t <;> simp [isTree, g_ONLY_TREES, g_BARE, g_WITH_NUMBER, g_JOINING, inW, inD, D.eqF, D.flat, wx, eqX, eqZ, neX, twoStr, eqv_str, eqv_int, shaped_int, ixW, atI_one, atI_two, atI_zero, mRet, mSeq, mNext, mIfS, mSet, mPar, mDrop, mAndV, mOrV, mNotV, mAnd, mOr, mNot, mB, mIf, mCB, mCons, mNil, mVar, mC, mBin, mUn, mTup, mLst, mCall, mCallK, mChain, isiW, startE, DEnv.at, DEnv.put, D.isa, tyN, sixNames, isNum, isCnt, okD, ordW, intW, sizeLine, tyNames, lenW, mNever] at h4 ⊢ <;> first | exact h4 | exact rec2 _ _ _ (by simp) h4
            · have l3 : ¬ ((r.length : Int) + 1 + 1 = 1) := by omega
              cases t <;> simp [isTree, g_ONLY_TREES, g_BARE, g_WITH_NUMBER, g_JOINING, inW, inD, D.eqF, D.flat, wx, eqX, eqZ, neX, twoStr, eqv_str, eqv_int, shaped_int, ixW, atI_one, atI_two, atI_zero, l3, mRet, mSeq, mNext, mIfS, mSet, mPar, mDrop, mAndV, mOrV, mNotV, mAnd, mOr, mNot, mB, mIf, mCB, mCons, mNil, mVar, mC, mBin, mUn, mTup, mLst, mCall, mCallK, mChain, isiW, startE, DEnv.at, DEnv.put, D.isa, tyN, sixNames, isNum, isCnt, okD, ordW, intW, sizeLine, tyNames, lenW, mNever] at h4 ⊢ <;> exact h4
          · rcases inner with _ | ⟨f, _ | ⟨c, r⟩⟩
            · cases t <;> simp [isTree, g_ONLY_TREES, g_BARE, g_WITH_NUMBER, g_JOINING, inW, inD, D.eqF, D.flat, wx, eqX, eqZ, neX, twoStr, eqv_str, eqv_int, shaped_int, ixW, atI_one, atI_two, atI_zero, mRet, mSeq, mNext, mIfS, mSet, mPar, mDrop, mAndV, mOrV, mNotV, mAnd, mOr, mNot, mB, mIf, mCB, mCons, mNil, mVar, mC, mBin, mUn, mTup, mLst, mCall, mCallK, mChain, isiW, startE, DEnv.at, DEnv.put, D.isa, tyN, sixNames, isNum, isCnt, okD, ordW, intW, sizeLine, tyNames, lenW, mNever] at h4 ⊢ <;> exact h4
            · cases t <;> simp [isTree, g_ONLY_TREES, g_BARE, g_WITH_NUMBER, g_JOINING, inW, inD, D.eqF, D.flat, wx, eqX, eqZ, neX, twoStr, eqv_str, eqv_int, shaped_int, ixW, atI_one, atI_two, atI_zero, mRet, mSeq, mNext, mIfS, mSet, mPar, mDrop, mAndV, mOrV, mNotV, mAnd, mOr, mNot, mB, mIf, mCB, mCons, mNil, mVar, mC, mBin, mUn, mTup, mLst, mCall, mCallK, mChain, isiW, startE, DEnv.at, DEnv.put, D.isa, tyN, sixNames, isNum, isCnt, okD, ordW, intW, sizeLine, tyNames, lenW, mNever] at h4 ⊢ <;> first | exact h4 | exact rec2 _ _ _ (by simp) h4
            · have l3 : ¬ ((r.length : Int) + 1 + 1 = 1) := by omega
              cases t <;> simp [isTree, g_ONLY_TREES, g_BARE, g_WITH_NUMBER, g_JOINING, inW, inD, D.eqF, D.flat, wx, eqX, eqZ, neX, twoStr, eqv_str, eqv_int, shaped_int, ixW, atI_one, atI_two, atI_zero, l3, mRet, mSeq, mNext, mIfS, mSet, mPar, mDrop, mAndV, mOrV, mNotV, mAnd, mOr, mNot, mB, mIf, mCB, mCons, mNil, mVar, mC, mBin, mUn, mTup, mLst, mCall, mCallK, mChain, isiW, startE, DEnv.at, DEnv.put, D.isa, tyN, sixNames, isNum, isCnt, okD, ordW, intW, sizeLine, tyNames, lenW, mNever] at h4 ⊢ <;> exact h4
          · cases t <;> simp [isTree, g_ONLY_TREES, g_BARE, g_WITH_NUMBER, g_JOINING, inW, inD, D.eqF, D.flat, hu, eqX, eqZ, neX, twoStr, eqv_str, eqv_int, shaped_int, ixW, atI_one, atI_two, atI_zero, mRet, mSeq, mNext, mIfS, mSet, mPar, mDrop, mAndV, mOrV, mNotV, mAnd, mOr, mNot, mB, mIf, mCB, mCons, mNil, mVar, mC, mBin, mUn, mTup, mLst, mCall, mCallK, mChain, isiW, startE, DEnv.at, DEnv.put, D.isa, tyN, sixNames, isNum, isCnt, okD, ordW, intW, sizeLine, tyNames, lenW, mNever] at h4 ⊢ <;> exact h4
        · refine seq_gen fun N hN => ?_
          have hi : d.isa "str" = false := by
            cases d <;> first | rfl | exact absurd ⟨_, rfl⟩ hs
          have ho := nice_okD (hd d List.mem_cons_self)
          unfold okD at ho
          simp [eqX, eqZ, eqv_int, shaped_int, l0, atI_zero, ixW, hi, ho, mRet, mSeq, mNext, mIfS, mSet, mPar, mDrop, mAndV, mOrV, mNotV, mAnd, mOr, mNot, mB, mIf, mCB, mCons, mNil, mVar, mC, mBin, mUn, mTup, mLst, mCall, mCallK, mChain, isiW, startE, DEnv.at, DEnv.put, sixNames, isNum, isCnt, okD, ordW, intW, sizeLine, tyNames, lenW, mNever]
          exact ⟨rfl, fin fun u i e => by cases e; exact absurd ⟨_, rfl⟩ hs⟩
    | _ =>
      refine seq_gen fun N hN => ?_
      simp [eqX, eqZ, eqv_int, shaped_int, l0, mRet, mSeq, mNext, mIfS, mSet, mPar, mDrop, mAndV, mOrV, mNotV, mAnd, mOr, mNot, mB, mIf, mCB, mCons, mNil, mVar, mC, mBin, mUn, mTup, mLst, mCall, mCallK, mChain, isiW, startE, DEnv.at, DEnv.put, D.isa, tyN, sixNames, isNum, isCnt, okD, ordW, intW, sizeLine, tyNames, lenW, mNever]
      exact fin fun _ _ e => by cases e
end Fn
namespace Fn
open PySem L2 PySem.Spec PyProof.Rows DL
mutual
def D.niceB : D → Bool
  | .non => true
  | .bl _ => true
  | .int i => decide (i.natAbs.log2 < 1900)
  | .str x => PyData.strOk x && decide (x.length ≤ 100000)
  | .tup ds => D.niceBA ds
  | .lst ds => D.niceBA ds
  | .dct [] [] => true
  | .dct [.inr x] [.int i] => decide (x = "a") && decide (i = 1)
  | _ => false
def D.niceBA : List D → Bool
  | [] => true
  | d :: ds => D.niceB d && D.niceBA ds
end
mutual
theorem nice_of_B : ∀ (d : D), D.niceB d = true → Nice d
  | .non, _ => .non
  | .bl b, _ => .bl b
  | .int i, h => .int (by simpa [D.niceB] using h)
  | .str x, h => by
    simp only [D.niceB, Bool.and_eq_true, decide_eq_true_eq] at h
    exact .str h.1 h.2
  | .tup ds, h => .tup (nice_of_BA ds (by simpa [D.niceB] using h))
  | .lst ds, h => .lst (nice_of_BA ds (by simpa [D.niceB] using h))
  | .dct [] [], _ => .d0
  | .dct [.inr x] [.int i], h => by
    simp only [D.niceB, Bool.and_eq_true, decide_eq_true_eq] at h
    obtain ⟨rfl, rfl⟩ := h
    exact .d1
theorem nice_of_BA : ∀ (ds : List D), D.niceBA ds = true → ∀ d ∈ ds, Nice d
  | [], _ => fun _ h => nomatch h
  | d :: ds, h => by
    simp only [D.niceBA, Bool.and_eq_true] at h
    intro x hx
    rcases List.mem_cons.mp hx with e | hx
    · rw [e]; exact nice_of_B d h.1
    · exact nice_of_BA ds h.2 x hx
end
theorem odd_nice {d : D} (h : d ∈ oddL) : Nice d ∧ d.wt ≤ 500 ∧ d.dp ≤ 3 := by
  have h1 : oddL.all (fun d => D.niceB d && decide (d.wt ≤ 500) && decide (d.dp ≤ 3)) = true := by decide +kernel
  have := List.all_eq_true.mp h1 d h
  simp only [Bool.and_eq_true, decide_eq_true_eq] at this
  exact ⟨nice_of_B _ this.1.1, this.1.2, this.2⟩
def bentL : List D := [.str "row", .str "choice", .str "loop", .str "not", .str "is", .str "set", .str "take", .str "mark", .str "pass", .str "drop", .str "Row", .non, .str "a", .str "zz",
  .int 0, .int 3, .int (-1), .bl true, .str "1", .tup [.str "mark"], .tup [.str "set", .str "a", .int 1], .lst [.str "pass"], .tup [.str "is", .str "a", .int 2], .str "pass", .int (10 ^ 30)]
theorem bent_nice {d : D} (h : d ∈ bentL) : Nice d ∧ d.wt ≤ 400 ∧ d.dp ≤ 2 := by
  have h1 : bentL.all (fun d => D.niceB d && decide (d.wt ≤ 400) && decide (d.dp ≤ 2)) = true := by decide +kernel
  have := List.all_eq_true.mp h1 d h
  simp only [Bool.and_eq_true, decide_eq_true_eq] at this
  exact ⟨nice_of_B _ this.1.1, this.1.2, this.2⟩
theorem cut_drop0 {α : Type} (xs : List α) {i : Int} (h : 0 ≤ i) : cut xs (some i) none = xs.drop i.toNat := by
  unfold cut
  rw [HT.sIx_none]
  obtain ⟨k, rfl⟩ := Int.eq_ofNat_of_zero_le h
  have := HT.sIx_nat xs.length 0 k
  rw [this]
  simp only [Int.toNat_natCast]
  by_cases hk : k ≤ xs.length
  · rw [Nat.min_eq_left hk, List.take_of_length_le (by simp)]
  · rw [Nat.min_eq_right (by omega), List.drop_eq_nil_of_le (by omega : xs.length ≤ xs.length), List.drop_eq_nil_of_le (by omega : xs.length ≤ k)]
    simp
theorem cut_mid {α : Type} (xs : List α) {i j : Int} (h : 0 ≤ i) (hj : i ≤ j) : cut xs (some i) (some j) = (xs.drop i.toNat).take (j.toNat - i.toNat) := by
  unfold cut
  obtain ⟨k, rfl⟩ := Int.eq_ofNat_of_zero_le h
  obtain ⟨l, rfl⟩ := Int.eq_ofNat_of_zero_le (show 0 ≤ j by omega)
  have h1 := HT.sIx_nat xs.length 0 k
  have h2 := HT.sIx_nat xs.length xs.length l
  rw [h1, h2]
  simp only [Int.toNat_natCast]
  by_cases hk : k ≤ xs.length
  · rw [Nat.min_eq_left hk, List.take_eq_take_iff, List.length_drop]
    omega
  · have e1 : min k xs.length = xs.length := by omega
    rw [e1, List.drop_eq_nil_of_le (by omega : xs.length ≤ xs.length), List.drop_eq_nil_of_le (by omega : xs.length ≤ k)]
    simp
theorem atI_at {α : Type} {xs : List α} {k : Nat} (h : k < xs.length) : atI xs (k : Int) = some xs[k] := by
  unfold atI ixN
  rw [if_pos (by omega), if_pos (by omega)]
  simp [List.getElem?_eq_getElem h]
theorem split_at {xs : List D} {k : Nat} (h : k < xs.length) : xs = xs.take k ++ (xs[k] :: xs.drop (k + 1)) := by simp
def V__law_bent (L : Nat) : WF := fun ds n k => ∃ x, ds = [.sta, x] ∧ Nice x ∧ x.dp ≤ L ∧ x.wt ≤ 1000000 ∧ 10 * (x.dp + 1) ≤ n ∧ ∀ y n', Nice y → y.wt ≤ 2 * x.wt + 500 → y.dp ≤ x.dp + 3 → n ≤ n' + 10 * (x.dp + 1) → k y n'
def W__law_bent : WF := V__law_bent 30
theorem g__law_bent (L : Nat) : Good (V__law_bent L) 2 := ⟨fun ds n k k' h ⟨x, a, b, c, d, e, q⟩ => ⟨x, a, b, c, d, e, fun y n' h1 h2 h3 h4 => h _ _ (q y n' h1 h2 h3 h4)⟩, fun ds n k ⟨x, a, _⟩ => by rw [a]; rfl⟩
abbrev n__law_bent : List Str := ["state", "matter", "spot", "way", "words"]
def m__law_bent (W__law_bent : WF) : MS := (mSeq (mIfS (mOr (mNot (mB (mCB isiW (mCons (mVar 1) (mCons (mC (.ty "tuple")) mNil))))) (mOr (mB (mBin eqZ (mVar 1) (mTup mNil))) (mB (mBin eqX (mCall W__law_take (mCons (mVar 0) (mCons (mC (.int 8)) mNil))) (mC (.int 0)))))) (mRet (mCall W__law_odd (mCons (mVar 0) mNil))) mNext)
  (mSeq (mSet 2 (mCall W__law_take (mCons (mVar 0) (mCons (mCB lenW (mCons (mVar 1) mNil)) mNil))))
  (mSeq (mIfS (mAnd (mB (mBin gtW (mVar 2) (mC (.int 0)))) (mAnd (mB (mCB isiW (mCons (mBin ixW (mVar 1) (mVar 2)) (mCons (mC (.ty "tuple")) mNil)))) (mB (mBin gtW (mCall W__law_take (mCons (mVar 0) (mCons (mC (.int 3)) mNil))) (mC (.int 0)))))) (mRet (mBin addW (mBin addW (mSl slW (mVar 1) mNo (mSome (mVar 2))) (mTup (mCons (mCall W__law_bent (mCons (mVar 0) (mCons (mBin ixW (mVar 1) (mVar 2)) mNil))) mNil))) (mSl slW (mVar 1) (mSome (mBin addW (mVar 2) (mC (.int 1)))) mNo))) mNext)
  (mSeq (mSet 3 (mCall W__law_take (mCons (mVar 0) (mCons (mC (.int 5)) mNil))))
  (mSeq (mIfS (mB (mBin eqX (mVar 3) (mC (.int 0)))) (mRet (mBin addW (mSl slW (mVar 1) mNo (mSome (mVar 2))) (mSl slW (mVar 1) (mSome (mBin addW (mVar 2) (mC (.int 1)))) mNo))) mNext)
  (mSeq (mIfS (mB (mBin eqX (mVar 3) (mC (.int 1)))) (mRet (mBin addW (mBin addW (mSl slW (mVar 1) mNo (mSome (mVar 2))) (mSl slW (mVar 1) (mSome (mVar 2)) (mSome (mBin addW (mVar 2) (mC (.int 1)))))) (mSl slW (mVar 1) (mSome (mVar 2)) mNo))) mNext)
  (mSeq (mIfS (mB (mBin eqX (mVar 3) (mC (.int 2)))) (mRet (mCall W__law_pick (mCons (mVar 0) (mCons (mLst (mCons (mCB listW (mCons (mVar 1) mNil)) (mCons (mTup (mCons (mVar 1) mNil)) (mCons (mBin addW (mVar 1) (mTup (mCons (mTup (mCons (mC (.str "pass")) mNil)) mNil))) mNil)))) mNil)))) mNext)
  (mSeq (mSet 4 (mLst (mCons (mC (.str "row")) (mCons (mC (.str "choice")) (mCons (mC (.str "loop")) (mCons (mC (.str "not")) (mCons (mC (.str "is")) (mCons (mC (.str "set")) (mCons (mC (.str "take")) (mCons (mC (.str "mark")) (mCons (mC (.str "pass")) (mCons (mC (.str "drop")) (mCons (mC (.str "Row")) (mCons (mC .non) (mCons (mC (.str "a")) (mCons (mC (.str "zz")) mNil))))))))))))))))
  (mSeq (mSet 4 (mBin addW (mVar 4) (mLst (mCons (mC (.int 0)) (mCons (mC (.int 3)) (mCons (mUn negW (mC (.int 1))) (mCons (mC (.bl true)) (mCons (mC (.str "1")) (mCons (mTup (mCons (mC (.str "mark")) mNil)) (mCons (mTup (mCons (mC (.str "set")) (mCons (mC (.str "a")) (mCons (mC (.int 1)) mNil)))) (mCons (mLst (mCons (mC (.str "pass")) mNil)) (mCons (mTup (mCons (mC (.str "is")) (mCons (mC (.str "a")) (mCons (mC (.int 2)) mNil)))) (mCons (mC (.str "pass")) (mCons (mBin powW (mC (.int 10)) (mC (.int 30))) mNil))))))))))))))
  (mRet (mBin addW (mBin addW (mSl slW (mVar 1) mNo (mSome (mVar 2))) (mTup (mCons (mCall W__law_pick (mCons (mVar 0) (mCons (mVar 4) mNil))) mNil))) (mSl slW (mVar 1) (mSome (mBin addW (mVar 2) (mC (.int 1)))) mNo))))))))))))
theorem r__law_bent : ∀ (L : Nat) ds n kk, V__law_bent L ds n kk → m__law_bent (prev V__law_bent L) (startE n__law_bent.length ds n) { nx := fun e => kk .non e.cr, rt := fun d e => kk d e.cr } := by
  rintro L ds n kk ⟨x, rfl, h1, h2, h3, h4, h5⟩
  have odd : ∀ m, n ≤ m + 9 → 1 ≤ m → W__law_odd [.sta] m kk := fun m hm m1 => ⟨rfl, m1, fun d hd => by
    obtain ⟨o1, o2, o3⟩ := odd_nice hd
    exact h5 d _ o1 (by omega) (by omega) (by omega)⟩
  by_cases hx : ∃ d ds, x = .tup (d :: ds)
  · obtain ⟨d0, ds0, rfl⟩ := hx
    obtain ⟨es, hes⟩ : ∃ es, es = d0 :: ds0 := ⟨_, rfl⟩
    have hl : 0 < es.length := by rw [hes]; simp
    have hemp : es.isEmpty = false := by rw [hes]; rfl
    rw [← hes] at h1 h2 h3 h4 h5 ⊢
    have hn : ∀ d ∈ es, Nice d := by cases h1; assumption
    have wt1 : (D.tup es).wt = D.wtA es + 3 := by simp [D.wt]
    have dp1 : (D.tup es).dp = D.dpA es + 1 := by simp [D.dp]
    have hlen : es.length ≤ 1000000 := by have := wtA_len es; omega
    refine seq_gen fun N hN => ?_
    simp [eqX, eqZ, hemp, W__law_take, eqv_int, shaped_int, mRet, mSeq, mNext, mIfS, mSet, mPar, mDrop, mAndV, mOrV, mNotV, mAnd, mOr, mNot, mB, mIf, mCB, mCons, mNil, mVar, mC, mBin, mUn, mTup, mLst, mCall, mCallK, mChain, isiW, startE, DEnv.at, DEnv.put, D.isa, tyN, sixNames, isNum, isCnt, okD, ordW, intW, sizeLine, tyNames, lenW, mNever]
    refine ⟨by omega, fun i i0 i1 => ?_⟩
    split
    · exact odd _ (by omega) (by omega)
    rw [hN]; clear hN
    refine seq_gen fun N hN => ?_
    simp [W__law_take, mRet, mSeq, mNext, mIfS, mSet, mPar, mDrop, mAndV, mOrV, mNotV, mAnd, mOr, mNot, mB, mIf, mCB, mCons, mNil, mVar, mC, mBin, mUn, mTup, mLst, mCall, mCallK, mChain, isiW, startE, DEnv.at, DEnv.put, D.isa, tyN, sixNames, isNum, isCnt, okD, ordW, intW, sizeLine, tyNames, lenW, mNever]
    refine ⟨hl, by omega, by omega, fun sp s0 s1 => ?_⟩
    obtain ⟨k, rfl⟩ := Int.eq_ofNat_of_zero_le s0
    have hk : k < es.length := by omega
    have at1 := atI_at hk
    have nk := hn _ (List.getElem_mem hk)
    have ok := nice_okD nk
    have c1 : cut es none (some (k : Int)) = es.take k := by rw [cut_take0 _ (by omega)]; simp
    have c2 : cut es (some ((k : Int) + 1)) none = es.drop (k + 1) := by rw [cut_drop0 _ (by omega)]; rfl
    have c3 : cut es (some (k : Int)) none = es.drop k := by rw [cut_drop0 _ (by omega)]; rfl
    have c4 : cut es (some (k : Int)) (some ((k : Int) + 1)) = [es[k]] := by
      have e : ((k : Int) + 1).toNat = k + 1 := by omega
      have e2 : k + 1 - k = 1 := by omega
      rw [cut_mid _ (by omega) (by omega), e, Int.toNat_natCast, List.drop_eq_getElem_cons hk, e2]
      rfl
    have se := split_at hk
    have wA : D.wtA es = D.wtA (es.take k) + (es[k].wt + 2 + D.wtA (es.drop (k + 1))) := by
      conv => lhs; rw [se]
      rw [wtA_append]; rfl
    have dA : D.dpA es = max (D.dpA (es.take k)) (max es[k].dp (D.dpA (es.drop (k + 1)))) := by
      conv => lhs; rw [se]
      rw [dpA_append]; rfl
    have dk : D.dpA (es.drop k) ≤ D.dpA es := by
      rw [dA, List.drop_eq_getElem_cons hk]
      simp only [D.dpA]
      omega
    have wk : D.wtA (es.drop k) ≤ D.wtA es := by
      rw [wA, List.drop_eq_getElem_cons hk]
      simp only [D.wtA]
      omega
    have ln : ∀ a b : List D, a.length ≤ 1000001 → b.length ≤ 1000001 → a.length + b.length ≤ 16777216 := fun a b _ _ => by omega
    have niceA : ∀ ys : List D, (∀ y ∈ ys, Nice y) → Nice (.tup (es.take k ++ (ys ++ es.drop (k + 1)))) := fun ys hy => .tup fun d hd => by
      rcases List.mem_append.mp hd with hd | hd
      · exact hn d (List.mem_of_mem_take hd)
      · rcases List.mem_append.mp hd with hd | hd
        · exact hy d hd
        · exact hn d (List.mem_of_mem_drop hd)
    have put : ∀ (y : D) (m : Nat), Nice y → y.wt ≤ 2 * es[k].wt + 500 → y.dp ≤ es[k].dp + 3 → n ≤ m + 10 * ((D.tup es).dp + 1) → kk (.tup (es.take k ++ (y :: es.drop (k + 1)))) m := fun y m y1 y2 y3 hm => by
      refine h5 _ _ (niceA [y] (by simpa using y1)) ?_ ?_ hm
      · simp only [D.wt, wtA_append, D.wtA] at wA ⊢; omega
      · simp only [D.dp, dpA_append, D.dpA] at dA ⊢; omega
    have put2 : ∀ (y : D) (m : Nat), Nice y → y.wt ≤ 400 → y.dp ≤ 2 → n ≤ m + 10 * ((D.tup es).dp + 1) → kk (.tup (es.take k ++ (y :: es.drop (k + 1)))) m := fun y m y1 y2 y3 hm => put y m y1 (by omega) (by omega) hm
    rw [hN]; clear hN
    refine seq_gen fun N hN => ?_
    simp [ixW, at1, mSl, mSome, mNo, slW, c1, c2, W__law_take, addW, mRet, mSeq, mNext, mIfS, mSet, mPar, mDrop, mAndV, mOrV, mNotV, mAnd, mOr, mNot, mB, mIf, mCB, mCons, mNil, mVar, mC, mBin, mUn, mTup, mLst, mCall, mCallK, mChain, isiW, startE, DEnv.at, DEnv.put, sixNames, isNum, isCnt, okD, ordW, intW, sizeLine, tyNames, lenW, mNever]
    have tk : es.take (k + 1) = es.take k ++ [es[k]] := by simp
    have tw : D.wtA (es.take (k + 1)) = D.wtA (es.take k) + (es[k].wt + 2) := by rw [tk, wtA_append]; simp [D.wtA]
    have td : D.dpA (es.take (k + 1)) = max (D.dpA (es.take k)) es[k].dp := by rw [tk, dpA_append]; simp [D.dpA]
    have kd : es[k].dp ≤ D.dpA es := dpA_mem (List.getElem_mem hk)
    have kw := wtA_mem (List.getElem_mem hk)
    have sz1 : min k es.length ≤ 16777215 := by omega
    have sz2 : min k es.length + 1 + (es.length - (k + 1)) ≤ 16777216 := by omega
    have rest : ∀ m, n ≤ m + 3 → N { sl := [Sl.da D.sta, Sl.da (D.tup es), Sl.da (D.int (k : Int)), Sl.un, Sl.un], cr := m } := by
      intro m hm
      rw [hN]; clear hN
      refine seq_gen fun N hN => ?_
      simp [W__law_take, mRet, mSeq, mNext, mIfS, mSet, mPar, mDrop, mAndV, mOrV, mNotV, mAnd, mOr, mNot, mB, mIf, mCB, mCons, mNil, mVar, mC, mBin, mUn, mTup, mLst, mCall, mCallK, mChain, isiW, startE, DEnv.at, DEnv.put, D.isa, tyN, sixNames, isNum, isCnt, okD, ordW, intW, sizeLine, tyNames, lenW, mNever]
      refine ⟨by omega, fun w w0 w1 => ?_⟩
      rw [hN]; clear hN
      refine seq_gen fun N hN => ?_
      simp [eqX, eqv_int, shaped_int, ixW, at1, mSl, mSome, mNo, slW, c1, c2, addW, mRet, mSeq, mNext, mIfS, mSet, mPar, mDrop, mAndV, mOrV, mNotV, mAnd, mOr, mNot, mB, mIf, mCB, mCons, mNil, mVar, mC, mBin, mUn, mTup, mLst, mCall, mCallK, mChain, isiW, startE, DEnv.at, DEnv.put, sixNames, isNum, isCnt, okD, ordW, intW, sizeLine, tyNames, lenW, mNever]
      split
      · refine ⟨by omega, h5 _ _ (by simpa using niceA [] (fun _ h => nomatch h)) ?_ ?_ (by omega)⟩
        · simp only [D.wt, wtA_append, D.wtA] at wA ⊢; omega
        · simp only [D.dp, dpA_append, D.dpA] at dA ⊢; omega
      rw [hN]; clear hN
      refine seq_gen fun N hN => ?_
      simp [eqX, eqv_int, shaped_int, ixW, at1, mSl, mSome, mNo, slW, c1, c2, c3, c4, addW, mRet, mSeq, mNext, mIfS, mSet, mPar, mDrop, mAndV, mOrV, mNotV, mAnd, mOr, mNot, mB, mIf, mCB, mCons, mNil, mVar, mC, mBin, mUn, mTup, mLst, mCall, mCallK, mChain, isiW, startE, DEnv.at, DEnv.put, sixNames, isNum, isCnt, okD, ordW, intW, sizeLine, tyNames, lenW, mNever]
      split
      · refine ⟨by omega, by omega, h5 _ _ (.tup fun d hd => ?_) ?_ ?_ (by omega)⟩
        · rcases List.mem_append.mp hd with hd | hd
          · exact hn d (List.mem_of_mem_take hd)
          · exact hn d (List.mem_of_mem_drop hd)
        · simp only [D.wt, wtA_append, D.wtA] at wA ⊢; omega
        · simp only [D.dp, dpA_append, D.dpA] at dA ⊢; omega
      rw [hN]; clear hN
      refine seq_gen fun N hN => ?_
      simp [eqX, eqv_int, shaped_int, listW, addW, mRet, mSeq, mNext, mIfS, mSet, mPar, mDrop, mAndV, mOrV, mNotV, mAnd, mOr, mNot, mB, mIf, mCB, mCons, mNil, mVar, mC, mBin, mUn, mTup, mLst, mCall, mCallK, mChain, isiW, startE, DEnv.at, DEnv.put, sixNames, isNum, isCnt, okD, ordW, intW, sizeLine, tyNames, lenW, mNever]
      split
      · refine ⟨by omega, pick_lst (by simp) (by simp) (by omega) fun x hx => ?_⟩
        simp at hx
        rcases hx with rfl | rfl | rfl
        · exact h5 _ _ (.lst hn) (by simp only [D.wt]; omega) (by simp only [D.dp]; omega) (by omega)
        · exact h5 _ _ (.tup (by simpa using h1)) (by simp only [D.wt, D.wtA]; omega) (by simp only [D.dp, D.dpA]; omega) (by omega)
        · refine h5 _ _ (.tup fun d hd => ?_) ?_ ?_ (by omega)
          · simp only [List.mem_append, List.mem_singleton] at hd
            rcases hd with hd | rfl
            · exact hn d hd
            · exact nice_of_B _ (by decide +kernel)
          · have : (D.tup [D.str "pass"]).wt ≤ 100 := by decide +kernel
            simp only [D.wt, wtA_append, D.wtA] at this ⊢; omega
          · simp only [D.dp, dpA_append, D.dpA]; omega
      rw [hN]; clear hN
      refine seq_gen fun N hN => ?_
      simp [mRet, mSeq, mNext, mIfS, mSet, mPar, mDrop, mAndV, mOrV, mNotV, mAnd, mOr, mNot, mB, mIf, mCB, mCons, mNil, mVar, mC, mBin, mUn, mTup, mLst, mCall, mCallK, mChain, isiW, startE, DEnv.at, DEnv.put, sixNames, isNum, isCnt, okD, ordW, intW, sizeLine, tyNames, lenW, mNever]
      rw [hN]; clear hN
      refine seq_gen fun N hN => ?_
      simp [addW, negW, powW, CPow, mRet, mSeq, mNext, mIfS, mSet, mPar, mDrop, mAndV, mOrV, mNotV, mAnd, mOr, mNot, mB, mIf, mCB, mCons, mNil, mVar, mC, mBin, mUn, mTup, mLst, mCall, mCallK, mChain, isiW, startE, DEnv.at, DEnv.put, sixNames, isNum, isCnt, okD, ordW, intW, sizeLine, tyNames, lenW, mNever]
      rw [hN]; clear hN
      simp [eqX, eqv_int, shaped_int, ixW, at1, mSl, mSome, mNo, slW, c1, c2, addW, sz1, sz2, mRet, mSeq, mNext, mIfS, mSet, mPar, mDrop, mAndV, mOrV, mNotV, mAnd, mOr, mNot, mB, mIf, mCB, mCons, mNil, mVar, mC, mBin, mUn, mTup, mLst, mCall, mCallK, mChain, isiW, startE, DEnv.at, DEnv.put, sixNames, isNum, isCnt, okD, ordW, intW, sizeLine, tyNames, lenW, mNever]
      refine pick_lst (es := bentL) (by decide) (by decide) (by omega) fun x hx => ?_
      obtain ⟨b1, b2, b3⟩ := bent_nice hx
      exact put2 x _ b1 b2 b3 (by omega)
    split
    · refine ⟨ok, ?_⟩
      split
      · refine ⟨by omega, fun j j0 j1 => ?_⟩
        split
        · obtain ⟨L, rfl⟩ : ∃ M, L = M + 1 := ⟨L - 1, by omega⟩
          refine ⟨es[k], rfl, nk, by omega, by omega, by omega, fun y n' y1 y2 y3 hn' => ⟨sz1, sz2, put y n' y1 y2 y3 (by omega)⟩⟩
        · exact rest _ (by omega)
      · exact rest _ (by omega)
    · exact rest _ (by omega)
  · have rest : ∀ (k : KS), k.rt = (fun d e => kk d e.cr) → True := fun _ _ => trivial
    have ox := nice_okD h1
    refine seq_gen fun N hN => ?_
    cases h1 with
    | @tup ds hd =>
      cases ds with
      | nil =>
        simp [eqX, eqZ, W__law_take, eqv_int, shaped_int, mRet, mSeq, mNext, mIfS, mSet, mPar, mDrop, mAndV, mOrV, mNotV, mAnd, mOr, mNot, mB, mIf, mCB, mCons, mNil, mVar, mC, mBin, mUn, mTup, mLst, mCall, mCallK, mChain, isiW, startE, DEnv.at, DEnv.put, D.isa, tyN, sixNames, isNum, isCnt, okD, ordW, intW, sizeLine, tyNames, lenW, mNever]
        exact odd _ (by omega) (by omega)
      | cons a b => exact absurd ⟨a, b, rfl⟩ hx
    | _ =>
      simp [eqX, eqZ, W__law_take, eqv_int, shaped_int, mRet, mSeq, mNext, mIfS, mSet, mPar, mDrop, mAndV, mOrV, mNotV, mAnd, mOr, mNot, mB, mIf, mCB, mCons, mNil, mVar, mC, mBin, mUn, mTup, mLst, mCall, mCallK, mChain, isiW, startE, DEnv.at, DEnv.put, D.isa, tyN, sixNames, isNum, isCnt, okD, ordW, intW, sizeLine, tyNames, lenW, mNever]
      exact odd _ (by omega) (by omega)
def bT (n : Nat) : Nat := 300 * 4 ^ n
theorem bT_pos (n : Nat) : 300 ≤ bT n := by unfold bT; have := Nat.one_le_pow n 4 (by decide); omega
theorem bT_succ (n : Nat) : bT (n + 1) = 4 * bT n := by unfold bT; rw [Nat.pow_succ]; omega
theorem nice_field {f : Str} (h : f ∈ frameL) : Nice (.str f) ∧ (D.str f).wt ≤ 62 := by
  have h1 : frameL.all (fun f => D.niceB (.str f) && decide ((D.str f).wt ≤ 62)) = true := by decide +kernel
  have := List.all_eq_true.mp h1 f h
  simp only [Bool.and_eq_true, decide_eq_true_eq] at this
  exact ⟨nice_of_B _ this.1, this.2⟩
theorem nice_num {m : Int} (h : m ∈ numsL) : Nice (.int m) ∧ (D.int m).wt ≤ 62 := by
  have h1 : numsL.all (fun f => D.niceB (.int f) && decide ((D.int f).wt ≤ 62)) = true := by decide +kernel
  have := List.all_eq_true.mp h1 m h
  simp only [Bool.and_eq_true, decide_eq_true_eq] at this
  exact ⟨nice_of_B _ this.1, this.2⟩
theorem nice_word {x : Str} (h : x ∈ wordsL) : Nice (.str x) ∧ (D.str x).wt ≤ 62 := by
  have h1 : wordsL.all (fun f => D.niceB (.str f) && decide ((D.str f).wt ≤ 62)) = true := by decide +kernel
  have := List.all_eq_true.mp h1 x h
  simp only [Bool.and_eq_true, decide_eq_true_eq] at this
  exact ⟨nice_of_B _ this.1, this.2⟩
theorem nice_three {a b c : D} (ha : Nice a ∧ a.wt ≤ 62) (hb : Nice b ∧ b.wt ≤ 62) (hc : Nice c ∧ c.wt ≤ 62) (k : Nat) (hk : a.dp = 0 ∧ b.dp = 0 ∧ c.dp = 0) : Nice (.tup [a, b, c]) ∧ (D.tup [a, b, c]).wt ≤ bT k ∧ (D.tup [a, b, c]).dp ≤ k + 1 := by
  have := bT_pos k
  refine ⟨.tup fun d hd => ?_, by simp only [D.wt, D.wtA]; omega, by simp only [D.dp, D.dpA]; omega⟩
  simp only [List.mem_cons, List.not_mem_nil, or_false] at hd
  rcases hd with rfl | rfl | rfl
  · exact ha.1
  · exact hb.1
  · exact hc.1
theorem nice_one {a : D} (ha : Nice a ∧ a.wt ≤ 62) (k : Nat) (hk : a.dp = 0) : Nice (.tup [a]) ∧ (D.tup [a]).wt ≤ bT k ∧ (D.tup [a]).dp ≤ k + 1 := by
  have := bT_pos k
  exact ⟨.tup (by simpa using ha.1), by simp only [D.wt, D.wtA]; omega, by simp only [D.dp, D.dpA]; omega⟩
theorem nice_many {a : D} {ds : List D} {k : Nat} (ha : Nice a ∧ a.wt ≤ 62) (hk : a.dp = 0) (hl : ds.length ≤ 3) (h : ∀ d ∈ ds, Nice d ∧ d.wt ≤ bT k ∧ d.dp ≤ k + 1) : Nice (.tup (a :: ds)) ∧ (D.tup (a :: ds)).wt ≤ bT (k + 1) ∧ (D.tup (a :: ds)).dp ≤ k + 1 + 1 := by
  have b1 := bT_pos k
  have b2 := bT_succ k
  have w := wtA_le (a := ds) fun d hd => (h d hd).2.1
  have w2 : ds.length * (bT k + 2) ≤ 3 * (bT k + 2) := Nat.mul_le_mul_right _ hl
  have w3 := dpA_le (a := ds) fun d hd => (h d hd).2.2
  refine ⟨.tup fun d hd => ?_, by simp only [D.wt, D.wtA]; omega, by simp only [D.dp, D.dpA]; omega⟩
  rcases List.mem_cons.mp hd with rfl | hd
  · exact ha.1
  · exact (h d hd).1
theorem TI.nice {fs : List Str} {ns : List Int} {b : Bool} {n : Nat} {t : Tr} (h : TI fs ns b n t) (hf : ∀ f ∈ fs, f ∈ frameL) (hn : ∀ m ∈ ns, m ∈ numsL) : Nice t.d ∧ t.d.wt ≤ bT n ∧ t.d.dp ≤ n + 1 := by
  induction h with
  | pass => exact nice_one (nice_word (by decide +kernel)) _ rfl
  | drop => exact nice_one (nice_word (by decide +kernel)) _ rfl
  | mark => exact nice_one (nice_word (by decide +kernel)) _ rfl
  | is h1 h2 => exact nice_three (nice_word (by decide +kernel)) (nice_field (hf _ h1)) (nice_num (hn _ h2)) _ ⟨rfl, rfl, rfl⟩
  | set h1 h2 => exact nice_three (nice_word (by decide +kernel)) (nice_field (hf _ h1)) (nice_num (hn _ h2)) _ ⟨rfl, rfl, rfl⟩
  | take h1 h2 h3 => exact nice_three (nice_word (by decide +kernel)) (nice_field (hf _ h1)) (nice_field (hf _ h2)) _ ⟨rfl, rfl, rfl⟩
  | row h1 h2 h3 ih =>
    refine nice_many (nice_word (by decide +kernel)) rfl (by rw [ds_len]; exact h2) fun d hd => ?_
    rw [Tr.ds_eq] at hd
    obtain ⟨t, ht, rfl⟩ := List.mem_map.mp hd
    exact ih t ht
  | choice h1 h2 h3 ih =>
    refine nice_many (nice_word (by decide +kernel)) rfl (by rw [ds_len]; exact h2) fun d hd => ?_
    rw [Tr.ds_eq] at hd
    obtain ⟨t, ht, rfl⟩ := List.mem_map.mp hd
    exact ih t ht
  | loop h ih => exact nice_many (nice_word (by decide +kernel)) rfl (by simp) (by simpa using ih)
  | nt h ih => exact nice_many (nice_word (by decide +kernel)) rfl (by simp) (by simpa using ih)
def W__law_chain : WF := fun ds n k => ∃ m : Int, ds = [.sta, .int m] ∧ 1 ≤ m ∧ m ≤ 13 ∧ 20 ≤ n ∧ ∀ y n', Nice y → y.wt ≤ 10000 → y.dp ≤ 16 → n ≤ n' + 20 → k y n'
theorem w__law_chain : Good W__law_chain 2 := ⟨fun ds n k k' h ⟨m, a, b, c, d, q⟩ => ⟨m, a, b, c, d, fun y n' h1 h2 h3 h4 => h _ _ (q y n' h1 h2 h3 h4)⟩, fun ds n k ⟨m, a, _⟩ => by rw [a]; rfl⟩
abbrev n__law_chain : List Str := ["state", "many", "found", "turn", "some"]
def m__law_chain : MS := (mSeq (mSet 2 (mCall W__law_pick (mCons (mVar 0) (mCons (mLst (mCons (mTup (mCons (mC (.str "mark")) mNil)) (mCons (mTup (mCons (mC (.str "is")) (mCons (mC (.str "a")) (mCons (mC (.int 1)) mNil)))) (mCons (mTup (mCons (mC (.str "pass")) mNil)) mNil)))) mNil))))
  (mSeq (mFor (mRange (mCons (mBin subW (mVar 1) (mC (.int 1))) mNil)) (gN 3) (mSeq (mSet 4 (mLst (mCons (mTup (mCons (mC (.str "row")) (mCons (mVar 2) (mCons (mTup (mCons (mC (.str "pass")) mNil)) mNil)))) (mCons (mTup (mCons (mC (.str "choice")) (mCons (mTup (mCons (mC (.str "drop")) mNil)) (mCons (mVar 2) mNil)))) (mCons (mTup (mCons (mC (.str "loop")) (mCons (mVar 2) mNil))) (mCons (mTup (mCons (mC (.str "not")) (mCons (mVar 2) mNil))) mNil))))))
  (mSet 2 (mCall W__law_pick (mCons (mVar 0) (mCons (mVar 4) mNil))))))
  (mRet (mVar 2))))
theorem r__law_chain : ∀ ds n kk, W__law_chain ds n kk → m__law_chain (startE n__law_chain.length ds n) { nx := fun e => kk .non e.cr, rt := fun d e => kk d e.cr } := by
  rintro ds n kk ⟨m, rfl, h1, h2, h3, h4⟩
  have p1 : Nice (D.tup [.str "pass"]) ∧ (D.tup [.str "pass"]).wt ≤ 62 ∧ (D.tup [.str "pass"]).dp ≤ 1 := ⟨nice_of_B _ (by decide +kernel), by decide +kernel, by decide +kernel⟩
  have p2 : Nice (D.tup [.str "drop"]) ∧ (D.tup [.str "drop"]).wt ≤ 62 ∧ (D.tup [.str "drop"]).dp ≤ 1 := ⟨nice_of_B _ (by decide +kernel), by decide +kernel, by decide +kernel⟩
  have q1 := nice_word (x := "row") (by decide +kernel)
  have q2 := nice_word (x := "choice") (by decide +kernel)
  have q3 := nice_word (x := "loop") (by decide +kernel)
  have q4 := nice_word (x := "not") (by decide +kernel)
  refine seq_gen fun N hN => ?_
  simp [mRet, mSeq, mNext, mIfS, mSet, mPar, mDrop, mAndV, mOrV, mNotV, mAnd, mOr, mNot, mB, mIf, mCB, mCons, mNil, mVar, mC, mBin, mUn, mTup, mLst, mCall, mCallK, mChain, isiW, startE, DEnv.at, DEnv.put, D.isa, tyN, sixNames, isNum, isCnt, okD, ordW, intW, sizeLine, tyNames, lenW, mNever]
  refine pick_lst (by simp) (by simp) (by omega) fun x hx => ?_
  have hx' : Nice x ∧ x.wt ≤ 200 ∧ x.dp ≤ 2 := by
    simp only [List.mem_cons, List.not_mem_nil, or_false] at hx
    rcases hx with rfl | rfl | rfl <;> exact ⟨nice_of_B _ (by decide +kernel), by decide +kernel, by decide +kernel⟩
  rw [hN]; clear hN
  refine seq_gen fun N hN => ?_
  simp [mFor, mRange, mRet, mSeq, mNext, mIfS, mSet, mPar, mDrop, mAndV, mOrV, mNotV, mAnd, mOr, mNot, mB, mIf, mCB, mCons, mNil, mVar, mC, mBin, mUn, mTup, mLst, mCall, mCallK, mChain, isiW, startE, DEnv.at, DEnv.put, D.isa, tyN, sixNames, isNum, isCnt, okD, ordW, intW, sizeLine, tyNames, lenW, mNever]
  refine ⟨⟨by omega, by omega⟩, ?_⟩
  have rl := rangeD_len (m - 1)
  refine forW_inv (fun es env => ∃ y s3 s4, env.sl = [.da .sta, .da (.int m), .da y, s3, s4] ∧ Nice y ∧ y.wt + 300 * es.length ≤ 200 + 300 * (m - 1).toNat ∧ y.dp + es.length ≤ 2 + (m - 1).toNat ∧ n ≤ env.cr + 1 + ((m - 1).toNat - es.length) ∧ es.length ≤ (m - 1).toNat) (fun d es env k' i a1 a2 a3 a4 => ?_) (fun env i => ?_) _ _ ⟨x, _, _, rfl, hx'.1, by rw [rl]; omega, by rw [rl]; omega, by simp only; omega, by omega⟩
  · obtain ⟨y, s3, s4, i1, i2, i3, i4, i5, i6⟩ := i
    obtain ⟨sl, cr, mr⟩ := env
    simp only [List.length_cons] at i1 i3 i4 i5 i6
    subst i1
    simp only [gN]
    refine seq_gen fun N2 hN2 => ?_
    simp [mRet, mSeq, mNext, mIfS, mSet, mPar, mDrop, mAndV, mOrV, mNotV, mAnd, mOr, mNot, mB, mIf, mCB, mCons, mNil, mVar, mC, mBin, mUn, mTup, mLst, mCall, mCallK, mChain, isiW, startE, DEnv.at, DEnv.put, D.isa, tyN, sixNames, isNum, isCnt, okD, ordW, intW, sizeLine, tyNames, lenW, mNever]
    rw [hN2]; clear hN2
    simp [mRet, mSeq, mNext, mIfS, mSet, mPar, mDrop, mAndV, mOrV, mNotV, mAnd, mOr, mNot, mB, mIf, mCB, mCons, mNil, mVar, mC, mBin, mUn, mTup, mLst, mCall, mCallK, mChain, isiW, startE, DEnv.at, DEnv.put, D.isa, tyN, sixNames, isNum, isCnt, okD, ordW, intW, sizeLine, tyNames, lenW, mNever]
    refine pick_lst (by simp) (by simp) (by omega) fun x hx => ?_
    have hx2 : Nice x ∧ x.wt ≤ y.wt + 300 ∧ x.dp ≤ y.dp + 1 ∨ Nice x ∧ x.wt ≤ y.wt + 300 ∧ x.dp ≤ 2 := by
      simp only [List.mem_cons, List.not_mem_nil, or_false] at hx
      have t2 : ∀ (a b : D) , Nice a → Nice b → Nice (.tup [a, b]) := fun a b ha hb => .tup (by simp; exact ⟨ha, hb⟩)
      have t3 : ∀ (a b c : D) , Nice a → Nice b → Nice c → Nice (.tup [a, b, c]) := fun a b c ha hb hc => .tup (by simp; exact ⟨ha, hb, hc⟩)
      rcases hx with rfl | rfl | rfl | rfl
      · have := p1.2.2
        refine if hd : y.dp = 0 then .inr ⟨t3 _ _ _ q1.1 i2 p1.1, ?_, ?_⟩ else .inl ⟨t3 _ _ _ q1.1 i2 p1.1, ?_, ?_⟩
        · have := q1.2; have := p1.2.1; rw [D.wt, D.wtA, D.wtA, D.wtA, D.wtA]; omega
        · have e : (D.str "row").dp = 0 := rfl
          rw [D.dp, D.dpA, D.dpA, D.dpA, D.dpA, e]; omega
        · have := q1.2; have := p1.2.1; rw [D.wt, D.wtA, D.wtA, D.wtA, D.wtA]; omega
        · have e : (D.str "row").dp = 0 := rfl
          rw [D.dp, D.dpA, D.dpA, D.dpA, D.dpA, e]; omega
      · have := p2.2.2
        refine if hd : y.dp = 0 then .inr ⟨t3 _ _ _ q2.1 p2.1 i2, ?_, ?_⟩ else .inl ⟨t3 _ _ _ q2.1 p2.1 i2, ?_, ?_⟩
        · have := q2.2; have := p2.2.1; rw [D.wt, D.wtA, D.wtA, D.wtA, D.wtA]; omega
        · have e : (D.str "choice").dp = 0 := rfl
          rw [D.dp, D.dpA, D.dpA, D.dpA, D.dpA, e]; omega
        · have := q2.2; have := p2.2.1; rw [D.wt, D.wtA, D.wtA, D.wtA, D.wtA]; omega
        · have e : (D.str "choice").dp = 0 := rfl
          rw [D.dp, D.dpA, D.dpA, D.dpA, D.dpA, e]; omega
      · refine .inl ⟨t2 _ _ q3.1 i2, ?_, ?_⟩
        · have := q3.2; rw [D.wt, D.wtA, D.wtA, D.wtA]; omega
        · have e : (D.str "loop").dp = 0 := rfl
          rw [D.dp, D.dpA, D.dpA, D.dpA, e]; omega
      · refine .inl ⟨t2 _ _ q4.1 i2, ?_, ?_⟩
        · have := q4.2; rw [D.wt, D.wtA, D.wtA, D.wtA]; omega
        · have e : (D.str "not").dp = 0 := rfl
          rw [D.dp, D.dpA, D.dpA, D.dpA, e]; omega
    have hx3 : Nice x ∧ x.wt ≤ y.wt + 300 ∧ x.dp + es.length ≤ 2 + (m - 1).toNat := by
      rcases hx2 with h | h
      · exact ⟨h.1, h.2.1, by omega⟩
      · exact ⟨h.1, h.2.1, by omega⟩
    exact a1 _ ⟨x, _, _, rfl, hx3.1, by omega, hx3.2.2, by simp only; omega, by omega⟩
  · obtain ⟨y, s3, s4, i1, i2, i3, i4, i5, i6⟩ := i
    obtain ⟨sl, cr, mr⟩ := env
    simp only [List.length_nil] at i1 i3 i4 i5 i6
    subst i1
    rw [hN]
    simp [mRet, mSeq, mNext, mIfS, mSet, mPar, mDrop, mAndV, mOrV, mNotV, mAnd, mOr, mNot, mB, mIf, mCB, mCons, mNil, mVar, mC, mBin, mUn, mTup, mLst, mCall, mCallK, mChain, isiW, startE, DEnv.at, DEnv.put, D.isa, tyN, sixNames, isNum, isCnt, okD, ordW, intW, sizeLine, tyNames, lenW, mNever]
    exact h4 y _ i2 (by omega) (by omega) (by omega)
end Fn
namespace K05
open PySem L2 PySem.Spec PyProof.Rows DL Fn
def top (i : Nat) : Stmt := PySem.Challenge.pw_markedways_k05_trees_judged.main.body.getD i (.Pass ⟨0, 0, 0, 0⟩)
structure Txt (K : PySem.W.Frag) (mg : Str → Option Value) (base : Heap) : Prop where
  nb : NB mg
  low : ∃ o, base.get? sysModules = some o
  g_LETTERS : Glob K mg "LETTERS" Fn.g_LETTERS
  g_KEPT_WORDS : Glob K mg "KEPT_WORDS" Fn.g_KEPT_WORDS
  g_MOST_LETTERS : Glob K mg "MOST_LETTERS" Fn.g_MOST_LETTERS
  g_MOST_LEVELS : Glob K mg "MOST_LEVELS" Fn.g_MOST_LEVELS
  g_BARE : Glob K mg "BARE" Fn.g_BARE
  g_WITH_NUMBER : Glob K mg "WITH_NUMBER" Fn.g_WITH_NUMBER
  g_JOINING : Glob K mg "JOINING" Fn.g_JOINING
  g_ONLY_TREES : Glob K mg "ONLY_TREES" Fn.g_ONLY_TREES
variable {P : Program} {w : World} {K : PySem.W.Frag} {mg : Str → Option Value} {base : Heap}
abbrev s__law_mixed : Stmt := top 19
abbrev n__law_mixed : List Str := ["state", "turn", "found", "prime", "blend", "cell"]
theorem sc__law_mixed : FnScope n__law_mixed ["state"] (defScope s__law_mixed) := ⟨rfl, rfl, rfl, by decide +kernel, rfl, by decide +kernel, by decide +kernel⟩
abbrev s__law_take : Stmt := top 20
abbrev n__law_take : List Str := ["state", "size", "found"]
theorem sc__law_take : FnScope n__law_take ["state", "size"] (defScope s__law_take) := ⟨rfl, rfl, rfl, by decide +kernel, rfl, by decide +kernel, by decide +kernel⟩
abbrev s__law_begun : Stmt := top 18
abbrev n__law_begun : List Str := ["script", "wide", "cell"]
theorem sc__law_begun : FnScope n__law_begun ["script"] (defScope s__law_begun) := ⟨rfl, rfl, rfl, by decide +kernel, rfl, by decide +kernel, by decide +kernel⟩
abbrev s__law_shuffled : Stmt := top 22
abbrev n__law_shuffled : List Str := ["state", "some", "left", "found"]
theorem sc__law_shuffled : FnScope n__law_shuffled ["state", "some"] (defScope s__law_shuffled) := ⟨rfl, rfl, rfl, by decide +kernel, rfl, by decide +kernel, by decide +kernel⟩
theorem ok_mixed0 {f : Addr} {fd : FuncData} (T : Txt K mg base) (F : Fun K "_law_mixed" "_law_mixed" s__law_mixed f fd) : FnOk P w K mg base CX0 1 f fd ["state"] spMixed := by
  refine F.ok sc__law_mixed (fun vs H Q E h => ?_) (fun cdv A outer s H vs Q E hr h => ?_)
  · obtain ⟨a, b, c, r, t, cs, rfl, _⟩ := h
    rfl
  · obtain ⟨a, b, c, r, t, cs, rfl, ha, hc, t0, t1, hcs, k⟩ := h
    have hu := hu_of hr
    refine ⟨_, pss_cons (ps_par (i := 1) (j := 2) rfl sc__law_mixed.nd rfl rfl (by decide) rfl rfl (pa_cons (pe_op op_add (pe_dget hu (pv 0) pe_str (fun _ _ => rfl)) pe_int) (pa_cons pe_int pa_nil)) (by rfl))
      (pss_cons (ps_dput hu (pv 0) pe_str (pv 1) rfl)
      (pss_cons (ps_for PassesOwn.never rfl (pi_list (pe_lst (pa_cons pe_int (pa_cons pe_int (pa_cons pe_int (pa_cons pe_int pa_nil)))))) (pg_name (i := 3) sc__law_mixed.nd rfl (Or.inl rfl))
        (pss_cons (ps_set (i := 4) sc__law_mixed.nd rfl (Or.inl rfl) (pe_op op_add (pe_op op_mul pe_int (pv 1)) (pe_op op_fdiv (pv 3) pe_int)))
        (pss_cons (ps_for PassesOwn.never rfl (pi_list (pe_dget hu (pv 0) pe_str (fun _ _ => rfl))) (pg_name (i := 5) sc__law_mixed.nd rfl (Or.inl rfl))
          (pss_one (ps_set (i := 4) sc__law_mixed.nd rfl (Or.inl rfl) (pe_op op_mod (pe_callTy call_int1 (by rfl) T.nb.int bt_int (pa_cons (pe_op op_add (pe_op op_add (pe_op op_mul (pv 4) pe_int) (pv 5)) (pv 1)) pa_nil)) (pv 3)))))
        (pss_one (ps_set (i := 2) sc__law_mixed.nd rfl (Or.inl rfl) (pe_op op_add (pe_op op_mul (pv 2) pe_int) (pe_op op_mod (pe_callTy call_int1 (by rfl) T.nb.int bt_int (pa_cons (pe_op op_pow (pv 4) pe_int) pa_nil)) (pv 3))))))))
      (pss_one (ps_ret (pv 2))))), ?_⟩
    refine ⟨_, rfl, a, _, rfl, .inl ⟨_, .inr "turn", .inl ha, rfl, (v_turn b c r t).symm⟩, _, _, rfl, rfl, _, _, rfl, _, rfl, _, rfl, a, _, rfl, DPut.k (k := .inr "turn") ha (stK_len b c r t), ?_⟩
    rw [p_turn]
    have nca : c ≠ a := ne_of hc ha (by intro z; cases z)
    have hc1 : (upd H a (.dK (stK b c r (t + 1)))) c = some (.lst (cs.map V.int)) := by rw [upd_ne nca]; exact hc
    refine ⟨by show 4 ≤ sizeLine; decide, fun l hl => ⟨l, rfl, ⟨_, SqL.of upd_same⟩, ?_⟩⟩
    have nla : a ≠ l := ne_of_none (H := upd H a (.dK (stK b c r (t + 1)))) upd_same hl
    have nlc : c ≠ l := ne_of_none hc1 hl
    have hA : (upd (upd H a (.dK (stK b c r (t + 1)))) l (.lst [.int 2147483629, .int 2147483587, .int 2147483579, .int 2147483563])) a = some (.dK (stK b c r (t + 1))) := by rw [upd_ne nla, upd_same]
    have hC : (upd (upd H a (.dK (stK b c r (t + 1)))) l (.lst [.int 2147483629, .int 2147483587, .int 2147483579, .int 2147483563])) c = some (.lst (cs.map V.int)) := by rw [upd_ne nlc]; exact hc1
    have bt : But a H (upd (upd H a (.dK (stK b c r (t + 1)))) l (.lst [.int 2147483629, .int 2147483587, .int 2147483579, .int 2147483563])) := (But.upd (a := a)).trans (.of_same (grow_upd hl))
    have hL : (upd (upd H a (.dK (stK b c r (t + 1)))) l (.lst [.int 2147483629, .int 2147483587, .int 2147483579, .int 2147483563])) l = some (.lst [.int 2147483629, .int 2147483587, .int 2147483579, .int 2147483563]) := upd_same
    generalize upd (upd H a (.dK (stK b c r (t + 1)))) l (.lst [.int 2147483629, .int 2147483587, .int 2147483579, .int 2147483563]) = H1 at hA hC bt hL ⊢
    refine for_list (K := K) (a := l) (xs := [.int 2147483629, .int 2147483587, .int 2147483579, .int 2147483563]) (fun i σ H2 => H2 = H1 ∧ ∃ (fo : Int) (v3 v4 v5 : Option V), σ = [some (.ref a), some (.int (t + 1)), some (.int fo), v3, v4, v5] ∧ 0 ≤ fo)
      ⟨rfl, 0, none, none, none, rfl, by decide⟩ (fun i σ H2 _ ⟨e, _⟩ => by subst e; exact SqL.of hL) ?_ ?_
    · rintro i x σ H2 hi ⟨rfl, fo, v3, v4, v5, rfl, hfo⟩
      obtain ⟨pr, rfl, pr1, pr2⟩ : ∃ pr : Int, x = .int pr ∧ 2147483563 ≤ pr ∧ pr < 2147483648 := by
        match i, hi with
        | 0, hi => cases hi; exact ⟨_, rfl, by decide, by decide⟩
        | 1, hi => cases hi; exact ⟨_, rfl, by decide, by decide⟩
        | 2, hi => cases hi; exact ⟨_, rfl, by decide, by decide⟩
        | 3, hi => cases hi; exact ⟨_, rfl, by decide, by decide⟩
        | n + 4, hi => cases hi
      have q29 : 0 ≤ pr / 29 ∧ pr / 29 < 2147483648 := ⟨Int.ediv_nonneg (by omega) (by decide), by omega⟩
      refine ⟨_, rfl, _, _, rfl, rfl, .inl ⟨by decide, by decide⟩, _, rfl, _, _, rfl, rfl, ⟨by decide, by decide⟩, _, _, rfl, rfl, ?_⟩
      refine ⟨_, rfl, a, _, rfl, .inl ⟨_, .inr "cells", .inl hA, rfl, (v_cells b c r (t + 1)).symm⟩, c, rfl, ⟨_, SqL.of hC⟩, ?_⟩
      refine for_list (K := K) (a := c) (xs := cs.map V.int) (fun j σ H3 => H3 = H2 ∧ ∃ (bl : Int) (v5 : Option V), σ = [some (.ref a), some (.int (t + 1)), some (.int fo), some (.int pr), some (.int bl), v5] ∧ 0 ≤ bl ∧ bl < 2 ^ 60)
        ⟨rfl, _, v5, rfl, by omega, by omega⟩ (fun j σ H3 _ ⟨e, _⟩ => by subst e; exact SqL.of hC) ?_ ?_
      · rintro j y σ H3 hj ⟨rfl, bl, v5, rfl, b0, b1⟩
        rw [List.getElem?_map, Option.map_eq_some_iff] at hj
        obtain ⟨ce, hj, rfl⟩ := hj
        refine ⟨_, rfl, _, _, rfl, rfl, .inl ⟨by omega, by omega⟩, _, rfl, _, _, rfl, rfl, _, rfl, _, _, rfl, rfl, .inl ⟨_, rfl, _, rfl, _, _, rfl, rfl, (by show (0 : Int) < pr; omega), ?_⟩⟩
        refine ⟨rfl, _, _, rfl, Int.emod_nonneg _ (by omega), ?_⟩
        have := Int.emod_lt_of_pos (bl * 48271 + ce + (t + 1)) (show (0 : Int) < pr by omega)
        omega
      · rintro σ H3 ⟨rfl, bl, v5, rfl, b0, b1⟩
        refine ⟨_, rfl, _, _, rfl, rfl, .inr ⟨by decide, by decide⟩, _, rfl, _, _, rfl, rfl, ⟨by decide, by decide, by omega⟩, .inl ⟨_, rfl, _, rfl, _, _, rfl, rfl, (by show (0 : Int) < pr; omega), _, _, rfl, rfl, ?_⟩⟩
        have e0 := Int.emod_nonneg (bl ^ (5 : Int).toNat) (show pr ≠ 0 by omega)
        exact ⟨rfl, _, _, _, _, rfl, by omega⟩
    · rintro σ H2 ⟨rfl, fo, v3, v4, v5, rfl, hfo⟩
      exact ⟨_, rfl, k fo _ hfo hA bt⟩
theorem ok_take0 {f fm : Addr} {fd fdm : FuncData} (T : Txt K mg base) (F : Fun K "_law_take" "_law_take" s__law_take f fd) (Fm : Fun K "_law_mixed" "_law_mixed" s__law_mixed fm fdm) (mm : mg "_law_mixed" = some (.ref fm)) : FnOk P w K mg base CX0 2 f fd ["state", "size"] spTake := by
  have G : FnOk P w K mg base CX0 1 fm fdm ["state"] spMixed := ok_mixed0 T Fm
  have bm := Fm.binds (ps := ["state"]) fun _ _ _ _ _ _ us hl => match us, hl with | [_], _ => rfl
  refine F.ok sc__law_take (fun vs H Q E h => ?_) (fun cdv A outer s H vs Q E hr h => ?_)
  · obtain ⟨q, n, m, rfl, _⟩ := h
    rfl
  · obtain ⟨q, n, m, rfl, st, hn, m0, m1, k⟩ := h
    have hu := hu_of hr
    obtain ⟨r, t, ws, cs, ha, hb, hc, r0, t0, tn, hws, lws, hcs, lcs, nbc⟩ := st.ex
    refine ⟨_, pss_cons (ps_if (pt_cmpR op_eq (pe_dget hu (pv 0) pe_str (fun _ _ => rfl)) pe_int (nomark _))
        (pss_one (ps_dput hu (pv 0) pe_str (pe_ifExp (pt_cmpR (op_neD hr.units) (pe_dget hu (pv 0) pe_str (fun _ _ => rfl)) (pe_lst pa_nil) (nomark _))
          (pe_bm PySem.F.plainAttrs_list PySem.F.slot_list_pop PySem.F.type_list_pop mt_popAt (pe_dget hu (pv 0) pe_str (fun _ _ => rfl)) (pa_cons pe_int pa_nil))
          (pe_call G hr rfl mm Fm.kp bm .nil pass0 (pa_cons (pv 0) pa_nil))) rfl)) pss_nil)
      (pss_cons (ps_set (i := 2) sc__law_take.nd rfl (Or.inl rfl) (pe_op op_mod (pe_callTy call_int1 (by rfl) T.nb.int bt_int (pa_cons (pe_dget hu (pv 0) pe_str (fun _ _ => rfl)) pa_nil)) (pv 1)))
      (pss_cons (ps_dput hu (pv 0) pe_str (pe_op op_fdiv (pe_dget hu (pv 0) pe_str (fun _ _ => rfl)) (pv 1)) rfl)
      (pss_one (ps_ret (pv 2))))), ?_⟩
    have tail : ∀ (r' t' : Int) (ws' : List Int) (H1 : Hp), H1 q.a = some (.dK (stK q.b q.c r' t')) → H1 q.b = some (.lst (ws'.map V.int)) → H1 q.c = some (.lst (cs.map V.int)) → 0 ≤ r' → 0 ≤ t' → t' + (n - 1 : Nat) ≤ 2 ^ 40 → (∀ x ∈ ws', 0 ≤ x) → ws'.length ≤ 63 → But2 q.a q.b H H1 →
        tSeq (tAsg (tOp (rI (fun _ j => 0 < j) fun i j => .int (i % j)) (tCB (fun xs H Q => (∃ i, xs = [.int i] ∧ Q (.int i) H) ∨ ∃ k, xs = [.bl k] ∧ Q (.int (if k then 1 else 0)) H) (tCons (tDGet (tVar 0) (tC (.str "rest"))) tNil)) (tVar 1)) (gName 2))
          (tSeq (sDPut (tVar 0) (tC (.str "rest")) (tOp (rI CDiv fun i j => .int (i / j)) (tDGet (tVar 0) (tC (.str "rest"))) (tVar 1))) (tRet (tVar 2))) { nx := fun _ H' => Q .non H', rt := Q } [some (.ref q.a), some (.int m), none] H1 := by
      intro r' t' ws' H1 ha hb hc r0 t0 tn hws lws but
      refine ⟨_, rfl, q.a, _, rfl, .inl ⟨_, .inr "rest", .inl ha, rfl, (v_rest _ _ _ _).symm⟩, .inl ⟨_, rfl, _, rfl, _, _, rfl, rfl, m0, ?_⟩⟩
      refine ⟨_, rfl, q.a, _, rfl, .inl ⟨_, .inr "rest", .inl ha, rfl, (v_rest _ _ _ _).symm⟩, _, rfl, _, _, rfl, rfl, ⟨m0, m1⟩, _, rfl, q.a, _, rfl, DPut.k (k := .inr "rest") ha (stK_len _ _ _ _), ?_⟩
      rw [p_rest]
      have nba : q.b ≠ q.a := ne_of hb ha (by intro z; cases z)
      have nca : q.c ≠ q.a := ne_of hc ha (by intro z; cases z)
      refine ⟨_, rfl, k _ _ (Int.emod_nonneg _ (by omega)) (Int.emod_lt_of_pos _ m0) ⟨_, t', ws', cs, upd_same, by rw [upd_ne nba]; exact hb, by rw [upd_ne nca]; exact hc, Int.ediv_nonneg r0 (by omega), t0, tn, hws, lws, hcs, lcs, nbc⟩ ⟨fun p o n1 n2 e => ?_, but.2.trans .upd⟩⟩
      rw [upd_ne n1]
      exact but.1 p o n1 n2 e
    refine ⟨_, rfl, q.a, _, rfl, .inl ⟨_, .inr "rest", .inl ha, rfl, (v_rest _ _ _ _).symm⟩, rfl, _, rfl, ?_⟩
    refine ite2 (fun _ => ?_) (fun _ => tail r t ws H ha hb hc r0 t0 (by omega) hws lws ⟨fun p o _ _ e => e, .refl _⟩)
    refine ⟨_, rfl, q.a, _, rfl, .inl ⟨_, .inr "wide", .inl ha, rfl, (v_wide _ _ _ _).symm⟩, by show 0 ≤ sizeLine; decide, fun l hl => ?_⟩
    have nla : q.a ≠ l := ne_of_none ha hl
    have nlb : q.b ≠ l := ne_of_none hb hl
    have nlc : q.c ≠ l := ne_of_none hc hl
    have ha1 : (upd H l (.lst [])) q.a = some (.dK (stK q.b q.c r t)) := by rw [upd_ne nla]; exact ha
    have hb1 : (upd H l (.lst [])) q.b = some (.lst (ws.map V.int)) := by rw [upd_ne nlb]; exact hb
    have hc1 : (upd H l (.lst [])) q.c = some (.lst (cs.map V.int)) := by rw [upd_ne nlc]; exact hc
    have dp : ∀ (xs : List Int) (HH : Hp), DpAll K HH (xs.map V.int) (xs.map PyData.int) := fun xs HH => by
      induction xs with
      | nil => exact .nil
      | cons x xs ih => exact .cons (.int x) ih
    have shp : ∀ xs : List Int, SeqAt.shaped (.list (xs.map PyData.int)) = true := fun xs => by
      have h1 : PyData.canLayAll0 (xs.map PyData.int) = true := by
        induction xs with
        | nil => rfl
        | cons x xs ih => simp [PyData.canLayAll0, PyData.canLay0, ih]
      have h2 : PyData.depthAll (xs.map PyData.int) ≤ 0 := by
        induction xs with
        | nil => exact Nat.le_refl _
        | cons x xs ih => simp [PyData.depthAll, PyData.depth] at ih ⊢; exact ih (by simpa [PyData.canLayAll0, PyData.canLay0] using h1)
      unfold SeqAt.shaped
      simp only [PyData.canLay0, h1, PyData.depth, Bool.true_and, decide_eq_true_eq]
      exact decide_eq_true (by omega)
    refine ⟨_, _, .lst (SqL.of hb1) (dp ws _), .lst (SqL.of upd_same) .nil, shp ws, shp [], _, rfl, ?_⟩
    cases ws with
    | nil =>
      refine iteF ?_
      refine ⟨_, rfl, q.a, q.b, q.c, r, t, cs, rfl, ha1, hc1, t0, by omega, hcs, fun v H2 v0 ha2 bt2 => ?_⟩
      have nba : q.b ≠ q.a := ne_of hb ha (by intro z; cases z)
      have nca : q.c ≠ q.a := ne_of hc ha (by intro z; cases z)
      refine ⟨_, rfl, q.a, _, rfl, DPut.k (k := .inr "rest") ha2 (stK_len _ _ _ _), ?_⟩
      rw [p_rest]
      refine tail v (t + 1) [] _ upd_same (by rw [upd_ne nba]; exact bt2.1 _ _ nba hb1) (by rw [upd_ne nca]; exact bt2.1 _ _ nca hc1) v0 (by omega) (by omega) hws lws ⟨fun p o n1 n2 e => ?_, ((NoIns.upd (a := l)).trans bt2.2).trans NoIns.upd⟩
      rw [upd_ne n1]
      exact bt2.1 p o n1 (by rw [upd_ne (ne_of_none e hl)]; exact e)
    | cons x xs =>
      refine iteT ?_
      refine ⟨_, rfl, q.a, _, rfl, .inl ⟨_, .inr "wide", .inl ha1, rfl, (v_wide _ _ _ _).symm⟩, .inl ⟨rfl, _, SqL.of hb1⟩, q.b, _, 0, 0, _, rfl, rfl, hb1, by decide, by decide, by simp [seqIndex?], rfl, ?_⟩
      have nba : q.b ≠ q.a := ne_of hb ha (by intro z; cases z)
      have nca : q.c ≠ q.a := ne_of hc ha (by intro z; cases z)
      refine ⟨_, rfl, q.a, _, rfl, DPut.k (k := .inr "rest") (by rw [upd_ne nba.symm]; exact ha1) (stK_len _ _ _ _), ?_⟩
      rw [p_rest]
      refine tail x t xs _ upd_same (by rw [upd_ne nba, upd_same]; rfl) (by rw [upd_ne nca, upd_ne nbc.symm]; exact hc1) (hws x (by simp)) t0 (by omega) (fun y hy => hws y (by simp [hy])) (by simp at lws; omega) ⟨fun p o n1 n2 e => ?_, ((NoIns.upd (a := l)).trans NoIns.upd).trans NoIns.upd⟩
      rw [upd_ne n1, upd_ne n2, upd_ne (ne_of_none e hl)]
      exact e
theorem ok_begun0 {f : Addr} {fd : FuncData} (T : Txt K mg base) (F : Fun K "_law_begun" "_law_begun" s__law_begun f fd) : FnOk P w K mg base CX0 1 f fd ["script"] (spBegun K) := by
  refine F.ok sc__law_begun (fun vs H Q E h => ?_) (fun cdv A outer s H vs Q E hr h => ?_)
  · obtain ⟨a, ns, rfl, _⟩ := h
    rfl
  · obtain ⟨a, ns, rfl, hS, hl, k⟩ := h
    refine ⟨_, pss_cons (ps_setLc (i := 1) (own := [("cell", 2)]) (g := gName 2) rfl sc__law_begun.nd rfl rfl (sw_true rfl rfl rfl (by decide +kernel)) (pi_list (pv 0)) (blkOk_by (N := n__law_begun) (sc := defScope s__law_begun) (by decide +kernel))
        (fun _ _ _ _ _ => pg_name (i := 2) sc__law_begun.nd rfl (Or.inl rfl))
        (fun _ _ _ _ _ => pts_one (pt_cmpR op_ge (pe_callB call_abs (by rfl) T.nb.abs bt_abs (pa_cons (pv 2) pa_nil)) (pe_op op_pow pe_int pe_int) (nomark _)))
        (fun _ _ _ _ _ => pe_op op_sub (pe_callB call_abs (by rfl) T.nb.abs bt_abs (pa_cons (pv 2) pa_nil)) (pe_op op_pow pe_int pe_int)))
      (pss_one (ps_ret (pe_disp (pps_cons pe_str (pv 1) (pps_cons pe_str (pe_lc (own := [("cell", 2)]) (g := gName 2) rfl sc__law_begun.nd (pi_list (pv 0)) (blkOk_by (N := n__law_begun) (sc := defScope s__law_begun) (by decide +kernel))
        (fun _ _ _ _ _ => pg_name (i := 2) sc__law_begun.nd rfl (Or.inl rfl)) (fun _ _ _ _ _ => pts_nil)
        (fun _ _ _ _ _ => pe_op op_mod (pe_callTy call_int1 (by rfl) T.nb.int bt_int (pa_cons (pe_callB call_abs (by rfl) T.nb.abs bt_abs (pa_cons (pv 2) pa_nil)) pa_nil)) pe_int))
        (pps_cons pe_str pe_int (pps_cons pe_str pe_int pps_nil)))) (by rfl) (by rfl) (fun z => by cases z) (by decide)))), ?_⟩
    refine ⟨_, rfl, a, rfl, ⟨_, hS⟩, fun D1 hD1 => lc_list (K := K) (a := a) (xs := ns.map V.int) (fun i H1 => Grow H H1 ∧ ∃ ws : List Int, H1 D1 = some (.lst (ws.map V.int)) ∧ (∀ x ∈ ws, 0 ≤ x) ∧ ws.length ≤ i)
      ⟨grow_upd hD1, [], upd_same, by simp, Nat.le_refl _⟩ (fun i H1 _ ⟨e, _⟩ => e.same.seq hS) ?_ ?_⟩
    · rintro i x H1 hi ⟨sm, ws, h1, h2, h3⟩
      rw [List.getElem?_map, Option.map_eq_some_iff] at hi
      obtain ⟨n, hi, rfl⟩ := hi
      refine ⟨rfl, _, rfl, _, rfl, _, _, rfl, rfl, ⟨by decide, by decide, by decide⟩, _, _, rfl, rfl, _, rfl, ?_⟩
      refine ite2 (fun c => ?_) (fun _ => ⟨sm, ws, h1, h2, by omega⟩)
      refine ⟨_, rfl, _, rfl, _, _, rfl, rfl, ⟨by decide, by decide, by decide⟩, _, _, rfl, rfl, _, h1, ?_, ?_⟩
      · rw [List.length_map]
        have : i < ns.length := (List.getElem?_eq_some_iff.mp hi).1
        exact small1000 (by omega)
      · refine ⟨⟨fun b o e => by rw [upd_ne (ne_of_none e hD1)]; exact sm.same b o e, NoIns.trans sm.ins .upd⟩, ws ++ [_], by rw [List.map_append]; exact upd_same, fun y hy => ?_, by simp; omega⟩
        rcases List.mem_append.mp hy with hy | hy
        · exact h2 y hy
        · rw [List.mem_singleton.mp hy]
          simp only [decide_eq_true_eq] at c
          omega
    · rintro H1 ⟨sm, ws, h1, h2, h3⟩
      rw [List.length_map] at h3
      intro p hp
      have nD1 : D1 ≠ p := ne_of_none h1 hp
      have s1 : Grow H (upd H1 p (.dK [])) := sm.trans (grow_upd hp)
      refine ⟨_, rfl, _, rfl, a, rfl, ⟨_, s1.same.seq hS⟩, fun D2 hD2 => ?_⟩
      have nD2 : p ≠ D2 := ne_of_none (H := upd H1 p (.dK [])) upd_same hD2
      have nD12 : D1 ≠ D2 := ne_of_none (H := upd H1 p (.dK [])) (by rw [upd_ne nD1]; exact h1) hD2
      refine lc_list (K := K) (a := a) (xs := ns.map V.int) (fun i H2 => Grow (upd H1 p (.dK [])) H2 ∧ ∃ cs : List Int, H2 D2 = some (.lst (cs.map V.int)) ∧ (∀ x ∈ cs, 0 ≤ x ∧ x < 2 ^ 31) ∧ cs.length ≤ i)
        ⟨grow_upd hD2, [], upd_same, by simp, Nat.le_refl _⟩ (fun i H2 _ ⟨e, _⟩ => (s1.trans e).same.seq hS) ?_ ?_
      · rintro i x H2 hi ⟨sm2, cs, g1, g2, g3⟩
        rw [List.getElem?_map, Option.map_eq_some_iff] at hi
        obtain ⟨n, hi, rfl⟩ := hi
        refine ⟨rfl, _, rfl, _, rfl, .inl ⟨_, rfl, _, _, rfl, rfl, (by show (0 : Int) < 2147483629; decide), _, g1, ?_, ?_⟩⟩
        · rw [List.length_map]
          have : i < ns.length := (List.getElem?_eq_some_iff.mp hi).1
          exact small1000 (by omega)
        · refine ⟨⟨fun b o e => by rw [upd_ne (ne_of_none e hD2)]; exact sm2.same b o e, NoIns.trans sm2.ins .upd⟩, cs ++ [_], by rw [List.map_append]; exact upd_same, fun y hy => ?_, by simp; omega⟩
          rcases List.mem_append.mp hy with hy | hy
          · exact g2 y hy
          · rw [List.mem_singleton.mp hy]
            have e1 := Int.emod_nonneg (if n < 0 then -n else n) (show (2147483629 : Int) ≠ 0 by decide)
            have e2 := Int.emod_lt_of_pos (if n < 0 then -n else n) (show (0 : Int) < 2147483629 by decide)
            exact ⟨e1, by omega⟩
      · rintro H2 ⟨sm2, cs, g1, g2, g3⟩
        rw [List.length_map] at g3
        refine ⟨sm2.same _ _ upd_same, [(.inr "wide", .ref D1), (.inr "cells", .ref D2), (.inr "rest", .int 0), (.inr "turn", .int 0)], rfl, by show 4 ≤ 15; decide, ?_⟩
        have em : mergeK [] [((.inr "wide" : Key), V.ref D1), (.inr "cells", .ref D2), (.inr "rest", .int 0), (.inr "turn", .int 0)] = stK D1 D2 0 0 := mergeK_nodup _ [] (by show ([.inr "wide", .inr "cells", .inr "rest", .inr "turn"] : List Key).Nodup; decide +kernel)
        rw [em]
        refine k ⟨p, D1, D2⟩ _ (sm.same.free hp) hD1 ((s1.same.free hD2)) ⟨0, 0, ws, cs, upd_same, by rw [upd_ne nD1]; exact sm2.same _ _ (by rw [upd_ne nD1]; exact h1), by rw [upd_ne nD2.symm]; exact g1, by decide, by decide, by decide, h2, by omega, g2, by omega, nD12⟩ ⟨fun b o e => ?_, NoIns.trans (s1.trans sm2).ins .upd⟩
        rw [upd_ne (ne_of_none (sm.same b o e) hp)]
        exact sm2.same _ _ (s1.same b o e)
theorem ok_shuf0 {f ft : Addr} {fd fdt : FuncData} (T : Txt K mg base) (F : Fun K "_law_shuffled" "_law_shuffled" s__law_shuffled f fd) (Ft : Fun K "_law_take" "_law_take" s__law_take ft fdt) (mt : mg "_law_take" = some (.ref ft)) (G : FnOk P w K mg base CX0 2 ft fdt ["state", "size"] spTake) :
    FnOk P w K mg base CX0 3 f fd ["state", "some"] (fun vs H Q _ => spD K w W__law_shuffled vs H Q) := by
  have bt := Ft.binds (ps := ["state", "size"]) fun _ _ _ _ _ _ us hl => match us, hl with | [_, _], _ => rfl
  refine F.ok sc__law_shuffled (fun vs H Q E h => ?_) (fun cdv A outer s H vs Q E hr h => ?_)
  · obtain ⟨z, S0, ds, n, _, _, _, _, i, x, es, rfl, _⟩ := h
    rw [i.length]; rfl
  · obtain ⟨z, S0, ds, n, ⟨hw, ha⟩, st, hS, hz, i, x, es, rfl, hx, pl, h1, h2, k⟩ := h
    obtain ⟨pys, epy, cpy, dpy⟩ := plain_all pl
    cases i with
    | cons i1 t1 =>
      cases t1 with
      | @cons vx _ _ _ i2 t2 =>
        cases t2
        cases i1 with
        | @sta q eq =>
          have e := eq
          obtain ⟨al, xs, rfl, hq, ix⟩ : ∃ al xs, vx = .ref al ∧ (SqL K H al xs ∨ SqT K H al xs) ∧ IsA z K (hide S0 H) xs es := by
            rcases hx with rfl | rfl
            · cases i2 with
              | lst g j => exact ⟨_, _, rfl, .inl (SqL.of (hide_same _ _ g)), j⟩
            · cases i2 with
              | tup g j => exact ⟨_, _, rfl, .inr (sqT_hide g), j⟩
          refine ⟨_, pss_cons (ps_par (i := 2) (j := 3) rfl sc__law_shuffled.nd rfl rfl (by decide) rfl rfl (pa_cons (pe_callTy call_list_of (by rfl) T.nb.list bt_list (pa_cons (pv 1) pa_nil)) (pa_cons (pe_lst pa_nil) pa_nil)) (by rfl))
            (pss_cons (ps_while PassesOwn.never (pt_cmpR (op_neD hr.units) (pv 2) (pe_lst pa_nil) (nomark _))
              (pss_one (ps_expr (pe_bm PySem.F.plainAttrs_list PySem.F.slot_list_append PySem.F.type_list_append mt_append (pv 3) (pa_cons (pe_bm PySem.F.plainAttrs_list PySem.F.slot_list_pop PySem.F.type_list_pop mt_popAt (pv 2)
                (pa_cons (pe_call G hr rfl mt Ft.kp bt .nil pass0 (pa_cons (pv 0) (pa_cons (pe_callB call_len_seq (by rfl) T.nb.len bt_len (pa_cons (pv 2) pa_nil)) pa_nil))) pa_nil)) pa_nil)))))
            (pss_one (ps_ret (pv 3)))), ?_⟩
          refine ⟨_, rfl, al, xs, rfl, hq, fun lp hlp => ⟨by show 0 ≤ sizeLine; decide, fun fp hfp => ⟨_, _, rfl, ?_⟩⟩⟩
          have nfl : lp ≠ fp := ne_of_none (H := upd H lp (.lst xs)) upd_same hfp
          have hfp0 : H fp = none := (same_upd hlp).free hfp
          have zlt := st.noneNe hlp
          have zft := st.noneNe hfp0
          have zl : lp ≠ q.a ∧ lp ≠ q.b ∧ lp ≠ q.c := ⟨fun w => zlt (.inl ⟨q, e, .inl w⟩), fun w => zlt (.inl ⟨q, e, .inr (.inl w)⟩), fun w => zlt (.inl ⟨q, e, .inr (.inr w)⟩)⟩
          have zf : fp ≠ q.a ∧ fp ≠ q.b ∧ fp ≠ q.c := ⟨fun w => zft (.inl ⟨q, e, .inl w⟩), fun w => zft (.inl ⟨q, e, .inr (.inl w)⟩), fun w => zft (.inl ⟨q, e, .inr (.inr w)⟩)⟩
          have zq : ∀ p, p = q.a ∨ p = q.b → S0 p := fun p w => hz.1 p (.inl ⟨q, e, w⟩)
          let S1 : Addr → Prop := fun p => S0 p ∨ p = lp ∨ p = fp
          have s10 : ∀ {G : Hp}, Same (hide S1 G) (hide S0 G) := hide_mono fun p w => .inl w
          refine while_by (fun σ H1 => ∃ (left found : List V) (el ef : List D), σ = [some (.ref q.a), some (.ref al), some (.ref lp), some (.ref fp)] ∧ H1 lp = some (.lst left) ∧ H1 fp = some (.lst found) ∧ IsA z K (hide S1 H1) left el ∧ IsA z K (hide S1 H1) found ef ∧
              (el ++ ef).Perm es ∧ StaOk q (n - found.length) H1 ∧ NoIns H H1 ∧ ∀ p o, p ≠ lp → p ≠ fp → p ≠ q.a → p ≠ q.b → H p = some o → H1 p = some o)
            (fun σ H1 => match H1 lp with | some (.lst left) => left.length | _ => 0) ?_ ?_ (fun σ H Q Q' h ⟨v, hv, hl, w⟩ => ⟨v, hv, hl, fun p hp => by obtain ⟨d, e, a1, a2, a3, a4, kk, ek, a5⟩ := w p hp; exact ⟨d, e, a1, a2, a3, a4, kk, ek, h _ _ a5⟩⟩)
          · have s2 : Grow H (upd (upd H lp (.lst xs)) fp (.lst [])) := (grow_upd hlp).trans (grow_upd hfp)
            refine ⟨xs, [], es, [], rfl, by rw [upd_ne nfl, upd_same], upd_same, ix.evx (.of_same fun p o e => by
              obtain ⟨np, e⟩ := hide_get.mp e
              exact hide_get.mpr ⟨fun w => w.elim np fun w => w.elim (fun w => (ne_of_none e hlp) w) fun w => (ne_of_none e hfp0) w, s2.same p o e⟩), .nil, by simp, (st.same s2).dr q e, s2.ins, fun p o _ _ _ _ e => s2.same p o e⟩
          · rintro σ H1 ⟨left, found, el, ef, rfl, hl1, hf1, il, jf, pm, sq, ni, kp⟩
            have len : el.length + ef.length = es.length := by rw [← List.length_append]; exact pm.length_eq
            refine ⟨_, rfl, by show 0 ≤ sizeLine; decide, fun tp htp => ?_⟩
            have hll : el.all plain = true := by
              rw [List.all_eq_true] at pl ⊢
              exact fun d hd => pl d (pm.subset (List.mem_append_left _ hd))
            obtain ⟨py2, e2, c2, d2⟩ := plain_all hll
            have stp : Same H1 (upd H1 tp (.lst [])) := same_upd htp
            have ntl : lp ≠ tp := ne_of_none hl1 htp
            have ntf : fp ≠ tp := ne_of_none hf1 htp
            have dl : DpAll K (upd H1 tp (.lst [])) left py2 := by
              have h3 := (il.evx (.of_same (hide_keep (S := S1) stp)))
              exact (h3.evx (.of_same hide_same)).dp e2 c2
            refine ⟨_, _, .lst (SqL.of (stp _ _ hl1)) dl, .lst (SqL.of upd_same) .nil, shaped_plain c2 d2, rfl, _, rfl, ?_⟩
            cases el with
            | nil =>
              cases il
              have e3 : py2 = [] := by simpa [D.pyA] using e2.symm
              subst e3
              refine iteF ?_
              refine ⟨_, rfl, ?_⟩
              have ef2 : ef.Perm es := by simpa using pm
              have le : found.length = es.length := by rw [jf.length]; exact ef2.length_eq
              refine k ef ef2 (.ref fp) _ ?_ ?_ (.lst (hide_get.mpr ⟨fun w => hS fp w hfp0, stp _ _ hf1⟩) ((jf.evx (.of_same (hide_keep stp))).evx (.of_same s10)))
              · intro p o hp e
                have n1 : p ≠ lp := ne_of_none e hlp
                have n2 : p ≠ fp := ne_of_none e hfp0
                exact ⟨o, stp _ _ (kp p o n1 n2 (fun w => hp (.inl ⟨q, eq, .inl w⟩)) (fun w => hp (.inl ⟨q, eq, .inr w⟩)) e), .same o, fun _ _ => rfl⟩
              · rw [← le]
                have sq1 : StaOk q (n - found.length) (upd H1 tp (.lst [])) := sq.same fun p hp => by
                  refine upd_ne fun w => ?_
                  obtain ⟨_, _, _, _, k1, k2, k3, _⟩ := sq.ex
                  rcases hp with rfl | rfl | rfl
                  · rw [w, htp] at k1; cases k1
                  · rw [w, htp] at k2; cases k2
                  · rw [w, htp] at k3; cases k3
                refine ⟨fun q1 e1 => by rw [eq] at e1; cases e1; exact sq1, fun a vf vn ef => ?_, z.stay H _ (fun p o so eo => ?_) (ni.trans .upd) st.inv⟩
                · obtain ⟨m', m0, g1, g2⟩ := st.fr a vf vn ef
                  exact ⟨m', m0, stp _ _ (kp a _ (ne_of_none g1 hlp) (ne_of_none g1 hfp0) (fun w => st.notZs ⟨vf, vn, ef⟩ (.inl ⟨q, eq, .inl w⟩)) (fun w => st.notZs ⟨vf, vn, ef⟩ (.inl ⟨q, eq, .inr w⟩)) g1), g2⟩
                · obtain ⟨r', t, ws, cs, g1, g2, g3, g4⟩ := (st.dr q eq).ex
                  refine stp _ _ (kp p o (ne_of_none eo hlp) (ne_of_none eo hfp0) (fun w => ?_) (fun w => ?_) eo)
                  · rw [w, g1] at eo; cases eo; exact so.2 _ rfl
                  · rw [w, g2] at eo; cases eo; exact so.1 _ rfl
            | cons d0 el =>
              have e4 : PyData.eqv (.list py2) (.list []) = false := by
                cases py2 with
                | nil =>
                  have := pyA_len e2
                  simp at this
                | cons a b => rfl
              rw [e4]
              refine iteT ?_
              have lpos : 0 < left.length := by rw [il.length]; simp
              have lle : left.length ≤ 1000 := by rw [il.length]; simp at len ⊢; omega
              have fle : found.length + 1 ≤ n := by rw [jf.length]; simp at len; omega
              refine ⟨_, rfl, .inl ⟨rfl, _, SqL.of (stp _ _ hf1)⟩, _, rfl, .inl ⟨rfl, _, SqL.of (stp _ _ hl1)⟩, _, rfl, _, rfl, lp, left, rfl, .inl (SqL.of (stp _ _ hl1)), ?_⟩
              refine ⟨q, n - found.length, (left.length : Int), rfl, sq.same (fun p hp => upd_ne fun w => by
                obtain ⟨_, _, _, _, k1, k2, k3, _⟩ := sq.ex
                rcases hp with rfl | rfl | rfl
                · rw [w, htp] at k1; cases k1
                · rw [w, htp] at k2; cases k2
                · rw [w, htp] at k3; cases k3), by omega, by omega, by omega, fun v H3 v0 v1 sq3 bu => ?_⟩
              have z3 : ∀ p o, p ≠ q.a → p ≠ q.b → H1 p = some o → H3 p = some o := fun p o n1 n2 e => bu.1 p o n1 n2 (stp p o e)
              have hl3 : H3 lp = some (.lst left) := z3 _ _ zl.1 zl.2.1 hl1
              have hf3 : H3 fp = some (.lst found) := z3 _ _ zf.1 zf.2.1 hf1
              obtain ⟨j, rfl⟩ : ∃ j : Nat, v = (j : Int) := ⟨v.toNat, by omega⟩
              have jl : j < left.length := by omega
              refine ⟨lp, left, (j : Int), j, left[j], rfl, rfl, hl3, by omega, by omega, ?_, List.getElem?_eq_getElem jl, ?_⟩
              · unfold seqIndex?
                have c1 : ¬ ((j : Int) < 0) := by omega
                simp only [c1, if_false]
                rw [if_pos (by simp; omega)]
                simp
              have nlf2 : fp ≠ lp := nfl.symm
              refine ⟨fp, found, left[j], rfl, rfl, by rw [upd_ne nlf2]; exact hf3, ?_, ?_⟩
              · exact small1000 (by have := jf.length; simp at len; omega)
              obtain ⟨dj, edj, ij⟩ := il.get (List.getElem?_eq_getElem jl)
              have ev : Evx (hide S1 H1) (hide S1 (upd (upd H3 lp (.lst (left.eraseIdx j))) fp (.lst (found ++ [left[j]])))) := .of_same fun p o e => by
                obtain ⟨np, e⟩ := hide_get.mp e
                have n1 : p ≠ lp := fun w => np (.inr (.inl w))
                have n2 : p ≠ fp := fun w => np (.inr (.inr w))
                refine hide_get.mpr ⟨np, ?_⟩
                rw [upd_ne n2, upd_ne n1]
                exact z3 p o (fun w => np (.inl (zq p (.inl w)))) (fun w => np (.inl (zq p (.inr w)))) e
              refine ⟨⟨left.eraseIdx j, found ++ [left[j]], (d0 :: el).eraseIdx j, ef ++ [dj], rfl, by rw [upd_ne nfl, upd_same], upd_same, (il.eraseIdx j).evx ev, (jf.append (.cons ij .nil)).evx ev, ?_, ?_, ((ni.trans (NoIns.trans .upd bu.2)).trans .upd).trans .upd, ?_⟩, ?_⟩
              · have p1 : (dj :: (d0 :: el).eraseIdx j).Perm (d0 :: el) := perm_erase edj
                refine List.Perm.trans ?_ pm
                rw [← List.append_assoc]
                refine List.perm_append_comm.trans ?_
                exact (p1.append_right ef)
              · have e5 : n - (found ++ [left[j]]).length = n - found.length - 1 := by rw [List.length_append]; simp; omega
                rw [e5]
                exact sq3.same fun p hp => by
                  rw [upd_ne, upd_ne]
                  · rcases hp with rfl | rfl | rfl
                    · exact zl.1.symm
                    · exact zl.2.1.symm
                    · exact zl.2.2.symm
                  · rcases hp with rfl | rfl | rfl
                    · exact zf.1.symm
                    · exact zf.2.1.symm
                    · exact zf.2.2.symm
              · intro p o n1 n2 n3 n4 e
                rw [upd_ne n2, upd_ne n1]
                exact z3 p o n3 n4 (kp p o n1 n2 n3 n4 e)
              · show (match (upd (upd H3 lp (.lst (left.eraseIdx j))) fp (.lst (found ++ [left[j]]))) lp with | some (.lst left) => left.length | _ => 0) < (match H1 lp with | some (.lst left) => left.length | _ => 0)
                rw [upd_ne nfl, upd_same, hl1]
                show (left.eraseIdx j).length < left.length
                rw [List.length_eraseIdx_of_lt jl]
                omega
abbrev s_is_number : Stmt := top 4
theorem sc_is_number : FnScope n_is_number ["thing"] (defScope s_is_number) := ⟨rfl, rfl, rfl, by decide +kernel, rfl, by decide +kernel, by decide +kernel⟩
theorem ok_is_number {f : Addr} {fd : FuncData} (T : Txt K mg base) (a : At K mg "is_number" s_is_number f fd) : Ok P w K mg base "is_number" s_is_number 1 ["thing"] W_is_number := by
  refine Ok.mk' a (a.fn.binds fun _ _ _ _ _ _ us hl => match us, hl with | [_], _ => rfl) (fnG_of a.fn sc_is_number w_is_number.1 w_is_number.2 fun cdv A outer s H hr hgd => ⟨m_is_number, ?_, r_is_number⟩)
  unfold m_is_number
  exact (dss_one (ds_ret (de_and (de_callB cd_isi (by rfl) T.nb.isinstance bt_isinstance (da_cons (de_v 0) (da_cons (de_ty T.nb.int bt_int) da_nil))) (de_one (de_not (de_callB cd_isi (by rfl) T.nb.isinstance bt_isinstance (da_cons (de_v 0) (da_cons (de_ty T.nb.bool bt_bool) da_nil))))))))
abbrev s_is_count : Stmt := top 5
theorem sc_is_count : FnScope n_is_count ["thing"] (defScope s_is_count) := ⟨rfl, rfl, rfl, by decide +kernel, rfl, by decide +kernel, by decide +kernel⟩
theorem ok_is_count {f : Addr} {fd : FuncData} (T : Txt K mg base) (a : At K mg "is_count" s_is_count f fd) (o_is_number : Ok P w K mg base "is_number" s_is_number 1 ["thing"] W_is_number) : Ok P w K mg base "is_count" s_is_count 2 ["thing"] W_is_count := by
  refine Ok.mk' a (a.fn.binds fun _ _ _ _ _ _ us hl => match us, hl with | [_], _ => rfl) (fnG_of a.fn sc_is_count w_is_count.1 w_is_count.2 fun cdv A outer s H hr hgd => ⟨m_is_count, ?_, r_is_count⟩)
  unfold m_is_count
  exact (dss_one (ds_ret (de_and (de_ok o_is_number (hr.mono (by omega)) hgd (da_cons (de_v 0) da_nil)) (de_one (de_cmp od_ge (de_v 0) de_int (nomark _))))))
abbrev s_is_field : Stmt := top 6
theorem sc_is_field : FnScope n_is_field ["thing"] (defScope s_is_field) := ⟨rfl, rfl, rfl, by decide +kernel, rfl, by decide +kernel, by decide +kernel⟩
theorem ok_is_field {f : Addr} {fd : FuncData} (T : Txt K mg base) (a : At K mg "is_field" s_is_field f fd) : Ok P w K mg base "is_field" s_is_field 1 ["thing"] W_is_field := by
  refine Ok.mk' a (a.fn.binds fun _ _ _ _ _ _ us hl => match us, hl with | [_], _ => rfl) (fnG_of a.fn sc_is_field w_is_field.1 w_is_field.2 fun cdv A outer s H hr hgd => ⟨m_is_field, ?_, r_is_field⟩)
  unfold m_is_field
  exact (dss_cons (ds_if (DW.dt (dw_or (dt_not (dt_val (de_callB cd_isi (by rfl) T.nb.isinstance bt_isinstance (da_cons (de_v 0) (da_cons (de_ty T.nb.str bt_str) da_nil))))) (dw_or (dt_not (dt_chain od_le od_le de_int (de_callB cd_len (by rfl) T.nb.len bt_len (da_cons (de_v 0) da_nil)) (de_glob T.g_MOST_LETTERS))) (dw_or1 (dt_cmp od_isin (de_v 0) (de_glob T.g_KEPT_WORDS) (by rfl)))))) (dss_one (ds_ret de_bl)) dss_nil)
    (dss_one (ds_ret (de_callB (cd_all rfl) (by rfl) T.nb.all bt_all (da_cons (de_lc (p := fun z => z.w = w) (i := 1) (by first | exact fun _ _ _ h => h | exact fun _ _ _ h => h.1) rfl sc_is_field.nd (di_iter (de_v 0)) (blkOk_by (own := [("sign", 1)]) (N := n_is_field) (sc := defScope s_is_field) (by decide +kernel)) (fun _ _ _ _ _ => pg_name (i := 1) sc_is_field.nd rfl (by first | exact Or.inl rfl | exact Or.inr rfl)) (fun _ _ _ _ _ => dts_nil) (fun _ _ _ _ _ => (de_cmp od_isin (de_v 1) (de_glob T.g_LETTERS) (by rfl)))) da_nil)))))
abbrev s_is_tree_of : Stmt := top 14
theorem sc_is_tree_of : FnScope n_is_tree_of ["thing", "levels", "is_test_alone"] (defScope s_is_tree_of) := ⟨rfl, rfl, rfl, by decide +kernel, rfl, by decide +kernel, by decide +kernel⟩
abbrev s_are_trees : Stmt := top 13
theorem sc_are_trees : FnScope n_are_trees ["things", "levels", "is_test_alone"] (defScope s_are_trees) := ⟨rfl, rfl, rfl, by decide +kernel, rfl, by decide +kernel, by decide +kernel⟩
theorem ok_is_tree_of {f : Addr} {fd : FuncData} {kv : Nat} {W W_are_trees : WF} (T : Txt K mg base) (a : At K mg "is_tree_of" s_is_tree_of f fd) (o_is_count : Ok P w K mg base "is_count" s_is_count 2 ["thing"] W_is_count) (o_is_field : Ok P w K mg base "is_field" s_is_field 1 ["thing"] W_is_field) (o_are_trees : Ok P w K mg base "are_trees" s_are_trees kv ["things", "levels", "is_test_alone"] W_are_trees) (hk : 2 ≤ kv) (gd : Good W 3) (r : ∀ ds n kk, W ds n kk → m_is_tree_of W_are_trees (startE n_is_tree_of.length ds n) { nx := fun e => kk .non e.cr, rt := fun d e => kk d e.cr }) : Ok P w K mg base "is_tree_of" s_is_tree_of (kv + 1) ["thing", "levels", "is_test_alone"] W := by
  refine Ok.mk' a (a.fn.binds fun _ _ _ _ _ _ us hl => match us, hl with | [_, _, _], _ => rfl) (fnG_of a.fn sc_is_tree_of gd.1 gd.2 fun cdv A outer s H hr hgd => ⟨m_is_tree_of W_are_trees, ?_, r⟩)
  unfold m_is_tree_of
  exact (dss_cons (ds_if (DW.dt (dw_or (dt_cmp (od_eqX hr.units T.low) (de_v 1) de_int (nomark _)) (dw_or (dt_not (dt_val (de_callB cd_isi (by rfl) T.nb.isinstance bt_isinstance (da_cons (de_v 0) (da_cons (de_ty T.nb.tuple bt_tuple) da_nil))))) (dw_or (dt_cmp (od_eqX hr.units T.low) (de_callB cd_len (by rfl) T.nb.len bt_len (da_cons (de_v 0) da_nil)) de_int (nomark _)) (dw_or1 (dt_not (dt_val (de_callB cd_isi (by rfl) T.nb.isinstance bt_isinstance (da_cons (de_ix xd_ix (de_v 0) de_int (fun _ _ => rfl)) (da_cons (de_ty T.nb.str bt_str) da_nil)))))))))) (dss_one (ds_ret de_bl)) dss_nil)
    (dss_cons (ds_par (i := 3) (j := 4) rfl sc_is_tree_of.nd rfl rfl (by decide) rfl rfl (da_cons (de_ix xd_ix (de_v 0) de_int (fun _ _ => rfl)) (da_cons (de_slice (de_v 0) (do_some de_int) do_none) da_nil)) (by rfl))
    (dss_cons (ds_if (DW.dt (dw_and (dt_val (de_v 2)) (dw_and1 (dt_cmp od_isin (de_v 3) (de_glob T.g_ONLY_TREES) (by rfl))))) (dss_one (ds_ret de_bl)) dss_nil)
    (dss_cons (ds_if (dt_cmp od_isin (de_v 3) (de_glob T.g_BARE) (by rfl)) (dss_one (ds_ret (de_cmp (od_eqZ hr.units) (de_v 4) (de_tup da_nil) (nomark _)))) dss_nil)
    (dss_cons (ds_if (dt_cmp od_isin (de_v 3) (de_glob T.g_WITH_NUMBER) (by rfl)) (dss_one (ds_ret (de_and (de_cmp (od_eqX hr.units T.low) (de_callB cd_len (by rfl) T.nb.len bt_len (da_cons (de_v 4) da_nil)) de_int (nomark _)) (de_and (de_ok o_is_field (hr.mono (by omega)) hgd (da_cons (de_ix xd_ix (de_v 4) de_int (fun _ _ => rfl)) da_nil)) (de_one (de_ok o_is_count (hr.mono (by omega)) hgd (da_cons (de_ix xd_ix (de_v 4) de_int (fun _ _ => rfl)) da_nil))))))) dss_nil)
    (dss_cons (ds_if (dt_cmp (od_eqX hr.units T.low) (de_v 3) de_str (nomark _)) (dss_one (ds_ret (de_and (de_cmp (od_eqX hr.units T.low) (de_callB cd_len (by rfl) T.nb.len bt_len (da_cons (de_v 4) da_nil)) de_int (nomark _)) (de_and (de_ok o_is_field (hr.mono (by omega)) hgd (da_cons (de_ix xd_ix (de_v 4) de_int (fun _ _ => rfl)) da_nil)) (de_and (de_ok o_is_field (hr.mono (by omega)) hgd (da_cons (de_ix xd_ix (de_v 4) de_int (fun _ _ => rfl)) da_nil)) (de_one (de_cmp (od_neX hr.units T.low) (de_ix xd_ix (de_v 4) de_int (fun _ _ => rfl)) (de_ix xd_ix (de_v 4) de_int (fun _ _ => rfl)) (nomark _)))))))) dss_nil)
    (dss_cons (ds_if (dt_cmp od_isin (de_v 3) (de_glob T.g_JOINING) (by rfl)) (dss_one (ds_ret (de_and (de_cmp od_ge (de_callB cd_len (by rfl) T.nb.len bt_len (da_cons (de_v 4) da_nil)) de_int (nomark _)) (de_one (de_ok o_are_trees (hr.mono (by omega)) hgd (da_cons (de_v 4) (da_cons (de_op od_sub (de_v 1) de_int) (da_cons (de_v 2) da_nil)))))))) dss_nil)
    (dss_cons (ds_if (DW.dt (dw_or (dt_cmp (od_eqX hr.units T.low) (de_v 3) de_str (nomark _)) (dw_or1 (dt_cmp (od_eqX hr.units T.low) (de_v 3) de_str (nomark _))))) (dss_one (ds_ret (de_and (de_cmp (od_eqX hr.units T.low) (de_callB cd_len (by rfl) T.nb.len bt_len (da_cons (de_v 4) da_nil)) de_int (nomark _)) (de_one (de_ok o_are_trees (hr.mono (by omega)) hgd (da_cons (de_v 4) (da_cons (de_op od_sub (de_v 1) de_int) (da_cons (de_or (de_v 2) (de_one (de_cmp (od_eqX hr.units T.low) (de_v 3) de_str (nomark _)))) da_nil)))))))) dss_nil)
    (dss_one (ds_ret de_bl))))))))))
theorem ok_are_trees {f : Addr} {fd : FuncData} {kv : Nat} {W W_is_tree_of : WF} (T : Txt K mg base) (a : At K mg "are_trees" s_are_trees f fd) (o_is_tree_of : Ok P w K mg base "is_tree_of" s_is_tree_of kv ["thing", "levels", "is_test_alone"] W_is_tree_of) (hk : 0 ≤ kv) (gd : Good W 3) (r : ∀ ds n kk, W ds n kk → m_are_trees W_is_tree_of (startE n_are_trees.length ds n) { nx := fun e => kk .non e.cr, rt := fun d e => kk d e.cr }) : Ok P w K mg base "are_trees" s_are_trees (kv + 1) ["things", "levels", "is_test_alone"] W := by
  refine Ok.mk' a (a.fn.binds fun _ _ _ _ _ _ us hl => match us, hl with | [_, _, _], _ => rfl) (fnG_of a.fn sc_are_trees gd.1 gd.2 fun cdv A outer s H hr hgd => ⟨m_are_trees W_is_tree_of, ?_, r⟩)
  unfold m_are_trees
  exact (dss_one (ds_ret (de_callB (cd_all rfl) (by rfl) T.nb.all bt_all (da_cons (de_lc (p := fun z => z.w = w) (i := 3) (by first | exact fun _ _ _ h => h | exact fun _ _ _ h => h.1) rfl sc_are_trees.nd (di_iter (de_v 0)) (blkOk_by (own := [("thing", 3)]) (N := n_are_trees) (sc := defScope s_are_trees) (by decide +kernel)) (fun _ _ _ _ _ => pg_name (i := 3) sc_are_trees.nd rfl (by first | exact Or.inl rfl | exact Or.inr rfl)) (fun _ _ _ _ _ => dts_nil) (fun _ _ _ _ _ => (de_ok o_is_tree_of (hr.mono (by omega)) hgd (da_cons (de_v 3) (da_cons (de_v 1) (da_cons (de_v 2) da_nil)))))) da_nil))))
theorem all_is_tree_of {f g : Addr} {fd gd : FuncData} (T : Txt K mg base) (a : At K mg "is_tree_of" s_is_tree_of f fd) (b : At K mg "are_trees" s_are_trees g gd) (o_is_count : Ok P w K mg base "is_count" s_is_count 2 ["thing"] W_is_count) (o_is_field : Ok P w K mg base "is_field" s_is_field 1 ["thing"] W_is_field) : ∀ L, Ok P w K mg base "is_tree_of" s_is_tree_of (3 + 2 * L) ["thing", "levels", "is_test_alone"] (V_is_tree_of L)
  | 0 => ok_is_tree_of (kv := 2) T a o_is_count o_is_field (Ok.never b (b.fn.binds fun _ _ _ _ _ _ us hl => match us, hl with | [_, _, _], _ => rfl)) (by omega) (g_is_tree_of 0) (r_is_tree_of 0)
  | L + 1 => ok_is_tree_of (kv := 3 + 2 * L + 1) T a o_is_count o_is_field (ok_are_trees (kv := 3 + 2 * L) T b (all_is_tree_of T a b o_is_count o_is_field L) (by omega) (g_are_trees L) (r_are_trees L)) (by omega) (g_is_tree_of (L + 1)) (r_is_tree_of (L + 1))
abbrev s_is_tree : Stmt := top 15
theorem sc_is_tree : FnScope n_is_tree ["thing"] (defScope s_is_tree) := ⟨rfl, rfl, rfl, by decide +kernel, rfl, by decide +kernel, by decide +kernel⟩
theorem ok_is_tree {f : Addr} {fd : FuncData} (T : Txt K mg base) (a : At K mg "is_tree" s_is_tree f fd) (o_is_tree_of : Ok P w K mg base "is_tree_of" s_is_tree_of 27 ["thing", "levels", "is_test_alone"] W_is_tree_of) : Ok P w K mg base "is_tree" s_is_tree 28 ["thing"] W_is_tree := by
  refine Ok.mk' a (a.fn.binds fun _ _ _ _ _ _ us hl => match us, hl with | [_], _ => rfl) (fnG_of a.fn sc_is_tree w_is_tree.1 w_is_tree.2 fun cdv A outer s H hr hgd => ⟨m_is_tree, ?_, r_is_tree⟩)
  unfold m_is_tree
  exact (dss_one (ds_ret (de_ok o_is_tree_of (hr.mono (by omega)) hgd (da_cons (de_v 0) (da_cons (de_glob T.g_MOST_LEVELS) (da_cons de_bl da_nil))))))
abbrev s_is_test : Stmt := top 16
theorem sc_is_test : FnScope n_is_test ["thing"] (defScope s_is_test) := ⟨rfl, rfl, rfl, by decide +kernel, rfl, by decide +kernel, by decide +kernel⟩
theorem ok_is_test {f : Addr} {fd : FuncData} (T : Txt K mg base) (a : At K mg "is_test" s_is_test f fd) (o_is_tree_of : Ok P w K mg base "is_tree_of" s_is_tree_of 27 ["thing", "levels", "is_test_alone"] W_is_tree_of) : Ok P w K mg base "is_test" s_is_test 28 ["thing"] W_is_test := by
  refine Ok.mk' a (a.fn.binds fun _ _ _ _ _ _ us hl => match us, hl with | [_], _ => rfl) (fnG_of a.fn sc_is_test w_is_test.1 w_is_test.2 fun cdv A outer s H hr hgd => ⟨m_is_test, ?_, r_is_test⟩)
  unfold m_is_test
  exact (dss_one (ds_ret (de_ok o_is_tree_of (hr.mono (by omega)) hgd (da_cons (de_v 0) (da_cons (de_glob T.g_MOST_LEVELS) (da_cons de_bl da_nil))))))
abbrev s__law_pick : Stmt := top 21
theorem sc__law_pick : FnScope n__law_pick ["state", "some"] (defScope s__law_pick) := ⟨rfl, rfl, rfl, by decide +kernel, rfl, by decide +kernel, by decide +kernel⟩
theorem ok__law_pick {f : Addr} {fd : FuncData} (T : Txt K mg base) (a : At K mg "_law_pick" s__law_pick f fd) (o__law_take : Ok P w K mg base "_law_take" s__law_take 2 ["state", "size"] W__law_take) : Ok P w K mg base "_law_pick" s__law_pick 3 ["state", "some"] W__law_pick := by
  refine Ok.mk' a (a.fn.binds fun _ _ _ _ _ _ us hl => match us, hl with | [_, _], _ => rfl) (fnG_of a.fn sc__law_pick w__law_pick.1 w__law_pick.2 fun cdv A outer s H hr hgd => ⟨m__law_pick, ?_, r__law_pick⟩)
  unfold m__law_pick
  exact (dss_one (ds_ret (de_ix xd_ix (de_v 1) (de_ok o__law_take (hr.mono (by omega)) hgd (da_cons (de_v 0) (da_cons (de_callB cd_len (by rfl) T.nb.len bt_len (da_cons (de_v 1) da_nil)) da_nil))) (fun _ _ => rfl))))
abbrev s__law_odd : Stmt := top 23
theorem sc__law_odd : FnScope n__law_odd ["state"] (defScope s__law_odd) := ⟨rfl, rfl, rfl, by decide +kernel, rfl, by decide +kernel, by decide +kernel⟩
theorem ok__law_odd {f : Addr} {fd : FuncData} (T : Txt K mg base) (a : At K mg "_law_odd" s__law_odd f fd) (o__law_pick : Ok P w K mg base "_law_pick" s__law_pick 3 ["state", "some"] W__law_pick) : Ok P w K mg base "_law_odd" s__law_odd 4 ["state"] W__law_odd := by
  refine Ok.mk' a (a.fn.binds fun _ _ _ _ _ _ us hl => match us, hl with | [_], _ => rfl) (fnG_of a.fn sc__law_odd w__law_odd.1 w__law_odd.2 fun cdv A outer s H hr hgd => ⟨m__law_odd, ?_, r__law_odd⟩)
  unfold m__law_odd
  exact (dss_cons (ds_s (i := 1) (de_lst (da_cons de_non (da_cons de_bl (da_cons (de_un ud_neg de_int) (da_cons de_str (da_cons de_str (da_cons de_str (da_cons (de_tup da_nil) (da_cons (de_tup (da_cons de_non da_nil)) (da_cons (de_tup (da_cons de_str da_nil)) (da_cons (de_tup (da_cons de_str (da_cons de_str da_nil))) (da_cons (de_tup (da_cons de_str (da_cons de_int da_nil))) (da_cons (de_lst da_nil) (da_cons de_dnew da_nil)))))))))))))) sc__law_odd.nd)
    (dss_cons (ds_s (i := 1) (de_op od_add (de_v 1) (de_lst (da_cons (de_tup (da_cons de_str (da_cons (de_tup (da_cons de_str da_nil)) da_nil))) (da_cons (de_tup (da_cons de_str (da_cons (de_tup (da_cons de_str da_nil)) da_nil))) (da_cons (de_tup (da_cons de_str (da_cons de_str (da_cons de_int da_nil)))) (da_cons (de_tup (da_cons de_str (da_cons de_str (da_cons de_str da_nil)))) (da_cons (de_lst (da_cons de_str da_nil)) (da_cons (de_disp (dps_cons de_str de_int dps_nil)) da_nil)))))))) sc__law_odd.nd)
    (dss_one (ds_ret (de_ok o__law_pick (hr.mono (by omega)) hgd (da_cons (de_v 0) (da_cons (de_op od_add (de_v 1) (de_lst (da_cons (de_tup (da_cons de_str da_nil)) (da_cons (de_tup (da_cons (de_un ud_neg de_int) (da_cons de_int da_nil))) (da_cons (de_tup (da_cons de_bl (da_cons de_int da_nil))) (da_cons (de_op od_add (de_op od_pow de_int de_int) de_int) (da_cons de_str (da_cons (de_tup (da_cons de_str (da_cons de_str (da_cons de_int da_nil)))) da_nil)))))))) da_nil)))))))
abbrev s__law_frame : Stmt := top 24
theorem sc__law_frame : FnScope n__law_frame ["state", "upto"] (defScope s__law_frame) := ⟨rfl, rfl, rfl, by decide +kernel, rfl, by decide +kernel, by decide +kernel⟩
theorem ok__law_frame {f : Addr} {fd : FuncData} (T : Txt K mg base) (a : At K mg "_law_frame" s__law_frame f fd) (o__law_shuffled : Ok P w K mg base "_law_shuffled" s__law_shuffled 3 ["state", "some"] W__law_shuffled) (o__law_take : Ok P w K mg base "_law_take" s__law_take 2 ["state", "size"] W__law_take) : Ok P w K mg base "_law_frame" s__law_frame 4 ["state", "upto"] W__law_frame := by
  refine Ok.mk' a (a.fn.binds fun _ _ _ _ _ _ us hl => match us, hl with | [_, _], _ => rfl) (fnG_of a.fn sc__law_frame w__law_frame.1 w__law_frame.2 fun cdv A outer s H hr hgd => ⟨m__law_frame, ?_, r__law_frame⟩)
  unfold m__law_frame
  exact (dss_cons (ds_s (i := 2) (de_lst (da_cons de_str (da_cons de_str (da_cons de_str (da_cons de_str (da_cons de_str (da_cons de_str (da_cons de_str (da_cons de_str (da_cons de_str (da_cons de_str (da_cons de_str (da_cons de_str da_nil))))))))))))) sc__law_frame.nd)
    (dss_cons (ds_s (i := 3) (de_callB cd_sorted (by rfl) T.nb.sorted bt_sorted (da_cons (de_slice (de_ok o__law_shuffled (hr.mono (by omega)) hgd (da_cons (de_v 0) (da_cons (de_v 2) da_nil))) do_none (do_some (de_op od_add de_int (de_ok o__law_take (hr.mono (by omega)) hgd (da_cons (de_v 0) (da_cons (de_v 1) da_nil)))))) da_nil)) sc__law_frame.nd)
    (dss_cons (ds_s (i := 4) (de_slice (de_ok o__law_shuffled (hr.mono (by omega)) hgd (da_cons (de_v 0) (da_cons (de_lst (da_cons de_int (da_cons de_int (da_cons de_int (da_cons de_int (da_cons de_int (da_cons (de_op od_pow de_int de_int) da_nil))))))) da_nil))) do_none (do_some (de_op od_add de_int (de_ok o__law_take (hr.mono (by omega)) hgd (da_cons (de_v 0) (da_cons de_int da_nil)))))) sc__law_frame.nd)
    (dss_one (ds_ret (de_disp (dps_cons de_str (de_callTy cd_tuple (by rfl) T.nb.tuple bt_tuple (da_cons (de_v 3) da_nil)) (dps_cons de_str (de_v 4) (dps_cons de_str de_int dps_nil)))))))))
abbrev s__law_test : Stmt := top 25
theorem sc__law_test : FnScope n__law_test ["state", "frame", "deep"] (defScope s__law_test) := ⟨rfl, rfl, rfl, by decide +kernel, rfl, by decide +kernel, by decide +kernel⟩
theorem ok__law_test {f : Addr} {fd : FuncData} {kv : Nat} {W W__law_test : WF} (T : Txt K mg base) (a : At K mg "_law_test" s__law_test f fd) (o__law_pick : Ok P w K mg base "_law_pick" s__law_pick 3 ["state", "some"] W__law_pick) (o__law_take : Ok P w K mg base "_law_take" s__law_take 2 ["state", "size"] W__law_take) (o__law_test : Ok P w K mg base "_law_test" s__law_test kv ["state", "frame", "deep"] W__law_test) (hk : 3 ≤ kv) (gd : Good W 3) (r : ∀ ds n kk, W ds n kk → m__law_test W__law_test (startE n__law_test.length ds n) { nx := fun e => kk .non e.cr, rt := fun d e => kk d e.cr }) : Ok P w K mg base "_law_test" s__law_test (kv + 1) ["state", "frame", "deep"] W := by
  refine Ok.mk' a (a.fn.binds fun _ _ _ _ _ _ us hl => match us, hl with | [_, _, _], _ => rfl) (fnG_of a.fn sc__law_test gd.1 gd.2 fun cdv A outer s H hr hgd => ⟨m__law_test W__law_test, ?_, r⟩)
  unfold m__law_test
  exact (dss_cons (ds_s (i := 3) (de_ok o__law_take (hr.mono (by omega)) hgd (da_cons (de_v 0) (da_cons de_int da_nil))) sc__law_test.nd)
    (dss_cons (ds_if (dt_cmp (od_eqX hr.units T.low) (de_v 3) de_int (nomark _)) (dss_one (ds_ret (de_ok o__law_pick (hr.mono (by omega)) hgd (da_cons (de_v 0) (da_cons (de_lst (da_cons (de_tup (da_cons de_str da_nil)) (da_cons (de_tup (da_cons de_str da_nil)) da_nil))) da_nil))))) dss_nil)
    (dss_cons (ds_if (DW.dt (dw_or (dt_cmp (od_eqX hr.units T.low) (de_v 2) de_int (nomark _)) (dw_or1 (dt_cmp od_lt (de_v 3) de_int (nomark _))))) (dss_one (ds_ret (de_tup (da_cons de_str (da_cons (de_ok o__law_pick (hr.mono (by omega)) hgd (da_cons (de_v 0) (da_cons (de_dget (hu_of hr) (de_v 1) de_str (fun _ _ => rfl)) da_nil))) (da_cons (de_ok o__law_pick (hr.mono (by omega)) hgd (da_cons (de_v 0) (da_cons (de_dget (hu_of hr) (de_v 1) de_str (fun _ _ => rfl)) da_nil))) da_nil)))))) dss_nil)
    (dss_cons (ds_if (DW.dt (dw_or (dt_cmp (od_eqX hr.units T.low) (de_v 3) de_int (nomark _)) (dw_or1 (dt_cmp (od_eqX hr.units T.low) (de_v 3) de_int (nomark _))))) (dss_one (ds_ret (de_tup (da_cons de_str (da_cons (de_ok o__law_test (hr.mono (by omega)) hgd (da_cons (de_v 0) (da_cons (de_v 1) (da_cons (de_op od_sub (de_v 2) de_int) da_nil)))) da_nil))))) dss_nil)
    (dss_cons (ds_s (i := 4) (de_op od_add de_int (de_callTy cd_int (by rfl) T.nb.int bt_int (da_cons (de_cmp (od_eqX hr.units T.low) (de_ok o__law_take (hr.mono (by omega)) hgd (da_cons (de_v 0) (da_cons de_int da_nil))) de_int (nomark _)) da_nil))) sc__law_test.nd)
    (dss_cons (ds_setLc (p := fun z => z.w = w) (k := 5) (i := 6) (by first | exact fun _ _ _ h => h | exact fun _ _ _ h => h.1) rfl sc__law_test.nd rfl rfl (sw_true rfl rfl rfl (by decide +kernel)) (di_range (by rfl) T.nb.range (da_cons (de_v 4) da_nil)) (blkOk_by (own := [("turn", 6)]) (N := n__law_test) (sc := defScope s__law_test) (by decide +kernel)) (fun _ _ _ _ _ => pg_name (i := 6) sc__law_test.nd rfl (by first | exact Or.inl rfl | exact Or.inr rfl)) (fun _ _ _ _ _ => dts_nil) (fun _ _ _ _ _ => (de_ok o__law_test (hr.mono (by omega)) hgd (da_cons (de_v 0) (da_cons (de_v 1) (da_cons (de_op od_sub (de_v 2) de_int) da_nil))))))
    (dss_one (ds_ret (de_op od_add (de_tup (da_cons (de_ok o__law_pick (hr.mono (by omega)) hgd (da_cons (de_v 0) (da_cons (de_lst (da_cons de_str (da_cons de_str da_nil))) da_nil))) da_nil)) (de_callTy cd_tuple (by rfl) T.nb.tuple bt_tuple (da_cons (de_v 5) da_nil)))))))))))
theorem all__law_test {f : Addr} {fd : FuncData} (T : Txt K mg base) (a : At K mg "_law_test" s__law_test f fd) (o__law_pick : Ok P w K mg base "_law_pick" s__law_pick 3 ["state", "some"] W__law_pick) (o__law_take : Ok P w K mg base "_law_take" s__law_take 2 ["state", "size"] W__law_take) : ∀ L, Ok P w K mg base "_law_test" s__law_test (4 + L) ["state", "frame", "deep"] (V__law_test L)
  | 0 => ok__law_test (kv := 3) T a o__law_pick o__law_take (Ok.never a (a.fn.binds fun _ _ _ _ _ _ us hl => match us, hl with | [_, _, _], _ => rfl)) (by omega) (g__law_test 0) (r__law_test 0)
  | L + 1 => ok__law_test (kv := 4 + L) T a o__law_pick o__law_take (all__law_test T a o__law_pick o__law_take L) (by omega) (g__law_test (L + 1)) (r__law_test (L + 1))
abbrev s__law_leaf : Stmt := top 26
theorem sc__law_leaf : FnScope n__law_leaf ["state", "frame"] (defScope s__law_leaf) := ⟨rfl, rfl, rfl, by decide +kernel, rfl, by decide +kernel, by decide +kernel⟩
theorem ok__law_leaf {f : Addr} {fd : FuncData} (T : Txt K mg base) (a : At K mg "_law_leaf" s__law_leaf f fd) (o__law_pick : Ok P w K mg base "_law_pick" s__law_pick 3 ["state", "some"] W__law_pick) (o__law_shuffled : Ok P w K mg base "_law_shuffled" s__law_shuffled 3 ["state", "some"] W__law_shuffled) (o__law_take : Ok P w K mg base "_law_take" s__law_take 2 ["state", "size"] W__law_take) (o__law_test : Ok P w K mg base "_law_test" s__law_test 9 ["state", "frame", "deep"] W__law_test) : OkM P w K mg base "_law_leaf" s__law_leaf 10 ["state", "frame"] W__law_leaf := by
  refine OkM.mk' a (a.fn.binds fun _ _ _ _ _ _ us hl => match us, hl with | [_, _], _ => rfl) (fnM_of a.fn sc__law_leaf w__law_leaf fun cdv A outer s H hr hgd => ⟨m__law_leaf, ?_, r__law_leaf⟩)
  unfold m__law_leaf
  exact (dss_cons (ds_par (i := 2) (j := 3) rfl sc__law_leaf.nd rfl rfl (by decide) rfl rfl (da_cons (de_dget (hu_of hr) (de_v 1) de_str (fun _ _ => rfl)) (da_cons (de_ok o__law_take (hr.mono (by omega)) hgd (da_cons (de_v 0) (da_cons de_int da_nil))) da_nil)) (by rfl))
    (dss_cons (ds_if (DW.dt (dw_and (dt_cmp od_lt (de_v 3) de_int (nomark _)) (dw_and1 (dt_cmp od_gt (de_marks (hu_of hr) (de_v 1)) de_int (nomark _))))) (dss_cons (ds_mput (hu_of hr) (de_v 1) (de_op od_sub (de_marks (hu_of hr) (de_v 1)) de_int))
    (dss_one (ds_ret (de_tup (da_cons de_str da_nil))))) dss_nil)
    (dss_cons (ds_if (dt_cmp od_lt (de_v 3) de_int (nomark _)) (dss_one (ds_ret (de_ok o__law_test (hr.mono (by omega)) hgd (da_cons (de_v 0) (da_cons (de_v 1) (da_cons de_int da_nil)))))) dss_nil)
    (dss_cons (ds_if (DW.dt (dw_and (dt_cmp od_lt (de_v 3) de_int (nomark _)) (dw_and1 (dt_cmp od_gt (de_callB cd_len (by rfl) T.nb.len bt_len (da_cons (de_v 2) da_nil)) de_int (nomark _))))) (dss_cons (ds_s (i := 2) (de_ok o__law_shuffled (hr.mono (by omega)) hgd (da_cons (de_v 0) (da_cons (de_v 2) da_nil))) sc__law_leaf.nd)
    (dss_one (ds_ret (de_tup (da_cons de_str (da_cons (de_ix xd_ix (de_v 2) de_int (fun _ _ => rfl)) (da_cons (de_ix xd_ix (de_v 2) de_int (fun _ _ => rfl)) da_nil))))))) dss_nil)
    (dss_one (ds_ret (de_tup (da_cons de_str (da_cons (de_ok o__law_pick (hr.mono (by omega)) hgd (da_cons (de_v 0) (da_cons (de_v 2) da_nil))) (da_cons (de_ok o__law_pick (hr.mono (by omega)) hgd (da_cons (de_v 0) (da_cons (de_dget (hu_of hr) (de_v 1) de_str (fun _ _ => rfl)) da_nil))) da_nil))))))))))
abbrev s__law_tree : Stmt := top 27
theorem sc__law_tree : FnScope n__law_tree ["state", "frame", "deep"] (defScope s__law_tree) := ⟨rfl, rfl, rfl, by decide +kernel, rfl, by decide +kernel, by decide +kernel⟩
theorem ok__law_tree {f : Addr} {fd : FuncData} {kv : Nat} {W W__law_tree : WFm} (T : Txt K mg base) (a : At K mg "_law_tree" s__law_tree f fd) (o__law_leaf : OkM P w K mg base "_law_leaf" s__law_leaf 10 ["state", "frame"] W__law_leaf) (o__law_take : Ok P w K mg base "_law_take" s__law_take 2 ["state", "size"] W__law_take) (o__law_test : Ok P w K mg base "_law_test" s__law_test 9 ["state", "frame", "deep"] W__law_test) (o__law_tree : OkM P w K mg base "_law_tree" s__law_tree kv ["state", "frame", "deep"] W__law_tree) (hk : 10 ≤ kv) (gd : GoodM W 3) (r : ∀ ds n q kk, W ds n q kk → m__law_tree W__law_tree { startE n__law_tree.length ds n with mr := some q } { nx := fun e => ∃ m, e.mr = some m ∧ kk .non e.cr m, rt := fun d e => ∃ m, e.mr = some m ∧ kk d e.cr m }) : OkM P w K mg base "_law_tree" s__law_tree (kv + 1) ["state", "frame", "deep"] W := by
  refine OkM.mk' a (a.fn.binds fun _ _ _ _ _ _ us hl => match us, hl with | [_, _, _], _ => rfl) (fnM_of a.fn sc__law_tree gd fun cdv A outer s H hr hgd => ⟨m__law_tree W__law_tree, ?_, r⟩)
  unfold m__law_tree
  exact (dss_cons (ds_s (i := 3) (de_ok o__law_take (hr.mono (by omega)) hgd (da_cons (de_v 0) (da_cons de_int da_nil))) sc__law_tree.nd)
    (dss_cons (ds_if (DW.dt (dw_or (dt_cmp (od_eqX hr.units T.low) (de_v 2) de_int (nomark _)) (dw_or1 (dt_cmp (od_eqX hr.units T.low) (de_v 3) de_int (nomark _))))) (dss_one (ds_ret (de_okM o__law_leaf (hr.mono (by omega)) hgd (da_cons (de_v 0) (da_cons (de_v 1) da_nil))))) dss_nil)
    (dss_cons (ds_if (dt_cmp (od_eqX hr.units T.low) (de_v 3) de_int (nomark _)) (dss_one (ds_ret (de_ok o__law_test (hr.mono (by omega)) hgd (da_cons (de_v 0) (da_cons (de_v 1) (da_cons de_int da_nil)))))) dss_nil)
    (dss_cons (ds_if (dt_cmp od_lt (de_v 3) de_int (nomark _)) (dss_one (ds_ret (de_tup (da_cons de_str (da_cons (de_okM o__law_tree (hr.mono (by omega)) hgd (da_cons (de_v 0) (da_cons (de_v 1) (da_cons (de_op od_sub (de_v 2) de_int) da_nil)))) da_nil))))) dss_nil)
    (dss_cons (ds_s (i := 4) (de_op od_add de_int (de_callTy cd_int (by rfl) T.nb.int bt_int (da_cons (de_cmp (od_eqX hr.units T.low) (de_ok o__law_take (hr.mono (by omega)) hgd (da_cons (de_v 0) (da_cons de_int da_nil))) de_int (nomark _)) da_nil))) sc__law_tree.nd)
    (dss_cons (ds_setLc (p := fun z => z.w = w ∧ z.act = true) (k := 5) (i := 6) (by first | exact fun _ _ _ h => h | exact fun _ _ _ h => h.1) rfl sc__law_tree.nd rfl rfl (sw_true rfl rfl rfl (by decide +kernel)) (di_range (by rfl) T.nb.range (da_cons (de_v 4) da_nil)) (blkOk_by (own := [("turn", 6)]) (N := n__law_tree) (sc := defScope s__law_tree) (by decide +kernel)) (fun _ _ _ _ _ => pg_name (i := 6) sc__law_tree.nd rfl (by first | exact Or.inl rfl | exact Or.inr rfl)) (fun _ _ _ _ _ => dts_nil) (fun _ _ _ _ _ => (de_okM o__law_tree (hr.mono (by omega)) hgd (da_cons (de_v 0) (da_cons (de_v 1) (da_cons (de_op od_sub (de_v 2) de_int) da_nil))))))
    (dss_one (ds_ret (de_op od_add (de_tup (da_cons (de_if (dt_cmp od_lt (de_v 3) de_int (nomark _)) de_str de_str) da_nil)) (de_callTy cd_tuple (by rfl) T.nb.tuple bt_tuple (da_cons (de_v 5) da_nil)))))))))))
theorem all__law_tree {f : Addr} {fd : FuncData} (T : Txt K mg base) (a : At K mg "_law_tree" s__law_tree f fd) (o__law_leaf : OkM P w K mg base "_law_leaf" s__law_leaf 10 ["state", "frame"] W__law_leaf) (o__law_take : Ok P w K mg base "_law_take" s__law_take 2 ["state", "size"] W__law_take) (o__law_test : Ok P w K mg base "_law_test" s__law_test 9 ["state", "frame", "deep"] W__law_test) : ∀ L, OkM P w K mg base "_law_tree" s__law_tree (11 + L) ["state", "frame", "deep"] (V__law_tree L)
  | 0 => ok__law_tree (kv := 10) T a o__law_leaf o__law_take o__law_test (OkM.never a (a.fn.binds fun _ _ _ _ _ _ us hl => match us, hl with | [_, _, _], _ => rfl)) (by omega) (g__law_tree 0) (r__law_tree 0)
  | L + 1 => ok__law_tree (kv := 11 + L) T a o__law_leaf o__law_take o__law_test (all__law_tree T a o__law_leaf o__law_take o__law_test L) (by omega) (g__law_tree (L + 1)) (r__law_tree (L + 1))
abbrev s__law_marked_tree : Stmt := top 28
theorem sc__law_marked_tree : FnScope n__law_marked_tree ["state", "frame", "deep", "marks"] (defScope s__law_marked_tree) := ⟨rfl, rfl, rfl, by decide +kernel, rfl, by decide +kernel, by decide +kernel⟩
theorem ok__law_marked_tree {f : Addr} {fd : FuncData} (T : Txt K mg base) (a : At K mg "_law_marked_tree" s__law_marked_tree f fd) (o__law_tree : OkM P w K mg base "_law_tree" s__law_tree 16 ["state", "frame", "deep"] W__law_tree) : Ok P w K mg base "_law_marked_tree" s__law_marked_tree 17 ["state", "frame", "deep", "marks"] W__law_marked_tree := by
  obtain ⟨fx, fdx, ax, Fx, mx, bx⟩ := o__law_tree.ex
  refine Ok.mk' a (a.fn.binds fun _ _ _ _ _ _ us hl => match us, hl with | [_, _, _, _], _ => rfl) (fnG_of a.fn sc__law_marked_tree w__law_marked_tree.1 w__law_marked_tree.2 fun cdv A outer s H hr hgd => ⟨mMarked W__law_tree, ?_, r__law_marked_tree⟩)
  exact dss_marked Fx (hr.mono (by omega)) hgd rfl mx ax.kp bx (hu_of hr) (pv 0) (pv 1) (pv 1) (pv 2) (pv 3) (fun _ _ _ h => h)
abbrev s__law_is_word : Stmt := top 29
theorem sc__law_is_word : FnScope n__law_is_word ["thing_here"] (defScope s__law_is_word) := ⟨rfl, rfl, rfl, by decide +kernel, rfl, by decide +kernel, by decide +kernel⟩
theorem ok__law_is_word {f : Addr} {fd : FuncData} (T : Txt K mg base) (a : At K mg "_law_is_word" s__law_is_word f fd) : Ok P w K mg base "_law_is_word" s__law_is_word 1 ["thing_here"] W__law_is_word := by
  refine Ok.mk' a (a.fn.binds fun _ _ _ _ _ _ us hl => match us, hl with | [_], _ => rfl) (fnG_of a.fn sc__law_is_word w__law_is_word.1 w__law_is_word.2 fun cdv A outer s H hr hgd => ⟨m__law_is_word, ?_, r__law_is_word⟩)
  unfold m__law_is_word
  exact (dss_cons (ds_if (DW.dt (dw_or (dt_not (dt_val (de_callB cd_isi (by rfl) T.nb.isinstance bt_isinstance (da_cons (de_v 0) (da_cons (de_ty T.nb.str bt_str) da_nil))))) (dw_or1 (dt_not (dt_chain od_le od_le de_int (de_callB cd_len (by rfl) T.nb.len bt_len (da_cons (de_v 0) da_nil)) de_int))))) (dss_one (ds_ret de_bl)) dss_nil)
    (dss_cons (ds_if (dt_cmp od_isin (de_v 0) (de_tup (da_cons de_str (da_cons de_str (da_cons de_str (da_cons de_str da_nil))))) (by rfl)) (dss_one (ds_ret de_bl)) dss_nil)
    (dss_one (ds_ret (de_cmp (od_eqZ hr.units) (de_lc (p := fun z => z.w = w) (i := 1) (by first | exact fun _ _ _ h => h | exact fun _ _ _ h => h.1) rfl sc__law_is_word.nd (di_iter (de_v 0)) (blkOk_by (own := [("sign", 1)]) (N := n__law_is_word) (sc := defScope s__law_is_word) (by decide +kernel)) (fun _ _ _ _ _ => pg_name (i := 1) sc__law_is_word.nd rfl (by first | exact Or.inl rfl | exact Or.inr rfl)) (fun _ _ _ _ _ => (dts_one (dt_not (dt_chain od_le od_le de_str (de_v 1) de_str)))) (fun _ _ _ _ _ => (de_v 1))) (de_lst da_nil) (nomark _))))))
abbrev s__law_is_due : Stmt := top 30
theorem sc__law_is_due : FnScope n__law_is_due ["matter", "levels", "is_bare"] (defScope s__law_is_due) := ⟨rfl, rfl, rfl, by decide +kernel, rfl, by decide +kernel, by decide +kernel⟩
theorem ok__law_is_due {f : Addr} {fd : FuncData} {kv : Nat} {W W__law_is_due : WF} (T : Txt K mg base) (a : At K mg "_law_is_due" s__law_is_due f fd) (o__law_is_word : Ok P w K mg base "_law_is_word" s__law_is_word 1 ["thing_here"] W__law_is_word) (o__law_is_due : Ok P w K mg base "_law_is_due" s__law_is_due kv ["matter", "levels", "is_bare"] W__law_is_due) (hk : 1 ≤ kv) (gd : Good W 3) (r : ∀ ds n kk, W ds n kk → m__law_is_due W__law_is_due (startE n__law_is_due.length ds n) { nx := fun e => kk .non e.cr, rt := fun d e => kk d e.cr }) : Ok P w K mg base "_law_is_due" s__law_is_due (kv + 1) ["matter", "levels", "is_bare"] W := by
  refine Ok.mk' a (a.fn.binds fun _ _ _ _ _ _ us hl => match us, hl with | [_, _, _], _ => rfl) (fnG_of a.fn sc__law_is_due gd.1 gd.2 fun cdv A outer s H hr hgd => ⟨m__law_is_due W__law_is_due, ?_, r⟩)
  unfold m__law_is_due
  exact (dss_cons (ds_if (DW.dt (dw_or (dt_cmp (od_eqX hr.units T.low) (de_v 1) de_int (nomark _)) (dw_or (dt_not (dt_val (de_callB cd_isi (by rfl) T.nb.isinstance bt_isinstance (da_cons (de_v 0) (da_cons (de_ty T.nb.tuple bt_tuple) da_nil))))) (dw_or (dt_cmp (od_eqZ hr.units) (de_v 0) (de_tup da_nil) (nomark _)) (dw_or1 (dt_not (dt_val (de_callB cd_isi (by rfl) T.nb.isinstance bt_isinstance (da_cons (de_ix xd_ix (de_v 0) de_int (fun _ _ => rfl)) (da_cons (de_ty T.nb.str bt_str) da_nil)))))))))) (dss_one (ds_ret de_bl)) dss_nil)
    (dss_cons (ds_par (i := 3) (j := 4) rfl sc__law_is_due.nd rfl rfl (by decide) rfl rfl (da_cons (de_ix xd_ix (de_v 0) de_int (fun _ _ => rfl)) (da_cons (de_op od_sub (de_callB cd_len (by rfl) T.nb.len bt_len (da_cons (de_v 0) da_nil)) de_int) da_nil)) (by rfl))
    (dss_cons (ds_if (dt_cmp od_isin (de_v 3) (de_tup (da_cons de_str (da_cons de_str da_nil))) (by rfl)) (dss_one (ds_ret (de_cmp (od_eqX hr.units T.low) (de_v 4) de_int (nomark _)))) dss_nil)
    (dss_cons (ds_if (dt_cmp (od_eqX hr.units T.low) (de_v 3) de_str (nomark _)) (dss_one (ds_ret (de_and (de_cmp (od_eqX hr.units T.low) (de_v 4) de_int (nomark _)) (de_one (de_not (de_v 2)))))) dss_nil)
    (dss_cons (ds_if (dt_cmp od_isin (de_v 3) (de_tup (da_cons de_str (da_cons de_str (da_cons de_str da_nil)))) (by rfl)) (dss_cons (ds_if (DW.dt (dw_or (dt_cmp (od_neX hr.units T.low) (de_v 4) de_int (nomark _)) (dw_or (DW.dt (dw_and (dt_cmp (od_neX hr.units T.low) (de_v 3) de_str (nomark _)) (dw_and1 (dt_val (de_v 2))))) (dw_or1 (dt_not (dt_val (de_ok o__law_is_word (hr.mono (by omega)) hgd (da_cons (de_ix xd_ix (de_v 0) de_int (fun _ _ => rfl)) da_nil)))))))) (dss_one (ds_ret de_bl)) dss_nil)
    (dss_cons (ds_if (dt_cmp (od_eqX hr.units T.low) (de_v 3) de_str (nomark _)) (dss_one (ds_ret (de_and (de_ok o__law_is_word (hr.mono (by omega)) hgd (da_cons (de_ix xd_ix (de_v 0) de_int (fun _ _ => rfl)) da_nil)) (de_one (de_cmp (od_neX hr.units T.low) (de_ix xd_ix (de_v 0) de_int (fun _ _ => rfl)) (de_ix xd_ix (de_v 0) de_int (fun _ _ => rfl)) (nomark _)))))) dss_nil)
    (dss_one (ds_ret (de_and (de_callB cd_isi (by rfl) T.nb.isinstance bt_isinstance (da_cons (de_ix xd_ix (de_v 0) de_int (fun _ _ => rfl)) (da_cons (de_ty T.nb.int bt_int) da_nil))) (de_and (de_not (de_callB cd_isi (by rfl) T.nb.isinstance bt_isinstance (da_cons (de_ix xd_ix (de_v 0) de_int (fun _ _ => rfl)) (da_cons (de_ty T.nb.bool bt_bool) da_nil)))) (de_one (de_cmp od_ge (de_ix xd_ix (de_v 0) de_int (fun _ _ => rfl)) de_int (nomark _))))))))) dss_nil)
    (dss_cons (ds_if (dt_cmp od_isin (de_v 3) (de_tup (da_cons de_str (da_cons de_str da_nil))) (by rfl)) (dss_one (ds_ret (de_and (de_cmp od_ge (de_v 4) de_int (nomark _)) (de_one (de_cmp (od_eqZ hr.units) (de_lc (p := fun z => z.w = w) (i := 5) (by first | exact fun _ _ _ h => h | exact fun _ _ _ h => h.1) rfl sc__law_is_due.nd (di_iter (de_slice (de_v 0) (do_some de_int) do_none)) (blkOk_by (own := [("one", 5)]) (N := n__law_is_due) (sc := defScope s__law_is_due) (by decide +kernel)) (fun _ _ _ _ _ => pg_name (i := 5) sc__law_is_due.nd rfl (by first | exact Or.inl rfl | exact Or.inr rfl)) (fun _ _ _ _ _ => (dts_one (dt_not (dt_val (de_ok o__law_is_due (hr.mono (by omega)) hgd (da_cons (de_v 5) (da_cons (de_op od_sub (de_v 1) de_int) (da_cons (de_v 2) da_nil)))))))) (fun _ _ _ _ _ => (de_v 5))) (de_lst da_nil) (nomark _)))))) dss_nil)
    (dss_cons (ds_if (dt_cmp (od_eqX hr.units T.low) (de_v 3) de_str (nomark _)) (dss_one (ds_ret (de_and (de_cmp (od_eqX hr.units T.low) (de_v 4) de_int (nomark _)) (de_and (de_not (de_v 2)) (de_one (de_ok o__law_is_due (hr.mono (by omega)) hgd (da_cons (de_ix xd_ix (de_v 0) de_int (fun _ _ => rfl)) (da_cons (de_op od_sub (de_v 1) de_int) (da_cons de_bl da_nil))))))))) dss_nil)
    (dss_one (ds_ret (de_and (de_cmp (od_eqX hr.units T.low) (de_v 3) de_str (nomark _)) (de_and (de_cmp (od_eqX hr.units T.low) (de_v 4) de_int (nomark _)) (de_one (de_ok o__law_is_due (hr.mono (by omega)) hgd (da_cons (de_ix xd_ix (de_v 0) de_int (fun _ _ => rfl)) (da_cons (de_op od_sub (de_v 1) de_int) (da_cons de_bl da_nil))))))))))))))))
theorem all__law_is_due {f : Addr} {fd : FuncData} (T : Txt K mg base) (a : At K mg "_law_is_due" s__law_is_due f fd) (o__law_is_word : Ok P w K mg base "_law_is_word" s__law_is_word 1 ["thing_here"] W__law_is_word) : ∀ L, Ok P w K mg base "_law_is_due" s__law_is_due (2 + L) ["matter", "levels", "is_bare"] (V__law_is_due L)
  | 0 => ok__law_is_due (kv := 1) T a o__law_is_word (Ok.never a (a.fn.binds fun _ _ _ _ _ _ us hl => match us, hl with | [_, _, _], _ => rfl)) (by omega) (g__law_is_due 0) (r__law_is_due 0)
  | L + 1 => ok__law_is_due (kv := 2 + L) T a o__law_is_word (all__law_is_due T a o__law_is_word L) (by omega) (g__law_is_due (L + 1)) (r__law_is_due (L + 1))
abbrev s__law_bent : Stmt := top 31
theorem sc__law_bent : FnScope n__law_bent ["state", "matter"] (defScope s__law_bent) := ⟨rfl, rfl, rfl, by decide +kernel, rfl, by decide +kernel, by decide +kernel⟩
theorem ok__law_bent {f : Addr} {fd : FuncData} {kv : Nat} {W W__law_bent : WF} (T : Txt K mg base) (a : At K mg "_law_bent" s__law_bent f fd) (o__law_odd : Ok P w K mg base "_law_odd" s__law_odd 4 ["state"] W__law_odd) (o__law_pick : Ok P w K mg base "_law_pick" s__law_pick 3 ["state", "some"] W__law_pick) (o__law_take : Ok P w K mg base "_law_take" s__law_take 2 ["state", "size"] W__law_take) (o__law_bent : Ok P w K mg base "_law_bent" s__law_bent kv ["state", "matter"] W__law_bent) (hk : 4 ≤ kv) (gd : Good W 2) (r : ∀ ds n kk, W ds n kk → m__law_bent W__law_bent (startE n__law_bent.length ds n) { nx := fun e => kk .non e.cr, rt := fun d e => kk d e.cr }) : Ok P w K mg base "_law_bent" s__law_bent (kv + 1) ["state", "matter"] W := by
  refine Ok.mk' a (a.fn.binds fun _ _ _ _ _ _ us hl => match us, hl with | [_, _], _ => rfl) (fnG_of a.fn sc__law_bent gd.1 gd.2 fun cdv A outer s H hr hgd => ⟨m__law_bent W__law_bent, ?_, r⟩)
  unfold m__law_bent
  exact (dss_cons (ds_if (DW.dt (dw_or (dt_not (dt_val (de_callB cd_isi (by rfl) T.nb.isinstance bt_isinstance (da_cons (de_v 1) (da_cons (de_ty T.nb.tuple bt_tuple) da_nil))))) (dw_or (dt_cmp (od_eqZ hr.units) (de_v 1) (de_tup da_nil) (nomark _)) (dw_or1 (dt_cmp (od_eqX hr.units T.low) (de_ok o__law_take (hr.mono (by omega)) hgd (da_cons (de_v 0) (da_cons de_int da_nil))) de_int (nomark _)))))) (dss_one (ds_ret (de_ok o__law_odd (hr.mono (by omega)) hgd (da_cons (de_v 0) da_nil)))) dss_nil)
    (dss_cons (ds_s (i := 2) (de_ok o__law_take (hr.mono (by omega)) hgd (da_cons (de_v 0) (da_cons (de_callB cd_len (by rfl) T.nb.len bt_len (da_cons (de_v 1) da_nil)) da_nil))) sc__law_bent.nd)
    (dss_cons (ds_if (DW.dt (dw_and (dt_cmp od_gt (de_v 2) de_int (nomark _)) (dw_and (dt_val (de_callB cd_isi (by rfl) T.nb.isinstance bt_isinstance (da_cons (de_ix xd_ix (de_v 1) (de_v 2) (fun _ _ => rfl)) (da_cons (de_ty T.nb.tuple bt_tuple) da_nil)))) (dw_and1 (dt_cmp od_gt (de_ok o__law_take (hr.mono (by omega)) hgd (da_cons (de_v 0) (da_cons de_int da_nil))) de_int (nomark _)))))) (dss_one (ds_ret (de_op od_add (de_op od_add (de_slice (de_v 1) do_none (do_some (de_v 2))) (de_tup (da_cons (de_ok o__law_bent (hr.mono (by omega)) hgd (da_cons (de_v 0) (da_cons (de_ix xd_ix (de_v 1) (de_v 2) (fun _ _ => rfl)) da_nil))) da_nil))) (de_slice (de_v 1) (do_some (de_op od_add (de_v 2) de_int)) do_none)))) dss_nil)
    (dss_cons (ds_s (i := 3) (de_ok o__law_take (hr.mono (by omega)) hgd (da_cons (de_v 0) (da_cons de_int da_nil))) sc__law_bent.nd)
    (dss_cons (ds_if (dt_cmp (od_eqX hr.units T.low) (de_v 3) de_int (nomark _)) (dss_one (ds_ret (de_op od_add (de_slice (de_v 1) do_none (do_some (de_v 2))) (de_slice (de_v 1) (do_some (de_op od_add (de_v 2) de_int)) do_none)))) dss_nil)
    (dss_cons (ds_if (dt_cmp (od_eqX hr.units T.low) (de_v 3) de_int (nomark _)) (dss_one (ds_ret (de_op od_add (de_op od_add (de_slice (de_v 1) do_none (do_some (de_v 2))) (de_slice (de_v 1) (do_some (de_v 2)) (do_some (de_op od_add (de_v 2) de_int)))) (de_slice (de_v 1) (do_some (de_v 2)) do_none)))) dss_nil)
    (dss_cons (ds_if (dt_cmp (od_eqX hr.units T.low) (de_v 3) de_int (nomark _)) (dss_one (ds_ret (de_ok o__law_pick (hr.mono (by omega)) hgd (da_cons (de_v 0) (da_cons (de_lst (da_cons (de_callTy cd_list (by rfl) T.nb.list bt_list (da_cons (de_v 1) da_nil)) (da_cons (de_tup (da_cons (de_v 1) da_nil)) (da_cons (de_op od_add (de_v 1) (de_tup (da_cons (de_tup (da_cons de_str da_nil)) da_nil))) da_nil)))) da_nil))))) dss_nil)
    (dss_cons (ds_s (i := 4) (de_lst (da_cons de_str (da_cons de_str (da_cons de_str (da_cons de_str (da_cons de_str (da_cons de_str (da_cons de_str (da_cons de_str (da_cons de_str (da_cons de_str (da_cons de_str (da_cons de_non (da_cons de_str (da_cons de_str da_nil))))))))))))))) sc__law_bent.nd)
    (dss_cons (ds_s (i := 4) (de_op od_add (de_v 4) (de_lst (da_cons de_int (da_cons de_int (da_cons (de_un ud_neg de_int) (da_cons de_bl (da_cons de_str (da_cons (de_tup (da_cons de_str da_nil)) (da_cons (de_tup (da_cons de_str (da_cons de_str (da_cons de_int da_nil)))) (da_cons (de_lst (da_cons de_str da_nil)) (da_cons (de_tup (da_cons de_str (da_cons de_str (da_cons de_int da_nil)))) (da_cons de_str (da_cons (de_op od_pow de_int de_int) da_nil))))))))))))) sc__law_bent.nd)
    (dss_one (ds_ret (de_op od_add (de_op od_add (de_slice (de_v 1) do_none (do_some (de_v 2))) (de_tup (da_cons (de_ok o__law_pick (hr.mono (by omega)) hgd (da_cons (de_v 0) (da_cons (de_v 4) da_nil))) da_nil))) (de_slice (de_v 1) (do_some (de_op od_add (de_v 2) de_int)) do_none)))))))))))))
theorem all__law_bent {f : Addr} {fd : FuncData} (T : Txt K mg base) (a : At K mg "_law_bent" s__law_bent f fd) (o__law_odd : Ok P w K mg base "_law_odd" s__law_odd 4 ["state"] W__law_odd) (o__law_pick : Ok P w K mg base "_law_pick" s__law_pick 3 ["state", "some"] W__law_pick) (o__law_take : Ok P w K mg base "_law_take" s__law_take 2 ["state", "size"] W__law_take) : ∀ L, Ok P w K mg base "_law_bent" s__law_bent (5 + L) ["state", "matter"] (V__law_bent L)
  | 0 => ok__law_bent (kv := 4) T a o__law_odd o__law_pick o__law_take (Ok.never a (a.fn.binds fun _ _ _ _ _ _ us hl => match us, hl with | [_, _], _ => rfl)) (by omega) (g__law_bent 0) (r__law_bent 0)
  | L + 1 => ok__law_bent (kv := 5 + L) T a o__law_odd o__law_pick o__law_take (all__law_bent T a o__law_odd o__law_pick o__law_take L) (by omega) (g__law_bent (L + 1)) (r__law_bent (L + 1))
abbrev s__law_chain : Stmt := top 32
theorem sc__law_chain : FnScope n__law_chain ["state", "many"] (defScope s__law_chain) := ⟨rfl, rfl, rfl, by decide +kernel, rfl, by decide +kernel, by decide +kernel⟩
theorem ok__law_chain {f : Addr} {fd : FuncData} (T : Txt K mg base) (a : At K mg "_law_chain" s__law_chain f fd) (o__law_pick : Ok P w K mg base "_law_pick" s__law_pick 3 ["state", "some"] W__law_pick) : Ok P w K mg base "_law_chain" s__law_chain 4 ["state", "many"] W__law_chain := by
  refine Ok.mk' a (a.fn.binds fun _ _ _ _ _ _ us hl => match us, hl with | [_, _], _ => rfl) (fnG_of a.fn sc__law_chain w__law_chain.1 w__law_chain.2 fun cdv A outer s H hr hgd => ⟨m__law_chain, ?_, r__law_chain⟩)
  unfold m__law_chain
  exact (dss_cons (ds_s (i := 2) (de_ok o__law_pick (hr.mono (by omega)) hgd (da_cons (de_v 0) (da_cons (de_lst (da_cons (de_tup (da_cons de_str da_nil)) (da_cons (de_tup (da_cons de_str (da_cons de_str (da_cons de_int da_nil)))) (da_cons (de_tup (da_cons de_str da_nil)) da_nil)))) da_nil))) sc__law_chain.nd)
    (dss_cons (ds_for PassesOwn.never rfl (di_range (by rfl) T.nb.range (da_cons (de_op od_sub (de_v 1) de_int) da_nil)) (dg_name (i := 3) sc__law_chain.nd rfl (by first | exact Or.inl rfl | exact Or.inr rfl)) (dss_cons (ds_s (i := 4) (de_lst (da_cons (de_tup (da_cons de_str (da_cons (de_v 2) (da_cons (de_tup (da_cons de_str da_nil)) da_nil)))) (da_cons (de_tup (da_cons de_str (da_cons (de_tup (da_cons de_str da_nil)) (da_cons (de_v 2) da_nil)))) (da_cons (de_tup (da_cons de_str (da_cons (de_v 2) da_nil))) (da_cons (de_tup (da_cons de_str (da_cons (de_v 2) da_nil))) da_nil))))) sc__law_chain.nd)
    (dss_one (ds_s (i := 2) (de_ok o__law_pick (hr.mono (by omega)) hgd (da_cons (de_v 0) (da_cons (de_v 4) da_nil))) sc__law_chain.nd))))
    (dss_one (ds_ret (de_v 2)))))
abbrev s_law : Stmt := top 33
abbrev n_law : List Str := ["script", "state", "turn", "frame", "matter", "change", "due", "seen"]
theorem sc_law : FnScope n_law ["script"] (defScope s_law) := ⟨rfl, rfl, rfl, by decide +kernel, rfl, by decide +kernel, by decide +kernel⟩
def m_law : MS := (mSeq (mFor (mRange (mCons (mBin addW (mC (.int 6)) (mCB min2W (mCons (mCB lenW (mCons (mVar 0) mNil)) (mCons (mC (.int 30)) mNil)))) mNil)) (gN 2) (mSeq (mSet 3 (mCall W__law_frame (mCons (mVar 1) (mCons (mC (.int 3)) mNil))))
  (mSeq (mSet 4 (mIf (mB (mBin gtW (mCall W__law_take (mCons (mVar 1) (mCons (mC (.int 3)) mNil))) (mC (.int 0)))) (mCall W__law_marked_tree (mCons (mVar 1) (mCons (mVar 3) (mCons (mC (.int 3)) (mCons (mC (.int 9)) mNil))))) (mCall W__law_test (mCons (mVar 1) (mCons (mVar 3) (mCons (mC (.int 3)) mNil))))))
  (mSeq (mIfS (mB (mBin eqX (mCall W__law_take (mCons (mVar 1) (mCons (mC (.int 5)) mNil))) (mC (.int 0)))) (mSet 4 (mCall W__law_chain (mCons (mVar 1) (mCons (mBin addW (mC (.int 11)) (mCall W__law_take (mCons (mVar 1) (mCons (mC (.int 3)) mNil)))) mNil)))) mNext)
  (mSeq (mFor (mRange (mCons (mCall W__law_pick (mCons (mVar 1) (mCons (mLst (mCons (mC (.int 0)) (mCons (mC (.int 1)) (mCons (mC (.int 1)) (mCons (mC (.int 2)) mNil))))) mNil))) mNil)) (gN 5) (mSet 4 (mCall W__law_bent (mCons (mVar 1) (mCons (mVar 4) mNil)))))
  (mSeq (mPar 6 7 (mCons (mLst (mCons (mCall W__law_is_due (mCons (mVar 4) (mCons (mC (.int 12)) (mCons (mC (.bl false)) mNil)))) (mCons (mCall W__law_is_due (mCons (mVar 4) (mCons (mC (.int 12)) (mCons (mC (.bl true)) mNil)))) mNil))) (mCons (mCB reprW (mCons (mVar 4) mNil)) mNil)))
  (mSeq (mIfS (mB (mBin neX (mCB reprW (mCons (mLst (mCons (mCall W_is_tree (mCons (mVar 4) mNil)) (mCons (mCall W_is_test (mCons (mVar 4) mNil)) mNil))) mNil)) (mCB reprW (mCons (mVar 6) mNil)))) (mRet (mC (.bl false))) mNext)
  (mIfS (mOr (mB (mBin neX (mCB reprW (mCons (mLst (mCons (mCallK W_is_tree 1 [0] (mCons (mVar 4) mNil)) (mCons (mCallK W_is_test 1 [0] (mCons (mVar 4) mNil)) mNil))) mNil)) (mCB reprW (mCons (mVar 6) mNil)))) (mB (mBin neX (mCB reprW (mCons (mVar 4) mNil)) (mVar 7)))) (mRet (mC (.bl false))) mNext))))))))
  (mRet (mC (.bl true))))
theorem r_law (ns : List Int) (hl : ns.length ≤ 63) : m_law (lawE n_law.length 1 ns) { nx := fun _ => False, rt := fun d _ => d = .bl true } := by
  refine seq_gen fun N hN => ?_
  simp only [mFor, mRange]
  simp [lawE, addW, min2W, mRet, mSeq, mNext, mIfS, mSet, mPar, mDrop, mAndV, mOrV, mNotV, mAnd, mOr, mNot, mB, mIf, mCB, mCons, mNil, mVar, mC, mBin, mUn, mTup, mLst, mCall, mCallK, mChain, isiW, startE, DEnv.at, DEnv.put, D.isa, tyN, sixNames, isNum, isCnt, okD, ordW, intW, sizeLine, tyNames, lenW, mNever]
  refine ⟨⟨by split <;> omega, by split <;> omega⟩, ?_⟩
  have hrl : ∀ j : Int, (rangeD j).length = j.toNat := fun j => by simp [rangeD]
  refine forW_inv (fun ds env => (∃ s2 s3 s4 s5 s6 s7, env.sl = [.da (.scr ns), .da .sta, s2, s3, s4, s5, s6, s7]) ∧ 10000 * ds.length ≤ env.cr) (fun d ds env k' i a1 a2 a3 a4 => ?_) (fun env i => ?_) _ _ ⟨⟨_, _, _, _, _, _, rfl⟩, by rw [hrl]; simp only; split <;> omega⟩
  · obtain ⟨⟨s2, s3, s4, s5, s6, s7, i1⟩, i2⟩ := i
    obtain ⟨sl, cr, mr⟩ := env
    simp only [List.length_cons] at i1 i2
    subst i1
    clear a2 a3 a4 hN
    simp only [gN]
    refine seq_gen fun N1 hN1 => ?_
    simp [W__law_frame, mRet, mSeq, mNext, mIfS, mSet, mPar, mDrop, mAndV, mOrV, mNotV, mAnd, mOr, mNot, mB, mIf, mCB, mCons, mNil, mVar, mC, mBin, mUn, mTup, mLst, mCall, mCallK, mChain, isiW, startE, DEnv.at, DEnv.put, D.isa, tyN, sixNames, isNum, isCnt, okD, ordW, intW, sizeLine, tyNames, lenW, mNever]
    refine ⟨by omega, fun fs nums n2 f1 f2 f3 f4 f5 f6 f7 f8 f9 c2 => ?_⟩
    obtain ⟨fr, hfr⟩ : ∃ fr, fr = D.frm (.tup (fs.map D.str)) (.lst (nums.map D.int)) := ⟨_, rfl⟩
    have hf : isFr fr fs nums := ⟨.inl hfr, by intro h; rw [h] at f3; simp at f3, by intro h; rw [h] at f8; simp at f8, by omega, by omega, f2, f1⟩
    have hfM : isFrM fr fs nums := ⟨hf, _, _, hfr⟩
    rw [← hfr]
    rw [hN1]; clear hN1
    refine seq_gen fun N2 hN2 => ?_
    simp [W__law_take, mRet, mSeq, mNext, mIfS, mSet, mPar, mDrop, mAndV, mOrV, mNotV, mAnd, mOr, mNot, mB, mIf, mCB, mCons, mNil, mVar, mC, mBin, mUn, mTup, mLst, mCall, mCallK, mChain, isiW, startE, DEnv.at, DEnv.put, D.isa, tyN, sixNames, isNum, isCnt, okD, ordW, intW, sizeLine, tyNames, lenW, mNever]
    have step : ∀ x m, Nice x → x.wt ≤ 310000 → x.dp ≤ 20 → cr ≤ m + 7000 → N2 { sl := [.da (.scr ns), .da .sta, .da d, .da fr, .da x, s5, s6, s7], cr := m, mr := mr } := by
      intro x m x1 x2 x3 hm
      rw [hN2]; clear hN2
      refine seq_gen fun N3 hN3 => ?_
      simp [W__law_take, eqX, eqv_int, shaped_int, addW, mRet, mSeq, mNext, mIfS, mSet, mPar, mDrop, mAndV, mOrV, mNotV, mAnd, mOr, mNot, mB, mIf, mCB, mCons, mNil, mVar, mC, mBin, mUn, mTup, mLst, mCall, mCallK, mChain, isiW, startE, DEnv.at, DEnv.put, D.isa, tyN, sixNames, isNum, isCnt, okD, ordW, intW, sizeLine, tyNames, lenW, mNever]
      refine ⟨by omega, fun i i0 i1 => ?_⟩
      have step3 : ∀ x m, Nice x → x.wt ≤ 310000 → x.dp ≤ 20 → cr ≤ m + 7100 → N3 { sl := [.da (.scr ns), .da .sta, .da d, .da fr, .da x, s5, s6, s7], cr := m, mr := mr } := by
        intro x m x1 x2 x3 hm
        rw [hN3]; clear hN3
        refine seq_gen fun N4 hN4 => ?_
        simp only [mFor, mRange]
        simp [mCons, mCall, mLst, mVar, mC, mNil, DEnv.at, sizeLine]
        refine pick_lst (by simp) (by simp) (by omega) fun c hc => ?_
        obtain ⟨j, rfl, j0, j2⟩ : ∃ j : Int, c = .int j ∧ 0 ≤ j ∧ j ≤ 2 := by
          simp only [List.mem_cons, List.not_mem_nil, or_false] at hc
          rcases hc with rfl | rfl | rfl | rfl <;> exact ⟨_, rfl, by decide, by decide⟩
        refine ⟨⟨by omega, by omega⟩, ?_⟩
        have rl := rangeD_len j
        refine forW_inv (fun es env => ∃ y s5, env.sl = [.da (.scr ns), .da .sta, .da d, .da fr, .da y, s5, s6, s7] ∧ Nice y ∧ (es.length = 2 → y.wt ≤ 310000 ∧ y.dp ≤ 20) ∧ (es.length = 1 → y.wt ≤ 620500 ∧ y.dp ≤ 23) ∧ (es.length = 0 → y.wt ≤ 1241500 ∧ y.dp ≤ 26) ∧ es.length ≤ 2 ∧ cr ≤ env.cr + 7900 - 300 * es.length ∧ env.mr = mr) (fun d' es env k2 i b1 b2 b3 b4 => ?_) (fun env i => ?_) _ _ ⟨x, _, rfl, x1, fun _ => ⟨x2, x3⟩, fun _ => ⟨by omega, by omega⟩, fun _ => ⟨by omega, by omega⟩, by rw [rl]; omega, by rw [rl]; simp only; omega, rfl⟩
        · obtain ⟨y, t5, i1, i2, i3, i4, i5, i6, i7, i8⟩ := i
          obtain ⟨sl, cr3, mr3⟩ := env
          simp only [List.length_cons] at i1 i3 i4 i5 i6 i7 i8
          subst i1 i8
          simp only [gN]
          simp [mRet, mSeq, mNext, mIfS, mSet, mPar, mDrop, mAndV, mOrV, mNotV, mAnd, mOr, mNot, mB, mIf, mCB, mCons, mNil, mVar, mC, mBin, mUn, mTup, mLst, mCall, mCallK, mChain, isiW, startE, DEnv.at, DEnv.put, D.isa, tyN, sixNames, isNum, isCnt, okD, ordW, intW, sizeLine, tyNames, lenW, mNever]
          have yy : y.wt ≤ 620500 ∧ y.dp ≤ 23 := by
            by_cases e : es.length = 1
            · have := i3 (by omega); omega
            · have := i4 (by omega); omega
          refine ⟨y, rfl, i2, by omega, by omega, by omega, fun u n' u1 u2 u3 hn => ?_⟩
          refine b1 _ ⟨u, _, rfl, u1, fun e => by omega, fun e => ?_, fun e => ?_, by omega, by simp only; omega, rfl⟩
          · have := i3 (by omega); omega
          · have := i4 (by omega); omega
        · obtain ⟨y, t5, i1, i2, i3, i4, i5, i6, i7, i8⟩ := i
          obtain ⟨sl, cr3, mr3⟩ := env
          simp only [List.length_nil] at i1 i3 i4 i5 i6 i7 i8
          subst i1 i8
          obtain ⟨y1, y2⟩ := i5 (by trivial)
          have ys : y.showable = true := nice_show i2 (by unfold sizeLine; omega) (by omega)
          have yw : y.wt ≤ sizeLine := by unfold sizeLine; omega
          have due : ∀ (b : Bool) n (k : D → Nat → Prop), k (.bl (isTree 12 b y)) n → W__law_is_due [y, .int 12, .bl b] n k := fun b n k q => ⟨y, 12, b, rfl, by omega, i2, yw, q⟩
          have tr : ∀ n (k : D → Nat → Prop), k (.bl (isTree 12 false y)) n → W_is_tree [y] n k := fun n k q => ⟨y, rfl, ⟨i2, yw⟩, q⟩
          have te : ∀ n (k : D → Nat → Prop), k (.bl (isTree 12 true y)) n → W_is_test [y] n k := fun n k q => ⟨y, rfl, ⟨i2, yw⟩, q⟩
          have sh : ∀ a b : Bool, (D.lst [.bl a, .bl b]).showable = true := fun a b => by cases a <;> cases b <;> decide +kernel
          show N4 _
          rw [hN4]; clear hN4
          refine seq_gen fun N5 hN5 => ?_
          simp [reprW, ys, mRet, mSeq, mNext, mIfS, mSet, mPar, mDrop, mAndV, mOrV, mNotV, mAnd, mOr, mNot, mB, mIf, mCB, mCons, mNil, mVar, mC, mBin, mUn, mTup, mLst, mCall, mCallK, mChain, isiW, startE, DEnv.at, DEnv.put, D.isa, tyN, sixNames, isNum, isCnt, okD, ordW, intW, sizeLine, tyNames, lenW, mNever]
          refine due _ _ _ (due _ _ _ ?_)
          rw [hN5]; clear hN5
          refine seq_gen fun N6 hN6 => ?_
          simp [reprW, ys, sh, neX, twoStr, eqv_str, mRet, mSeq, mNext, mIfS, mSet, mPar, mDrop, mAndV, mOrV, mNotV, mAnd, mOr, mNot, mB, mIf, mCB, mCons, mNil, mVar, mC, mBin, mUn, mTup, mLst, mCall, mCallK, mChain, isiW, startE, DEnv.at, DEnv.put, D.isa, tyN, sixNames, isNum, isCnt, okD, ordW, intW, sizeLine, tyNames, lenW, mNever]
          refine tr _ _ (te _ _ ?_)
          simp [sh]
          rw [hN6]; clear hN6
          simp [reprW, ys, sh, neX, twoStr, eqv_str, perm, mRet, mSeq, mNext, mIfS, mSet, mPar, mDrop, mAndV, mOrV, mNotV, mAnd, mOr, mNot, mB, mIf, mCB, mCons, mNil, mVar, mC, mBin, mUn, mTup, mLst, mCall, mCallK, mChain, isiW, startE, DEnv.at, DEnv.put, D.isa, tyN, sixNames, isNum, isCnt, okD, ordW, intW, sizeLine, tyNames, lenW, mNever]
          refine tr _ _ (te _ _ ?_)
          simp [sh, ys]
          exact a1 _ ⟨⟨_, _, _, _, _, _, rfl⟩, by simp only; omega⟩
      split
      · refine ⟨by omega, fun j j0 j1 => ?_⟩
        refine ⟨11 + j, rfl, by omega, by omega, by omega, fun y n' y1 y2 y3 hn => ?_⟩
        exact step3 y n' y1 (by omega) (by omega) (by omega)
      · exact step3 x _ x1 x2 x3 (by omega)
    refine ⟨by omega, fun i i0 i1 => ?_⟩
    have b5 : bT (3 + 2) = 307200 := by decide
    have b3 : bT 3 = 19200 := by decide
    have c3 : cR 3 = 6400 := by decide
    have t3 : cT 3 = 384 := by decide
    split
    · refine ⟨fr, fs, nums, 3, 9, rfl, hfM, by omega, by omega, by omega, fun t n' ht _ hn => ?_⟩
      obtain ⟨e1, e2, e3⟩ := ht.nice f2 f7
      exact step _ _ e1 (by omega) (by omega) (by omega)
    · refine ⟨fr, fs, nums, 3, rfl, hf, by omega, by omega, fun t n' ht hn => ?_⟩
      obtain ⟨e1, e2, e3⟩ := ht.nice f2 f7
      exact step _ _ e1 (by omega) (by omega) (by omega)
  · rw [hN]
    simp [mRet, mSeq, mNext, mIfS, mSet, mPar, mDrop, mAndV, mOrV, mNotV, mAnd, mOr, mNot, mB, mIf, mCB, mCons, mNil, mVar, mC, mBin, mUn, mTup, mLst, mCall, mCallK, mChain, isiW, startE, DEnv.at, DEnv.put, D.isa, tyN, sixNames, isNum, isCnt, okD, ordW, intW, sizeLine, tyNames, lenW, mNever]
theorem law_all {f__law_mixed f__law_take f__law_begun f__law_shuffled f_is_number f_is_count f_is_field f_are_trees f_is_tree_of f_is_tree f_is_test f__law_pick f__law_odd f__law_frame f__law_test f__law_leaf f__law_tree f__law_marked_tree f__law_is_word f__law_is_due f__law_bent f__law_chain f_law : Addr} {fd__law_mixed fd__law_take fd__law_begun fd__law_shuffled fd_is_number fd_is_count fd_is_field fd_are_trees fd_is_tree_of fd_is_tree fd_is_test fd__law_pick fd__law_odd fd__law_frame fd__law_test fd__law_leaf fd__law_tree fd__law_marked_tree fd__law_is_word fd__law_is_due fd__law_bent fd__law_chain fd_law : FuncData} (nb : NB mg) (g_LETTERS : Glob K mg "LETTERS" Fn.g_LETTERS) (g_KEPT_WORDS : Glob K mg "KEPT_WORDS" Fn.g_KEPT_WORDS) (g_MOST_LETTERS : Glob K mg "MOST_LETTERS" Fn.g_MOST_LETTERS) (g_MOST_LEVELS : Glob K mg "MOST_LEVELS" Fn.g_MOST_LEVELS) (g_BARE : Glob K mg "BARE" Fn.g_BARE) (g_WITH_NUMBER : Glob K mg "WITH_NUMBER" Fn.g_WITH_NUMBER) (g_JOINING : Glob K mg "JOINING" Fn.g_JOINING) (g_ONLY_TREES : Glob K mg "ONLY_TREES" Fn.g_ONLY_TREES) (at__law_mixed : At K mg "_law_mixed" s__law_mixed f__law_mixed fd__law_mixed) (at__law_take : At K mg "_law_take" s__law_take f__law_take fd__law_take) (at__law_begun : At K mg "_law_begun" s__law_begun f__law_begun fd__law_begun) (at__law_shuffled : At K mg "_law_shuffled" s__law_shuffled f__law_shuffled fd__law_shuffled) (at_is_number : At K mg "is_number" s_is_number f_is_number fd_is_number) (at_is_count : At K mg "is_count" s_is_count f_is_count fd_is_count) (at_is_field : At K mg "is_field" s_is_field f_is_field fd_is_field) (at_are_trees : At K mg "are_trees" s_are_trees f_are_trees fd_are_trees) (at_is_tree_of : At K mg "is_tree_of" s_is_tree_of f_is_tree_of fd_is_tree_of) (at_is_tree : At K mg "is_tree" s_is_tree f_is_tree fd_is_tree) (at_is_test : At K mg "is_test" s_is_test f_is_test fd_is_test) (at__law_pick : At K mg "_law_pick" s__law_pick f__law_pick fd__law_pick) (at__law_odd : At K mg "_law_odd" s__law_odd f__law_odd fd__law_odd) (at__law_frame : At K mg "_law_frame" s__law_frame f__law_frame fd__law_frame) (at__law_test : At K mg "_law_test" s__law_test f__law_test fd__law_test) (at__law_leaf : At K mg "_law_leaf" s__law_leaf f__law_leaf fd__law_leaf) (at__law_tree : At K mg "_law_tree" s__law_tree f__law_tree fd__law_tree) (at__law_marked_tree : At K mg "_law_marked_tree" s__law_marked_tree f__law_marked_tree fd__law_marked_tree) (at__law_is_word : At K mg "_law_is_word" s__law_is_word f__law_is_word fd__law_is_word) (at__law_is_due : At K mg "_law_is_due" s__law_is_due f__law_is_due fd__law_is_due) (at__law_bent : At K mg "_law_bent" s__law_bent f__law_bent fd__law_bent) (at__law_chain : At K mg "_law_chain" s__law_chain f__law_chain fd__law_chain) (at_law : At K mg "law" s_law f_law fd_law) (low : ∃ o, base.get? sysModules = some o) : LawOk P w K mg base 36 f_law fd_law := by
  have T : Txt K mg base := ⟨nb, low, g_LETTERS, g_KEPT_WORDS, g_MOST_LETTERS, g_MOST_LEVELS, g_BARE, g_WITH_NUMBER, g_JOINING, g_ONLY_TREES⟩
  have t0 : FnOk P w K mg base CX0 2 f__law_take fd__law_take ["state", "size"] spTake := ok_take0 T at__law_take.fn at__law_mixed.fn at__law_mixed.mg
  have o__law_take : Ok P w K mg base "_law_take" s__law_take 2 ["state", "size"] W__law_take := Ok.mk' at__law_take (at__law_take.fn.binds (ps := ["state", "size"]) fun _ _ _ _ _ _ us hl => match us, hl with | [_, _], _ => rfl) (FnG.ofOk t0 w__law_take take_of)
  have o__law_shuffled : Ok P w K mg base "_law_shuffled" s__law_shuffled 3 ["state", "some"] W__law_shuffled := Ok.mk' at__law_shuffled (at__law_shuffled.fn.binds (ps := ["state", "some"]) fun _ _ _ _ _ _ us hl => match us, hl with | [_, _], _ => rfl) (FnG.ofOk (ok_shuf0 T at__law_shuffled.fn at__law_take.fn at__law_take.mg t0) w__law_shuffled fun _ _ _ q => q)
  have o_is_number := ok_is_number (P := P) (w := w) T at_is_number
  have o_is_count := ok_is_count (P := P) (w := w) T at_is_count o_is_number
  have o_is_field := ok_is_field (P := P) (w := w) T at_is_field
  have o_is_tree_of : Ok P w K mg base "is_tree_of" s_is_tree_of 27 ["thing", "levels", "is_test_alone"] W_is_tree_of := all_is_tree_of (P := P) (w := w) T at_is_tree_of at_are_trees o_is_count o_is_field 12
  have o_are_trees : Ok P w K mg base "are_trees" s_are_trees 28 ["things", "levels", "is_test_alone"] W_are_trees := ok_are_trees (P := P) (w := w) (kv := 27) T at_are_trees o_is_tree_of (by omega) (g_are_trees 12) (r_are_trees 12)
  have o_is_tree := ok_is_tree (P := P) (w := w) T at_is_tree o_is_tree_of
  have o_is_test := ok_is_test (P := P) (w := w) T at_is_test o_is_tree_of
  have o__law_pick := ok__law_pick (P := P) (w := w) T at__law_pick o__law_take
  have o__law_odd := ok__law_odd (P := P) (w := w) T at__law_odd o__law_pick
  have o__law_frame := ok__law_frame (P := P) (w := w) T at__law_frame o__law_shuffled o__law_take
  have o__law_test : Ok P w K mg base "_law_test" s__law_test 9 ["state", "frame", "deep"] W__law_test := all__law_test (P := P) (w := w) T at__law_test o__law_pick o__law_take 5
  have o__law_leaf := ok__law_leaf (P := P) (w := w) T at__law_leaf o__law_pick o__law_shuffled o__law_take o__law_test
  have o__law_tree : OkM P w K mg base "_law_tree" s__law_tree 16 ["state", "frame", "deep"] W__law_tree := all__law_tree (P := P) (w := w) T at__law_tree o__law_leaf o__law_take o__law_test 5
  have o__law_marked_tree := ok__law_marked_tree (P := P) (w := w) T at__law_marked_tree o__law_tree
  have o__law_is_word := ok__law_is_word (P := P) (w := w) T at__law_is_word
  have o__law_is_due : Ok P w K mg base "_law_is_due" s__law_is_due 14 ["matter", "levels", "is_bare"] W__law_is_due := all__law_is_due (P := P) (w := w) T at__law_is_due o__law_is_word 12
  have o__law_bent : Ok P w K mg base "_law_bent" s__law_bent 35 ["state", "matter"] W__law_bent := all__law_bent (P := P) (w := w) T at__law_bent o__law_odd o__law_pick o__law_take 30
  have o__law_chain := ok__law_chain (P := P) (w := w) T at__law_chain o__law_pick
  refine law_of (k := 35) (si := 1) (m := m_law) at_law.fn sc_law rfl at__law_begun.fn at__law_begun.mg (at__law_begun.fn.binds (ps := ["script"]) fun _ _ _ _ _ _ us hl => match us, hl with | [_], _ => rfl) (ok_begun0 T at__law_begun.fn) (by decide) rfl rfl (by first | exact Or.inl rfl | exact Or.inr (Or.inl rfl) | exact Or.inr (Or.inr rfl)) (by first | exact Or.inl rfl | exact Or.inr rfl) rfl (fun cdv A outer s H hr hgd => ?_) r_law
  unfold m_law
  exact (dss_cons (ds_for PassesOwn.never rfl (di_range (by rfl) T.nb.range (da_cons (de_op od_add de_int (de_callB (cd_min2 rfl) (by rfl) T.nb.min bt_min (da_cons (de_callB cd_len (by rfl) T.nb.len bt_len (da_cons (de_v 0) da_nil)) (da_cons de_int da_nil)))) da_nil)) (dg_name (i := 2) sc_law.nd rfl (by first | exact Or.inl rfl | exact Or.inr rfl)) (dss_cons (ds_s (i := 3) (de_ok o__law_frame (hr.mono (by omega)) hgd (da_cons (de_v 1) (da_cons de_int da_nil))) sc_law.nd)
    (dss_cons (ds_s (i := 4) (de_if (dt_cmp od_gt (de_ok o__law_take (hr.mono (by omega)) hgd (da_cons (de_v 1) (da_cons de_int da_nil))) de_int (nomark _)) (de_ok o__law_marked_tree (hr.mono (by omega)) hgd (da_cons (de_v 1) (da_cons (de_v 3) (da_cons de_int (da_cons de_int da_nil))))) (de_ok o__law_test (hr.mono (by omega)) hgd (da_cons (de_v 1) (da_cons (de_v 3) (da_cons de_int da_nil))))) sc_law.nd)
    (dss_cons (ds_if (dt_cmp (od_eqX hr.units T.low) (de_ok o__law_take (hr.mono (by omega)) hgd (da_cons (de_v 1) (da_cons de_int da_nil))) de_int (nomark _)) (dss_one (ds_s (i := 4) (de_ok o__law_chain (hr.mono (by omega)) hgd (da_cons (de_v 1) (da_cons (de_op od_add de_int (de_ok o__law_take (hr.mono (by omega)) hgd (da_cons (de_v 1) (da_cons de_int da_nil)))) da_nil))) sc_law.nd)) dss_nil)
    (dss_cons (ds_for PassesOwn.never rfl (di_range (by rfl) T.nb.range (da_cons (de_ok o__law_pick (hr.mono (by omega)) hgd (da_cons (de_v 1) (da_cons (de_lst (da_cons de_int (da_cons de_int (da_cons de_int (da_cons de_int da_nil))))) da_nil))) da_nil)) (dg_name (i := 5) sc_law.nd rfl (by first | exact Or.inl rfl | exact Or.inr rfl)) (dss_one (ds_s (i := 4) (de_ok o__law_bent (hr.mono (by omega)) hgd (da_cons (de_v 1) (da_cons (de_v 4) da_nil))) sc_law.nd)))
    (dss_cons (ds_par (i := 6) (j := 7) rfl sc_law.nd rfl rfl (by decide) rfl rfl (da_cons (de_lst (da_cons (de_ok o__law_is_due (hr.mono (by omega)) hgd (da_cons (de_v 4) (da_cons de_int (da_cons de_bl da_nil)))) (da_cons (de_ok o__law_is_due (hr.mono (by omega)) hgd (da_cons (de_v 4) (da_cons de_int (da_cons de_bl da_nil)))) da_nil))) (da_cons (de_callB (cd_repr (by have := hr.un; omega) hgd T.low) (by rfl) T.nb.repr bt_repr (da_cons (de_v 4) da_nil)) da_nil)) (by rfl))
    (dss_cons (ds_if (dt_cmp (od_neX hr.units T.low) (de_callB (cd_repr (by have := hr.un; omega) hgd T.low) (by rfl) T.nb.repr bt_repr (da_cons (de_lst (da_cons (de_ok o_is_tree (hr.mono (by omega)) hgd (da_cons (de_v 4) da_nil)) (da_cons (de_ok o_is_test (hr.mono (by omega)) hgd (da_cons (de_v 4) da_nil)) da_nil))) da_nil)) (de_callB (cd_repr (by have := hr.un; omega) hgd T.low) (by rfl) T.nb.repr bt_repr (da_cons (de_v 6) da_nil)) (nomark _)) (dss_one (ds_ret de_bl)) dss_nil)
    (dss_one (ds_if (DW.dt (dw_or (dt_cmp (od_neX hr.units T.low) (de_callB (cd_repr (by have := hr.un; omega) hgd T.low) (by rfl) T.nb.repr bt_repr (da_cons (de_lst (da_cons (de_okK (ks := ["thing"]) (js := [0]) o_is_tree (hr.mono (by omega)) hgd (fun _ _ _ _ _ _ us hl => match us, hl with | [_], _ => rfl) (dk_cons (de_v 4) dk_nil)) (da_cons (de_okK (ks := ["thing"]) (js := [0]) o_is_test (hr.mono (by omega)) hgd (fun _ _ _ _ _ _ us hl => match us, hl with | [_], _ => rfl) (dk_cons (de_v 4) dk_nil)) da_nil))) da_nil)) (de_callB (cd_repr (by have := hr.un; omega) hgd T.low) (by rfl) T.nb.repr bt_repr (da_cons (de_v 6) da_nil)) (nomark _)) (dw_or1 (dt_cmp (od_neX hr.units T.low) (de_callB (cd_repr (by have := hr.un; omega) hgd T.low) (by rfl) T.nb.repr bt_repr (da_cons (de_v 4) da_nil)) (de_v 7) (nomark _))))) (dss_one (ds_ret de_bl)) dss_nil)))))))))
    (dss_one (ds_ret de_bl)))
end K05
open PySem PySem.W PyProof.Rows
set_option maxRecDepth 100000 in
set_option maxHeartbeats 0 in
theorem PySem.Challenge.cw_markedways_k05_trees_judged_holds : PySem.Challenge.rw_markedways_k05_trees_judged.Holds := by
  w_on; o_law; k_head; (case hw => w_witness2)
  k_fill
  refine DL.walk_law (l := PySem.Challenge.rw_markedways_k05_trees_judged) (k := 36) (by decide +kernel) rfl rfl ⟨rfl, by decide, by decide⟩ (fun w h Y => PySem.W.kIn_of Y) ?F
  case F =>
    intro w mg fa h KX G hmg
    obtain ⟨f__law_mixed, fd__law_mixed, at__law_mixed⟩ := DL.pick KX (p := fun K => ∃ f fd, DL.At K mg "_law_mixed" K05.s__law_mixed f fd) (by
      refine' DL.def_at KX G ?a ?l ?c ?k
      (case a => k_is); (case l => k_is); (case c => k_is); (case k => k_is))
    obtain ⟨f__law_take, fd__law_take, at__law_take⟩ := DL.pick KX (p := fun K => ∃ f fd, DL.At K mg "_law_take" K05.s__law_take f fd) (by
      refine' DL.def_at KX G ?a ?l ?c ?k
      (case a => k_is); (case l => k_is); (case c => k_is); (case k => k_is))
    obtain ⟨f__law_begun, fd__law_begun, at__law_begun⟩ := DL.pick KX (p := fun K => ∃ f fd, DL.At K mg "_law_begun" K05.s__law_begun f fd) (by
      refine' DL.def_at KX G ?a ?l ?c ?k
      (case a => k_is); (case l => k_is); (case c => k_is); (case k => k_is))
    obtain ⟨f__law_shuffled, fd__law_shuffled, at__law_shuffled⟩ := DL.pick KX (p := fun K => ∃ f fd, DL.At K mg "_law_shuffled" K05.s__law_shuffled f fd) (by
      refine' DL.def_at KX G ?a ?l ?c ?k
      (case a => k_is); (case l => k_is); (case c => k_is); (case k => k_is))
    obtain ⟨f_is_number, fd_is_number, at_is_number⟩ := DL.pick KX (p := fun K => ∃ f fd, DL.At K mg "is_number" K05.s_is_number f fd) (by
      refine' DL.def_at KX G ?a ?l ?c ?k
      (case a => k_is); (case l => k_is); (case c => k_is); (case k => k_is))
    obtain ⟨f_is_count, fd_is_count, at_is_count⟩ := DL.pick KX (p := fun K => ∃ f fd, DL.At K mg "is_count" K05.s_is_count f fd) (by
      refine' DL.def_at KX G ?a ?l ?c ?k
      (case a => k_is); (case l => k_is); (case c => k_is); (case k => k_is))
    obtain ⟨f_is_field, fd_is_field, at_is_field⟩ := DL.pick KX (p := fun K => ∃ f fd, DL.At K mg "is_field" K05.s_is_field f fd) (by
      refine' DL.def_at KX G ?a ?l ?c ?k
      (case a => k_is); (case l => k_is); (case c => k_is); (case k => k_is))
    obtain ⟨f_are_trees, fd_are_trees, at_are_trees⟩ := DL.pick KX (p := fun K => ∃ f fd, DL.At K mg "are_trees" K05.s_are_trees f fd) (by
      refine' DL.def_at KX G ?a ?l ?c ?k
      (case a => k_is); (case l => k_is); (case c => k_is); (case k => k_is))
    obtain ⟨f_is_tree_of, fd_is_tree_of, at_is_tree_of⟩ := DL.pick KX (p := fun K => ∃ f fd, DL.At K mg "is_tree_of" K05.s_is_tree_of f fd) (by
      refine' DL.def_at KX G ?a ?l ?c ?k
      (case a => k_is); (case l => k_is); (case c => k_is); (case k => k_is))
    obtain ⟨f_is_tree, fd_is_tree, at_is_tree⟩ := DL.pick KX (p := fun K => ∃ f fd, DL.At K mg "is_tree" K05.s_is_tree f fd) (by
      refine' DL.def_at KX G ?a ?l ?c ?k
      (case a => k_is); (case l => k_is); (case c => k_is); (case k => k_is))
    obtain ⟨f_is_test, fd_is_test, at_is_test⟩ := DL.pick KX (p := fun K => ∃ f fd, DL.At K mg "is_test" K05.s_is_test f fd) (by
      refine' DL.def_at KX G ?a ?l ?c ?k
      (case a => k_is); (case l => k_is); (case c => k_is); (case k => k_is))
    obtain ⟨f__law_pick, fd__law_pick, at__law_pick⟩ := DL.pick KX (p := fun K => ∃ f fd, DL.At K mg "_law_pick" K05.s__law_pick f fd) (by
      refine' DL.def_at KX G ?a ?l ?c ?k
      (case a => k_is); (case l => k_is); (case c => k_is); (case k => k_is))
    obtain ⟨f__law_odd, fd__law_odd, at__law_odd⟩ := DL.pick KX (p := fun K => ∃ f fd, DL.At K mg "_law_odd" K05.s__law_odd f fd) (by
      refine' DL.def_at KX G ?a ?l ?c ?k
      (case a => k_is); (case l => k_is); (case c => k_is); (case k => k_is))
    obtain ⟨f__law_frame, fd__law_frame, at__law_frame⟩ := DL.pick KX (p := fun K => ∃ f fd, DL.At K mg "_law_frame" K05.s__law_frame f fd) (by
      refine' DL.def_at KX G ?a ?l ?c ?k
      (case a => k_is); (case l => k_is); (case c => k_is); (case k => k_is))
    obtain ⟨f__law_test, fd__law_test, at__law_test⟩ := DL.pick KX (p := fun K => ∃ f fd, DL.At K mg "_law_test" K05.s__law_test f fd) (by
      refine' DL.def_at KX G ?a ?l ?c ?k
      (case a => k_is); (case l => k_is); (case c => k_is); (case k => k_is))
    obtain ⟨f__law_leaf, fd__law_leaf, at__law_leaf⟩ := DL.pick KX (p := fun K => ∃ f fd, DL.At K mg "_law_leaf" K05.s__law_leaf f fd) (by
      refine' DL.def_at KX G ?a ?l ?c ?k
      (case a => k_is); (case l => k_is); (case c => k_is); (case k => k_is))
    obtain ⟨f__law_tree, fd__law_tree, at__law_tree⟩ := DL.pick KX (p := fun K => ∃ f fd, DL.At K mg "_law_tree" K05.s__law_tree f fd) (by
      refine' DL.def_at KX G ?a ?l ?c ?k
      (case a => k_is); (case l => k_is); (case c => k_is); (case k => k_is))
    obtain ⟨f__law_marked_tree, fd__law_marked_tree, at__law_marked_tree⟩ := DL.pick KX (p := fun K => ∃ f fd, DL.At K mg "_law_marked_tree" K05.s__law_marked_tree f fd) (by
      refine' DL.def_at KX G ?a ?l ?c ?k
      (case a => k_is); (case l => k_is); (case c => k_is); (case k => k_is))
    obtain ⟨f__law_is_word, fd__law_is_word, at__law_is_word⟩ := DL.pick KX (p := fun K => ∃ f fd, DL.At K mg "_law_is_word" K05.s__law_is_word f fd) (by
      refine' DL.def_at KX G ?a ?l ?c ?k
      (case a => k_is); (case l => k_is); (case c => k_is); (case k => k_is))
    obtain ⟨f__law_is_due, fd__law_is_due, at__law_is_due⟩ := DL.pick KX (p := fun K => ∃ f fd, DL.At K mg "_law_is_due" K05.s__law_is_due f fd) (by
      refine' DL.def_at KX G ?a ?l ?c ?k
      (case a => k_is); (case l => k_is); (case c => k_is); (case k => k_is))
    obtain ⟨f__law_bent, fd__law_bent, at__law_bent⟩ := DL.pick KX (p := fun K => ∃ f fd, DL.At K mg "_law_bent" K05.s__law_bent f fd) (by
      refine' DL.def_at KX G ?a ?l ?c ?k
      (case a => k_is); (case l => k_is); (case c => k_is); (case k => k_is))
    obtain ⟨f__law_chain, fd__law_chain, at__law_chain⟩ := DL.pick KX (p := fun K => ∃ f fd, DL.At K mg "_law_chain" K05.s__law_chain f fd) (by
      refine' DL.def_at KX G ?a ?l ?c ?k
      (case a => k_is); (case l => k_is); (case c => k_is); (case k => k_is))
    obtain ⟨f_law, fd_law, at_law⟩ := DL.pick KX (p := fun K => ∃ f fd, DL.At K mg "law" K05.s_law f fd) (by
      refine' DL.def_at KX G ?a ?l ?c ?k
      (case a => k_is); (case l => k_is); (case c => k_is); (case k => k_is))
    have g_LETTERS := DL.pick KX (p := fun K => DL.Glob K mg "LETTERS" Fn.g_LETTERS) (by
      refine' DL.glob_str KX G ?a
      (case a => k_is))
    have g_KEPT_WORDS := DL.pick KX (p := fun K => DL.Glob K mg "KEPT_WORDS" Fn.g_KEPT_WORDS) (by
      refine' DL.glob_tup KX G ?a ?l ?e ?s
      (case a => k_is); (case l => k_is); (case e => exact rfl); (case s => decide))
    have g_MOST_LETTERS := DL.pick KX (p := fun K => DL.Glob K mg "MOST_LETTERS" Fn.g_MOST_LETTERS) (by
      refine' DL.glob_int KX G ?a
      (case a => k_is))
    have g_MOST_LEVELS := DL.pick KX (p := fun K => DL.Glob K mg "MOST_LEVELS" Fn.g_MOST_LEVELS) (by
      refine' DL.glob_int KX G ?a
      (case a => k_is))
    have g_BARE := DL.pick KX (p := fun K => DL.Glob K mg "BARE" Fn.g_BARE) (by
      refine' DL.glob_tup KX G ?a ?l ?e ?s
      (case a => k_is); (case l => k_is); (case e => exact rfl); (case s => decide))
    have g_WITH_NUMBER := DL.pick KX (p := fun K => DL.Glob K mg "WITH_NUMBER" Fn.g_WITH_NUMBER) (by
      refine' DL.glob_tup KX G ?a ?l ?e ?s
      (case a => k_is); (case l => k_is); (case e => exact rfl); (case s => decide))
    have g_JOINING := DL.pick KX (p := fun K => DL.Glob K mg "JOINING" Fn.g_JOINING) (by
      refine' DL.glob_tup KX G ?a ?l ?e ?s
      (case a => k_is); (case l => k_is); (case e => exact rfl); (case s => decide))
    have g_ONLY_TREES := DL.pick KX (p := fun K => DL.Glob K mg "ONLY_TREES" Fn.g_ONLY_TREES) (by
      refine' DL.glob_tup KX G ?a ?l ?e ?s
      (case a => k_is); (case l => k_is); (case e => exact rfl); (case s => decide))
    have nb : DL.NB mg := by
      refine' DL.nb_of KX G ?z0 ?z1 ?z2 ?z3 ?z4 ?z5 ?z6 ?z7 ?z8 ?z9 ?z10 ?z11 ?z12 ?z13 ?z14 ?z15 <;> k_is
    cases hmg.symm.trans at_law.mg
    exact ⟨fd_law, DL.law_binds at_law.fn (fun _ _ _ _ _ _ _ => rfl), fun base _ _ low => K05.law_all nb g_LETTERS g_KEPT_WORDS g_MOST_LETTERS g_MOST_LEVELS g_BARE g_WITH_NUMBER g_JOINING g_ONLY_TREES at__law_mixed at__law_take at__law_begun at__law_shuffled at_is_number at_is_count at_is_field at_are_trees at_is_tree_of at_is_tree at_is_test at__law_pick at__law_odd at__law_frame at__law_test at__law_leaf at__law_tree at__law_marked_tree at__law_is_word at__law_is_due at__law_bent at__law_chain at_law low⟩
