import PyProof.Rows.All
import Wide.All
import OpenK.AllK
import Wide.FinOn
import HandS.ForMost
import HandS.IsInst
import HandS.TupAny
import HandS.Strs
import HandS.Lambda
import HandS.Star
import HandS.ForExc
import KE.KDictZip
import KE.GoesEnum
import KE.KItemsList
import HandS.ListItems
import HandS.Finally
import KE.SortCalls
import HandS.More
import HandS.TupLe
import HandS.Nested
import HandS.ExcIs
import HandS.SetFor
import HandS.EndOwn
import PyProof.ExcBaseAll.ValueError
import HandS.ExcInit
import KE.KExcSuper
import KE.KSuper
import KE.KExcStr
import KE.KExcIs
import HandS.Iter
import PySem.Challenge.RW_markedways_k01_errors_apart
set_option Elab.async false
set_option linter.all false
set_option maxRecDepth 100000
set_option maxHeartbeats 4000000
/-! The data layer: Python data as trees, the heap hidden. -/
namespace DL
open PySem L2

/-- the addresses of the state of all draws: its dict, its list of large cells, its list of cells -/
structure ZA where
  a : Addr
  b : Addr
  c : Addr
/-- what no block of ours changes but by its own rules -/
def Stab : HO → Prop
  | .frz _ _ => True
  | .ext _ => True
  | _ => False
/-- a lambda's text -/
structure LamD where
  qual : Str
  params : Arguments
  body : Expr
  scope : Scope
abbrev exU (a : Addr) : HO := .ext fun h => ∃ o, h.get? a = some o
/-- the names that a lambda takes from around -/
def LamD.free (L : LamD) : List Str := (L.scope.names.filter fun y => y.2 == .free).map (·.1)
/-- the closure: the free names, each with its cell -/
structure CloAt (L : LamD) (clo : List (Str × Addr)) (cs : List Addr) : Prop where
  len : L.free.length = cs.length
  nd : cs.Nodup
  get : ∀ (i : Nat) n c, L.free[i]? = some n → cs[i]? = some c → clo.lookup n = some c
  has : ∀ n c, clo.lookup n = some c → ∃ i : Nat, L.free[i]? = some n ∧ cs[i]? = some c
/-- a lambda stands: its function, its code object, its cells and what they hold -/
structure LamIn (f : Addr) (L : LamD) (vs : List V) (H : Hp) (clo : List (Str × Addr)) (pm : Value) (c' : Addr) (ctv : Value) (us : List Value) (cs : List Addr) : Prop where
  fn : H f = some (.frz (PySem.W.kla_obj "<lambda>" L.qual L.params L.body L.scope clo pm c' ctv) (exU f))
  code : H c' = some (LamX.CodeO c' L.qual)
  vals : Vals vs us
  clo : CloAt L clo cs
  len : us.length = cs.length
  cell : ∀ (i : Nat) c u, cs[i]? = some c → us[i]? = some u → ∃ ob φ, H c = some (.frz ob (.ext φ)) ∧ ob.data = .cell (some u)
def LamAt (f : Addr) (L : LamD) (vs : List V) (H : Hp) : Prop := ∃ clo pm c' ctv us cs, LamIn f L vs H clo pm c' ctv us cs
/-- what stands beside: the world, the state of all draws, a frame whose marks are counted (its address, its fields, its numbers), the tables of code objects, the lambdas that stand, what is kept of known objects -/
structure Z where
  w : World
  q : Option ZA := none
  fr : Option (Addr × V × V) := none
  act : Bool := false
  tb : List (Addr × Str) := []
  lm : List (Addr × LamD × List V) := []
  inv : Hp → Prop := fun _ => True
  stay : ∀ H H' : Hp, (∀ p o, Stab o → H p = some o → H' p = some o) → inv H → inv H' := by intros; trivial
  lmi : ∀ (f : Addr) (L : LamD) (vs : List V) (H : Hp), (f, L, vs) ∈ lm → inv H → LamAt f L vs H := by intro _ _ _ _ h; cases h
/-- data -/
inductive D where
  | non
  | bl (b : Bool)
  | int (i : Int)
  | str (x : Str)
  | ty (n : String)
  | tup (ds : List D)
  | lst (ds : List D)
  | dct (ks : List Key) (ds : List D)
  | dcT (ks : List (List Key)) (ds : List D)
  | ins (C : Addr) (ns : List Str) (ds : List D)
  | frm (f n : D)
  | fra (f n : D)
  | exn (C : Addr) (ns : List Str) (ds : List D)
  | lam (L : LamD) (ds : List D)
  | scr (ns : List Int)
  | sta
  | cls (C : Addr)
  deriving Inhabited

def frO (vf vn : V) (m : Int) : HO := .dK [(.inr "fields", vf), (.inr "numbers", vn), (.inr "marks", .int m)]
def frKeys : List Key := [.inr "fields", .inr "numbers", .inr "marks"]
/-- how a tracked object may change under a call -/
inductive Evo : HO → HO → Prop
  | same (o : HO) : Evo o o
  | frm (vf vn : V) (m m' : Int) : 0 ≤ m' → Evo (frO vf vn m) (frO vf vn m')
theorem Evo.trans {a b c : HO} (h : Evo a b) (k : Evo b c) : Evo a c := by
  cases h with
  | same => exact k
  | frm vf vn m m' hm =>
    generalize e : frO vf vn m' = x at k
    cases k with
    | same => subst e; exact .frm _ _ _ _ hm
    | frm vf2 vn2 m2 m3 h3 =>
      unfold frO at e
      simp at e
      obtain ⟨rfl, rfl, rfl⟩ := e
      exact .frm _ _ _ _ h3
theorem Evo.lst {xs : List V} {o : HO} (h : Evo (.lst xs) o) : o = .lst xs := by
  generalize e : HO.lst xs = x at h
  cases h with
  | same => rfl
  | frm => unfold frO at e; cases e
theorem Evo.tup {xs : List V} {o : HO} (h : Evo (.tup xs) o) : o = .tup xs := by
  generalize e : HO.tup xs = x at h
  cases h with
  | same => rfl
  | frm => unfold frO at e; cases e
theorem Evo.frz {ob : Obj} {u o : HO} (h : Evo (.frz ob u) o) : o = .frz ob u := by
  generalize e : HO.frz ob u = x at h
  cases h with
  | same => rfl
  | frm => unfold frO at e; cases e
theorem Evo.ins {C dx : Addr} {fs : List (Str × V)} {o : HO} (h : Evo (.ins C dx fs) o) : o = .ins C dx fs := by
  generalize e : HO.ins C dx fs = x at h
  cases h with
  | same => rfl
  | frm => unfold frO at e; cases e
theorem Evo.dT {fs : List (List Key × V)} {o : HO} (h : Evo (.dT fs) o) : o = .dT fs := by
  generalize e : HO.dT fs = x at h
  cases h with
  | same => rfl
  | frm => unfold frO at e; cases e
theorem Evo.xd {fs : List (Str × V)} {o : HO} (h : Evo (.xd fs) o) : o = .xd fs := by
  generalize e : HO.xd fs = x at h
  cases h with
  | same => rfl
  | frm => unfold frO at e; cases e
theorem Evo.dK {kvs : List (Key × V)} {o : HO} (h : Evo (.dK kvs) o) (hk : kvs.map (·.1) ≠ frKeys) : o = .dK kvs := by
  generalize e : HO.dK kvs = x at h
  cases h with
  | same => rfl
  | frm => unfold frO at e; cases e; exact absurd rfl hk
theorem Evo.fr {vf vn : V} {m : Int} {o : HO} (h : Evo (frO vf vn m) o) (hm : 0 ≤ m) : ∃ m', 0 ≤ m' ∧ o = frO vf vn m' := by
  generalize e : frO vf vn m = x at h
  cases h with
  | same => exact ⟨m, hm, e.symm⟩
  | frm vf2 vn2 m2 m3 h3 =>
    unfold frO at e
    simp at e
    obtain ⟨rfl, rfl, rfl⟩ := e
    exact ⟨m3, h3, rfl⟩
theorem zip_keys {α β : Type} : ∀ {ks : List α} {xs : List β}, ks.length = xs.length → (ks.zip xs).map (·.1) = ks
  | [], _, _ => by simp
  | k :: ks, [], h => by simp at h
  | k :: ks, x :: xs, h => by simp [zip_keys (ks := ks) (xs := xs) (by simpa using h)]

/-- a tuple, tracked or of the written part -/
def TupAt (K : PySem.W.Frag) (G : Hp) (a : Addr) (xs : List V) : Prop := G a = some (.tup xs) ∨
  ∃ (o : Obj) (its : Array Value) (n : Nat), K.lookup a = some o ∧ o.cls = .type "tuple" ∧ o.data = .seq its n ∧ its.size ≤ sizeLine ∧ Vals xs its.toList
theorem TupAt.sq {K : PySem.W.Frag} {G : Hp} {a : Addr} {xs : List V} (h : TupAt K G a xs) : SqT K G a xs := h.elim (fun h => .inl (.inl h)) .inr
mutual
/-- v stands for the datum, its objects in G -/
inductive Is (z : Z) (K : PySem.W.Frag) (G : Hp) : V → D → Prop
  | non : Is z K G .non .non
  | bl (b : Bool) : Is z K G (.bl b) (.bl b)
  | int (i : Int) : Is z K G (.int i) (.int i)
  | str (x : Str) : Is z K G (.str x) (.str x)
  | ty (n : String) : Is z K G (.ty n) (.ty n)
  | tup {a : Addr} {xs : List V} {ds : List D} : TupAt K G a xs → IsA z K G xs ds → Is z K G (.ref a) (.tup ds)
  | lst {a : Addr} {xs : List V} {ds : List D} : G a = some (.lst xs) → IsA z K G xs ds → Is z K G (.ref a) (.lst ds)
  | dct {a : Addr} {ks : List Key} {xs : List V} {ds : List D} : G a = some (.dK (ks.zip xs)) → ks.length = xs.length → ks ≠ frKeys → IsA z K G xs ds → Is z K G (.ref a) (.dct ks ds)
  | dcT {a : Addr} {ks : List (List Key)} {xs : List V} {ds : List D} : G a = some (.dT (ks.zip xs)) → ks.length = xs.length → IsA z K G xs ds → Is z K G (.ref a) (.dcT ks ds)
  | ins {a C dx : Addr} {ns : List Str} {xs : List V} {ds : List D} : G a = some (.ins C dx (ns.zip xs)) → ns.length = xs.length → IsA z K G xs ds → Is z K G (.ref a) (.ins C ns ds)
  | frm {a : Addr} {vf vn : V} {m : Int} {f n : D} : G a = some (frO vf vn m) → 0 ≤ m → Is z K G vf f → Is z K G vn n → Is z K G (.ref a) (.frm f n)
  | fra {a : Addr} {vf vn : V} {f n : D} : z.fr = some (a, vf, vn) → Is z K G vf f → Is z K G vn n → Is z K G (.ref a) (.fra f n)
  | exn0 {a C : Addr} {oe : Obj} {u : HO} : G a = some (.frz oe u) → (∃ fs, oe.data = .fields fs) → oe.cls = .ref C → oe.dict = none → Is z K G (.ref a) (.exn C [] [])
  | exnM {a C t : Addr} {oe : Obj} {u : HO} {m : Str} : G a = some (.frz oe u) → (∃ fs, oe.data = .fields fs) → oe.cls = .ref C → oe.dict = none → (∀ fs, oe.data = .fields fs → fs[0]? = some (.ref t)) → G t = some (.tup [.str m]) → Is z K G (.ref a) (.exn C [] [.str m])
  | exn1 {a C dx : Addr} {oe : Obj} {u : HO} {ns : List Str} {xs : List V} {ds : List D} : G a = some (.frz oe u) → (∃ fs, oe.data = .fields fs) → oe.cls = .ref C → oe.dict = some dx → G dx = some (.xd (ns.zip xs)) → ns.length = xs.length → ns ≠ [] → IsA z K G xs ds → Is z K G (.ref a) (.exn C ns ds)
  | lam {a : Addr} {L : LamD} {xs : List V} {ds : List D} : (a, L, xs) ∈ z.lm → IsA z K G xs ds → Is z K G (.ref a) (.lam L ds)
  | scr {a : Addr} {ns : List Int} : SqL K G a (ns.map V.int) → Is z K G (.ref a) (.scr ns)
  | sta {q : ZA} : z.q = some q → Is z K G (.ref q.a) .sta
  | cls (C : Addr) : Is z K G (.ref C) (.cls C)
inductive IsA (z : Z) (K : PySem.W.Frag) (G : Hp) : List V → List D → Prop
  | nil : IsA z K G [] []
  | cons {v : V} {vs : List V} {d : D} {ds : List D} : Is z K G v d → IsA z K G vs ds → IsA z K G (v :: vs) (d :: ds)
end

/-- what is seen grows; a frame may change its marks -/
def Cel (o : HO) : Prop := ∃ (ob : Obj) (φ : Heap → Prop) (v : Option Value), o = .frz ob (.ext φ) ∧ ob.data = .cell v
def Evx (G G' : Hp) : Prop := ∀ p o, G p = some o → Cel o ∨ ∃ o', G' p = some o' ∧ Evo o o'
theorem Evx.get {G G' : Hp} (e : Evx G G') {p : Addr} {o : HO} (h : G p = some o) (n : ¬ Cel o) : ∃ o', G' p = some o' ∧ Evo o o' := (e p o h).resolve_left n
theorem Evx.frz {G G' : Hp} (e : Evx G G') {p : Addr} {ob : Obj} {u : HO} (h : G p = some (.frz ob u)) (n : ∃ fs, ob.data = .fields fs) : ∃ o', G' p = some o' ∧ Evo (.frz ob u) o' := e.get h fun ⟨ob', φ, v, w, d⟩ => by
  cases w
  obtain ⟨fs, d2⟩ := n
  rw [d] at d2; cases d2
theorem Evx.of_same {G G' : Hp} (h : Same G G') : Evx G G' := fun p o e => .inr ⟨o, h p o e, .same o⟩
theorem Evx.trans {G G1 G2 : Hp} (h : Evx G G1) (k : Evx G1 G2) : Evx G G2 := fun p o e => by
  rcases h p o e with c | ⟨o1, e1, v1⟩
  · exact .inl c
  · rcases k p o1 e1 with ⟨ob, φ, v, w, d⟩ | ⟨o2, e2, v2⟩
    · left
      cases v1 with
      | same => exact ⟨ob, φ, v, w, d⟩
      | frm => unfold frO at w; cases w
    · exact .inr ⟨o2, e2, v1.trans v2⟩
theorem sqT_evx {K : PySem.W.Frag} {G G' : Hp} {a : Addr} {xs : List V} (e : Evx G G') (h : TupAt K G a xs) : TupAt K G' a xs := by
  rcases h with h | h
  · obtain ⟨o', h', v⟩ := e.get h (fun ⟨_, _, _, w, _⟩ => by cases w)
    rw [v.tup] at h'
    exact .inl h'
  · exact .inr h
theorem sqL_evx {K : PySem.W.Frag} {G G' : Hp} {a : Addr} {xs : List V} (e : Evx G G') (h : SqL K G a xs) : SqL K G' a xs := by
  rcases h with (h | ⟨o, h⟩) | h
  · obtain ⟨o', h', v⟩ := e.get h (fun ⟨_, _, _, w, _⟩ => by cases w)
    rw [v.lst] at h'
    exact .inl (.inl h')
  · obtain ⟨o', h', v⟩ := e.get h (fun ⟨_, _, _, w, _⟩ => by cases w)
    rw [v.frz] at h'
    exact .inl (.inr ⟨o, h'⟩)
  · exact .inr h

mutual
theorem Is.evx {z : Z} {K : PySem.W.Frag} {G G' : Hp} (e : Evx G G') : ∀ {v : V} {d : D}, Is z K G v d → Is z K G' v d
  | _, _, .non => .non
  | _, _, .bl b => .bl b
  | _, _, .int i => .int i
  | _, _, .str x => .str x
  | _, _, .ty n => .ty n
  | _, _, .tup h t => .tup (sqT_evx e h) (IsA.evx e t)
  | _, _, .lst h t => .lst (by obtain ⟨o', h', v⟩ := e.get h (fun ⟨_, _, _, w, _⟩ => by cases w); rw [v.lst] at h'; exact h') (IsA.evx e t)
  | _, _, .dct h l k t => .dct (by obtain ⟨o', h', v⟩ := e.get h (fun ⟨_, _, _, w, _⟩ => by cases w); rw [v.dK (by rw [zip_keys l]; exact k)] at h'; exact h') l k (IsA.evx e t)
  | _, _, .dcT h l t => .dcT (by obtain ⟨o', h', v⟩ := e.get h (fun ⟨_, _, _, w, _⟩ => by cases w); rw [v.dT] at h'; exact h') l (IsA.evx e t)
  | _, _, .ins h l t => .ins (by obtain ⟨o', h', v⟩ := e.get h (fun ⟨_, _, _, w, _⟩ => by cases w); rw [v.ins] at h'; exact h') l (IsA.evx e t)
  | _, _, .frm h m f n => by
    obtain ⟨o', h', v⟩ := e.get h (fun ⟨_, _, _, w, _⟩ => by unfold frO at w; cases w)
    obtain ⟨m', hm', rfl⟩ := v.fr m
    exact .frm h' hm' (Is.evx e f) (Is.evx e n)
  | _, _, .fra h f n => .fra h (Is.evx e f) (Is.evx e n)
  | _, _, .exn0 h n c d => .exn0 (by obtain ⟨o', h', v⟩ := e.frz h n; rw [v.frz] at h'; exact h') n c d
  | _, _, .exnM h n c d x l => .exnM (by obtain ⟨o', h', v⟩ := e.frz h n; rw [v.frz] at h'; exact h') n c d x (by obtain ⟨o', h', v⟩ := e.get l (fun ⟨_, _, _, w, _⟩ => by cases w); rw [v.tup] at h'; exact h')
  | _, _, .exn1 h n c d x l nn t => .exn1 (by obtain ⟨o', h', v⟩ := e.frz h n; rw [v.frz] at h'; exact h') n c d (by obtain ⟨o', h', v⟩ := e.get x (fun ⟨_, _, _, w, _⟩ => by cases w); rw [v.xd] at h'; exact h') l nn (IsA.evx e t)
  | _, _, .lam h t => .lam h (IsA.evx e t)
  | _, _, .scr h => .scr (sqL_evx e h)
  | _, _, .sta h => .sta h
  | _, _, .cls C => .cls C
theorem IsA.evx {z : Z} {K : PySem.W.Frag} {G G' : Hp} (e : Evx G G') : ∀ {vs : List V} {ds : List D}, IsA z K G vs ds → IsA z K G' vs ds
  | _, _, .nil => .nil
  | _, _, .cons h t => .cons (Is.evx e h) (IsA.evx e t)
end
section
variable {z : Z} {K : PySem.W.Frag} {G : Hp}
theorem IsA.length : ∀ {vs : List V} {ds : List D}, IsA z K G vs ds → vs.length = ds.length
  | _, _, .nil => rfl
  | _, _, .cons _ t => by simp [IsA.length t]
theorem IsA.get : ∀ {vs : List V} {ds : List D} {i : Nat} {v : V}, IsA z K G vs ds → vs[i]? = some v → ∃ d, ds[i]? = some d ∧ Is z K G v d
  | _, _, _, _, .nil, e => by simp at e
  | _, _, 0, _, .cons h _, e => by simp at e; subst e; exact ⟨_, rfl, h⟩
  | _, _, i + 1, v, .cons _ t, e => by
    obtain ⟨d, h1, h2⟩ := IsA.get (i := i) (v := v) t (by simpa using e)
    exact ⟨d, by simpa using h1, h2⟩
theorem IsA.getD : ∀ {vs : List V} {ds : List D} {i : Nat} {d : D}, IsA z K G vs ds → ds[i]? = some d → ∃ v, vs[i]? = some v ∧ Is z K G v d
  | _, _, _, _, .nil, e => by simp at e
  | _, _, 0, _, .cons h _, e => by simp at e; subst e; exact ⟨_, rfl, h⟩
  | _, _, i + 1, d, .cons _ t, e => by
    obtain ⟨v, h1, h2⟩ := IsA.getD (i := i) (d := d) t (by simpa using e)
    exact ⟨v, by simpa using h1, h2⟩
theorem IsA.append : ∀ {vs ws : List V} {ds es : List D}, IsA z K G vs ds → IsA z K G ws es → IsA z K G (vs ++ ws) (ds ++ es)
  | _, _, _, _, .nil, k => k
  | _, _, _, _, .cons h t, k => .cons h (IsA.append t k)
theorem IsA.take : ∀ {vs : List V} {ds : List D} (n : Nat), IsA z K G vs ds → IsA z K G (vs.take n) (ds.take n)
  | _, _, 0, _ => .nil
  | _, _, _ + 1, .nil => .nil
  | _, _, n + 1, .cons h t => .cons h (IsA.take n t)
theorem IsA.drop : ∀ {vs : List V} {ds : List D} (n : Nat), IsA z K G vs ds → IsA z K G (vs.drop n) (ds.drop n)
  | _, _, 0, h => h
  | _, _, _ + 1, .nil => .nil
  | _, _, n + 1, .cons _ t => IsA.drop n t
theorem IsA.eraseIdx : ∀ {vs : List V} {ds : List D} (n : Nat), IsA z K G vs ds → IsA z K G (vs.eraseIdx n) (ds.eraseIdx n)
  | _, _, _, .nil => .nil
  | _, _, 0, .cons _ t => t
  | _, _, n + 1, .cons h t => .cons h (IsA.eraseIdx n t)
theorem IsA.nil_iff {vs : List V} {ds : List D} (h : IsA z K G vs ds) : vs = [] ↔ ds = [] := by
  have e := h.length
  constructor
  · intro q; subst q; exact List.length_eq_zero_iff.mp (by simpa using e.symm)
  · intro q; subst q; exact List.length_eq_zero_iff.mp (by simpa using e)
theorem IsA.ints : ∀ {vs : List V} {ns : List Int}, IsA z K G vs (ns.map D.int) → vs = ns.map V.int
  | _, [], h => by cases h; rfl
  | _, n :: ns, h => by cases h with | cons a t => cases a; rw [IsA.ints t]; rfl
theorem IsA.of_ints : ∀ (ns : List Int), IsA z K G (ns.map V.int) (ns.map D.int)
  | [] => .nil
  | n :: ns => .cons (.int n) (IsA.of_ints ns)
theorem IsA.strs : ∀ {vs : List V} {ns : List Str}, IsA z K G vs (ns.map D.str) → vs = ns.map V.str
  | _, [], h => by cases h; rfl
  | _, n :: ns, h => by cases h with | cons a t => cases a; rw [IsA.strs t]; rfl
theorem IsA.of_strs : ∀ (ns : List Str), IsA z K G (ns.map V.str) (ns.map D.str)
  | [] => .nil
  | n :: ns => .cons (.str n) (IsA.of_strs ns)
theorem IsA.bls : ∀ {vs : List V} {ns : List Bool}, IsA z K G vs (ns.map D.bl) → vs = ns.map V.bl
  | _, [], h => by cases h; rfl
  | _, n :: ns, h => by cases h with | cons a t => cases a; rw [IsA.bls t]; rfl
end

/-- the heap without what is mutable -/
noncomputable def hide (S : Addr → Prop) (H : Hp) : Hp := open Classical in fun a => if S a then none else H a
theorem hide_get {S : Addr → Prop} {H : Hp} {a : Addr} {o : HO} : hide S H a = some o ↔ ¬ S a ∧ H a = some o := by
  unfold hide
  split
  · rename_i h; simp [h]
  · rename_i h; simp [h]
theorem hide_same {S : Addr → Prop} {H : Hp} : Same (hide S H) H := fun p o e => (hide_get.mp e).2
theorem hide_mono {S S' : Addr → Prop} {H : Hp} (h : ∀ p, S' p → S p) : Same (hide S H) (hide S' H) := fun p o e => hide_get.mpr ⟨fun q => (hide_get.mp e).1 (h p q), (hide_get.mp e).2⟩
theorem hide_keep {S : Addr → Prop} {H H' : Hp} (h : Same H H') : Same (hide S H) (hide S H') := fun p o e => hide_get.mpr ⟨(hide_get.mp e).1, h p o (hide_get.mp e).2⟩
/-- all but the marked addresses is as it was (frames but their marks, and what changes within); what is hidden is as it was -/
def Ext (M S : Addr → Prop) (H H' : Hp) : Prop := ∀ p o, ¬ M p → H p = some o → ∃ o', H' p = some o' ∧ Evo o o' ∧ (S p → (∀ φ, o ≠ .ext φ) → o' = o)
theorem Ext.refl {M S : Addr → Prop} {H : Hp} : Ext M S H H := fun p o _ e => ⟨o, e, .same o, fun _ _ => rfl⟩
theorem Ext.of_same {M S : Addr → Prop} {H H' : Hp} (h : Same H H') : Ext M S H H' := fun p o _ e => ⟨o, h p o e, .same o, fun _ _ => rfl⟩
theorem Ext.trans {M S : Addr → Prop} {H H1 H2 : Hp} (h : Ext M S H H1) (k : Ext M S H1 H2) : Ext M S H H2 := fun p o n e => by
  obtain ⟨o1, e1, v1, s1⟩ := h p o n e
  obtain ⟨o2, e2, v2, s2⟩ := k p o1 n e1
  exact ⟨o2, e2, v1.trans v2, fun sp no => by
    have q := s1 sp no
    rw [s2 sp (by rw [q]; exact no), q]⟩
theorem Ext.mono {M M' S S' : Addr → Prop} {H H' : Hp} (h : Ext M S H H') (k : ∀ p, M p → M' p) (l : ∀ p, S' p → S p) : Ext M' S' H H' := fun p o n e => by
  obtain ⟨o', e', v, s⟩ := h p o (fun q => n (k p q)) e
  exact ⟨o', e', v, fun q => s (l p q)⟩
theorem Ext.hide {M S T : Addr → Prop} {H H' : Hp} (h : Ext M T H H') (k : ∀ p, M p → S p) : Evx (DL.hide S H) (DL.hide S H') := fun p o e => by
  obtain ⟨n, e⟩ := hide_get.mp e
  obtain ⟨o', e', v, _⟩ := h p o (fun q => n (k p q)) e
  exact .inr ⟨o', hide_get.mpr ⟨n, e'⟩, v⟩
/-- the heap grows, by no instances -/
structure Grow (H H' : Hp) : Prop where
  same : Same H H'
  ins : ∀ p C dx fs, H' p = some (.ins C dx fs) → H p = some (.ins C dx fs)
theorem Grow.refl (H : Hp) : Grow H H := ⟨Same.refl H, fun _ _ _ _ h => h⟩
theorem Grow.trans {H H1 H2 : Hp} (a : Grow H H1) (b : Grow H1 H2) : Grow H H2 := ⟨fun p o e => b.same p o (a.same p o e), fun p C dx fs e => a.ins p C dx fs (b.ins p C dx fs e)⟩

/-- the state of all draws stands; n: how many numbers may still be mixed -/
structure StaOk (q : ZA) (n : Nat) (H : Hp) : Prop where
  ex : ∃ (r t : Int) (ws cs : List Int), H q.a = some (.dK [(.inr "wide", .ref q.b), (.inr "cells", .ref q.c), (.inr "rest", .int r), (.inr "turn", .int t)]) ∧
    H q.b = some (.lst (ws.map V.int)) ∧ H q.c = some (.lst (cs.map V.int)) ∧ 0 ≤ r ∧ 0 ≤ t ∧ t + n ≤ 2 ^ 40 ∧ (∀ x ∈ ws, 0 ≤ x) ∧ ws.length ≤ 63 ∧ (∀ x ∈ cs, 0 ≤ x ∧ x < 2 ^ 31) ∧ cs.length ≤ 63 ∧ q.b ≠ q.c
structure Sta (z : Z) (n : Nat) (mk : Option Int) (H : Hp) : Prop where
  dr : ∀ q, z.q = some q → StaOk q n H
  fr : ∀ a vf vn, z.fr = some (a, vf, vn) → ∃ m, 0 ≤ m ∧ H a = some (frO vf vn m) ∧ ∀ m', mk = some m' → m = m'
  inv : z.inv H
  tb : LamX.Tabs z.tb H
/-- what all may change -/
def Zf (z : Z) (p : Addr) : Prop := ∃ vf vn, z.fr = some (p, vf, vn)
def Zb (z : Z) (p : Addr) : Prop := ∃ q, (p, q) ∈ z.tb
def Zs (z : Z) (p : Addr) : Prop := (∃ q, z.q = some q ∧ (p = q.a ∨ p = q.b)) ∨ (z.act = true ∧ Zf z p) ∨ Zb z p
/-- the frame is not to be written -/
abbrev Z.off (z : Z) : Z := { z with act := false }
def Zt (z : Z) (p : Addr) : Prop := (∃ q, z.q = some q ∧ (p = q.a ∨ p = q.b ∨ p = q.c)) ∨ Zf z p ∨ Zb z p
theorem StaOk.same {q : ZA} {n : Nat} {H H' : Hp} (h : StaOk q n H) (s : ∀ p, p = q.a ∨ p = q.b ∨ p = q.c → H' p = H p) : StaOk q n H' := by
  obtain ⟨r, t, ws, cs, h1, h2, h3, h4⟩ := h.ex
  exact ⟨r, t, ws, cs, by rw [s _ (.inl rfl)]; exact h1, by rw [s _ (.inr (.inl rfl))]; exact h2, by rw [s _ (.inr (.inr rfl))]; exact h3, h4⟩
theorem StaOk.less {q : ZA} {n m : Nat} {H : Hp} (h : StaOk q n H) (hm : m ≤ n) : StaOk q m H := by
  obtain ⟨r, t, ws, cs, h1, h2, h3, h4, h5, h6, h7⟩ := h.ex
  exact ⟨r, t, ws, cs, h1, h2, h3, h4, h5, by omega, h7⟩
theorem Sta.at {z : Z} {n : Nat} {mk : Option Int} {H : Hp} (h : Sta z n mk H) {p : Addr} (k : Zt z p) : ∃ o, H p = some o ∧ ¬ Stab o := by
  rcases k with ⟨q, e, k⟩ | ⟨vf, vn, e⟩ | ⟨q, e⟩
  · obtain ⟨r, t, ws, cs, h1, h2, h3, h4⟩ := (h.dr q e).ex
    rcases k with rfl | rfl | rfl
    · exact ⟨_, h1, id⟩
    · exact ⟨_, h2, id⟩
    · exact ⟨_, h3, id⟩
  · obtain ⟨m, _, h1, _⟩ := h.fr _ _ _ e
    exact ⟨_, h1, id⟩
  · obtain ⟨ts, h1, _⟩ := h.tb _ e
    exact ⟨_, h1, id⟩
theorem Zs.t {z : Z} {p : Addr} (h : Zs z p) : Zt z p := by
  rcases h with ⟨q, e, h⟩ | ⟨_, h⟩ | h
  · exact .inl ⟨q, e, h.elim .inl fun h => .inr (.inl h)⟩
  · exact .inr (.inl h)
  · exact .inr (.inr h)
theorem Sta.dom {z : Z} {n : Nat} {mk : Option Int} {H : Hp} (h : Sta z n mk H) {p : Addr} (k : Zs z p) : H p ≠ none := by
  obtain ⟨o, e, _⟩ := h.at k.t
  rw [e]; simp
theorem Sta.domf {z : Z} {n : Nat} {mk : Option Int} {H : Hp} (h : Sta z n mk H) {p : Addr} (k : Zf z p) : H p ≠ none := by
  obtain ⟨o, e, _⟩ := h.at (.inr (.inl k))
  rw [e]; simp
theorem Sta.noneNe {z : Z} {n : Nat} {mk : Option Int} {H : Hp} (h : Sta z n mk H) {p : Addr} (hp : H p = none) : ¬ Zt z p := fun k => by
  obtain ⟨o, e, _⟩ := h.at k
  rw [hp] at e; cases e
theorem Sta.zt {z : Z} {n : Nat} {mk : Option Int} {H : Hp} (h : Sta z n mk H) : ∀ p, Zt z p → H p ≠ none := fun p k => by
  obtain ⟨o, e, _⟩ := h.at k
  rw [e]; simp
theorem Sta.same {z : Z} {n : Nat} {mk : Option Int} {H H' : Hp} (h : Sta z n mk H) (s : Grow H H') : Sta z n mk H' :=
  ⟨fun q e => (h.dr q e).same fun p hp => by
    obtain ⟨o, eo, _⟩ := h.at (.inl ⟨q, e, hp⟩)
    rw [eo, s.same _ _ eo], fun a vf vn e => by
    obtain ⟨m, m0, h1, h2⟩ := h.fr a vf vn e
    exact ⟨m, m0, s.same _ _ h1, h2⟩, z.stay H H' (fun p o _ e => s.same p o e) h.inv, h.tb.ext s.same⟩
theorem Sta.less {z : Z} {n m : Nat} {mk : Option Int} {H : Hp} (h : Sta z n mk H) (hm : m ≤ n) : Sta z m mk H := ⟨fun q e => (h.dr q e).less hm, h.fr, h.inv, h.tb⟩
theorem Sta.wk {z : Z} {n : Nat} {mk : Option Int} {H : Hp} (h : Sta z n mk H) : Sta z n none H := ⟨h.dr, fun a vf vn e => by
  obtain ⟨m, m0, h1, _⟩ := h.fr a vf vn e
  exact ⟨m, m0, h1, fun _ w => by cases w⟩, h.inv, h.tb⟩
/-- the frame's marks are as they were -/
theorem Sta.mk_of {z : Z} {n n' : Nat} {mk : Option Int} {H H' : Hp} (h : Sta z n mk H) (h' : Sta z n' none H') (s : ∀ p o, Zf z p → H p = some o → H' p = some o) : Sta z n' mk H' := ⟨h'.dr, fun a vf vn e => by
  obtain ⟨m, m0, h1, h2⟩ := h.fr a vf vn e
  exact ⟨m, m0, s _ _ ⟨vf, vn, e⟩ h1, h2⟩, h'.inv, h'.tb⟩

/-- an object of one's own -/
inductive OwK where
  | lst (ds : List D)
  | dct (ks : List Key) (ds : List D)
  | dcT (ks : List (List Key)) (ds : List D)
  | ins (C : Addr) (ns : List Str) (ds : List D)
def OwIs (z : Z) (K : PySem.W.Frag) (G : Hp) (ho : HO) : OwK → Prop
  | .lst ds => ∃ xs, ho = .lst xs ∧ IsA z K G xs ds
  | .dct ks ds => ∃ xs, ho = .dK (ks.zip xs) ∧ ks.length = xs.length ∧ ks ≠ frKeys ∧ IsA z K G xs ds
  | .dcT ks ds => ∃ xs, ho = .dT (ks.zip xs) ∧ ks.length = xs.length ∧ IsA z K G xs ds
  | .ins C ns ds => ∃ dx xs, ho = .ins C dx (ns.zip xs) ∧ ns.length = xs.length ∧ IsA z K G xs ds
theorem OwIs.evx {z : Z} {K : PySem.W.Frag} {G G' : Hp} (e : Evx G G') {ho : HO} : ∀ {o : OwK}, OwIs z K G ho o → OwIs z K G' ho o
  | .lst _, ⟨xs, a, b⟩ => ⟨xs, a, b.evx e⟩
  | .dct _ _, ⟨xs, a, b, c, d⟩ => ⟨xs, a, b, c, d.evx e⟩
  | .dcT _ _, ⟨xs, a, b, d⟩ => ⟨xs, a, b, d.evx e⟩
  | .ins _ _ _, ⟨dx, xs, a, b, d⟩ => ⟨dx, xs, a, b, d.evx e⟩
theorem OwIs.noext {z : Z} {K : PySem.W.Frag} {G : Hp} {ho : HO} : ∀ {o : OwK}, OwIs z K G ho o → ¬ Stab ho ∧ (∀ φ, ho ≠ .ext φ)
  | .lst _, ⟨xs, a, b⟩ => by subst a; exact ⟨id, fun _ w => by cases w⟩
  | .dct _ _, ⟨xs, a, b, c, d⟩ => by subst a; exact ⟨id, fun _ w => by cases w⟩
  | .dcT _ _, ⟨xs, a, b, d⟩ => by subst a; exact ⟨id, fun _ w => by cases w⟩
  | .ins _ _ _, ⟨dx, xs, a, b, d⟩ => by subst a; exact ⟨id, fun _ w => by cases w⟩
/-- a slot: not known, a datum, an object of its own -/
inductive Sl where
  | un
  | da (d : D)
  | ow (o : OwK)
structure DEnv where
  sl : List Sl
  cr : Nat
  mr : Option Int := none
def DEnv.at (e : DEnv) (i : Nat) : Sl := e.sl.getD i .un
def DEnv.put (e : DEnv) (i : Nat) (s : Sl) : DEnv := { e with sl := e.sl.set i s }
def Sx (S0 : Addr → Prop) (ps : List (Option Addr)) (p : Addr) : Prop := S0 p ∨ some p ∈ ps
def SlOk (z : Z) (K : PySem.W.Frag) (G H : Hp) (o : Option Addr) (v : Option V) : Sl → Prop
  | .un => True
  | .da d => o = none ∧ ∃ x, v = some x ∧ Is z K G x d
  | .ow k => ∃ p ho, o = some p ∧ v = some (.ref p) ∧ H p = some ho ∧ OwIs z K G ho k
/-- slots and heap stand for the data -/
abbrev Phi := Z → (Addr → Prop) → Hp → Prop
abbrev PhiZ (p : Z → Prop) : Phi := fun z _ _ => p z
/-- of the world alone -/
abbrev PhiW (w : World) : Phi := fun z _ _ => z.w = w
def PhiOk (Φ : Phi) (w : World) : Prop := ∀ z S0 H0, Φ z S0 H0 → z.w = w
structure Rel (Φ : Phi) (z : Z) (S0 : Addr → Prop) (H0 : Hp) (K : PySem.W.Frag) (ps : List (Option Addr)) (env : DEnv) (σ : St) (H : Hp) : Prop where
  lenp : env.sl.length ≤ ps.length
  lens : σ.length = env.sl.length
  inj : ∀ (i j : Nat) p, ps[i]? = some (some p) → ps[j]? = some (some p) → i = j
  fresh : ∀ p, some p ∈ ps → H0 p = none
  s0 : ∀ p, S0 p → H0 p ≠ none
  zs : ∀ p, Zs z p → S0 p
  zf : ∀ p, Zf z p → S0 p
  dom : ∀ p, Sx S0 ps p → H p ≠ none
  ext : Ext (Zs z) S0 H0 H
  sta : Sta z env.cr env.mr H
  sl : ∀ i, SlOk z K (hide (Sx S0 ps) H) H (ps.getD i none) (σ.getD i none) (env.at i)
  phi : Φ z S0 H0
  zt : ∀ p, Zt z p → H0 p ≠ none

abbrev ME := DEnv → (D → DEnv → Prop) → Prop
abbrev MT := DEnv → (Bool → DEnv → Prop) → Prop
abbrev MA := DEnv → (List D → DEnv → Prop) → Prop
structure KS where
  nx : DEnv → Prop
  rt : D → DEnv → Prop
  bk : DEnv → Prop := fun _ => False
  ct : DEnv → Prop := fun _ => False
  rf : OwK → DEnv → Prop := fun _ _ => False
abbrev MS := DEnv → KS → Prop
structure KS.Le (k k' : KS) : Prop where
  nx : ∀ e, k.nx e → k'.nx e
  rt : ∀ d e, k.rt d e → k'.rt d e
  bk : ∀ e, k.bk e → k'.bk e
  ct : ∀ e, k.ct e → k'.ct e
  rf : ∀ o e, k.rf o e → k'.rf o e
abbrev Mu (z : Z) (ps : List (Option Addr)) (p : Addr) : Prop := Zs z p ∨ some p ∈ ps
def tD (Φ : Phi) (K : PySem.W.Frag) (m : ME) : TE := fun σ H Q => ∃ z S0 H0 ps env, Rel Φ z S0 H0 K ps env σ H ∧
  m env fun d env' => ∀ v H', Rel Φ z S0 H0 K ps env' σ H' → Ext (Mu z ps) S0 H H' → Is z K (hide (Sx S0 ps) H') v d → Q v H'
def tDT (Φ : Phi) (K : PySem.W.Frag) (m : MT) : TT := fun σ H Q => ∃ z S0 H0 ps env, Rel Φ z S0 H0 K ps env σ H ∧
  m env fun b env' => ∀ H', Rel Φ z S0 H0 K ps env' σ H' → Ext (Mu z ps) S0 H H' → Q b H'
def tDA (Φ : Phi) (K : PySem.W.Frag) (m : MA) : TA := fun σ H Q => ∃ z S0 H0 ps env, Rel Φ z S0 H0 K ps env σ H ∧
  m env fun ds env' => ∀ vs H', Rel Φ z S0 H0 K ps env' σ H' → Ext (Mu z ps) S0 H H' → IsA z K (hide (Sx S0 ps) H') vs ds → Q vs H'
/-- from heap and owned addresses to later ones: what was tracked and not owned stands, new owned ones are new -/
structure Step (z : Z) (S0 : Addr → Prop) (ps : List (Option Addr)) (H : Hp) (ps' : List (Option Addr)) (H' : Hp) : Prop where
  ext : Ext (Mu z ps) S0 H H'
  new : ∀ p, some p ∈ ps' → some p ∈ ps ∨ H p = none
/-- what is wanted behind a statement, as data -/
def kOf (Φ : Phi) (z : Z) (S0 : Addr → Prop) (H0 : Hp) (K : PySem.W.Frag) (ps : List (Option Addr)) (H : Hp) (E : Ends) : KS where
  nx := fun env' => ∀ ps' σ' H', Rel Φ z S0 H0 K ps' env' σ' H' → Step z S0 ps H ps' H' → E.nx σ' H'
  rt := fun d env' => ∀ ps' v σ' H', Rel Φ z S0 H0 K ps' env' σ' H' → Is z K (hide (Sx S0 ps') H') v d → E.rt v H'
  bk := fun env' => ∀ ps' σ' H', Rel Φ z S0 H0 K ps' env' σ' H' → Step z S0 ps H ps' H' → E.bk σ' H'
  ct := fun env' => ∀ ps' σ' H', Rel Φ z S0 H0 K ps' env' σ' H' → Step z S0 ps H ps' H' → E.ct σ' H'
  rf := fun o env' => ∀ p ho H', H0 p = none → H' p = some ho → OwIs z K (hide (fun q => S0 q ∨ q = p) H') ho o → Ext (Zs z) S0 H0 H' → Sta z env'.cr env'.mr H' → E.rt (.ref p) H'
def tDS (Φ : Phi) (K : PySem.W.Frag) (m : MS) : TS := fun E σ H => ∃ z S0 H0 ps env, Rel Φ z S0 H0 K ps env σ H ∧ m env (kOf Φ z S0 H0 K ps H E)
structure DE (X : Cx) (Φ : Phi) (e : Expr) (m : ME) : Prop where
  mono : ∀ env {k k' : D → DEnv → Prop}, (∀ d e, k d e → k' d e) → m env k → m env k'
  pe : PE X e (tD Φ X.K m)
structure DT (X : Cx) (Φ : Phi) (e : Expr) (m : MT) : Prop where
  mono : ∀ env {k k' : Bool → DEnv → Prop}, (∀ d e, k d e → k' d e) → m env k → m env k'
  pt : PT X e (tDT Φ X.K m)
structure DA (X : Cx) (Φ : Phi) (es : List Expr) (m : MA) : Prop where
  mono : ∀ env {k k' : List D → DEnv → Prop}, (∀ d e, k d e → k' d e) → m env k → m env k'
  pa : PA X es (tDA Φ X.K m)
structure DS (X : Cx) (Φ : Phi) (st : Stmt) (m : MS) : Prop where
  mono : ∀ env {k k' : KS}, k.Le k' → m env k → m env k'
  ps : PS X st (tDS Φ X.K m)
structure DSs (X : Cx) (Φ : Phi) (st : List Stmt) (m : MS) : Prop where
  mono : ∀ env {k k' : KS}, k.Le k' → m env k → m env k'
  ps : PSs X st (tDS Φ X.K m)
section
variable {X : Cx}
theorem pe_imp {e : Expr} {t t' : TE} (h : PE X e t) (k : ∀ σ H Q, t' σ H Q → t σ H Q) : PE X e t' := ⟨fun pins s σ H Q I q => h.run pins s σ H Q I (k σ H Q q)⟩
theorem pt_imp {e : Expr} {t t' : TT} (h : PT X e t) (k : ∀ σ H Q, t' σ H Q → t σ H Q) : PT X e t' := ⟨fun pins s σ H Q I q => h.run pins s σ H Q I (k σ H Q q)⟩
theorem pa_imp {e : List Expr} {t t' : TA} (h : PA X e t) (k : ∀ σ H Q, t' σ H Q → t σ H Q) : PA X e t' := ⟨fun pos pins s σ H Q I q => h.run pos pins s σ H Q I (k σ H Q q)⟩
theorem ps_imp {e : Stmt} {t t' : TS} (h : PS X e t) (k : ∀ D σ H, t' D σ H → t D σ H) : PS X e t' := ⟨fun pins s σ H Q I q => h.run pins s σ H Q I (k Q σ H q)⟩
theorem pss_imp {e : List Stmt} {t t' : TS} (h : PSs X e t) (k : ∀ D σ H, t' D σ H → t D σ H) : PSs X e t' := ⟨fun pins s σ H Q I q => h.run pins s σ H Q I (k Q σ H q)⟩
end

section
variable {Φ : Phi} {z : Z} {S0 : Addr → Prop} {H0 H H' : Hp} {K : PySem.W.Frag} {ps : List (Option Addr)} {env : DEnv} {σ : St}
theorem Rel.noZ (r : Rel Φ z S0 H0 K ps env σ H) {p : Addr} (h : some p ∈ ps) : ¬ Zs z p := fun q => r.s0 p (r.zs p q) (r.fresh p h)
theorem mem_ps {i : Nat} {p : Addr} (h : ps.getD i none = some p) : some p ∈ ps ∧ ps[i]? = some (some p) := by
  rw [List.getD_eq_getElem?_getD] at h
  cases e : ps[i]? with
  | none => rw [e] at h; cases h
  | some x =>
    rw [e] at h
    have : x = some p := h
    subst this
    exact ⟨List.mem_of_getElem? e, rfl⟩
theorem Sta.notZs {n : Nat} {mk : Option Int} (r : Sta z n mk H) {p : Addr} (h : Zf z p) : ¬ Zs z.off p := fun k => by
  obtain ⟨vf, vn, e2⟩ := h
  obtain ⟨m, _, h1, _⟩ := r.fr _ _ _ e2
  rcases k with ⟨q, e, k⟩ | ⟨w, _⟩ | ⟨q, e⟩
  · obtain ⟨r', t, ws, cs, g1, g2, g3, g4⟩ := (r.dr q e).ex
    rcases k with rfl | rfl
    · rw [g1] at h1
      unfold frO at h1
      simp at h1
    · rw [g2] at h1; cases h1
  · cases w
  · obtain ⟨ts, g1, _⟩ := r.tb _ e
    have g1 : H p = some (.tbl ts) := g1
    rw [h1] at g1; unfold frO at g1; cases g1
theorem Zs.on {p : Addr} (h : Zs z.off p) : Zs z p := h.imp id fun h => h.imp (fun h => by cases h.1) id
/-- the heap grows, the draws' state and frames may change -/
theorem Rel.call (r : Rel Φ z S0 H0 K ps env σ H) {n : Nat} (e : Ext (Zs z) (Sx S0 ps) H H') {mk : Option Int} (st : Sta z n mk H') : Rel Φ z S0 H0 K ps { env with cr := n, mr := mk } σ H' := by
  refine ⟨r.lenp, r.lens, r.inj, r.fresh, r.s0, r.zs, r.zf, fun p hp => ?_, r.ext.trans (e.mono (fun _ h => h) fun _ h => .inl h), st, fun i => ?_, r.phi, r.zt⟩
  · by_cases hz : Zs z p
    · exact st.dom hz
    · cases q : H p with
      | none => exact absurd q (r.dom p hp)
      | some o =>
        obtain ⟨o', e', _⟩ := e p o hz q
        rw [e']; simp
  · have h := r.sl i
    show SlOk z K _ _ _ _ (env.at i)
    have ev : Evx (hide (Sx S0 ps) H) (hide (Sx S0 ps) H') := e.hide fun p q => .inl (r.zs p q)
    cases q : env.at i with
    | un => trivial
    | da d =>
      rw [q] at h
      obtain ⟨h1, x, h2, h3⟩ := h
      exact ⟨h1, x, h2, h3.evx ev⟩
    | ow ds =>
      rw [q] at h
      obtain ⟨p, xs, h1, h2, h3, h4⟩ := h
      obtain ⟨o', e', v, s'⟩ := e p _ (r.noZ (mem_ps h1).1) h3
      rw [s' (.inr (mem_ps h1).1) h4.noext.2] at e'
      exact ⟨p, xs, h1, h2, e', h4.evx ev⟩
theorem Rel.same (r : Rel Φ z S0 H0 K ps env σ H) (e : Grow H H') : Rel Φ z S0 H0 K ps env σ H' := by
  have q := r.call (n := env.cr) (.of_same e.same) (r.sta.same e)
  exact q
/-- a def was called that writes no frame -/
theorem Rel.callP (r : Rel Φ z S0 H0 K ps env σ H) {n : Nat} (e : Ext (Zs z.off) (Sx S0 ps) H H') (st : Sta z.off n none H') : Rel Φ z S0 H0 K ps { env with cr := n } σ H' := by
  refine r.call (mk := env.mr) (e.mono (fun _ h => h.on) fun _ h => h) (r.sta.mk_of ⟨st.dr, st.fr, st.inv, st.tb⟩ fun p o zf q => ?_)
  obtain ⟨o', e', _, s⟩ := e p o (r.sta.notZs zf) q
  obtain ⟨vf, vn, e2⟩ := zf
  obtain ⟨m, _, h1, _⟩ := r.sta.fr _ _ _ e2
  rw [q] at h1; cases h1
  rw [e', s (.inl (r.zf _ ⟨_, _, e2⟩)) (fun φ w => by unfold frO at w; cases w)]
mutual
theorem Is.cg {z' : Z} (h1 : z.q = z'.q) (h2 : z.fr = z'.fr) (h3 : z.w = z'.w) (h4 : z.lm = z'.lm) {G : Hp} : ∀ {v : V} {d : D}, Is z K G v d → Is z' K G v d
  | _, _, .non => .non
  | _, _, .bl b => .bl b
  | _, _, .int i => .int i
  | _, _, .str x => .str x
  | _, _, .ty n => .ty n
  | _, _, .tup h t => .tup h (IsA.cg h1 h2 h3 h4 t)
  | _, _, .lst h t => .lst h (IsA.cg h1 h2 h3 h4 t)
  | _, _, .dct h l k t => .dct h l k (IsA.cg h1 h2 h3 h4 t)
  | _, _, .dcT h l t => .dcT h l (IsA.cg h1 h2 h3 h4 t)
  | _, _, .ins h l t => .ins h l (IsA.cg h1 h2 h3 h4 t)
  | _, _, .frm h m f n => .frm h m (Is.cg h1 h2 h3 h4 f) (Is.cg h1 h2 h3 h4 n)
  | _, _, .fra h f n => .fra (h2 ▸ h) (Is.cg h1 h2 h3 h4 f) (Is.cg h1 h2 h3 h4 n)
  | _, _, .exn0 h n c d => .exn0 h n c d
  | _, _, .exnM h n c d x l => .exnM h n c d x l
  | _, _, .exn1 h n c d x l nn t => .exn1 h n c d x l nn (IsA.cg h1 h2 h3 h4 t)
  | _, _, .lam h t => .lam (h4 ▸ h) (IsA.cg h1 h2 h3 h4 t)
  | _, _, .scr h => .scr h
  | _, _, .sta h => .sta (h1 ▸ h)
  | _, _, .cls C => .cls C
theorem IsA.cg {z' : Z} (h1 : z.q = z'.q) (h2 : z.fr = z'.fr) (h3 : z.w = z'.w) (h4 : z.lm = z'.lm) {G : Hp} : ∀ {vs : List V} {ds : List D}, IsA z K G vs ds → IsA z' K G vs ds
  | _, _, .nil => .nil
  | _, _, .cons h t => .cons (Is.cg h1 h2 h3 h4 h) (IsA.cg h1 h2 h3 h4 t)
end
theorem Rel.isK (r : Rel Φ z S0 H0 K ps env σ H) {v : V} {d : D} (h : Is z K (hide (Sx S0 ps) H) v d) (e : Ext (Mu z ps) S0 H H') : Is z K (hide (Sx S0 ps) H') v d :=
  h.evx (e.hide fun p q => q.elim (fun q => .inl (r.zs p q)) .inr)
theorem Rel.isKA (r : Rel Φ z S0 H0 K ps env σ H) {v : List V} {d : List D} (h : IsA z K (hide (Sx S0 ps) H) v d) (e : Ext (Mu z ps) S0 H H') : IsA z K (hide (Sx S0 ps) H') v d :=
  h.evx (e.hide fun p q => q.elim (fun q => .inl (r.zs p q)) .inr)
theorem Is.off {G : Hp} {v : V} {d : D} (h : Is z K G v d) : Is z.off K G v d := h.cg (z := z) (z' := z.off) rfl rfl rfl rfl
theorem Is.on {G : Hp} {v : V} {d : D} (h : Is z.off K G v d) : Is z K G v d := h.cg (z := z.off) (z' := z) rfl rfl rfl rfl
theorem IsA.off {G : Hp} {v : List V} {d : List D} (h : IsA z K G v d) : IsA z.off K G v d := h.cg (z := z) (z' := z.off) rfl rfl rfl rfl
theorem IsA.on {G : Hp} {v : List V} {d : List D} (h : IsA z.off K G v d) : IsA z K G v d := h.cg (z := z.off) (z' := z) rfl rfl rfl rfl
theorem Ext.loc {S : Addr → Prop} (e : Ext (Zs z) (Sx S ps) H H') : Ext (Mu z ps) S H H' := e.mono (fun _ h => .inl h) fun _ h => .inl h
theorem Ext.locP {S : Addr → Prop} (e : Ext (Zs z.off) (Sx S ps) H H') : Ext (Mu z ps) S H H' := e.mono (fun _ h => .inl h.on) fun _ h => .inl h
/-- a name is stored -/
theorem Rel.put (r : Rel Φ z S0 H0 K ps env σ H) {i : Nat} {v : V} {d : D} (h : Is z K (hide (Sx S0 ps) H) v d) : Rel Φ z S0 H0 K (ps.set i none) (env.put i (.da d)) (σ.set i (some v)) H := by
  have sub : ∀ p, Sx S0 (ps.set i none) p → Sx S0 ps p := fun p q => q.imp id fun q => by
    rcases List.mem_or_eq_of_mem_set q with q | q
    · exact q
    · cases q
  have gr : Same (hide (Sx S0 ps) H) (hide (Sx S0 (ps.set i none)) H) := hide_mono sub
  have get : ∀ (j : Nat) p, (ps.set i none)[j]? = some (some p) → ps[j]? = some (some p) := fun j p q => by
    rw [List.getElem?_set] at q
    split at q
    · split at q <;> cases q
    · exact q
  refine ⟨by simp [DEnv.put, r.lenp], by simp [DEnv.put, r.lens], fun j k p q1 q2 => r.inj j k p (get j p q1) (get k p q2), fun p q => r.fresh p ?_, r.s0, r.zs, r.zf, fun p q => r.dom p (sub p q), r.ext, r.sta, fun j => ?_, r.phi, r.zt⟩
  · rcases List.mem_or_eq_of_mem_set q with q | q
    · exact q
    · cases q
  · have hj := r.sl j
    by_cases hij : i = j
    · subst hij
      by_cases hl : i < env.sl.length
      · have e1 : (env.put i (.da d)).at i = .da d := by simp [DEnv.put, DEnv.at, hl]
        rw [e1]
        exact ⟨by simp [Nat.lt_of_lt_of_le hl r.lenp], v, by simp [r.lens, hl], h.evx (.of_same gr)⟩
      · have e1 : (env.put i (.da d)).at i = .un := by simp [DEnv.put, DEnv.at, hl]
        rw [e1]
        trivial
    · have e1 : (env.put i (.da d)).at j = env.at j := by simp [DEnv.put, DEnv.at, List.getD_eq_getElem?_getD, List.getElem?_set, hij]
      have e2 : (ps.set i none).getD j none = ps.getD j none := by simp [List.getD_eq_getElem?_getD, List.getElem?_set, hij]
      have e3 : (σ.set i (some v)).getD j none = σ.getD j none := by simp [List.getD_eq_getElem?_getD, List.getElem?_set, hij]
      rw [e1, e2, e3]
      cases q : env.at j with
      | un => trivial
      | da d' =>
        rw [q] at hj
        obtain ⟨h1, x, h2, h3⟩ := hj
        exact ⟨h1, x, h2, h3.evx (.of_same gr)⟩
      | ow ds =>
        rw [q] at hj
        obtain ⟨p, xs, h1, h2, h3, h4⟩ := hj
        exact ⟨p, xs, h1, h2, h3, h4.evx (.of_same gr)⟩
theorem Step.refl : Step z S0 ps H ps H := ⟨.refl, fun _ h => .inl h⟩
theorem Step.of_ext (e : Ext (Mu z ps) S0 H H') : Step z S0 ps H ps H' := ⟨e, fun _ h => .inl h⟩
theorem Step.trans {ps1 ps2 : List (Option Addr)} {H1 H2 : Hp} (a : Step z S0 ps H ps1 H1) (b : Step z S0 ps1 H1 ps2 H2) (hz : ∀ p, some p ∈ ps2 → ¬ Zs z p) : Step z S0 ps H ps2 H2 := by
  refine ⟨fun p o n e => ?_, fun p h => ?_⟩
  · obtain ⟨o1, e1, v1, s1⟩ := a.ext p o n e
    have n1 : ¬ Mu z ps1 p := fun q => q.elim (fun q => n (.inl q)) fun q => (a.new p q).elim (fun q => n (.inr q)) fun q => by rw [e] at q; cases q
    obtain ⟨o2, e2, v2, s2⟩ := b.ext p o1 n1 e1
    exact ⟨o2, e2, v1.trans v2, fun sp no => by
      have q := s1 sp no
      rw [s2 sp (by rw [q]; exact no), q]⟩
  · rcases b.new p h with q | q
    · exact a.new p q
    · by_cases hp : some p ∈ ps
      · exact .inl hp
      · cases e : H p with
        | none => exact .inr rfl
        | some o =>
          obtain ⟨o1, e1, _⟩ := a.ext p o (fun w => w.elim (hz p h) hp) e
          rw [q] at e1; cases e1
/-- what was seen is seen -/
theorem Step.seen {ps' : List (Option Addr)} (st : Step z S0 ps H ps' H') (hz : ∀ p, Zs z p → S0 p) : Evx (hide (Sx S0 ps) H) (hide (Sx S0 ps') H') := fun p o e => by
  obtain ⟨n, e⟩ := hide_get.mp e
  obtain ⟨o', e', v, _⟩ := st.ext p o (fun q => n (q.elim (fun q => .inl (hz p q)) .inr)) e
  refine .inr ⟨o', hide_get.mpr ⟨fun q => n ?_, e'⟩, v⟩
  rcases q with q | q
  · exact .inl q
  · rcases st.new p q with q | q
    · exact .inr q
    · rw [e] at q; cases q
end
end DL
namespace DL
open PySem L2
abbrev KD := D → Prop
abbrev W1 := D → KD → Prop
abbrev W2 := D → D → KD → Prop
abbrev WL := List D → KD → Prop
/-! ### by values -/
/-- what is asked of two values: they stand for data -/
def rD (K : PySem.W.Frag) (w : W2) : R2 := fun x y H Q => ∃ z S dx dy, (∀ p, S p → H p ≠ none) ∧ Is z K (hide S H) x dx ∧ Is z K (hide S H) y dy ∧
  w dx dy fun d => ∀ v H', Grow H H' → Is z K (hide S H') v d → Q v H'
def rD1 (K : PySem.W.Frag) (w : W1) : V → Hp → VK → Prop := fun x H Q => ∃ z S dx, (∀ p, S p → H p ≠ none) ∧ Is z K (hide S H) x dx ∧
  w dx fun d => ∀ v H', Grow H H' → Is z K (hide S H') v d → Q v H'
def rDL (K : PySem.W.Frag) (w : WL) : List V → Hp → VK → Prop := fun xs H Q => ∃ z S ds, (∀ p, S p → H p ≠ none) ∧ IsA z K (hide S H) xs ds ∧
  w ds fun d => ∀ v H', Grow H H' → Is z K (hide S H') v d → Q v H'
structure OpD (X : Cx) (f : Value → Value → Sem Value) (w : W2) : Prop where
  mono : ∀ x y {k k' : KD}, (∀ d, k d → k' d) → w x y k → w x y k'
  run : OpR X f (rD X.K w)
structure UnD (X : Cx) (f : Value → Sem Value) (w : W1) : Prop where
  mono : ∀ x {k k' : KD}, (∀ d, k d → k' d) → w x k → w x k'
  run : UnR X f (rD1 X.K w)
structure CallD (X : Cx) (f : Value) (w : WL) : Prop where
  mono : ∀ x {k k' : KD}, (∀ d, k d → k' d) → w x k → w x k'
  run : CallR X f (rDL X.K w)
structure IxD (X : Cx) (w : W2) : Prop where
  mono : ∀ x y {k k' : KD}, (∀ d, k d → k' d) → w x y k → w x y k'
  run : IxR X (rD X.K w)

section
variable {Φ : Phi} {z : Z} {S : Addr → Prop} {H : Hp} {K : PySem.W.Frag}
theorem same_upd {p : Addr} {o : HO} (h : H p = none) : Same H (upd H p o) := fun b u e => by rw [upd_ne (ne_of_none e h)]; exact e
theorem grow_upd {p : Addr} {o : HO} (h : H p = none) (ho : ∀ C dx fs, o ≠ .ins C dx fs := by (intro _ _ _ w; cases w)) : Grow H (upd H p o) := ⟨same_upd h, fun b C dx fs e => by
  by_cases hb : b = p
  · subst hb; rw [upd_same] at e; exact absurd (Option.some.inj e) (ho _ _ _)
  · rw [upd_ne hb] at e; exact e⟩
theorem hide_upd {p : Addr} {o : HO} (hS : ∀ p, S p → H p ≠ none) (h : H p = none) : hide S (upd H p o) p = some o := hide_get.mpr ⟨fun q => hS p q h, upd_same⟩
theorem is_lst {p : Addr} {xs : List V} {ds : List D} (hS : ∀ p, S p → H p ≠ none) (h : H p = none) (i : IsA z K (hide S H) xs ds) : Is z K (hide S (upd H p (.lst xs))) (.ref p) (.lst ds) :=
  .lst (hide_upd hS h) (i.evx (.of_same (hide_keep (same_upd h))))
theorem is_tup {p : Addr} {xs : List V} {ds : List D} (hS : ∀ p, S p → H p ≠ none) (h : H p = none) (i : IsA z K (hide S H) xs ds) : Is z K (hide S (upd H p (.tup xs))) (.ref p) (.tup ds) :=
  .tup (.inl (hide_upd hS h)) (i.evx (.of_same (hide_keep (same_upd h))))
theorem tup_hide {a : Addr} {xs : List V} (h : TupAt K (hide S H) a xs) : TupAt K H a xs := sqT_evx (.of_same hide_same) h
theorem sqT_hide {a : Addr} {xs : List V} (h : TupAt K (hide S H) a xs) : SqT K H a xs := (tup_hide h).sq
theorem sqL_hide {a : Addr} {xs : List V} (h : SqL K (hide S H) a xs) : SqL K H a xs := sqL_evx (.of_same hide_same) h
end

/-! ### combinators -/
section
variable {X : Cx} {Φ : Phi} {a b c : Expr} {ma mb mc : ME} {pos : Pos}
def mVar (i : Nat) : ME := fun env k => match env.at i with
  | .da d => k d env
  | _ => False
theorem de_var (i : Nat) {x : Str} (h : PE X (.Name x pos) (tVar i)) : DE X Φ (.Name x pos) (mVar i) := by
  refine ⟨fun env k k' h q => ?_, pe_imp h fun σ H Q ⟨z, S0, H0, ps, env, r, q⟩ => ?_⟩
  · unfold mVar at q ⊢
    split
    · rename_i e; rw [e] at q; exact h _ _ q
    · rename_i e1; split at q
      · rename_i d e; exact absurd e (e1 d)
      · exact q
  · unfold mVar at q
    have hi := r.sl i
    cases e : env.at i with
    | un => rw [e] at q; exact q.elim
    | ow ds => rw [e] at q; exact q.elim
    | da d =>
      rw [e] at q hi
      obtain ⟨_, v, hv, iv⟩ := hi
      refine ⟨v, ?_, q v H r .refl iv⟩
      rw [List.getD_eq_getElem?_getD] at hv
      cases e2 : σ[i]? with
      | none => rw [e2] at hv; cases hv
      | some y => rw [e2] at hv; exact congrArg some hv
def mC (d : D) : ME := fun env k => k d env
theorem de_const {e : Expr} {v : V} {d : D} (h : PE X e (tC v)) (hd : ∀ z G, Is z X.K G v d) : DE X Φ e (mC d) :=
  ⟨fun env k k' h q => h _ _ q, pe_imp h fun σ H Q ⟨z, S0, H0, ps, env, r, q⟩ => q v H r .refl (hd _ _)⟩
theorem de_int {i j pos} : DE X Φ (.Constant (.int i) j pos) (mC (.int i)) := de_const pe_int fun _ _ => .int i
theorem de_bl {b j pos} : DE X Φ (.Constant (.bool b) j pos) (mC (.bl b)) := de_const pe_bl fun _ _ => .bl b
theorem de_non {j pos} : DE X Φ (.Constant .none j pos) (mC .non) := de_const pe_non fun _ _ => .non
theorem de_str {x j pos} : DE X Φ (.Constant (.str x) j pos) (mC (.str x)) := de_const pe_str fun _ _ => .str x
def mBin (w : W2) (ma mb : ME) : ME := fun env k => ma env fun x e1 => mb e1 fun y e2 => w x y fun d => k d e2
theorem mBin_mono {w : W2} (hw : ∀ x y {k k' : KD}, (∀ d, k d → k' d) → w x y k → w x y k') (ha : ∀ env {k k' : D → DEnv → Prop}, (∀ d e, k d e → k' d e) → ma env k → ma env k')
    (hb : ∀ env {k k' : D → DEnv → Prop}, (∀ d e, k d e → k' d e) → mb env k → mb env k') : ∀ env {k k' : D → DEnv → Prop}, (∀ d e, k d e → k' d e) → mBin w ma mb env k → mBin w ma mb env k' :=
  fun env k k' h q => ha env (fun x e1 q => hb e1 (fun y e2 q => hw x y (fun d q => h d e2 q) q) q) q
/-- two operands, then an operation by values -/
theorem run2 {w : W2} (ha : DE X Φ a ma) (hb : DE X Φ b mb) (hw : ∀ x y {k k' : KD}, (∀ d, k d → k' d) → w x y k → w x y k') {σ : St} {H : Hp} {Q : VK} (q : tD Φ X.K (mBin w ma mb) σ H Q) : tOp (rD X.K w) (tD Φ X.K ma) (tD Φ X.K mb) σ H Q := by
  obtain ⟨z, S0, H0, ps, env, r, q⟩ := q
  refine ⟨z, S0, H0, ps, env, r, ha.mono env (fun x e1 q => ?_) q⟩
  intro v H1 r1 x1 i1
  refine ⟨z, S0, H0, ps, e1, r1, hb.mono e1 (fun y e2 q => ?_) q⟩
  intro u H2 r2 x2 i2
  refine ⟨z, Sx S0 ps, x, y, r2.dom, r1.isK i1 x2, i2, hw x y (fun d q => ?_) q⟩
  intro v' H' s i'
  exact q v' H' (r2.same s) (x1.trans (x2.trans (.of_same s.same))) i'
theorem de_op {op : Operator} {w : W2} (ho : OpD X (binaryOp op) w) (ha : DE X Φ a ma) (hb : DE X Φ b mb) : DE X Φ (.BinOp a op b pos) (mBin w ma mb) :=
  ⟨mBin_mono ho.mono ha.mono hb.mono, pe_imp (pe_op ho.run ha.pe hb.pe) fun _ _ _ q => run2 ha hb ho.mono q⟩
theorem de_cmp {op : CmpOp} {w : W2} (ho : OpD X (compareOp op) w) (ha : DE X Φ a ma) (hb : DE X Φ b mb) (hm : behindInMarks op b = false) : DE X Φ (.Compare a [op] [b] pos) (mBin w ma mb) :=
  ⟨mBin_mono ho.mono ha.mono hb.mono, pe_imp (pe_cmpR ho.run ha.pe hb.pe hm) fun _ _ _ q => run2 ha hb ho.mono q⟩
theorem de_ix {w : W2} (ho : IxD X w) (ha : DE X Φ a ma) (hb : DE X Φ b mb) (hs : PlainIx b) : DE X Φ (.Subscript a b pos) (mBin w ma mb) :=
  ⟨mBin_mono ho.mono ha.mono hb.mono, pe_imp (pe_ix ho.run ha.pe hb.pe hs) fun _ _ _ q => run2 ha hb ho.mono q⟩
def mUn (w : W1) (ma : ME) : ME := fun env k => ma env fun x e1 => w x fun d => k d e1
theorem de_un {op : UnaryOp} {w : W1} (ho : UnD X (unaryOp op) w) (ha : DE X Φ a ma) : DE X Φ (.UnaryOp op a pos) (mUn w ma) := by
  refine ⟨fun env k k' h q => ha.mono env (fun x e1 q => ho.mono x (fun d q => h d e1 q) q) q, pe_imp (pe_un ho.run ha.pe) fun σ H Q ⟨z, S0, H0, ps, env, r, q⟩ => ?_⟩
  refine ⟨z, S0, H0, ps, env, r, ha.mono env (fun x e1 q => ?_) q⟩
  intro v H1 r1 x1 i1
  refine ⟨z, Sx S0 ps, x, r1.dom, i1, ho.mono x (fun d q => ?_) q⟩
  intro v' H' s i'
  exact q v' H' (r1.same s) (x1.trans (.of_same s.same)) i'
/-! tests -/
def mB (m : ME) : MT := fun env k => m env fun d e => match d with
  | .bl b => k b e
  | _ => False
theorem mB_mono {m : ME} (hm : ∀ env {k k' : D → DEnv → Prop}, (∀ d e, k d e → k' d e) → m env k → m env k') : ∀ env {k k' : Bool → DEnv → Prop}, (∀ d e, k d e → k' d e) → mB m env k → mB m env k' :=
  fun env k k' h q => hm env (fun d e q => by
    cases d with
    | bl b => exact h b e q
    | _ => exact q) q
theorem tB_of {m : ME} (hm : ∀ env {k k' : D → DEnv → Prop}, (∀ d e, k d e → k' d e) → m env k → m env k') {K : PySem.W.Frag} {σ : St} {H : Hp} {Q : Bool → Hp → Prop} (q : tDT Φ K (mB m) σ H Q) : tD Φ K m σ H fun x H1 => ∃ c, x = .bl c ∧ Q c H1 := by
  obtain ⟨z, S0, H0, ps, env, r, q⟩ := q
  refine ⟨z, S0, H0, ps, env, r, hm env (fun d e q => ?_) q⟩
  intro v H' r' x' i'
  cases d with
  | bl b => cases i'; exact ⟨b, rfl, q H' r' x'⟩
  | _ => exact q.elim
theorem dt_val {e : Expr} {m : ME} (h : DE X Φ e m) (he : ∀ whole, isTrue e X.env whole = (do let v ← whole; standAt e.pos; holding [v] (truthy v)) := by intro _; rfl) : DT X Φ e (mB m) :=
  ⟨mB_mono h.mono, pt_imp (pt_val h.pe he) fun _ _ _ q => tB_of h.mono q⟩
theorem dt_cmp {op : CmpOp} {w : W2} (ho : OpD X (compareOp op) w) (ha : DE X Φ a ma) (hb : DE X Φ b mb) (hm : behindInMarks op b = false) : DT X Φ (.Compare a [op] [b] pos) (mB (mBin w ma mb)) := by
  refine ⟨mB_mono (mBin_mono ho.mono ha.mono hb.mono), pt_imp (pt_cmpR ho.run ha.pe hb.pe hm) fun σ H Q q => ?_⟩
  exact run2 ha hb ho.mono (tB_of (mBin_mono ho.mono ha.mono hb.mono) q)
def mNot (m : MT) : MT := fun env k => m env fun b e => k (!b) e
theorem dt_not {m : MT} (h : DT X Φ a m) : DT X Φ (.UnaryOp .Not a pos) (mNot m) :=
  ⟨fun env k k' hk q => h.mono env (fun b e q => hk _ _ q) q, pt_imp (pt_not h.pt) fun σ H Q ⟨z, S0, H0, ps, env, r, q⟩ => ⟨z, S0, H0, ps, env, r, q⟩⟩
structure DW (X : Cx) (Φ : Phi) (e : Expr) (m : MT) : Prop where
  mono : ∀ env {k k' : Bool → DEnv → Prop}, (∀ d e, k d e → k' d e) → m env k → m env k'
  pw : PW X e (tDT Φ X.K m)
theorem DW.dt {e : Expr} {m : MT} (h : DW X Φ e m) : DT X Φ e m := ⟨h.mono, h.pw.pt⟩
theorem pw_imp {e : Expr} {t t' : TT} (h : PW X e t) (k : ∀ σ H Q, t' σ H Q → t σ H Q) : PW X e t' := ⟨fun w pins s σ H Q I q => h.run w pins s σ H Q I (k σ H Q q)⟩
def mAnd (m n : MT) : MT := fun env k => m env fun b e => if b = true then n e k else k false e
def mOr (m n : MT) : MT := fun env k => m env fun b e => if b = true then k true e else n e k
variable {rest : List Expr} {m n : MT}
theorem dw_and1 (ha : DT X Φ a m) : DW X Φ (.BoolOp .And [a] pos) m := ⟨ha.mono, pw_and1 ha.pt⟩
theorem dw_or1 (ha : DT X Φ a m) : DW X Φ (.BoolOp .Or [a] pos) m := ⟨ha.mono, pw_or1 ha.pt⟩
theorem dw_and (ha : DT X Φ a m) (hb : DW X Φ (.BoolOp .And (b :: rest) pos) n) : DW X Φ (.BoolOp .And (a :: b :: rest) pos) (mAnd m n) := by
  refine ⟨fun env k k' h q => ha.mono env (fun c e q => ?_) q, pw_imp (pw_and ha.pt hb.pw) fun σ H Q ⟨z, S0, H0, ps, env, r, q⟩ => ⟨z, S0, H0, ps, env, r, ha.mono env (fun c e q => ?_) q⟩⟩
  · cases c with
    | true => exact hb.mono e h q
    | false => exact h _ _ q
  · intro H1 r1 x1
    cases c with
    | true => exact ⟨z, S0, H0, ps, e, r1, hb.mono e (fun b e2 q H2 r2 x2 => q H2 r2 (x1.trans x2)) q⟩
    | false => exact q H1 r1 x1
theorem dw_or (ha : DT X Φ a m) (hb : DW X Φ (.BoolOp .Or (b :: rest) pos) n) : DW X Φ (.BoolOp .Or (a :: b :: rest) pos) (mOr m n) := by
  refine ⟨fun env k k' h q => ha.mono env (fun c e q => ?_) q, pw_imp (pw_or ha.pt hb.pw) fun σ H Q ⟨z, S0, H0, ps, env, r, q⟩ => ⟨z, S0, H0, ps, env, r, ha.mono env (fun c e q => ?_) q⟩⟩
  · cases c with
    | true => exact h _ _ q
    | false => exact hb.mono e h q
  · intro H1 r1 x1
    cases c with
    | true => exact q H1 r1 x1
    | false => exact ⟨z, S0, H0, ps, e, r1, hb.mono e (fun b e2 q H2 r2 x2 => q H2 r2 (x1.trans x2)) q⟩
/-! and, or, not as values (bools but for the last) -/
def mAndV (m n : ME) : ME := fun env k => m env fun d e => match d with
  | .bl b => if b = true then n e k else k (.bl false) e
  | _ => False
def mOrV (m n : ME) : ME := fun env k => m env fun d e => match d with
  | .bl b => if b = true then k (.bl true) e else n e k
  | _ => False
def mNotV (m : ME) : ME := fun env k => m env fun d e => match d with
  | .bl b => k (.bl (!b)) e
  | _ => False
theorem de_one {op} {m : ME} (h : DE X Φ a m) : DE X Φ (.BoolOp op [a] pos) m := ⟨h.mono, pe_one h.pe⟩
theorem de_and {m n : ME} (ha : DE X Φ a m) (hb : DE X Φ (.BoolOp .And (b :: rest) pos) n) : DE X Φ (.BoolOp .And (a :: b :: rest) pos) (mAndV m n) := by
  refine ⟨fun env k k' h q => ha.mono env (fun d e q => ?_) q, pe_imp (pe_and ha.pe hb.pe) fun σ H Q ⟨z, S0, H0, ps, env, r, q⟩ => ⟨z, S0, H0, ps, env, r, ha.mono env (fun d e q => ?_) q⟩⟩
  · cases d with
    | bl c => cases c with
      | true => exact hb.mono e h q
      | false => exact h _ _ q
    | _ => exact q
  · intro v H1 r1 x1 i1
    cases d with
    | bl c =>
      cases i1
      refine ⟨c, rfl, ?_⟩
      cases c with
      | true => exact ⟨z, S0, H0, ps, e, r1, hb.mono e (fun b e2 q v H2 r2 x2 => q v H2 r2 (x1.trans x2)) q⟩
      | false => exact q _ H1 r1 x1 (.bl false)
    | _ => exact q.elim
theorem de_or {m n : ME} (ha : DE X Φ a m) (hb : DE X Φ (.BoolOp .Or (b :: rest) pos) n) : DE X Φ (.BoolOp .Or (a :: b :: rest) pos) (mOrV m n) := by
  refine ⟨fun env k k' h q => ha.mono env (fun d e q => ?_) q, pe_imp (pe_or ha.pe hb.pe) fun σ H Q ⟨z, S0, H0, ps, env, r, q⟩ => ⟨z, S0, H0, ps, env, r, ha.mono env (fun d e q => ?_) q⟩⟩
  · cases d with
    | bl c => cases c with
      | true => exact h _ _ q
      | false => exact hb.mono e h q
    | _ => exact q
  · intro v H1 r1 x1 i1
    cases d with
    | bl c =>
      cases i1
      refine ⟨c, rfl, ?_⟩
      cases c with
      | true => exact q _ H1 r1 x1 (.bl true)
      | false => exact ⟨z, S0, H0, ps, e, r1, hb.mono e (fun b e2 q v H2 r2 x2 => q v H2 r2 (x1.trans x2)) q⟩
    | _ => exact q.elim
theorem de_not {m : ME} (h : DE X Φ a m) : DE X Φ (.UnaryOp .Not a pos) (mNotV m) := by
  refine ⟨fun env k k' hk q => h.mono env (fun d e q => ?_) q, pe_imp (pe_not h.pe) fun σ H Q ⟨z, S0, H0, ps, env, r, q⟩ => ⟨z, S0, H0, ps, env, r, h.mono env (fun d e q => ?_) q⟩⟩
  · cases d with
    | bl c => exact hk _ _ q
    | _ => exact q
  · intro v H1 r1 x1 i1
    cases d with
    | bl c => cases i1; exact ⟨c, rfl, q _ H1 r1 x1 (.bl _)⟩
    | _ => exact q.elim
/-- a if t else b -/
def mIf (t : MT) (m n : ME) : ME := fun env k => t env fun c e => if c = true then m e k else n e k
theorem de_if {t : MT} {ma mb : ME} (hc : DT X Φ c t) (ha : DE X Φ a ma) (hb : DE X Φ b mb) : DE X Φ (.IfExp c a b pos) (mIf t ma mb) := by
  refine ⟨fun env k k' h q => hc.mono env (fun d e q => ?_) q, pe_imp (pe_ifExp hc.pt ha.pe hb.pe) fun σ H Q ⟨z, S0, H0, ps, env, r, q⟩ => ⟨z, S0, H0, ps, env, r, hc.mono env (fun d e q => ?_) q⟩⟩
  · cases d with
    | true => exact ha.mono e h q
    | false => exact hb.mono e h q
  · intro H1 r1 x1
    cases d with
    | true => exact ⟨z, S0, H0, ps, e, r1, ha.mono e (fun b e2 q v H2 r2 x2 => q v H2 r2 (x1.trans x2)) q⟩
    | false => exact ⟨z, S0, H0, ps, e, r1, hb.mono e (fun b e2 q v H2 r2 x2 => q v H2 r2 (x1.trans x2)) q⟩
/-- a chain of two comparisons -/
def mChain (w w' : W2) (ma mb mc : ME) : ME := fun env k => ma env fun x e1 => mb e1 fun y e2 => w x y fun d => match d with
  | .bl b => if b = true then mc e2 fun u e3 => w' y u fun d => k d e3 else k (.bl false) e2
  | _ => False
theorem mChain_mono {w w' : W2} (hw : ∀ x y {k k' : KD}, (∀ d, k d → k' d) → w x y k → w x y k') (hw' : ∀ x y {k k' : KD}, (∀ d, k d → k' d) → w' x y k → w' x y k') (ha : DE X Φ a ma) (hb : DE X Φ b mb) (hc : DE X Φ c mc) :
    ∀ env {k k' : D → DEnv → Prop}, (∀ d e, k d e → k' d e) → mChain w w' ma mb mc env k → mChain w w' ma mb mc env k' := fun env k k' h q =>
  ha.mono env (fun x e1 q => hb.mono e1 (fun y e2 q => hw x y (fun d q => by
    cases d with
    | bl b => cases b with
      | true => exact hc.mono e2 (fun u e3 q => hw' y u (fun d q => h d e3 q) q) q
      | false => exact h _ _ q
    | _ => exact q) q) q) q
theorem chain_run {w w' : W2} (hw : ∀ x y {k k' : KD}, (∀ d, k d → k' d) → w x y k → w x y k') (hw' : ∀ x y {k k' : KD}, (∀ d, k d → k' d) → w' x y k → w' x y k') (ha : DE X Φ a ma) (hb : DE X Φ b mb) (hc : DE X Φ c mc) {σ : St} {H : Hp} {Q : VK}
    (q : tD Φ X.K (mChain w w' ma mb mc) σ H Q) : tChain (rD X.K w) (rD X.K w') (tD Φ X.K ma) (tD Φ X.K mb) (tD Φ X.K mc) σ H Q := by
  obtain ⟨z, S0, H0, ps, env, r, q⟩ := q
  refine ⟨z, S0, H0, ps, env, r, ha.mono env (fun x e1 q => ?_) q⟩
  intro v H1 r1 x1 i1
  refine ⟨z, S0, H0, ps, e1, r1, hb.mono e1 (fun y e2 q => ?_) q⟩
  intro u H2 r2 x2 i2
  refine ⟨z, Sx S0 ps, x, y, r2.dom, r1.isK i1 x2, i2, hw x y (fun d q => ?_) q⟩
  intro v' H3 s i'
  have r3 := r2.same s
  have x3 : Ext (Mu z ps) S0 H H3 := x1.trans (x2.trans (.of_same s.same))
  cases d with
  | bl b =>
    cases i'
    refine ⟨b, rfl, ?_⟩
    cases b with
    | false => exact q _ H3 r3 x3 (.bl false)
    | true =>
      refine ⟨z, S0, H0, ps, e2, r3, hc.mono e2 (fun t e4 q => ?_) q⟩
      intro v4 H4 r4 x4 i4
      refine ⟨z, Sx S0 ps, y, t, r4.dom, r2.isK i2 (Ext.trans (.of_same s.same) x4), i4, hw' y t (fun d q => ?_) q⟩
      intro v5 H5 s5 i5
      exact q v5 H5 (r4.same s5) (x3.trans (x4.trans (.of_same s5.same))) i5
  | _ => exact q.elim
theorem de_chain {op op' : CmpOp} {w w' : W2} (ho : OpD X (compareOp op) w) (ho' : OpD X (compareOp op') w') (ha : DE X Φ a ma) (hb : DE X Φ b mb) (hc : DE X Φ c mc)
    (hm : lastMarks [op, op'] [b, c] = false := by with_unfolding_all rfl) : DE X Φ (.Compare a [op, op'] [b, c] pos) (mChain w w' ma mb mc) :=
  ⟨mChain_mono ho.mono ho'.mono ha hb hc, pe_imp (pe_chain ho.run ho'.run ha.pe hb.pe hc.pe hm) fun _ _ _ q => chain_run ho.mono ho'.mono ha hb hc q⟩
theorem dt_chain {op op' : CmpOp} {w w' : W2} (ho : OpD X (compareOp op) w) (ho' : OpD X (compareOp op') w') (ha : DE X Φ a ma) (hb : DE X Φ b mb) (hc : DE X Φ c mc)
    (hm : lastMarks [op, op'] [b, c] = false := by with_unfolding_all rfl) : DT X Φ (.Compare a [op, op'] [b, c] pos) (mB (mChain w w' ma mb mc)) :=
  ⟨mB_mono (mChain_mono ho.mono ho'.mono ha hb hc), pt_imp (pt_chain ho.run ho'.run ha.pe hb.pe hc.pe hm) fun _ _ _ q => chain_run ho.mono ho'.mono ha hb hc (tB_of (mChain_mono ho.mono ho'.mono ha hb hc) q)⟩
/-! arguments -/
def mNil : MA := fun env k => k [] env
def mCons (m : ME) (n : MA) : MA := fun env k => m env fun d e1 => n e1 fun ds e2 => k (d :: ds) e2
variable {e : Expr} {es : List Expr}
theorem da_nil : DA X Φ [] mNil := ⟨fun env k k' h q => h _ _ q, pa_imp pa_nil fun σ H Q ⟨z, S0, H0, ps, env, r, q⟩ => q [] H r .refl .nil⟩
theorem da_cons {m : ME} {n : MA} (he : DE X Φ e m) (hes : DA X Φ es n) (hs : starEach (e :: es) X.env = (false, eval e X.env) :: starEach es X.env := by rfl) : DA X Φ (e :: es) (mCons m n) := by
  refine ⟨fun env k k' h q => he.mono env (fun d e1 q => hes.mono e1 (fun ds e2 q => h _ _ q) q) q, pa_imp (pa_cons he.pe hes.pa hs) fun σ H Q ⟨z, S0, H0, ps, env, r, q⟩ => ⟨z, S0, H0, ps, env, r, he.mono env (fun d e1 q => ?_) q⟩⟩
  intro v H1 r1 x1 i1
  refine ⟨z, S0, H0, ps, e1, r1, hes.mono e1 (fun ds e2 q => ?_) q⟩
  intro vs H2 r2 x2 i2
  exact q _ H2 r2 (x1.trans x2) (.cons (r1.isK i1 x2) i2)
/-- (a, b, ..) [a, b, ..] -/
def mTup (n : MA) : ME := fun env k => n env fun ds e => ds.length ≤ sizeLine ∧ k (.tup ds) e
def mLst (n : MA) : ME := fun env k => n env fun ds e => ds.length ≤ sizeLine ∧ k (.lst ds) e
theorem de_tup {n : MA} {x1} (h : DA X Φ es n) : DE X Φ (.Tuple es x1 pos) (mTup n) := by
  refine ⟨fun env k k' hk q => h.mono env (fun ds e q => ⟨q.1, hk _ _ q.2⟩) q, pe_imp (pe_tup h.pa) fun σ H Q ⟨z, S0, H0, ps, env, r, q⟩ => ⟨z, S0, H0, ps, env, r, h.mono env (fun ds e q => ?_) q⟩⟩
  intro vs H1 r1 x1 i1
  refine ⟨by rw [i1.length]; exact q.1, fun p hp => ?_⟩
  exact q.2 _ _ (r1.same (grow_upd hp)) (x1.trans (.of_same (grow_upd hp).same)) (is_tup r1.dom hp i1)
theorem de_lst {n : MA} (h : DA X Φ es n) : DE X Φ (.List es pos) (mLst n) := by
  refine ⟨fun env k k' hk q => h.mono env (fun ds e q => ⟨q.1, hk _ _ q.2⟩) q, pe_imp (pe_lst h.pa) fun σ H Q ⟨z, S0, H0, ps, env, r, q⟩ => ⟨z, S0, H0, ps, env, r, h.mono env (fun ds e q => ?_) q⟩⟩
  intro vs H1 r1 x1 i1
  refine ⟨by rw [i1.length]; exact q.1, fun p hp => ?_⟩
  exact q.2 _ _ (r1.same (grow_upd hp)) (x1.trans (.of_same (grow_upd hp).same)) (is_lst r1.dom hp i1)
/-- a built-in called -/
def mCB (w : WL) (n : MA) : ME := fun env k => n env fun ds e => w ds fun d => k d e
theorem runL {w : WL} {n : MA} (hn : ∀ env {k k' : List D → DEnv → Prop}, (∀ d e, k d e → k' d e) → n env k → n env k') (hw : ∀ x {k k' : KD}, (∀ d, k d → k' d) → w x k → w x k') {σ : St} {H : Hp} {Q : VK} (q : tD Φ X.K (mCB w n) σ H Q) :
    tDA Φ X.K n σ H fun vs H1 => rDL X.K w vs H1 Q := by
  obtain ⟨z, S0, H0, ps, env, r, q⟩ := q
  refine ⟨z, S0, H0, ps, env, r, hn env (fun ds e q => ?_) q⟩
  intro vs H1 r1 x1 i1
  refine ⟨z, Sx S0 ps, ds, r1.dom, i1, hw ds (fun d q => ?_) q⟩
  intro v H2 s i2
  exact q v H2 (r1.same s) (x1.trans (.of_same s.same)) i2
theorem mCB_mono {w : WL} {n : MA} (hn : ∀ env {k k' : List D → DEnv → Prop}, (∀ d e, k d e → k' d e) → n env k → n env k') (hw : ∀ x {k k' : KD}, (∀ d, k d → k' d) → w x k → w x k') :
    ∀ env {k k' : D → DEnv → Prop}, (∀ d e, k d e → k' d e) → mCB w n env k → mCB w n env k' := fun env k k' h q => hn env (fun ds e q => hw ds (fun d q => h d e q) q) q
theorem de_callB {x : Str} {p pos : Pos} {id : String} {w : WL} {n : MA} (hc : CallD X (.builtin id) w) (hg : Gl X x) (hm : X.mg x = none) (hv : bootBuiltins x = some (.builtin id)) (ha : DA X Φ (e :: es) n) (hn : x ≠ "__name__" := by decide) (hdb : (x == ("__debug__" : Str)) = false := by decide)
    (he : starEach (e :: es) X.env = (false, eval e X.env) :: starEach es X.env := by rfl) (hpl : (backTo pos (starEach es X.env)).any (·.1) = false := by rfl) : DE X Φ (.Call (.Name x p) (e :: es) [] pos) (mCB w n) :=
  ⟨mCB_mono ha.mono hc.mono, pe_imp (pe_callB hc.run hg hm hv ha.pa hn hdb he hpl) fun _ _ _ q => runL ha.mono hc.mono q⟩
theorem de_callTy {x : Str} {p pos : Pos} {T : String} {w : WL} {n : MA} (hc : CallD X (.type T) w) (hg : Gl X x) (hm : X.mg x = none) (hv : bootBuiltins x = some (.type T)) (ha : DA X Φ (e :: es) n) (hn : x ≠ "__name__" := by decide) (hdb : (x == ("__debug__" : Str)) = false := by decide)
    (he : starEach (e :: es) X.env = (false, eval e X.env) :: starEach es X.env := by rfl) (hpl : (backTo pos (starEach es X.env)).any (·.1) = false := by rfl) : DE X Φ (.Call (.Name x p) (e :: es) [] pos) (mCB w n) :=
  ⟨mCB_mono ha.mono hc.mono, pe_imp (pe_callTy hc.run hg hm hv ha.pa hn hdb he hpl) fun _ _ _ q => runL ha.mono hc.mono q⟩
end
end DL
namespace DL
open PySem L2
section
variable {X : Cx} {Φ : Phi}
/-! ### operators -/
def addW : W2 := fun x y k => match x, y with
  | .int i, .int j => k (.int (i + j))
  | .str a, .str b => a.length + b.length ≤ sizeLine ∧ k (.str (a ++ b))
  | .lst a, .lst b => a.length + b.length ≤ sizeLine ∧ k (.lst (a ++ b))
  | .tup a, .tup b => a.length + b.length ≤ sizeLine ∧ k (.tup (a ++ b))
  | _, _ => False
theorem od_add : OpD X (binaryOp .Add) addW := by
  refine ⟨fun x y k k' h q => ?_, fun pins s σ H x y v u Q I rx ry ⟨z, S, dx, dy, hS, hx, hy, q⟩ => ?_⟩
  · unfold addW at q ⊢
    split <;> simp_all
  · unfold addW at q
    split at q
    · cases hx; cases hy
      exact op_add pins s σ H _ _ v u Q I rx ry ⟨_, _, rfl, rfl, q _ H (Grow.refl H) (.int _)⟩
    · cases hx; cases hy
      exact op_add_str pins s σ H _ _ v u Q I rx ry ⟨_, _, rfl, rfl, q.1, q.2 _ H (Grow.refl H) (.str _)⟩
    · cases hx with
      | lst e1 i1 =>
        cases hy with
        | lst e2 i2 =>
          refine op_cat pins s σ H _ _ v u Q I rx ry ⟨_, _, _, _, rfl, rfl, hide_same _ _ e1, hide_same _ _ e2, by rw [i1.length, i2.length]; exact q.1, fun p hp => ?_⟩
          exact q.2 _ _ (grow_upd hp) (is_lst hS hp (i1.append i2))
    · cases hx with
      | tup e1 i1 =>
        cases hy with
        | tup e2 i2 =>
          refine op_catA pins s σ H _ _ v u Q I rx ry ⟨_, _, _, _, rfl, rfl, sqT_hide e1, sqT_hide e2, by rw [i1.length, i2.length]; exact q.1, fun e => ?_, fun _ e => ?_, fun _ _ p hp => ?_⟩
          · subst e; cases i1; exact q.2 _ H (Grow.refl H) (.tup e2 i2)
          · subst e; cases i2
            refine q.2 _ H (Grow.refl H) ?_
            rw [List.append_nil]
            exact .tup e1 i1
          · exact q.2 _ _ (grow_upd hp) (is_tup hS hp (i1.append i2))
    · exact q.elim
/-- two ints -/
def intW (C : Int → Int → Prop) (g : Int → Int → D) : W2 := fun x y k => match x, y with
  | .int i, .int j => C i j ∧ k (g i j)
  | _, _ => False
theorem od_int {f : Value → Value → Sem Value} {C : Int → Int → Prop} {g : Int → Int → V} {g' : Int → Int → D} (h : OpR X f (rI C g)) (hg : ∀ i j z G, Is z X.K G (g i j) (g' i j)) : OpD X f (intW C g') := by
  refine ⟨fun x y k k' h q => ?_, fun pins s σ H x y v u Q I rx ry ⟨z, S, dx, dy, hS, hx, hy, q⟩ => ?_⟩
  · unfold intW at q ⊢
    split <;> simp_all
  · unfold intW at q
    split at q
    · cases hx; cases hy
      exact h pins s σ H _ _ v u Q I rx ry ⟨_, _, rfl, rfl, q.1, q.2 _ H (Grow.refl H) (hg _ _ _ _)⟩
    · exact q.elim
theorem rI0_rI {f : Value → Value → Sem Value} {g : Int → Int → V} (h : OpR X f (rI0 g)) : OpR X f (rI (fun _ _ => True) g) := fun pins s σ H x y v u Q I rx ry ⟨i, j, e1, e2, _, q⟩ => h pins s σ H x y v u Q I rx ry ⟨i, j, e1, e2, q⟩
abbrev subW : W2 := intW (fun _ _ => True) fun i j => .int (i - j)
abbrev fdivW : W2 := intW CDiv fun i j => .int (i / j)
abbrev modW : W2 := intW (fun _ j => 0 < j) fun i j => .int (i % j)
abbrev powW : W2 := intW CPow fun i j => .int (i ^ j.toNat)
theorem od_sub : OpD X (binaryOp .Sub) subW := od_int (rI0_rI op_sub) fun _ _ _ _ => .int _
theorem od_fdiv : OpD X (binaryOp .FloorDiv) fdivW := od_int op_fdiv fun _ _ _ _ => .int _
theorem od_mod : OpD X (binaryOp .Mod) modW := od_int op_mod fun _ _ _ _ => .int _
theorem od_pow : OpD X (binaryOp .Pow) powW := od_int op_pow fun _ _ _ _ => .int _
def rep {α : Type} (ds : List α) (n : Nat) : List α := (List.replicate n ds).flatten
def mulW : W2 := fun x y k => match x, y with
  | .int i, .int j => CMul i j ∧ k (.int (i * j))
  | .lst ds, .int j => (-(2 ^ 63) ≤ j ∧ j < 2 ^ 63) ∧ ds.length * j.toNat ≤ sizeLine ∧ k (.lst (rep ds j.toNat))
  | _, _ => False
theorem IsA.rep {z : Z} {K : PySem.W.Frag} {G : Hp} {vs : List V} {ds : List D} (h : IsA z K G vs ds) : ∀ n : Nat, IsA z K G (List.replicate n vs).flatten (DL.rep ds n)
  | 0 => .nil
  | n + 1 => by
    unfold DL.rep
    rw [List.replicate_succ, List.replicate_succ, List.flatten_cons, List.flatten_cons]
    exact h.append (IsA.rep h n)
theorem od_mul : OpD X (binaryOp .Mult) mulW := by
  refine ⟨fun x y k k' h q => ?_, fun pins s σ H x y v u Q I rx ry ⟨z, S, dx, dy, hS, hx, hy, q⟩ => ?_⟩
  · unfold mulW at q ⊢
    split <;> simp_all
  · unfold mulW at q
    split at q
    · cases hx; cases hy
      exact op_mul pins s σ H _ _ v u Q I rx ry ⟨_, _, rfl, rfl, q.1, q.2 _ H (Grow.refl H) (.int _)⟩
    · cases hx with
      | lst e1 i1 =>
        cases hy
        refine op_rep pins s σ H _ _ v u Q I rx ry ⟨_, _, _, rfl, rfl, hide_same _ _ e1, q.1.1, q.1.2, by rw [i1.length]; exact q.2.1, fun p hp => ?_⟩
        exact q.2.2 _ _ (grow_upd hp) (is_lst hS hp (i1.rep _))
    · exact q.elim
def negW : W1 := fun x k => match x with
  | .int i => k (.int (-i))
  | _ => False
theorem ud_neg : UnD X (unaryOp .USub) negW := by
  refine ⟨fun x k k' h q => ?_, fun pins s σ H x v Q I rx ⟨z, S, dx, hS, hx, q⟩ => ?_⟩
  · unfold negW at q ⊢
    split <;> simp_all
  · unfold negW at q
    split at q
    · cases hx
      exact un_neg pins s σ H _ v Q I rx ⟨_, rfl, q _ H (Grow.refl H) (.int _)⟩
    · exact q.elim
/-! ### order: ints, texts -/
def ordW (f : Int → Int → Bool) (g : List Nat → List Nat → Bool) : W2 := fun x y k => match x, y with
  | .int i, .int j => k (.bl (f i j))
  | .str a, .str b => k (.bl (g a.cps.toList b.cps.toList))
  | _, _ => False
theorem od_ord {op : CmpOp} {f : Int → Int → Bool} {g : List Nat → List Nat → Bool} (h1 : OpR X (compareOp op) (rI0 fun i j => .bl (f i j)))
    (h2 : OpR X (compareOp op) (fun x y H Q => ∃ i j, x = .str i ∧ y = .str j ∧ Q (.bl (g i.cps.toList j.cps.toList)) H)) : OpD X (compareOp op) (ordW f g) := by
  refine ⟨fun x y k k' h q => ?_, fun pins s σ H x y v u Q I rx ry ⟨z, S, dx, dy, hS, hx, hy, q⟩ => ?_⟩
  · unfold ordW at q ⊢
    split <;> simp_all
  · unfold ordW at q
    split at q
    · cases hx; cases hy
      exact h1 pins s σ H _ _ v u Q I rx ry ⟨_, _, rfl, rfl, q _ H (Grow.refl H) (.bl _)⟩
    · cases hx; cases hy
      exact h2 pins s σ H _ _ v u Q I rx ry ⟨_, _, rfl, rfl, q _ H (Grow.refl H) (.bl _)⟩
    · exact q.elim
abbrev ltW : W2 := ordW (fun i j => decide (i < j)) fun a b => decide (a < b)
abbrev leW : W2 := ordW (fun i j => decide (i ≤ j)) fun a b => !decide (b < a)
abbrev gtW : W2 := ordW (fun i j => decide (j < i)) fun a b => decide (b < a)
abbrev geW : W2 := ordW (fun i j => decide (j ≤ i)) fun a b => !decide (a < b)
theorem od_lt : OpD X (compareOp .Lt) ltW := od_ord op_lt op_lt_str
theorem od_le : OpD X (compareOp .LtE) leW := od_ord op_le op_le_str
theorem od_gt : OpD X (compareOp .Gt) gtW := od_ord op_gt op_gt_str
theorem od_ge : OpD X (compareOp .GtE) geW := od_ord op_ge op_ge_str
/-! ### as plain data -/
def keyPy : Key → PyData
  | .inl i => .int i
  | .inr x => .str x
mutual
def D.py : D → Option PyData
  | .non => some .none
  | .bl b => some (.bool b)
  | .int i => some (.int i)
  | .str x => some (.str x)
  | .tup ds => (D.pyA ds).map .tuple
  | .lst ds => (D.pyA ds).map .list
  | .dct ks ds => (D.pyA ds).map fun ps => .dict ((ks.map keyPy).zip ps)
  | _ => none
def D.pyA : List D → Option (List PyData)
  | [] => some []
  | d :: ds => match d.py, D.pyA ds with
    | some p, some ps => some (p :: ps)
    | _, _ => none
end
theorem pyA_len : ∀ {ds : List D} {ps : List PyData}, D.pyA ds = some ps → ps.length = ds.length
  | [], _, h => by simp [D.pyA] at h; subst h; rfl
  | d :: ds, _, h => by
    unfold D.pyA at h
    cases e1 : d.py with
    | none => rw [e1] at h; simp at h
    | some p =>
      cases e2 : D.pyA ds with
      | none => rw [e1, e2] at h; simp at h
      | some ps => rw [e1, e2] at h; simp at h; subst h; simp [pyA_len e2]
/-- the system's table of modules is none of the tracked objects -/
def LowK (X : Cx) : Prop := ∃ o, X.base.get? sysModules = some o
theorem LowK.free (h : LowK X) {pins : List (Addr × Obj)} {σ : St} {H : Hp} {s : Shared} (I : Inv X pins σ H s) : H sysModules = none := by
  obtain ⟨o, e⟩ := h
  exact (I.bs _ o e).2
theorem Pairs.keys {P : Program} {w : World} {h : Heap} : ∀ {es : List DictEntry} {vs : List (Key × Value)}, Pairs (mixKind P w) es vs → ReadsAll h (es.map (·.key)) (vs.map fun p => keyPy p.1) [] ∧ es.map (·.val) = vs.map (·.2)
  | _, _, .nil => ⟨.nil, rfl⟩
  | _, _, .cons (e := e) (kv := kv) (es := es) (kvs := vs) h1 h2 t => by
    obtain ⟨i1, i2⟩ := Pairs.keys (h := h) t
    refine ⟨?_, by simp [h2, i2]⟩
    have h1' : keyIs kv.1 e.key = true := h1
    rcases keyIs_shape h1' with ⟨i, t, e1, e2⟩ | ⟨x, t, e1, e2⟩
    · simp only [List.map_cons, e1, e2, keyPy]
      exact ReadsAll.cons (as := []) (bs := []) (Reads.int i t) i1
    · simp only [List.map_cons, e1, e2, keyPy]
      exact ReadsAll.cons (as := []) (bs := []) (Reads.str x t) i1
theorem kv_zip {ks : List Key} {xs : List V} {vs : List (Key × Value)} (h : KV (ks.zip xs) vs) (hl : ks.length = xs.length) : vs.map (·.1) = ks ∧ Vals xs (vs.map (·.2)) := by
  induction ks generalizing xs vs with
  | nil =>
    cases xs with
    | nil => cases h; exact ⟨rfl, .nil⟩
    | cons x xs => simp at hl
  | cons k ks ih =>
    cases xs with
    | nil => simp at hl
    | cons x xs =>
      cases h with
      | cons r t =>
        obtain ⟨i1, i2⟩ := ih t (by simpa using hl)
        obtain ⟨r1, r2⟩ := r
        exact ⟨by simp [i1, ← r1], .cons r2 i2⟩
theorem zip_fst {α β : Type} : ∀ (ks : List α) (xs : List β), ks.length = xs.length → (ks.zip xs).map (·.1) = ks := fun _ _ h => zip_keys h
theorem zip_snd {α β : Type} : ∀ (ks : List α) (xs : List β), ks.length = xs.length → (ks.zip xs).map (·.2) = xs
  | [], [], _ => rfl
  | [], _ :: _, h => by simp at h
  | _ :: _, [], h => by simp at h
  | k :: ks, x :: xs, h => by simp [zip_snd ks xs (by simpa using h)]
section
variable {z : Z} {S : Addr → Prop} {pins : List (Addr × Obj)} {σ : St} {H : Hp} {s : Shared}
mutual
theorem Is.reads (I : Inv X pins σ H s) (hf : H sysModules = none) : ∀ {v : V} {d : D} {p : PyData} {u : Value}, Is z X.K (hide S H) v d → d.py = some p → RelV v u → ∃ as, Reads s.heap u p as ∧ sysModules ∉ as
  | _, _, _, _, .non, e, r => by cases e; cases r; exact ⟨_, .none, by simp⟩
  | _, _, _, _, .bl b, e, r => by cases e; cases r; exact ⟨_, .bool b, by simp⟩
  | _, _, _, _, .int i, e, r => by cases e; obtain ⟨t, rfl⟩ := r; exact ⟨_, .int i t, by simp⟩
  | _, _, _, _, .str x, e, r => by cases e; obtain ⟨t, rfl⟩ := r; exact ⟨_, .str x t, by simp⟩
  | _, _, _, _, .ty n, e, r => by simp [D.py] at e
  | _, _, _, _, .tup (ds := ds) h t, e, r => by
    unfold D.py at e
    cases e1 : D.pyA ds with
    | none => rw [e1] at e; cases e
    | some ps =>
      rw [e1] at e; cases e; cases r
      obtain ⟨its, rv, ⟨o, ho, hc, n, hd⟩, _⟩ := I.tuple (sqT_hide h)
      obtain ⟨as, hr, hn⟩ := IsA.reads I hf t e1 rv
      exact ⟨_, .tuple ho hc hd hr, hn⟩
  | _, _, _, _, .lst (a := a) (ds := ds) h t, e, r => by
    unfold D.py at e
    cases e1 : D.pyA ds with
    | none => rw [e1] at e; cases e
    | some ps =>
      rw [e1] at e; cases e; cases r
      have h' := hide_same _ _ h
      obtain ⟨its, rv, ⟨o, n, ho, hc, _, hd⟩, _⟩ := I.list (SqL.of (K := X.K) h')
      obtain ⟨as, hr, hn⟩ := IsA.reads I hf t e1 rv
      refine ⟨_, .list ho hc hd hr, fun q => ?_⟩
      rcases List.mem_cons.mp q with q | q
      · rw [q, h'] at hf; cases hf
      · exact hn q
  | _, _, _, _, .dct (a := a) (ks := ks) (xs := xs) (ds := ds) h l _ t, e, r => by
    unfold D.py at e
    cases e1 : D.pyA ds with
    | none => rw [e1] at e; cases e
    | some ps =>
      rw [e1] at e; cases e; cases r
      have h' := hide_same _ _ h
      obtain ⟨_, _, vs, rv, o, es, ep, ho, hx, hd, _, hp, _⟩ := dk_of I.hok h'
      obtain ⟨q1, q2⟩ := kv_zip rv l
      obtain ⟨k1, k2⟩ := Pairs.keys (h := s.heap) hp
      obtain ⟨as, hr, hn⟩ := IsA.reads I hf t e1 q2
      have ek : (ks.map keyPy).length = ps.length := by rw [List.length_map, l, t.length, pyA_len e1]
      have e3 : (vs.map fun p => keyPy p.1) = ks.map keyPy := by rw [← q1, List.map_map]; rfl
      rw [e3] at k1
      refine ⟨a :: [] ++ as, .dict (as := []) (bs := as) ho hx.1 hd (by rw [zip_fst _ _ ek]; exact k1) (by rw [zip_snd _ _ ek, k2]; exact hr), fun q => ?_⟩
      rcases List.mem_cons.mp q with q | q
      · rw [q, h'] at hf; cases hf
      · exact hn (by simpa using q)
  | _, _, _, _, .ins _ _ _, e, r => by simp [D.py] at e
  | _, _, _, _, .dcT _ _ _, e, r => by simp [D.py] at e
  | _, _, _, _, .lam _ _, e, r => by simp [D.py] at e
  | _, _, _, _, .frm _ _ _ _, e, r => by simp [D.py] at e
  | _, _, _, _, .fra _ _ _, e, r => by simp [D.py] at e
  | _, _, _, _, .exn0 _ _ _ _, e, r => by simp [D.py] at e
  | _, _, _, _, .exnM _ _ _ _ _ _, e, r => by simp [D.py] at e
  | _, _, _, _, .exn1 _ _ _ _ _ _ _ _, e, r => by simp [D.py] at e
  | _, _, _, _, .scr _, e, r => by simp [D.py] at e
  | _, _, _, _, .sta _, e, r => by simp [D.py] at e
  | _, _, _, _, .cls _, e, r => by simp [D.py] at e
theorem IsA.reads (I : Inv X pins σ H s) (hf : H sysModules = none) : ∀ {vs : List V} {ds : List D} {ps : List PyData} {us : List Value}, IsA z X.K (hide S H) vs ds → D.pyA ds = some ps → Vals vs us → ∃ as, ReadsAll s.heap us ps as ∧ sysModules ∉ as
  | _, _, _, _, .nil, e, r => by simp [D.pyA] at e; subst e; cases r; exact ⟨_, .nil, by simp⟩
  | _, _, _, _, .cons (d := d) (ds := ds) h t, e, r => by
    unfold D.pyA at e
    cases e1 : d.py with
    | none => rw [e1] at e; simp at e
    | some p =>
      cases e2 : D.pyA ds with
      | none => rw [e1, e2] at e; simp at e
      | some ps =>
        rw [e1, e2] at e; simp at e; subst e
        cases r with
        | cons r1 r2 =>
          obtain ⟨as, q1, n1⟩ := Is.reads I hf h e1 r1
          obtain ⟨bs, q2, n2⟩ := IsA.reads I hf t e2 r2
          exact ⟨_, .cons q1 q2, fun q => (List.mem_append.mp q).elim n1 n2⟩
end
end
/-! ### == -/
def D.shaped (d : D) : Bool := match d.py with
  | some p => SeqAt.shaped p
  | none => false
def D.eqv (d e : D) : Bool := match d.py, e.py with
  | some p, some q => PyData.eqv p q
  | _, _ => false
def eqW : W2 := fun x y k => x.shaped = true ∧ y.shaped = true ∧ k (.bl (D.eqv x y))
def neW : W2 := fun x y k => x.shaped = true ∧ y.shaped = true ∧ k (.bl (!D.eqv x y))
theorem shaped_py {d : D} (h : d.shaped = true) : ∃ p, d.py = some p ∧ SeqAt.shaped p = true := by
  unfold D.shaped at h
  cases e : d.py with
  | none => rw [e] at h; cases h
  | some p => rw [e] at h; exact ⟨p, rfl, h⟩
theorem od_eq (hu : X.A.units + 64 < cLine) (hl : LowK X) : OpD X (compareOp .Eq) eqW := by
  refine ⟨fun x y k k' h q => ⟨q.1, q.2.1, h _ q.2.2⟩, fun pins s σ H x y v u Q I rx ry ⟨z, S, dx, dy, hS, hx, hy, s1, s2, q⟩ => ?_⟩
  obtain ⟨p1, e1, g1⟩ := shaped_py s1
  obtain ⟨p2, e2, g2⟩ := shaped_py s2
  obtain ⟨as, r1, _⟩ := hx.reads I (hl.free I) e1 rx
  obtain ⟨bs, r2, _⟩ := hy.reads I (hl.free I) e2 ry
  have e3 : D.eqv dx dy = PyData.eqv p1 p2 := by unfold D.eqv; rw [e1, e2]
  rw [e3] at q
  exact SeqAt.compareEq_shaped r1 r2 g1 g2 hu ⟨.bl _, H, I, rfl, q _ H (Grow.refl H) (.bl _)⟩
theorem od_ne (hu : X.A.units + 64 < cLine) (hl : LowK X) : OpD X (compareOp .NotEq) neW := by
  refine ⟨fun x y k k' h q => ⟨q.1, q.2.1, h _ q.2.2⟩, fun pins s σ H x y v u Q I rx ry ⟨z, S, dx, dy, hS, hx, hy, s1, s2, q⟩ => ?_⟩
  obtain ⟨p1, e1, g1⟩ := shaped_py s1
  obtain ⟨p2, e2, g2⟩ := shaped_py s2
  obtain ⟨as, r1, _⟩ := hx.reads I (hl.free I) e1 rx
  obtain ⟨bs, r2, _⟩ := hy.reads I (hl.free I) e2 ry
  have e3 : D.eqv dx dy = PyData.eqv p1 p2 := by unfold D.eqv; rw [e1, e2]
  rw [e3] at q
  exact SeqAt.compareNe_shaped r1 r2 g1 g2 hu ⟨.bl _, H, I, rfl, q _ H (Grow.refl H) (.bl _)⟩
/-! ### repr -/
def D.shown (d : D) : Str := match d.py with
  | some p => p.shown
  | none => ⟨#[]⟩
def D.showable (d : D) : Bool := match d.py with
  | some p => p.showable && decide (p.shown.length ≤ sizeLine) && decide (p.depth ≤ 64)
  | none => false
def reprW : WL := fun xs k => match xs with
  | [d] => d.showable = true ∧ k (.str d.shown)
  | _ => False
theorem cd_repr (hu : X.A.units + 80 < cLine) (hg : X.A.guards = some []) (hl : LowK X) : CallD X (.builtin "repr") reprW := by
  refine ⟨fun x k k' h q => ?_, fun pins s σ H xs us Q I r ⟨z, S, ds, hS, hx, q⟩ => ?_⟩
  · unfold reprW at q ⊢
    split <;> simp_all
  · unfold reprW at q
    split at q
    · rename_i d
      cases hx with
      | cons h t =>
        cases t
        obtain ⟨u, rfl, ru⟩ := vals1 r
        obtain ⟨q1, q⟩ := q
        unfold D.showable at q1
        unfold D.shown at q
        cases e : d.py with
        | none => rw [e] at q1; cases q1
        | some p =>
          rw [e] at q1 q
          simp only [Bool.and_eq_true, decide_eq_true_eq] at q1 q
          obtain ⟨⟨q1, q2⟩, q3⟩ := q1
          have fin : ∀ h' tk tt, (∀ b o, s.heap.get? b = some o → h'.get? b = some o) → EP X pins σ Q (.str p.shown tk) { s with heap := h', toks := tt } :=
            fun h' tk tt hk => ⟨.str p.shown, H, I.kept hk, ⟨tk, rfl⟩, q _ H (Grow.refl H) (.str _)⟩
          have fin0 : ∀ tk tt, EP X pins σ Q (.str p.shown tk) { s with toks := tt } := fun tk tt => fin s.heap tk tt fun _ _ e => e
          obtain ⟨as, rd, nm⟩ := h.reads I (hl.free I) e ru
          cases rd with
          | none => exact PySem.P.repr_of_none (fin0 _ _)
          | bool b => refine PySem.P.repr_of_bool ?_; cases b <;> exact fin0 _ _
          | int i t => exact PySem.P.repr_of_int (by simpa [PyData.showable] using q1) (fin0 _ _)
          | str x t => exact PySem.P.repr_of_str (fin0 _ _) q2
          | list h1 h2 h3 h4 => exact repr_of_reads' (.list h1 h2 h3 h4) q1 (fun _ => nm) hg (by omega) (fun _ _ e => e) (fun h' u tk hk => fin h' u tk hk) q2
          | tuple h1 h2 h3 h4 => exact repr_of_reads' (.tuple h1 h2 h3 h4) q1 (fun _ => nm) hg (by omega) (fun _ _ e => e) (fun h' u tk hk => fin h' u tk hk) q2
          | dict h1 h2 h3 h4 h5 => exact repr_of_reads' (.dict h1 h2 h3 h4 h5) q1 (fun _ => nm) hg (by omega) (fun _ _ e => e) (fun h' u tk hk => fin h' u tk hk) q2
    · exact q.elim
end
end DL
namespace DL
open PySem L2
section
variable {X : Cx} {Φ : Phi}
/-! ### in -/
def D.flat : D → Bool
  | .non => true
  | .bl _ => true
  | .int _ => true
  | .str _ => true
  | _ => false
/-- == of flat data -/
def D.eqF : D → D → Bool
  | .non, .non => true
  | .bl a, .bl b => a == b
  | .bl a, .int b => (if a then 1 else 0) == b
  | .int a, .bl b => a == (if b then 1 else 0)
  | .int a, .int b => a == b
  | .str a, .str b => a == b
  | _, _ => false
theorem Is.flat {z : Z} {K : PySem.W.Frag} {G : Hp} {v : V} {d : D} (h : Is z K G v d) (f : d.flat = true) : flatV v = true := by
  cases h <;> first | rfl | (simp [D.flat] at f)
theorem IsA.flat {z : Z} {K : PySem.W.Frag} {G : Hp} : ∀ {vs : List V} {ds : List D}, IsA z K G vs ds → ds.all D.flat = true → vs.all flatV = true
  | _, _, .nil, _ => rfl
  | _, _, .cons h t, f => by
    simp only [List.all_cons, Bool.and_eq_true] at f ⊢
    exact ⟨h.flat f.1, IsA.flat t f.2⟩
theorem Is.eqF {z : Z} {K : PySem.W.Frag} {G : Hp} {v u : V} {d e : D} (h : Is z K G v d) (k : Is z K G u e) (f : d.flat = true) (g : e.flat = true) : eqV v u = D.eqF d e := by
  cases h <;> first | (simp [D.flat] at f; done) | (cases k <;> first | (simp [D.flat] at g; done) | rfl)
def inD (x : D) (ds : List D) : Bool := ds.any fun y => D.eqF y x
theorem IsA.inV {z : Z} {K : PySem.W.Frag} {G : Hp} {v : V} {d : D} (h : Is z K G v d) (f : d.flat = true) : ∀ {vs : List V} {ds : List D}, IsA z K G vs ds → ds.all D.flat = true → inV v vs = inD d ds
  | _, _, .nil, _ => rfl
  | _, _, .cons k t, g => by
    simp only [List.all_cons, Bool.and_eq_true] at g
    have i := IsA.inV h f t g.2
    unfold L2.inV inD at i ⊢
    rw [List.any_cons, List.any_cons, k.eqF h g.1 f, i]
def strIn (a b : Str) : Bool := match a.cps.toList with
  | [c] => decide (c ∈ b.cps.toList)
  | _ => !(Builtin.Str.occurrences b a 0 b.length 1).isEmpty
/-- x in y, x not in y -/
def inW (neg : Bool) : W2 := fun x y k => match y with
  | .lst ds => x.flat = true ∧ ds.all D.flat = true ∧ k (.bl (if neg then !inD x ds else inD x ds))
  | .tup ds => x.flat = true ∧ ds.all D.flat = true ∧ k (.bl (if neg then !inD x ds else inD x ds))
  | .str b => match x with
    | .str a => k (.bl (if neg then !strIn a b else strIn a b))
    | _ => False
  | _ => False
theorem one_sign {a : Str} {c : Nat} (h : a.cps.toList = [c]) : a = ⟨#[c]⟩ := by
  obtain ⟨⟨l⟩⟩ := a
  simp at h
  rw [h]
theorem od_in {op : CmpOp} {neg : Bool} (h1 : OpR X (compareOp op) (rIn X.K neg)) (h2 : OpR X (compareOp op) (fun x y H Q => ∃ i j, x = .str i ∧ y = .str j ∧ Q (.bl (if neg then !(!(Builtin.Str.occurrences j i 0 j.length 1).isEmpty) else !(Builtin.Str.occurrences j i 0 j.length 1).isEmpty)) H))
    (h3 : OpR X (compareOp op) (fun x y H Q => ∃ (c : Nat) (z : Str), x = .str ⟨#[c]⟩ ∧ y = .str z ∧ Q (.bl (if neg then !decide (c ∈ z.cps.toList) else decide (c ∈ z.cps.toList))) H)) : OpD X (compareOp op) (inW neg) := by
  refine ⟨fun x y k k' h q => ?_, fun pins s σ H x y v u Q I rx ry ⟨z, S, dx, dy, hS, hx, hy, q⟩ => ?_⟩
  · revert q
    unfold inW
    split
    · exact fun q => ⟨q.1, q.2.1, h _ q.2.2⟩
    · exact fun q => ⟨q.1, q.2.1, h _ q.2.2⟩
    · split
      · exact fun q => h _ q
      · exact fun q => q.elim
    · exact fun q => q.elim
  · unfold inW at q
    split at q
    · cases hy with
      | lst e i => exact h1 pins s σ H _ _ v u Q I rx ry ⟨_, _, rfl, .inl (SqL.of (hide_same _ _ e)), hx.flat q.1, i.flat q.2.1, by rw [i.inV hx q.1 q.2.1]; exact q.2.2 _ H (Grow.refl H) (.bl _)⟩
    · cases hy with
      | tup e i => exact h1 pins s σ H _ _ v u Q I rx ry ⟨_, _, rfl, .inr (sqT_hide e), hx.flat q.1, i.flat q.2.1, by rw [i.inV hx q.1 q.2.1]; exact q.2.2 _ H (Grow.refl H) (.bl _)⟩
    · rename_i b
      split at q
      · rename_i a
        cases hx; cases hy
        have q' := q _ H (Grow.refl H) (.bl _)
        by_cases hc : ∃ c, a.cps.toList = [c]
        · obtain ⟨c, e⟩ := hc
          have e2 : strIn a b = decide (c ∈ b.cps.toList) := by unfold strIn; rw [e]
          rw [e2] at q'
          cases one_sign e
          exact h3 pins s σ H _ _ v u Q I rx ry ⟨c, _, rfl, rfl, q'⟩
        · have e2 : strIn a b = !(Builtin.Str.occurrences b a 0 b.length 1).isEmpty := by
            unfold strIn
            split
            · rename_i c e; exact absurd ⟨c, e⟩ hc
            · rfl
          rw [e2] at q'
          exact h2 pins s σ H _ _ v u Q I rx ry ⟨_, _, rfl, rfl, q'⟩
      · exact q.elim
    · exact q.elim
theorem od_isin : OpD X (compareOp .In) (inW false) := od_in op_in_seq op_in_str op_in_sign
theorem od_notin : OpD X (compareOp .NotIn) (inW true) := od_in op_notIn_seq op_notin_str op_notIn_sign
/-! ### is None -/
def isNW (neg : Bool) : W2 := fun x y k => match y with
  | .non => k (.bl (if neg then !(match x with | .non => true | _ => false) else (match x with | .non => true | _ => false)))
  | _ => False
theorem od_isN : OpD X (compareOp .Is) (isNW false) := by
  refine ⟨fun x y k k' h q => ?_, fun pins s σ H x y v u Q I rx ry ⟨z, S, dx, dy, hS, hx, hy, q⟩ => ?_⟩
  · unfold isNW at q ⊢
    split <;> simp_all
  · unfold isNW at q
    split at q
    · cases hy
      refine op_isN pins s σ H _ _ v u Q I rx ry ⟨rfl, ?_⟩
      have q' := q _ H (Grow.refl H) (.bl _)
      cases hx <;> simpa using q'
    · exact q.elim
theorem od_notN : OpD X (compareOp .IsNot) (isNW true) := by
  refine ⟨fun x y k k' h q => ?_, fun pins s σ H x y v u Q I rx ry ⟨z, S, dx, dy, hS, hx, hy, q⟩ => ?_⟩
  · unfold isNW at q ⊢
    split <;> simp_all
  · unfold isNW at q
    split at q
    · cases hy
      refine op_notN pins s σ H _ _ v u Q I rx ry ⟨rfl, ?_⟩
      have q' := q _ H (Grow.refl H) (.bl _)
      cases hx <;> simpa using q'
    · exact q.elim
/-! ### built-ins by name -/
def lenW : WL := fun xs k => match xs with
  | [.str x] => x.length ≤ sizeLine ∧ k (.int x.length)
  | [.lst ds] => k (.int ds.length)
  | [.tup ds] => k (.int ds.length)
  | [.scr ns] => k (.int ns.length)
  | _ => False
theorem cd_len : CallD X (.builtin "len") lenW := by
  refine ⟨fun x k k' h q => ?_, fun pins s σ H xs us Q I r ⟨z, S, ds, hS, hx, q⟩ => ?_⟩
  · unfold lenW at q ⊢
    split <;> simp_all
  · unfold lenW at q
    split at q
    · cases hx with
      | cons h t =>
        cases t; cases h
        exact call_len pins s σ H _ us Q I r ⟨_, _, rfl, ⟨q.1, rfl⟩, q.2 _ H (Grow.refl H) (.int _)⟩
    · cases hx with
      | cons h t =>
        cases t
        cases h with
        | lst e i => exact call_len pins s σ H _ us Q I r ⟨_, _, rfl, .inl ⟨_, SqL.of (hide_same _ _ e), rfl⟩, by rw [i.length]; exact q _ H (Grow.refl H) (.int _)⟩
    · cases hx with
      | cons h t =>
        cases t
        cases h with
        | tup e i => exact call_len pins s σ H _ us Q I r ⟨_, _, rfl, .inr ⟨_, sqT_hide e, rfl⟩, by rw [i.length]; exact q _ H (Grow.refl H) (.int _)⟩
    · cases hx with
      | cons h t =>
        cases t
        cases h with
        | scr e => exact call_len pins s σ H _ us Q I r ⟨_, _, rfl, .inl ⟨_, sqL_hide e, rfl⟩, by rw [List.length_map]; exact q _ H (Grow.refl H) (.int _)⟩
    · exact q.elim
def int1W : WL := fun xs k => match xs with
  | [.int i] => k (.int i)
  | [.bl b] => k (.int (if b then 1 else 0))
  | _ => False
theorem cd_int : CallD X (.type "int") int1W := by
  refine ⟨fun x k k' h q => ?_, fun pins s σ H xs us Q I r ⟨z, S, ds, hS, hx, q⟩ => ?_⟩
  · unfold int1W at q ⊢
    split <;> simp_all
  · unfold int1W at q
    split at q
    · cases hx with
      | cons h t => cases t; cases h; exact call_int1 pins s σ H _ us Q I r (.inl ⟨_, rfl, q _ H (Grow.refl H) (.int _)⟩)
    · cases hx with
      | cons h t => cases t; cases h; exact call_int1 pins s σ H _ us Q I r (.inr ⟨_, rfl, q _ H (Grow.refl H) (.int _)⟩)
    · exact q.elim
def absW : WL := fun xs k => match xs with
  | [.int i] => k (.int (if i < 0 then -i else i))
  | _ => False
theorem cd_abs : CallD X (.builtin "abs") absW := by
  refine ⟨fun x k k' h q => ?_, fun pins s σ H xs us Q I r ⟨z, S, ds, hS, hx, q⟩ => ?_⟩
  · unfold absW at q ⊢
    split <;> simp_all
  · unfold absW at q
    split at q
    · cases hx with
      | cons h t => cases t; cases h; exact call_abs pins s σ H _ us Q I r ⟨_, rfl, q _ H (Grow.refl H) (.int _)⟩
    · exact q.elim
def min2W : WL := fun xs k => match xs with
  | [.int i, .int j] => k (.int (if j < i then j else i))
  | _ => False
theorem cd_min2 (hc : X.calm = true) : CallD X (.builtin "min") min2W := by
  refine ⟨fun x k k' h q => ?_, fun pins s σ H xs us Q I r ⟨z, S, ds, hS, hx, q⟩ => ?_⟩
  · unfold min2W at q ⊢
    split <;> simp_all
  · unfold min2W at q
    split at q
    · cases hx with
      | cons h t =>
        cases t with
        | cons h2 t => cases t; cases h; cases h2; exact call_min2 hc pins s σ H _ us Q I r ⟨_, _, rfl, q _ H (Grow.refl H) (.int _)⟩
    · exact q.elim
def boolsOf : List D → Option (List Bool)
  | [] => some []
  | .bl b :: ds => (boolsOf ds).map (b :: ·)
  | _ :: _ => none
def intsOf : List D → Option (List Int)
  | [] => some []
  | .int b :: ds => (intsOf ds).map (b :: ·)
  | _ :: _ => none
def strsOf : List D → Option (List Str)
  | [] => some []
  | .str b :: ds => (strsOf ds).map (b :: ·)
  | _ :: _ => none
theorem bools_eq : ∀ {ds : List D} {bs : List Bool}, boolsOf ds = some bs → ds = bs.map D.bl
  | [], bs, h => by simp [boolsOf] at h; subst h; rfl
  | d :: ds, bs, h => by
    cases d with
    | bl b =>
      simp only [boolsOf, Option.map_eq_some_iff] at h
      obtain ⟨l, h1, h2⟩ := h
      subst h2
      rw [bools_eq h1]; rfl
    | _ => simp [boolsOf] at h
theorem ints_eq : ∀ {ds : List D} {bs : List Int}, intsOf ds = some bs → ds = bs.map D.int
  | [], bs, h => by simp [intsOf] at h; subst h; rfl
  | d :: ds, bs, h => by
    cases d with
    | int b =>
      simp only [intsOf, Option.map_eq_some_iff] at h
      obtain ⟨l, h1, h2⟩ := h
      subst h2
      rw [ints_eq h1]; rfl
    | _ => simp [intsOf] at h
theorem strs_eq : ∀ {ds : List D} {bs : List Str}, strsOf ds = some bs → ds = bs.map D.str
  | [], bs, h => by simp [strsOf] at h; subst h; rfl
  | d :: ds, bs, h => by
    cases d with
    | str b =>
      simp only [strsOf, Option.map_eq_some_iff] at h
      obtain ⟨l, h1, h2⟩ := h
      subst h2
      rw [strs_eq h1]; rfl
    | _ => simp [strsOf] at h
theorem bools_map (bs : List Bool) : boolsOf (bs.map D.bl) = some bs := by induction bs with
  | nil => rfl
  | cons b bs ih => simp [boolsOf, ih]
theorem ints_map (bs : List Int) : intsOf (bs.map D.int) = some bs := by induction bs with
  | nil => rfl
  | cons b bs ih => simp [intsOf, ih]
theorem strs_map (bs : List Str) : strsOf (bs.map D.str) = some bs := by induction bs with
  | nil => rfl
  | cons b bs ih => simp [strsOf, ih]
/-- all(list), any(list) of truth values -/
def allW (f : List Bool → Bool) : WL := fun xs k => match xs with
  | [.lst ds] => match boolsOf ds with
    | some bs => k (.bl (f bs))
    | none => False
  | _ => False
theorem allW_mono (f : List Bool → Bool) : ∀ x {k k' : KD}, (∀ d, k d → k' d) → allW f x k → allW f x k' := fun x k k' h q => by
  revert q
  unfold allW
  split
  · split
    · exact fun q => h _ q
    · exact fun q => q
  · exact fun q => q.elim
theorem cd_all (hc : X.calm = true) : CallD X (.builtin "all") (allW fun bs => bs.all id) := by
  refine ⟨allW_mono _, fun pins s σ H xs us Q I r ⟨z, S, ds, hS, hx, q⟩ => ?_⟩
  unfold allW at q
  split at q
  · split at q
    · rename_i e
      cases bools_eq e
      cases hx with
      | cons h t =>
        cases t
        cases h with
        | lst e i =>
          rw [i.bls] at e
          exact cr_all hc pins s σ H _ us Q I r ⟨_, _, rfl, SqL.of (hide_same _ _ e), q _ H (Grow.refl H) (.bl _)⟩
    · exact q.elim
  · exact q.elim
theorem cd_any (hc : X.calm = true) : CallD X (.builtin "any") (allW fun bs => bs.any id) := by
  refine ⟨allW_mono _, fun pins s σ H xs us Q I r ⟨z, S, ds, hS, hx, q⟩ => ?_⟩
  unfold allW at q
  split at q
  · split at q
    · rename_i e
      cases bools_eq e
      cases hx with
      | cons h t =>
        cases t
        cases h with
        | lst e i =>
          rw [i.bls] at e
          exact cr_any hc pins s σ H _ us Q I r ⟨_, _, rfl, SqL.of (hide_same _ _ e), q _ H (Grow.refl H) (.bl _)⟩
    · exact q.elim
  · exact q.elim
def tupleW : WL := fun xs k => match xs with
  | [.lst ds] => k (.tup ds)
  | [.tup ds] => k (.tup ds)
  | _ => False
theorem cd_tuple : CallD X (.type "tuple") tupleW := by
  refine ⟨fun x k k' h q => ?_, fun pins s σ H xs us Q I r ⟨z, S, ds, hS, hx, q⟩ => ?_⟩
  · unfold tupleW at q ⊢
    split <;> simp_all
  · unfold tupleW at q
    split at q
    · cases hx with
      | cons h t =>
        cases t
        cases h with
        | lst e i => exact call_tuple_of pins s σ H _ us Q I r ⟨_, _, rfl, .inl ⟨SqL.of (hide_same _ _ e), fun l hl => q _ _ (grow_upd hl) (is_tup hS hl i)⟩⟩
    · cases hx with
      | cons h t =>
        cases t
        cases h with
        | tup e i => exact call_tuple_of pins s σ H _ us Q I r ⟨_, _, rfl, .inr ⟨sqT_hide e, q _ H (Grow.refl H) (.tup e i)⟩⟩
    · exact q.elim
def listW : WL := fun xs k => match xs with
  | [.lst ds] => k (.lst ds)
  | [.tup ds] => k (.lst ds)
  | _ => False
theorem cd_list : CallD X (.type "list") listW := by
  refine ⟨fun x k k' h q => ?_, fun pins s σ H xs us Q I r ⟨z, S, ds, hS, hx, q⟩ => ?_⟩
  · unfold listW at q ⊢
    split <;> simp_all
  · unfold listW at q
    split at q
    · cases hx with
      | cons h t =>
        cases t
        cases h with
        | lst e i => exact call_list_of pins s σ H _ us Q I r ⟨_, _, rfl, .inl (SqL.of (hide_same _ _ e)), fun l hl => q _ _ (grow_upd hl) (is_lst hS hl i)⟩
    · cases hx with
      | cons h t =>
        cases t
        cases h with
        | tup e i => exact call_list_of pins s σ H _ us Q I r ⟨_, _, rfl, .inr (sqT_hide e), fun l hl => q _ _ (grow_upd hl) (is_lst hS hl i)⟩
    · exact q.elim
/-! ### isinstance, built-in classes -/
def tyN : D → Option String
  | .non => some "NoneType"
  | .bl _ => some "bool"
  | .int _ => some "int"
  | .str _ => some "str"
  | .tup _ => some "tuple"
  | .lst _ => some "list"
  | .dct _ _ => some "dict"
  | .frm _ _ => some "dict"
  | .dcT _ _ => some "dict"
  | _ => none
def D.isa (d : D) (n : String) : Bool := match d with
  | .bl _ => n == "bool" || n == "int"
  | .int _ => n == "int"
  | .str _ => n == "str"
  | .tup _ => n == "tuple"
  | .lst _ => n == "list"
  | .dct _ _ => n == "dict"
  | .frm _ _ => n == "dict"
  | .dcT _ _ => n == "dict"
  | _ => false
def sixNames : List String := ["int", "bool", "str", "tuple", "list", "dict"]
theorem kit_six : ∀ n ∈ sixNames, kitB "NoneType" n = some false ∧ kitB "bool" n = some (n == "bool" || n == "int") ∧ kitB "int" n = some (n == "int") ∧ kitB "str" n = some (n == "str") ∧
    kitB "tuple" n = some (n == "tuple") ∧ kitB "list" n = some (n == "list") ∧ kitB "dict" n = some (n == "dict") := by decide +kernel
theorem isa_kit {d : D} {t n : String} (h : tyN d = some t) (hn : n ∈ sixNames) : kitB t n = some (d.isa n) := by
  obtain ⟨h0, h1, h2, h3, h4, h5, h6⟩ := kit_six n hn
  cases d <;> simp only [tyN, Option.some.injEq, reduceCtorEq] at h <;> subst h <;> simp only [D.isa] <;> assumption
theorem Is.ty_of {z : Z} {K : PySem.W.Frag} {S : Addr → Prop} {H : Hp} {v : V} {d : D} {t : String} (h : Is z K (hide S H) v d) (e : tyN d = some t) : TyX K H v (.type t) := by
  cases h with
  | non => cases e; exact .base .non
  | bl b => cases e; exact .base (.bl b)
  | int b => cases e; exact .base (.int b)
  | str b => cases e; exact .base (.str b)
  | tup h i =>
    cases e
    rcases tup_hide h with h | ⟨o, its, n, h1, h2, _⟩
    · exact .base (.tup h)
    · exact .kTuple h1 h2
  | lst h i => cases e; exact .base (.lst (hide_same _ _ h))
  | dct h i _ _ => cases e; exact .base (.dK (hide_same _ _ h))
  | frm h i _ _ => cases e; exact .base (.dK (hide_same _ _ h))
  | ty => cases e
  | fra => cases e
  | exn0 => cases e
  | exnM => cases e
  | exn1 => cases e
  | dcT h l _ => cases e; exact .base (.dT (hide_same _ _ h))
  | lam => cases e
  | ins => cases e
  | scr => cases e
  | sta => cases e
  | cls => cases e
def tyNames : List D → Option (List String)
  | [] => some []
  | .ty n :: ds => (tyNames ds).map (n :: ·)
  | _ :: _ => none
def isiW : WL := fun xs k => match xs with
  | [d, .ty n] => (tyN d).isSome = true ∧ n ∈ sixNames ∧ k (.bl (d.isa n))
  | [d, .tup cs] => match tyNames cs with
    | some ns => (tyN d).isSome = true ∧ (∀ n ∈ ns, n ∈ sixNames) ∧ k (.bl (ns.any d.isa))
    | none => False
  | _ => False
theorem tyNames_cls {z : Z} {K : PySem.W.Frag} {G : Hp} : ∀ {vs : List V} {cs : List D} {ns : List String}, IsA z K G vs cs → tyNames cs = some ns → Paired ClsV vs (ns.map Value.type)
  | _, _, _, .nil, e => by simp [tyNames] at e; subst e; exact .nil
  | _, _, _, .cons (d := d) h t, e => by
    cases d with
    | ty n =>
      simp only [tyNames, Option.map_eq_some_iff] at e
      obtain ⟨l, h1, h2⟩ := e
      subst h2
      cases h
      exact .cons (.ty n) (tyNames_cls t h1)
    | _ => simp [tyNames] at e
theorem kitAny_of {K : PySem.W.Frag} {d : D} {t : String} (h : tyN d = some t) : ∀ {ns : List String}, (∀ n ∈ ns, n ∈ sixNames) → PySem.W.kitAny K (.type t) (ns.map Value.type) = some (ns.any d.isa)
  | [], _ => kitAny_nil
  | n :: ns, hn => by
    have h1 : PySem.W.kitOne K (.type t) (.type n) = some (d.isa n) := kit_ty (isa_kit h (hn n (by simp)))
    have h2 := kitAny_of (K := K) h (ns := ns) fun m hm => hn m (by simp [hm])
    refine kitAny_cons h1 (fun e => ?_) (fun e => ?_)
    · rw [h2, List.any_cons, e]; simp
    · rw [List.any_cons, e]; simp
theorem cd_isi : CallD X (.builtin "isinstance") isiW := by
  refine ⟨fun x k k' h q => ?_, fun pins s σ H xs us Q I r ⟨z, S, ds, hS, hx, q⟩ => ?_⟩
  · revert q
    unfold isiW
    split
    · exact fun q => ⟨q.1, q.2.1, h _ q.2.2⟩
    · split
      · exact fun q => ⟨q.1, q.2.1, h _ q.2.2⟩
      · exact fun q => q
    · exact fun q => q.elim
  · unfold isiW at q
    split at q
    · rename_i d n
      obtain ⟨t, et⟩ := Option.isSome_iff_exists.mp q.1
      cases hx with
      | cons h1 t1 =>
        cases t1 with
        | cons h2 t2 =>
          cases t2; cases h2
          exact call_isi pins s σ H _ us Q I r ⟨_, _, _, _, _, rfl, .ty n, h1.ty_of et, kit_ty (isa_kit et q.2.1), q.2.2 _ H (Grow.refl H) (.bl _)⟩
    · rename_i d cs
      split at q
      · rename_i ns ens
        obtain ⟨t, et⟩ := Option.isSome_iff_exists.mp q.1
        cases hx with
        | cons h1 t1 =>
          cases t1 with
          | cons h2 t2 =>
            cases t2
            cases h2 with
            | tup e i =>
              rcases tup_hide e with e | ⟨o, its, n, e1, e2, e3, e4, e5⟩
              · exact call_isiT pins s σ H _ us Q I r ⟨_, _, _, _, _, _, rfl, e, tyNames_cls i ens, h1.ty_of et, kitAny_of et q.2.1, q.2.2 _ H (Grow.refl H) (.bl _)⟩
              · obtain ⟨oc, od, dt, sl⟩ := o
                simp only at e2 e3
                subst e2 e3
                have e6 := ClsV.all (tyNames_cls i ens) e5
                have e7 : its = (ns.map Value.type).toArray := by rw [← e6]
                subst e7
                exact call_isiK pins s σ H _ us Q I r ⟨_, _, od, ns.map Value.type, n, sl, _, _, rfl, e1, h1.ty_of et, kitAny_of et q.2.1, q.2.2 _ H (Grow.refl H) (.bl _)⟩
      · exact q.elim
    · exact q.elim
/-! ### subscripts -/
def ixW : W2 := fun x y k => match y with
  | .int i => match x with
    | .lst ds => ∃ d, atI ds i = some d ∧ k d
    | .tup ds => ∃ d, atI ds i = some d ∧ k d
    | .str z => z.length ≤ sizeLine ∧ ∃ c, atI z.cps.toList i = some c ∧ k (.str ⟨#[c]⟩)
    | _ => False
  | _ => False
theorem IsA.atI {z : Z} {K : PySem.W.Frag} {G : Hp} {vs : List V} {ds : List D} {i : Int} {d : D} (h : IsA z K G vs ds) (e : atI ds i = some d) : ∃ v, L2.atI vs i = some v ∧ Is z K G v d := by
  unfold L2.atI at e ⊢
  rw [h.length]
  cases q : ixN ds.length i with
  | none => rw [q] at e; cases e
  | some j => rw [q] at e; exact h.getD e
theorem xd_ix : IxD X ixW := by
  refine ⟨fun x y k k' h q => ?_, fun value slice pins s σ H x y v u Q I rx ry ⟨z, S, dx, dy, hS, hx, hy, q⟩ hs => ?_⟩
  · revert q
    unfold ixW
    split
    · split
      · exact fun ⟨d, e, q⟩ => ⟨d, e, h _ q⟩
      · exact fun ⟨d, e, q⟩ => ⟨d, e, h _ q⟩
      · exact fun ⟨z, d, e, q⟩ => ⟨z, d, e, h _ q⟩
      · exact fun q => q.elim
    · exact fun q => q.elim
  · unfold ixW at q
    split at q
    · cases hy
      split at q
      · obtain ⟨d, e, q⟩ := q
        cases hx with
        | lst g i =>
          obtain ⟨w, e2, iw⟩ := i.atI e
          exact ix_list value slice pins s σ H _ _ v u Q I rx ry ⟨_, _, _, _, rfl, rfl, SqL.of (hide_same _ _ g), e2, q _ H (Grow.refl H) iw⟩ hs
      · obtain ⟨d, e, q⟩ := q
        cases hx with
        | tup g i =>
          obtain ⟨w, e2, iw⟩ := i.atI e
          exact ix_tup value slice pins s σ H _ _ v u Q I rx ry ⟨_, _, _, _, rfl, rfl, sqT_hide g, e2, q _ H (Grow.refl H) iw⟩ hs
      · obtain ⟨zl, c, e, q⟩ := q
        cases hx
        exact ix_str value slice pins s σ H _ _ v u Q I rx ry ⟨_, _, c, rfl, rfl, zl, e, q _ H (Grow.refl H) (.str _)⟩ hs
      · exact q.elim
    · exact q.elim
/-! ### slices -/
def cut {α : Type} (xs : List α) (lo hi : Option Int) : List α := (xs.drop (HT.sIx xs.length 0 lo)).take (HT.sIx xs.length xs.length hi - HT.sIx xs.length 0 lo)
abbrev W3 := D → Option Int → Option Int → KD → Prop
def rD3 (K : PySem.W.Frag) (w : W3) : V → Option Int → Option Int → Hp → VK → Prop := fun x lo hi H Q => ∃ z S dx, (∀ p, S p → H p ≠ none) ∧ Is z K (hide S H) x dx ∧
  w dx lo hi fun d => ∀ v H', Grow H H' → Is z K (hide S H') v d → Q v H'
def slW : W3 := fun x lo hi k => match x with
  | .lst ds => k (.lst (cut ds lo hi))
  | .tup ds => k (.tup (cut ds lo hi))
  | .str z => z.length ≤ sizeLine ∧ k (.str (cutS z lo hi))
  | _ => False
theorem IsA.cut {z : Z} {K : PySem.W.Frag} {G : Hp} {vs : List V} {ds : List D} (h : IsA z K G vs ds) (lo hi : Option Int) : IsA z K G (cutV vs lo hi) (DL.cut ds lo hi) := by
  unfold cutV DL.cut
  rw [h.length]
  exact (h.drop _).take _
theorem slW_mono : ∀ x lo hi {k k' : KD}, (∀ d, k d → k' d) → slW x lo hi k → slW x lo hi k' := fun x lo hi k k' h q => by
  unfold slW at q ⊢
  split <;> simp_all
theorem sd_sl : SlR X (rD3 X.K slW) := by
  intro pins s σ H x v vl vu lo hi sl Q I rx hs pl pu ⟨z, S, dx, hS, hx, q⟩
  unfold slW at q
  split at q
  · cases hx with
    | lst g i => exact sl_list pins s σ H _ v vl vu lo hi sl Q I rx hs pl pu ⟨_, _, rfl, SqL.of (hide_same _ _ g), fun p hp => q _ _ (grow_upd hp) (is_lst hS hp (i.cut lo hi))⟩
  · cases hx with
    | tup g i =>
      refine sl_tupA pins s σ H _ v vl vu lo hi sl Q I rx hs pl pu ⟨_, _, rfl, sqT_hide g, fun e => ?_, fun _ p hp => q _ _ (grow_upd hp) (is_tup hS hp (i.cut lo hi))⟩
      refine q _ H (Grow.refl H) ?_
      have e1 := i.cut lo hi
      have e2 : ∀ {α : Type} (xs : List α), HT.sIx xs.length 0 lo = 0 → HT.sIx xs.length xs.length hi = xs.length → DL.cut xs lo hi = xs := fun xs h1 h2 => by
        unfold DL.cut
        rw [h1, h2, Nat.sub_zero, List.drop_zero, List.take_length]
      rw [i.length] at e
      rw [e2 _ e.1 e.2]
      exact .tup g i
  · cases hx
    exact sl_str pins s σ H _ v vl vu lo hi sl Q I rx hs pl pu ⟨_, rfl, q.1, q.2 _ H (Grow.refl H) (.str _)⟩
  · exact q.elim
abbrev MO := DEnv → (Option Int → DEnv → Prop) → Prop
def tDO (Φ : Phi) (K : PySem.W.Frag) (m : MO) : TO := fun σ H Q => ∃ z S0 H0 ps env, Rel Φ z S0 H0 K ps env σ H ∧
  m env fun o env' => ∀ H', Rel Φ z S0 H0 K ps env' σ H' → Ext (Mu z ps) S0 H H' → Q o H'
structure DO (X : Cx) (Φ : Phi) (e : Option Expr) (m : MO) : Prop where
  mono : ∀ env {k k' : Option Int → DEnv → Prop}, (∀ d e, k d e → k' d e) → m env k → m env k'
  po : PO X e (tDO Φ X.K m)
theorem po_imp {e : Option Expr} {t t' : TO} (h : PO X e t) (k : ∀ σ H Q, t' σ H Q → t σ H Q) : PO X e t' := ⟨fun pins s σ H Q I q => h.run pins s σ H Q I (k σ H Q q)⟩
def mNo : MO := fun env k => k none env
def mSome (m : ME) : MO := fun env k => m env fun d e => match d with
  | .int i => k (some i) e
  | _ => False
theorem do_none : DO X Φ none mNo := ⟨fun env k k' h q => h _ _ q, po_imp po_none fun σ H Q ⟨z, S0, H0, ps, env, r, q⟩ => q H r .refl⟩
theorem do_some {e : Expr} {m : ME} (h : DE X Φ e m) : DO X Φ (some e) (mSome m) := by
  refine ⟨fun env k k' hk q => h.mono env (fun d e q => ?_) q, po_imp (po_some h.pe) fun σ H Q ⟨z, S0, H0, ps, env, r, q⟩ => ⟨z, S0, H0, ps, env, r, h.mono env (fun d e q => ?_) q⟩⟩
  · cases d with
    | int i => exact hk _ _ q
    | _ => exact q
  · intro v H1 r1 x1 i1
    cases d with
    | int i => cases i1; exact ⟨i, rfl, q H1 r1 x1⟩
    | _ => exact q.elim
def mSl (w : W3) (m : ME) (l u : MO) : ME := fun env k => m env fun x e1 => l e1 fun lo e2 => u e2 fun hi e3 => w x lo hi fun d => k d e3
theorem de_slice {e : Expr} {lo hi : Option Expr} {m : ME} {l u : MO} {pos p2 : Pos} (he : DE X Φ e m) (hl : DO X Φ lo l) (hu : DO X Φ hi u) : DE X Φ (.Subscript e (.Slice lo hi none p2) pos) (mSl slW m l u) := by
  refine ⟨fun env k k' h q => he.mono env (fun x e1 q => hl.mono e1 (fun lo e2 q => hu.mono e2 (fun hi e3 q => slW_mono _ _ _ (fun d q => h _ _ q) q) q) q) q,
    pe_imp (pe_slice sd_sl he.pe hl.po hu.po) fun σ H Q ⟨z, S0, H0, ps, env, r, q⟩ => ⟨z, S0, H0, ps, env, r, he.mono env (fun x e1 q => ?_) q⟩⟩
  intro v H1 r1 x1 i1
  refine ⟨z, S0, H0, ps, e1, r1, hl.mono e1 (fun lo e2 q => ?_) q⟩
  intro H2 r2 x2
  refine ⟨z, S0, H0, ps, e2, r2, hu.mono e2 (fun hi e3 q => ?_) q⟩
  intro H3 r3 x3
  refine ⟨z, Sx S0 ps, x, r3.dom, r1.isK i1 (x2.trans x3), slW_mono _ _ _ (fun d q => ?_) q⟩
  intro v' H' s i'
  exact q v' H' (r3.same s) (x1.trans (x2.trans (x3.trans (.of_same s.same)))) i'
end
end DL
namespace DL
open PySem L2
/-! ### statements -/
section
variable {X : Cx} {Φ : Phi} {st : Stmt} {rest : List Stmt} {m n : MS} {e c : Expr} {me : ME} {pos : Pos}
theorem KS.Le.refl (k : KS) : k.Le k := ⟨fun _ h => h, fun _ _ h => h, fun _ h => h, fun _ h => h, fun _ _ h => h⟩
def mNext : MS := fun env k => k.nx env
theorem dss_nil : DSs X Φ [] mNext := ⟨fun env k k' h q => h.nx _ q, pss_imp pss_nil fun E σ H ⟨z, S0, H0, ps, env, r, q⟩ => q ps σ H r .refl⟩
def mSeq (m n : MS) : MS := fun env k => m env { k with nx := fun e => n e k }
theorem kOf_le {Φ : Phi} {z : Z} {S0 : Addr → Prop} {H0 H H1 : Hp} {K : PySem.W.Frag} {ps ps1 : List (Option Addr)} {E : Ends} (s1 : Step z S0 ps H ps1 H1) : (kOf Φ z S0 H0 K ps H E).Le (kOf Φ z S0 H0 K ps1 H1 E) :=
  ⟨fun _ q ps2 σ2 H2 r2 s2 => q ps2 σ2 H2 r2 (s1.trans s2 fun _ hp => r2.noZ hp), fun _ _ q => q, fun _ q ps2 σ2 H2 r2 s2 => q ps2 σ2 H2 r2 (s1.trans s2 fun _ hp => r2.noZ hp), fun _ q ps2 σ2 H2 r2 s2 => q ps2 σ2 H2 r2 (s1.trans s2 fun _ hp => r2.noZ hp), fun _ _ q => q⟩
theorem dss_cons (h1 : DS X Φ st m) (h2 : DSs X Φ rest n) : DSs X Φ (st :: rest) (mSeq m n) := by
  refine ⟨fun env k k' h q => ?_, pss_imp (pss_cons h1.ps h2.ps) fun E σ H ⟨z, S0, H0, ps, env, r, q⟩ => ⟨z, S0, H0, ps, env, r, ?_⟩⟩
  · unfold mSeq at q ⊢
    refine h1.mono env ?_ q
    exact ⟨fun e q => h2.mono e h q, h.rt, h.bk, h.ct, h.rf⟩
  · unfold mSeq at q
    refine h1.mono env ?_ q
    refine ⟨fun e q => ?_, fun _ _ q => q, fun _ q => q, fun _ q => q, fun _ _ q => q⟩
    intro ps1 σ1 H1 r1 s1
    exact ⟨z, S0, H0, ps1, e, r1, h2.mono e (kOf_le s1) q⟩
theorem dss_one (h1 : DS X Φ st m) : DSs X Φ [st] m := ⟨h1.mono, pss_one h1.ps⟩
theorem ds_pass : DS X Φ (.Pass pos) mNext := ⟨fun env k k' h q => h.nx _ q, ps_imp ps_pass fun E σ H ⟨z, S0, H0, ps, env, r, q⟩ => q ps σ H r .refl⟩
def mBreak : MS := fun env k => k.bk env
def mCont : MS := fun env k => k.ct env
theorem ds_break : DS X Φ (.Break pos) mBreak := ⟨fun env k k' h q => h.bk _ q, ps_imp ps_break fun E σ H ⟨z, S0, H0, ps, env, r, q⟩ => q ps σ H r .refl⟩
theorem ds_continue : DS X Φ (.Continue pos) mCont := ⟨fun env k k' h q => h.ct _ q, ps_imp ps_continue fun E σ H ⟨z, S0, H0, ps, env, r, q⟩ => q ps σ H r .refl⟩
def mNever : MS := fun _ _ => False
theorem ds_never : DS X Φ st mNever := ⟨fun env k k' h q => q, ps_imp ps_never fun E σ H ⟨z, S0, H0, ps, env, r, q⟩ => q⟩
theorem dss_never {sts : List Stmt} : DSs X Φ sts mNever := ⟨fun env k k' h q => q, pss_imp pss_never fun E σ H ⟨z, S0, H0, ps, env, r, q⟩ => q⟩
def mDrop (me : ME) : MS := fun env k => me env fun _ e => k.nx e
theorem ds_expr (he : DE X Φ e me) (hs : swapsWith e none pos.line X.env = pure false := by rfl) : DS X Φ (.Expr e pos) (mDrop me) := by
  refine ⟨fun env k k' h q => he.mono env (fun _ e q => h.nx e q) q, ps_imp (ps_expr he.pe hs) fun E σ H ⟨z, S0, H0, ps, env, r, q⟩ => ⟨z, S0, H0, ps, env, r, he.mono env (fun d e q => ?_) q⟩⟩
  exact fun v H1 r1 x1 i1 => q ps σ H1 r1 (.of_ext x1)
def mRet (me : ME) : MS := fun env k => me env fun d e => k.rt d e
theorem ds_ret (he : DE X Φ e me) : DS X Φ (.Return (some e) pos) (mRet me) := by
  refine ⟨fun env k k' h q => he.mono env (fun d e q => h.rt d e q) q, ps_imp (ps_ret he.pe) fun E σ H ⟨z, S0, H0, ps, env, r, q⟩ => ⟨z, S0, H0, ps, env, r, he.mono env (fun d e q => ?_) q⟩⟩
  exact fun v H1 r1 x1 i1 => q ps v σ H1 r1 i1
def mIfS (t : MT) (m n : MS) : MS := fun env k => t env fun b e => if b = true then m e k else n e k
theorem ds_if {a b : List Stmt} {t : MT} (hc : DT X Φ c t) (ha : DSs X Φ a m) (hb : DSs X Φ b n) : DS X Φ (.If c a b pos) (mIfS t m n) := by
  refine ⟨fun env k k' h q => hc.mono env (fun b e q => ?_) q, ps_imp (ps_if hc.pt ha.ps hb.ps) fun E σ H ⟨z, S0, H0, ps, env, r, q⟩ => ⟨z, S0, H0, ps, env, r, hc.mono env (fun b e q => ?_) q⟩⟩
  · cases b with
    | true => exact ha.mono e h q
    | false => exact hb.mono e h q
  · intro H1 r1 x1
    cases b with
    | true => exact ⟨z, S0, H0, ps, e, r1, ha.mono e (kOf_le (.of_ext x1)) q⟩
    | false => exact ⟨z, S0, H0, ps, e, r1, hb.mono e (kOf_le (.of_ext x1)) q⟩
/-- x = e -/
def mSet (i : Nat) (me : ME) : MS := fun env k => me env fun d e => k.nx (e.put i (.da d))
theorem mem_set_none {ps : List (Option Addr)} {i : Nat} {p : Addr} (h : some p ∈ ps.set i none) : some p ∈ ps := by
  rcases List.mem_or_eq_of_mem_set h with h | h
  · exact h
  · cases h
theorem Step.put {z : Z} {S0 : Addr → Prop} {ps : List (Option Addr)} {H H1 : Hp} {i : Nat} (x : Ext (Mu z ps) S0 H H1) : Step z S0 ps H (ps.set i none) H1 := ⟨x, fun _ h => .inl (mem_set_none h)⟩
theorem asg_of {i : Nat} {K : PySem.W.Frag} (hm : ∀ env {k k' : D → DEnv → Prop}, (∀ d e, k d e → k' d e) → me env k → me env k') {E : Ends} {σ : St} {H : Hp} (q : tDS Φ K (mSet i me) E σ H) : tAsg (tD Φ K me) (gName i) E σ H := by
  obtain ⟨z, S0, H0, ps, env, r, q⟩ := q
  refine ⟨z, S0, H0, ps, env, r, hm env (fun d e q => ?_) q⟩
  exact fun v H1 r1 x1 i1 => q _ _ _ (r1.put i1) (.put x1)
theorem mSet_mono {i : Nat} (hm : ∀ env {k k' : D → DEnv → Prop}, (∀ d e, k d e → k' d e) → me env k → me env k') : ∀ env {k k' : KS}, k.Le k' → mSet i me env k → mSet i me env k' := fun env k k' h q => hm env (fun d e q => h.nx _ q) q
theorem ds_set {i : Nat} {x : Str} {pos' : Pos} (hN : X.N.Nodup) (hi : X.N[i]? = some x) (hx : Loc X.env.scope x) (he : DE X Φ e me) (hs : swapsWith e (some (.Name x pos')) pos.line X.env = pure false := by rfl)
    (hf : X.fn x = true ∨ X.env.scope.names.lookup x = some .local := by first | exact .inl rfl | exact .inr rfl | assumption) : DS X Φ (.Assign [.Name x pos'] e pos) (mSet i me) :=
  ⟨mSet_mono he.mono, ps_imp (ps_set hN hi hx he.pe hs hf) fun _ _ _ q => asg_of he.mono q⟩
/-- a, b = x, y -/
def mPar (i j : Nat) (n : MA) : MS := fun env k => n env fun ds e => match ds with
  | [x, y] => k.nx ((e.put i (.da x)).put j (.da y))
  | _ => False
theorem ds_par {i j : Nat} {x y : Str} {a b : Expr} {n : MA} {px py pt : Pos} {kt k2 pt2} (hc : X.calm = true) (hN : X.N.Nodup) (hi : X.N[i]? = some x) (hj : X.N[j]? = some y) (hij : i ≠ j)
    (hx : X.env.scope.names.lookup x = some .local) (hy : X.env.scope.names.lookup y = some .local) (ha : DA X Φ [a, b] n)
    (hw : swappedStores [.Tuple [.Name x px, .Name y py] kt pt] (.Tuple [a, b] k2 pt2) X.env = pure (some [x, y]))
    (hs : swapsWithSole [.Tuple [.Name x px, .Name y py] kt pt] (.Tuple [a, b] k2 pt2) pos.line X.env = pure false := by rfl) :
    DS X Φ (.Assign [.Tuple [.Name x px, .Name y py] kt pt] (.Tuple [a, b] k2 pt2) pos) (mPar i j n) := by
  refine ⟨fun env k k' h q => ha.mono env (fun ds e q => ?_) q, ps_imp (ps_par hc hN hi hj hij hx hy ha.pa hw hs) fun E σ H ⟨z, S0, H0, ps, env, r, q⟩ => ⟨z, S0, H0, ps, env, r, ha.mono env (fun ds e q => ?_) q⟩⟩
  · revert q
    split
    · exact fun q => h.nx _ q
    · exact fun q => q.elim
  · intro vs H1 r1 x1 i1
    revert q
    split
    · intro q
      cases i1 with
      | cons h1 t1 =>
        cases t1 with
        | cons h2 t2 =>
          cases t2
          have r2 := r1.put (i := i) h1
          have i2 := h2.evx (.of_same (hide_mono (S := Sx S0 ps) (S' := Sx S0 (ps.set i none)) (H := H1) fun p w => w.imp id mem_set_none))
          exact ⟨_, _, rfl, q _ _ _ (r2.put (i := j) i2) ⟨x1, fun _ w => .inl (mem_set_none (mem_set_none w))⟩⟩
    · exact fun q => q.elim
end
/-! ### targets -/
abbrev MG := D → DEnv → (DEnv → Prop) → Prop
def tDG (Φ : Phi) (K : PySem.W.Frag) (g : MG) : TG := fun v σ H Q => ∃ z S0 H0 ps env d, Rel Φ z S0 H0 K ps env σ H ∧ Is z K (hide (Sx S0 ps) H) v d ∧
  g d env fun env' => ∀ ps' σ' H', Rel Φ z S0 H0 K ps' env' σ' H' → Step z S0 ps H ps' H' → Q σ' H'
structure DG (X : Cx) (Φ : Phi) (tg : Expr) (g : MG) : Prop where
  mono : ∀ d env {k k' : DEnv → Prop}, (∀ e, k e → k' e) → g d env k → g d env k'
  pg : PG X tg (tDG Φ X.K g)
section
variable {X : Cx} {Φ : Phi} {tg : Expr} {pos : Pos}
theorem pg_imp {t t' : TG} (h : PG X tg t) (k : ∀ v σ H Q, t' v σ H Q → t v σ H Q) : PG X tg t' := ⟨fun pins s σ H v u Q I r q => h.run pins s σ H v u Q I r (k v σ H Q q)⟩
def gN (i : Nat) : MG := fun d env k => k (env.put i (.da d))
theorem dg_name {i : Nat} {x : Str} (hN : X.N.Nodup) (hi : X.N[i]? = some x) (hx : Loc X.env.scope x) (hf : X.fn x = true ∨ X.env.scope.names.lookup x = some .local := by first | exact .inl rfl | exact .inr rfl | assumption) : DG X Φ (.Name x pos) (gN i) :=
  ⟨fun d env k k' h q => h _ q, pg_imp (pg_name hN hi hx hf) fun v σ H Q ⟨z, S0, H0, ps, env, d, r, i1, q⟩ => q _ _ _ (r.put i1) (.put .refl)⟩
/-- a pair of names -/
def gN2 (i j : Nat) : MG := fun d env k => match d with
  | .tup [x, y] => k ((env.put i (.da x)).put j (.da y))
  | _ => False
theorem dg_pair {i j : Nat} {x y : Str} {px py : Pos} {kt : Nat} (hc : X.calm = true) (hN : X.N.Nodup) (hi : X.N[i]? = some x) (hx : Loc X.env.scope x) (hj : X.N[j]? = some y) (hy : Loc X.env.scope y)
    (hf : X.fn x = true ∨ X.env.scope.names.lookup x = some .local := by first | exact .inl rfl | exact .inr rfl | assumption) (hf2 : X.fn y = true ∨ X.env.scope.names.lookup y = some .local := by first | exact .inl rfl | exact .inr rfl | assumption)
    (hn : (assignEach [.Name x px, .Name y py] X.env).length = 2 := by rfl) (hst : (assignEach [.Name x px, .Name y py] X.env).findIdx? (·.1) = none := by rfl)
    (h1 : (assignEach [.Name x px, .Name y py] X.env).map (·.2) = assign (.Name x px) X.env :: (assignEach [.Name y py] X.env).map (·.2) := by rfl) (h2 : (assignEach [.Name y py] X.env).map (·.2) = assign (.Name y py) X.env :: (assignEach [] X.env).map (·.2) := by rfl) :
    DG X Φ (.Tuple [.Name x px, .Name y py] kt pos) (gN2 i j) := by
  refine ⟨fun d env k k' h q => ?_, pg_imp (pg_tup hc (pgs_cons (pg_name (i := i) hN hi hx hf) (pgs_cons (pg_name (i := j) hN hj hy hf2) pgs_nil h2) h1) hn hst) fun v σ H Q ⟨z, S0, H0, ps, env, d, r, i1, q⟩ => ?_⟩
  · revert q
    unfold gN2
    split
    · exact fun q => h _ q
    · exact fun q => q.elim
  · revert q
    unfold gN2
    split
    · intro q
      cases i1 with
      | tup e t =>
        cases t with
        | cons a1 t1 =>
          cases t1 with
          | cons a2 t2 =>
            cases t2
            have r2 := r.put (i := i) a1
            have i2 := a2.evx (.of_same (hide_mono (S := Sx S0 ps) (S' := Sx S0 (ps.set i none)) (H := H) fun p w => w.imp id mem_set_none))
            exact ⟨_, _, rfl, sqT_hide e, rfl, _, _, rfl, _, _, rfl, rfl, q _ _ _ (r2.put (i := j) i2) ⟨.refl, fun _ w => .inl (mem_set_none (mem_set_none w))⟩⟩
    · exact fun q => q.elim
end
/-! ### what is walked -/
structure Wlk (z : Z) (K : PySem.W.Frag) (S0 : Addr → Prop) (ps : List (Option Addr)) (J : It) (ds : List D) (H : Hp) : Prop where
  go : ∀ ps2 H2 (i : Nat) d, Evx (hide (Sx S0 ps) H) (hide (Sx S0 ps2) H2) → (∀ p, Sx S0 ps2 p → H2 p ≠ none) → ds[i]? = some d → J.go i H2 ∧ ∀ x H3, J.yld i H2 x H3 → Grow H2 H3 ∧ Is z K (hide (Sx S0 ps2) H3) x d
  stop : ∀ ps2 H2 (i : Nat), Evx (hide (Sx S0 ps) H) (hide (Sx S0 ps2) H2) → ds.length ≤ i → J.stop i H2
abbrev MI := DEnv → (List D → DEnv → Prop) → Prop
def tDI (Φ : Phi) (K : PySem.W.Frag) (m : MI) : TI := fun σ H R => ∃ z S0 H0 ps env, Rel Φ z S0 H0 K ps env σ H ∧
  m env fun ds env' => ∀ J H', Rel Φ z S0 H0 K ps env' σ H' → Ext (Mu z ps) S0 H H' → Wlk z K S0 ps J ds H' → R J H'
structure DI (X : Cx) (Φ : Phi) (tg e : Expr) (m : MI) : Prop where
  mono : ∀ env {k k' : List D → DEnv → Prop}, (∀ d e, k d e → k' d e) → m env k → m env k'
  pi : PI X tg e (tDI Φ X.K m)
section
variable {X : Cx} {Φ : Phi} {tg : Expr}
theorem pi_imp {e : Expr} {t t' : TI} (h : PI X tg e t) (k : ∀ σ H R, t' σ H R → t σ H R) : PI X tg e t' := ⟨fun pins s σ H R I q => h.run pins s σ H R I (k σ H R q)⟩
def signs (z : Str) : List D := z.cps.toList.map fun c => D.str ⟨#[c]⟩
def mIter (m : ME) : MI := fun env k => m env fun d e => match d with
  | .lst ds => k ds e
  | .tup ds => k ds e
  | .str z => k (signs z) e
  | _ => False
section
variable {Φ : Phi} {z : Z} {S0 : Addr → Prop} {K : PySem.W.Frag} {ps : List (Option Addr)} {H : Hp}
theorem wlk_list {a : Addr} {xs : List V} {ds : List D} (hz : ∀ p, Zs z p → S0 p) (h : hide (Sx S0 ps) H a = some (.lst xs)) (i : IsA z K (hide (Sx S0 ps) H) xs ds) : Wlk z K S0 ps (Itl K a) ds H := by
  have key : ∀ ps2 H2, Evx (hide (Sx S0 ps) H) (hide (Sx S0 ps2) H2) → SqL K H2 a xs ∧ IsA z K (hide (Sx S0 ps2) H2) xs ds := fun ps2 H2 ev => by
    obtain ⟨o', e', v⟩ := ev.get h (fun ⟨_, _, _, w, _⟩ => by cases w)
    rw [v.lst] at e'
    exact ⟨SqL.of (hide_same _ _ e'), i.evx ev⟩
  refine ⟨fun ps2 H2 j d st _ e => ?_, fun ps2 H2 j st e => ?_⟩
  · obtain ⟨k1, k2⟩ := key ps2 H2 st
    obtain ⟨v, ev, iv⟩ := k2.getD e
    exact ⟨⟨xs, v, k1, ev⟩, fun x H3 ⟨e1, e2⟩ => by subst e1; cases (ev.symm.trans (e2 xs k1)); exact ⟨Grow.refl _, iv⟩⟩
  · obtain ⟨k1, k2⟩ := key ps2 H2 st
    exact ⟨xs, k1, by rw [k2.length]; exact e⟩
theorem wlk_tup {a : Addr} {xs : List V} {ds : List D} (hz : ∀ p, Zs z p → S0 p) (h : TupAt K (hide (Sx S0 ps) H) a xs) (i : IsA z K (hide (Sx S0 ps) H) xs ds) : Wlk z K S0 ps (Itt K a) ds H := by
  have key : ∀ ps2 H2, Evx (hide (Sx S0 ps) H) (hide (Sx S0 ps2) H2) → SqT K H2 a xs ∧ IsA z K (hide (Sx S0 ps2) H2) xs ds := fun ps2 H2 ev => by
    exact ⟨sqT_hide (sqT_evx ev h), i.evx ev⟩
  refine ⟨fun ps2 H2 j d st _ e => ?_, fun ps2 H2 j st e => ?_⟩
  · obtain ⟨k1, k2⟩ := key ps2 H2 st
    obtain ⟨v, ev, iv⟩ := k2.getD e
    exact ⟨⟨xs, v, k1, ev⟩, fun x H3 ⟨e1, e2⟩ => by subst e1; cases (ev.symm.trans (e2 xs k1)); exact ⟨Grow.refl _, iv⟩⟩
  · obtain ⟨k1, k2⟩ := key ps2 H2 st
    exact ⟨xs, k1, by rw [k2.length]; exact e⟩
theorem wlk_str {x : Str} : Wlk z K S0 ps (Its x) (signs x) H := by
  refine ⟨fun ps2 H2 j d st _ e => ?_, fun ps2 H2 j st e => ?_⟩
  · unfold signs at e
    rw [List.getElem?_map, Option.map_eq_some_iff] at e
    obtain ⟨c, e1, e2⟩ := e
    subst e2
    have e3 : x.cps[j]? = some c := by rw [← Array.getElem?_toList]; exact e1
    have lt : j < x.cps.size := by
      have := (List.getElem?_eq_some_iff.mp e1).1
      simpa using this
    exact ⟨lt, fun v H3 ⟨q1, c', q2, q3⟩ => by subst q1 q3; rw [e3] at q2; cases q2; exact ⟨Grow.refl _, .str _⟩⟩
  · unfold signs at e
    rw [List.length_map] at e
    show x.cps.size ≤ j
    simpa using e
theorem wlk_range {n : Nat} : Wlk z K S0 ps (Itr 0 n) ((List.range n).map fun (i : Nat) => D.int i) H := by
  refine ⟨fun ps2 H2 j d st _ e => ?_, fun ps2 H2 j st e => ?_⟩
  · rw [List.getElem?_map, Option.map_eq_some_iff] at e
    obtain ⟨c, e1, e2⟩ := e
    subst e2
    obtain ⟨lt, e3⟩ := List.getElem?_eq_some_iff.mp e1
    simp at lt e3
    subst e3
    refine ⟨lt, fun v H3 ⟨q1, q2⟩ => ?_⟩
    subst q1 q2
    refine ⟨Grow.refl _, ?_⟩
    rw [Int.zero_add]
    exact .int _
  · show n ≤ j
    simpa using e
end
section
variable {pins : List (Addr × Obj)} {σ : St} {H : Hp} {s : Shared} {R : It → Hp → Prop}
theorem it_list {a : Addr} {xs : List V} (I : Inv X pins σ H s) (h : SqL X.K H a xs) (q : R (Itl X.K a) H) : wpAny (model X.prog X.w) X.A (pyIter (.ref a)) (PIE X pins σ tg R) X.xe s := by
  obtain ⟨its, _, pl, _⟩ := I.list h
  refine wpAny_pyIter_list pl.isList ?_
  refine ⟨_, [s.heap.objs.size], _, _, H, rfl, I.kept (t' := s.toks) (fun b o => Heap.get?_push_of_some _), turn_list a s.heap.objs.size, ⟨_, Heap.get?_push_size _ rfl, rfl, rfl⟩, ?_, q⟩
  intro b hb
  rw [List.mem_singleton] at hb
  rw [hb]
  exact I.fpOk (Nat.le_refl _) (I.hok.fresh (Nat.le_refl _))
theorem it_tup {a : Addr} {xs : List V} (I : Inv X pins σ H s) (h : SqT X.K H a xs) (q : R (Itt X.K a) H) : wpAny (model X.prog X.w) X.A (pyIter (.ref a)) (PIE X pins σ tg R) X.xe s := by
  obtain ⟨its, _, pl, _⟩ := I.tuple h
  refine wpAny_pyIter_tuple (show s.heap.IsTuple a its.toArray from pl) ?_
  refine ⟨_, [s.heap.objs.size], _, _, H, rfl, I.kept (t' := s.toks) (fun b o => Heap.get?_push_of_some _), turn_tuple a s.heap.objs.size, ⟨_, Heap.get?_push_size _ rfl, rfl, rfl⟩, ?_, q⟩
  intro b hb
  rw [List.mem_singleton] at hb
  rw [hb]
  exact I.fpOk (Nat.le_refl _) (I.hok.fresh (Nat.le_refl _))
end
theorem it_str {x : Str} {t : Tok} {pins : List (Addr × Obj)} {σ : St} {H : Hp} {s : Shared} {R : It → Hp → Prop} (I : Inv X pins σ H s) (q : R (Its x) H) : wpAny (model X.prog X.w) X.A (pyIter (.str x t)) (PIE X pins σ tg R) X.xe s := by
  cases ha : x.cps.all (· < 128) with
  | false => exact wpAny_pyIter_wide ha (pi_one (tk := s.toks) I _ (turn_str _ x t _ (.inr rfl)) ⟨_, Heap.get?_push_size _ rfl, rfl, rfl⟩ q)
  | true => exact wpAny_pyIter_ascii ha (pi_one (tk := s.toks) I _ (turn_str _ x t _ (.inl rfl)) ⟨_, Heap.get?_push_size _ rfl, rfl, rfl⟩ q)
/-- a list, a tuple or a text -/
theorem di_iter {l : Expr} {m : ME} (h : DE X Φ l m) : DI X Φ tg l (mIter m) := by
  refine ⟨fun env k k' hk q => h.mono env (fun d e q => ?_) q, ⟨fun pins s σ H R I ⟨z, S0, H0, ps, env, r, q⟩ => ?_⟩⟩
  · revert q
    split
    · exact fun q => hk _ _ q
    · exact fun q => hk _ _ q
    · exact fun q => hk _ _ q
    · exact fun q => q.elim
  · have q2 : tD Φ X.K m σ H fun x H1 => (∃ a xs, x = .ref a ∧ SqL X.K H1 a xs ∧ R (Itl X.K a) H1) ∨ (∃ a xs, x = .ref a ∧ SqT X.K H1 a xs ∧ R (Itt X.K a) H1) ∨ ∃ t, x = .str t ∧ R (Its t) H1 := by
      refine ⟨z, S0, H0, ps, env, r, h.mono env (fun d e q => ?_) q⟩
      intro v H1 r1 x1 i1
      revert q
      split
      · intro q
        cases i1 with
        | lst e1 t1 => exact .inl ⟨_, _, rfl, SqL.of (hide_same _ _ e1), q _ H1 r1 x1 (wlk_list r1.zs e1 t1)⟩
      · intro q
        cases i1 with
        | tup e1 t1 => exact .inr (.inl ⟨_, _, rfl, sqT_hide e1, q _ H1 r1 x1 (wlk_tup r1.zs e1 t1)⟩)
      · intro q
        cases i1
        exact .inr (.inr ⟨_, rfl, q _ H1 r1 x1 wlk_str⟩)
      · exact fun q => q.elim
    refine thn (h.pe.run pins s σ H _ I q2) fun v s1 ⟨y, H1, I1, r1, q3⟩ => ?_
    rcases q3 with ⟨a, xs, rfl, h1, h2⟩ | ⟨a, xs, rfl, h1, h2⟩ | ⟨t, rfl, h2⟩
    · cases r1; exact it_list I1 h1 h2
    · cases r1; exact it_tup I1 h1 h2
    · obtain ⟨tk, rfl⟩ := r1; exact it_str I1 h2
/-- range(n) -/
def rangeD (j : Int) : List D := (List.range j.toNat).map fun (i : Nat) => D.int i
def mRange (n : MA) : MI := fun env k => n env fun ds e => match ds with
  | [.int j] => (-(2 ^ 62) ≤ j ∧ j < 2 ^ 62) ∧ k (rangeD j) e
  | _ => False
theorem di_range {a : Expr} {n : MA} {p pos : Pos} (hg : Gl X "range") (hm : X.mg "range" = none) (ha : DA X Φ [a] n) (hs : starEach [a] X.env = [(false, eval a X.env)] := by rfl) : DI X Φ tg (.Call (.Name "range" p) [a] [] pos) (mRange n) := by
  refine ⟨fun env k k' hk q => ha.mono env (fun ds e q => ?_) q, pi_imp (pi_range1 hg hm ha.pa hs) fun σ H R ⟨z, S0, H0, ps, env, r, q⟩ => ⟨z, S0, H0, ps, env, r, ha.mono env (fun ds e q => ?_) q⟩⟩
  · revert q
    split
    · exact fun q => ⟨q.1, hk _ _ q.2⟩
    · exact fun q => q.elim
  · intro vs H1 r1 x1 i1
    revert q
    split
    · intro q
      cases i1 with
      | cons h1 t1 => cases t1; cases h1; exact ⟨_, rfl, q.1.1, q.1.2, q.2 _ H1 r1 x1 wlk_range⟩
    · exact fun q => q.elim
/-! ### for -/
def forW (g : MG) (b : MS) : List D → MS
  | [] => fun env k => k.nx env
  | d :: ds => fun env k => g d env fun e1 => b e1 { k with nx := fun e => forW g b ds e k, ct := fun e => forW g b ds e k, bk := k.nx }
def mFor (mi : MI) (g : MG) (b : MS) : MS := fun env k => mi env fun ds e => forW g b ds e k
theorem forW_mono {g : MG} {b : MS} (hg : ∀ d env {k k' : DEnv → Prop}, (∀ e, k e → k' e) → g d env k → g d env k') (hb : ∀ env {k k' : KS}, k.Le k' → b env k → b env k') :
    ∀ (ds : List D) env {k k' : KS}, k.Le k' → forW g b ds env k → forW g b ds env k'
  | [], env, k, k', h, q => h.nx _ q
  | d :: ds, env, k, k', h, q => by
    unfold forW at q ⊢
    refine hg d env (fun e1 q => ?_) q
    refine hb e1 ?_ q
    exact ⟨fun e q => forW_mono hg hb ds e h q, h.rt, fun e q => h.nx e q, fun e q => forW_mono hg hb ds e h q, h.rf⟩
theorem ds_for {iter : Expr} {body : List Stmt} {mi : MI} {g : MG} {b : MS} {pos : Pos} (hp : PassesOwn (model X.prog X.w) X.A X.env X.xe) (hc : X.calm = true) (hi : DI X Φ tg iter mi) (hg : DG X Φ tg g) (hb : DSs X Φ body b)
    (hs : ∀ x, foldedSetIterable iter X.env x = pure x := by intro _; rfl) : DS X Φ (.For tg iter body [] pos) (mFor mi g b) := by
  refine ⟨fun env k k' h q => hi.mono env (fun ds e q => forW_mono hg.mono hb.mono ds e h q) q, ps_imp (ps_for hp hc hi.pi hg.pg hb.ps hs) fun E σ H ⟨z, S0, H0, ps, env, r, q⟩ => ⟨z, S0, H0, ps, env, r, hi.mono env (fun ds e1 q => ?_) q⟩⟩
  intro J H1 r1 x1 wl
  have s1 : Step z S0 ps H ps H1 := .of_ext x1
  refine ⟨fun i m σ2 H2 => ∃ ps2 env2, Rel Φ z S0 H0 X.K ps2 env2 σ2 H2 ∧ Step z S0 ps H1 ps2 H2 ∧ m = ds.length - i ∧ i ≤ ds.length ∧ forW g b (ds.drop i) env2 (kOf Φ z S0 H0 X.K ps H E), ⟨ds.length, ps, e1, r1, .refl, rfl, Nat.zero_le _, q⟩, ?_⟩
  rintro i m σ2 H2 ⟨ps2, env2, r2, s2, rfl, hi2, q2⟩
  by_cases hlt : i < ds.length
  · obtain ⟨g1, g2⟩ := wl.go ps2 H2 i ds[i] (s2.seen r1.zs) r2.dom (List.getElem?_eq_getElem hlt)
    refine .inr ⟨g1, fun σ3 H3 => ∃ ps3 env3, Rel Φ z S0 H0 X.K ps3 env3 σ3 H3 ∧ Step z S0 ps H1 ps3 H3 ∧ forW g b (ds.drop (i + 1)) env3 (kOf Φ z S0 H0 X.K ps H E), fun σ3 H3 ⟨ps3, env3, r3, s3, q3⟩ => ⟨ds.length - (i + 1), by omega, ps3, env3, r3, s3, rfl, hlt, q3⟩, fun x H3 y => ?_⟩
    obtain ⟨y1, y2⟩ := g2 x H3 y
    rw [List.drop_eq_getElem_cons hlt] at q2
    unfold forW at q2
    refine ⟨z, S0, H0, ps2, env2, ds[i], r2.same y1, y2, hg.mono _ _ (fun e4 q4 => ?_) q2⟩
    intro ps4 σ4 H4 r4 s4
    have s5 : Step z S0 ps H1 ps4 H4 := s2.trans (Step.trans (.of_ext (.of_same y1.same)) s4 fun _ hp => r4.noZ hp) fun _ hp => r4.noZ hp
    refine ⟨z, S0, H0, ps4, e4, r4, hb.mono e4 ?_ q4⟩
    exact ⟨fun e q ps6 σ6 H6 r6 s6 => ⟨ps6, e, r6, s5.trans s6 fun _ hp => r6.noZ hp, q⟩, fun _ _ q => q,
      fun e q ps6 σ6 H6 r6 s6 => q ps6 σ6 H6 r6 (s1.trans (s5.trans s6 fun _ hp => r6.noZ hp) fun _ hp => r6.noZ hp), fun e q ps6 σ6 H6 r6 s6 => ⟨ps6, e, r6, s5.trans s6 fun _ hp => r6.noZ hp, q⟩, fun _ _ q => q⟩
  · have e : i = ds.length := by omega
    subst e
    rw [List.drop_length] at q2
    exact .inl ⟨wl.stop ps2 H2 _ (s2.seen r1.zs) (Nat.le_refl _), q2 ps2 σ2 H2 r2 (s1.trans s2 fun _ hp => r2.noZ hp)⟩
/-! ### while -/
def whileN (t : MT) (b : MS) : Nat → MS
  | 0 => fun _ _ => False
  | n + 1 => fun env k => t env fun c e => if c = true then b e { k with nx := fun e => whileN t b n e k, ct := fun e => whileN t b n e k, bk := k.nx } else k.nx e
def mWhile (t : MT) (b : MS) : MS := fun env k => ∃ n, whileN t b n env k
theorem whileN_mono {t : MT} {b : MS} (ht : ∀ env {k k' : Bool → DEnv → Prop}, (∀ d e, k d e → k' d e) → t env k → t env k') (hb : ∀ env {k k' : KS}, k.Le k' → b env k → b env k') :
    ∀ (n : Nat) env {k k' : KS}, k.Le k' → whileN t b n env k → whileN t b n env k'
  | 0, env, k, k', h, q => q
  | n + 1, env, k, k', h, q => by
    unfold whileN at q ⊢
    refine ht env (fun c e q => ?_) q
    cases c with
    | true =>
      refine hb e ?_ q
      exact ⟨fun e q => whileN_mono ht hb n e h q, h.rt, fun e q => h.nx e q, fun e q => whileN_mono ht hb n e h q, h.rf⟩
    | false => exact h.nx _ q
theorem ds_while {c : Expr} {body : List Stmt} {t : MT} {b : MS} {pos : Pos} (hp : PassesOwn (model X.prog X.w) X.A X.env X.xe) (hc : DT X Φ c t) (hb : DSs X Φ body b) : DS X Φ (.While c body [] pos) (mWhile t b) := by
  refine ⟨fun env k k' h ⟨n, q⟩ => ⟨n, whileN_mono hc.mono hb.mono n env h q⟩, ps_imp (ps_while hp hc.pt hb.ps) fun E σ H ⟨z, S0, H0, ps, env, r, n, q⟩ => ?_⟩
  refine ⟨fun m σ2 H2 => ∃ ps2 env2, Rel Φ z S0 H0 X.K ps2 env2 σ2 H2 ∧ Step z S0 ps H ps2 H2 ∧ whileN t b m env2 (kOf Φ z S0 H0 X.K ps H E), ⟨n, ps, env, r, .refl, q⟩, ?_⟩
  rintro m σ2 H2 ⟨ps2, env2, r2, s2, q2⟩
  cases m with
  | zero => exact q2.elim
  | succ m =>
    unfold whileN at q2
    refine ⟨z, S0, H0, ps2, env2, r2, hc.mono env2 (fun c e q3 => ?_) q2⟩
    intro H3 r3 x3
    have s3 : Step z S0 ps H ps2 H3 := s2.trans (.of_ext x3) fun _ hp => r3.noZ hp
    cases c with
    | true =>
      refine ⟨fun σ4 H4 => ∃ ps4 env4, Rel Φ z S0 H0 X.K ps4 env4 σ4 H4 ∧ Step z S0 ps H ps4 H4 ∧ whileN t b m env4 (kOf Φ z S0 H0 X.K ps H E), fun σ4 H4 ⟨ps4, env4, w⟩ => ⟨m, Nat.lt_succ_self m, ps4, env4, w⟩, z, S0, H0, ps2, e, r3, hb.mono e ?_ q3⟩
      exact ⟨fun e q ps6 σ6 H6 r6 s6 => ⟨ps6, e, r6, s3.trans s6 fun _ hp => r6.noZ hp, q⟩, fun _ _ q => q,
        fun e q ps6 σ6 H6 r6 s6 => q ps6 σ6 H6 r6 (s3.trans s6 fun _ hp => r6.noZ hp), fun e q ps6 σ6 H6 r6 s6 => ⟨ps6, e, r6, s3.trans s6 fun _ hp => r6.noZ hp, q⟩, fun _ _ q => q⟩
    | false => exact q3 ps2 σ2 H3 r3 s3
end
end DL
namespace DL
open PySem L2
/-! ### a list comprehension with one name -/
def noOw : Sl → Sl
  | .ow _ => .un
  | s => s
def compE (i : Nat) (env : DEnv) : DEnv := { sl := (env.sl.map noOw).set i .un, cr := env.cr, mr := env.mr }
def compW (i : Nat) (t : MT) (me : ME) : List D → DEnv → List D → (List D → DEnv → Prop) → Prop
  | [], env, acc, k => k acc env
  | d :: ds, env, acc, k => t (env.put i (.da d)) fun b e2 => if b = true then me e2 fun y e3 => acc.length < sizeLine ∧ compW i t me ds { env with cr := e3.cr, mr := e3.mr } (acc ++ [y]) k else compW i t me ds { env with cr := e2.cr, mr := e2.mr } acc k
def mLc (i : Nat) (mi : MI) (t : MT) (me : ME) : ME := fun env k => mi env fun ds e => compW i t me ds (compE i e) [] fun acc e2 => k (.lst acc) { e with cr := e2.cr, mr := e2.mr }
theorem compW_mono {i : Nat} {t : MT} {me : ME} (ht : ∀ env {k k' : Bool → DEnv → Prop}, (∀ d e, k d e → k' d e) → t env k → t env k') (hm : ∀ env {k k' : D → DEnv → Prop}, (∀ d e, k d e → k' d e) → me env k → me env k') :
    ∀ (ds : List D) env acc {k k' : List D → DEnv → Prop}, (∀ a e, k a e → k' a e) → compW i t me ds env acc k → compW i t me ds env acc k'
  | [], env, acc, k, k', h, q => h _ _ q
  | d :: ds, env, acc, k, k', h, q => by
    unfold compW at q ⊢
    refine ht _ (fun b e2 q => ?_) q
    cases b with
    | true => exact hm e2 (fun y e3 q => ⟨q.1, compW_mono ht hm ds _ _ h q.2⟩) q
    | false => exact compW_mono ht hm ds _ _ h q
structure DTs (X : Cx) (Φ : Phi) (ifs : List Expr) (m : MT) : Prop where
  mono : ∀ env {k k' : Bool → DEnv → Prop}, (∀ d e, k d e → k' d e) → m env k → m env k'
  pts : PTs X ifs (tDT Φ X.K m)
def mYes : MT := fun env k => k true env
section
variable {X : Cx} {Φ : Phi}
theorem pts_imp {e : List Expr} {t t' : TT} (h : PTs X e t) (k : ∀ σ H Q, t' σ H Q → t σ H Q) : PTs X e t' := ⟨fun pins s σ H Q I q => h.run pins s σ H Q I (k σ H Q q)⟩
theorem dts_nil : DTs X Φ [] mYes := ⟨fun env k k' h q => h _ _ q, pts_imp pts_nil fun σ H Q ⟨z, S0, H0, ps, env, r, q⟩ => q H r .refl⟩
theorem dts_one {c : Expr} {m : MT} (h : DT X Φ c m) : DTs X Φ [c] m := ⟨h.mono, pts_one h.pt⟩
section
variable {Φ : Phi} {z : Z} {D' : Addr} {S0 : Addr → Prop} {H0 H : Hp} {K : PySem.W.Frag} {ps : List (Option Addr)} {env : DEnv} {σ : St}
theorem none_rep {n : Nat} {p : Addr} : ¬ some p ∈ List.replicate n (none : Option Addr) := fun h => by
  have := List.eq_of_mem_replicate h
  cases this
theorem Sta.upd {n : Nat} {mk : Option Int} (h : Sta z n mk H) {p : Addr} {o : HO} (hp : ¬ Zt z p) (hs : ∀ u, H p = some u → ¬ Stab u) : Sta z n mk (L2.upd H p o) := by
  refine ⟨fun q e => (h.dr q e).same fun b hb => upd_ne fun w => hp (w ▸ .inl ⟨q, e, hb⟩), fun a vf vn e => ?_, z.stay H _ (fun b u su e => ?_) h.inv, fun q hq => ?_⟩
  · obtain ⟨m, m0, h1, h2⟩ := h.fr a vf vn e
    have ne : a ≠ p := fun w => hp (by rw [← w]; exact .inr (.inl ⟨vf, vn, e⟩))
    exact ⟨m, m0, by rw [upd_ne ne]; exact h1, h2⟩
  · rw [upd_ne]
    · exact e
    · intro w; subst w; exact hs _ e su
  · obtain ⟨ts, h1, h2, h3⟩ := h.tb q hq
    have n1 : q.1 ≠ p := fun w => hp (by rw [← w]; exact .inr (.inr ⟨q.2, hq⟩))
    refine ⟨ts, by rw [upd_ne n1]; exact h1, h2, fun pos cv hc => ?_⟩
    obtain ⟨c, e1, e2⟩ := h3 pos cv hc
    have n2 : c ≠ p := fun w => by rw [w] at e2; exact hs _ e2 trivial
    exact ⟨c, e1, by rw [upd_ne n2]; exact e2⟩
theorem tabs_upd {T : List (Addr × Str)} {p : Addr} {o u : HO} (h : LamX.Tabs T H) (e : H p = some u) (h1 : ¬ Stab u) (h2 : ∀ ps, u ≠ .tbl ps) : LamX.Tabs T (L2.upd H p o) := fun q hq => by
  obtain ⟨ts, t1, t2, t3⟩ := h q hq
  have n1 : q.1 ≠ p := fun w => by rw [w, e] at t1; cases t1; exact h2 _ rfl
  refine ⟨ts, by rw [upd_ne n1]; exact t1, t2, fun pos cv hc => ?_⟩
  obtain ⟨c, e1, e2⟩ := t3 pos cv hc
  have n2 : c ≠ p := fun w => by rw [w, e] at e2; cases e2; exact h1 trivial
  exact ⟨c, e1, by rw [upd_ne n2]; exact e2⟩
theorem nostab_lst {xs : List V} : ¬ Stab (.lst xs) := id
theorem nostab_dK {xs : List (Key × V)} : ¬ Stab (.dK xs) := id
theorem nostab_none {p : Addr} (h : H p = none) : ∀ u, H p = some u → ¬ Stab u := fun u e => by rw [h] at e; cases e
theorem nostab_at {p : Addr} {o : HO} (h : H p = some o) (k : ¬ Stab o) : ∀ u, H p = some u → ¬ Stab u := fun u e => by rw [h] at e; cases e; exact k
/-- the frame of a block: nothing is owned, the new list at D is hidden -/
theorem Rel.block (r : Rel Φ z S0 H0 K ps env σ H) {Φ' : Phi} (hΦ : Φ' z (Sx S0 (ps ++ [some D'])) (L2.upd H D' (.lst []))) {i : Nat} (hD : H D' = none) :
    Rel Φ' z (Sx S0 (ps ++ [some D'])) (L2.upd H D' (.lst [])) K (List.replicate env.sl.length none) (compE i env) (wipe σ [i]) (L2.upd H D' (.lst [])) := by
  have dm : ∀ p, Sx S0 (ps ++ [some D']) p → L2.upd H D' (.lst []) p ≠ none := fun p hp => by
    by_cases e : p = D'
    · subst e; rw [upd_same]; simp
    · rw [upd_ne e]
      refine r.dom p (hp.imp id fun w => ?_)
      rcases List.mem_append.mp w with w | w
      · exact w
      · simp at w; exact absurd w e
  refine ⟨by simp [compE], by simp [compE, wipe, r.lens], fun i j p h1 _ => absurd (List.mem_of_getElem? h1) none_rep, fun p h => absurd h none_rep, dm, fun p h => .inl (r.zs p h), fun p h => .inl (r.zf p h), fun p h => dm p (h.elim id fun w => absurd w none_rep), .refl, (show Sta z env.cr env.mr _ from r.sta.upd (r.sta.noneNe hD) (nostab_none hD)), fun j => ?_, hΦ, (r.sta.upd (r.sta.noneNe hD) (nostab_none hD)).zt⟩
  have hj := r.sl j
  have ev : Evx (hide (Sx S0 ps) H) (hide (Sx (Sx S0 (ps ++ [some D'])) (List.replicate env.sl.length none)) (L2.upd H D' (.lst []))) := .of_same fun p o e => by
    obtain ⟨n, e⟩ := hide_get.mp e
    have ne : p ≠ D' := ne_of_none e hD
    refine hide_get.mpr ⟨fun q => ?_, by rw [upd_ne ne]; exact e⟩
    rcases q with q | q
    · refine n (q.imp id fun w => ?_)
      rcases List.mem_append.mp w with w | w
      · exact w
      · simp at w; exact absurd w ne
    · exact none_rep q
  by_cases hij : i = j
  · subst hij
    have e1 : (compE i env).at i = .un := by
      unfold compE DEnv.at
      by_cases hl : i < env.sl.length <;> simp [hl]
    rw [e1]; trivial
  · have e1 : (compE i env).at j = noOw (env.at j) := by
      unfold compE DEnv.at
      rw [List.getD_eq_getElem?_getD, List.getElem?_set_ne hij, List.getElem?_map, List.getD_eq_getElem?_getD]
      cases env.sl[j]? <;> rfl
    have e3 : (wipe σ [i]).getD j none = σ.getD j none := by
      unfold wipe wipe
      rw [List.getD_eq_getElem?_getD, List.getElem?_set_ne hij, List.getD_eq_getElem?_getD]
    rw [e1, e3]
    cases q : env.at j with
    | un => trivial
    | ow ds => trivial
    | da d =>
      rw [q] at hj
      obtain ⟨_, x, h2, h3⟩ := hj
      refine ⟨?_, x, h2, h3.evx ev⟩
      rw [List.getD_eq_getElem?_getD, List.getElem?_replicate]
      split <;> rfl
/-- a hidden object is written -/
theorem Rel.hid {n : Nat} (r : Rel Φ z S0 H0 K (List.replicate n none) env σ H) {p : Addr} {o : HO} (hp : S0 p) (hz : ¬ Zt z p) (hs : ∀ u, H p = some u → ¬ Stab u) (hΦ : Φ z S0 (L2.upd H p o)) : Rel Φ z S0 (L2.upd H p o) K (List.replicate n none) env σ (L2.upd H p o) := by
  have dm : ∀ b, S0 b → L2.upd H p o b ≠ none := fun b hb => by
    by_cases e : b = p
    · subst e; rw [upd_same]; simp
    · rw [upd_ne e]; exact r.dom b (.inl hb)
  refine ⟨r.lenp, r.lens, r.inj, fun p h => absurd h none_rep, dm, r.zs, r.zf, fun b h => dm b (h.elim id fun w => absurd w none_rep), .refl, r.sta.upd hz hs, fun j => ?_, hΦ, (r.sta.upd hz hs).zt⟩
  have hj := r.sl j
  have ev : Evx (hide (Sx S0 (List.replicate n none)) H) (hide (Sx S0 (List.replicate n none)) (L2.upd H p o)) := .of_same fun b u e => by
    obtain ⟨k, e⟩ := hide_get.mp e
    have ne : b ≠ p := fun w => k (.inl (by rw [w]; exact hp))
    exact hide_get.mpr ⟨k, by rw [upd_ne ne]; exact e⟩
  cases q : env.at j with
  | un => trivial
  | da d =>
    rw [q] at hj
    obtain ⟨h1, x, h2, h3⟩ := hj
    exact ⟨h1, x, h2, h3.evx ev⟩
  | ow ds =>
    rw [q] at hj
    obtain ⟨b, xs, h1, h2, h3, h4⟩ := hj
    exact absurd (mem_ps h1).1 none_rep
theorem Rel.rebase {n : Nat} (r : Rel Φ z S0 H0 K (List.replicate n none) env σ H) (hΦ : Φ z S0 H) : Rel Φ z S0 H K (List.replicate n none) env σ H :=
  ⟨r.lenp, r.lens, r.inj, fun p h => absurd h none_rep, fun p h => r.dom p (.inl h), r.zs, r.zf, r.dom, .refl, r.sta, r.sl, hΦ, r.sta.zt⟩
end
theorem set_rep {n i : Nat} : (List.replicate n (none : Option Addr)).set i none = List.replicate n none := by
  apply List.ext_getElem?
  intro j
  by_cases h : i = j
  · subst h
    rw [List.getElem?_set_self']
    rw [List.getElem?_replicate]
    split <;> rfl
  · rw [List.getElem?_set_ne h]
theorem lc_gen {p : Z → Prop} (hw : ∀ z S0 H0, Φ z S0 H0 → p z) {i : Nat} {K : PySem.W.Frag} {mi : MI} {t : MT} {me : ME} (hmi : ∀ env {k k' : List D → DEnv → Prop}, (∀ d e, k d e → k' d e) → mi env k → mi env k')
    (ht : ∀ env {k k' : Bool → DEnv → Prop}, (∀ d e, k d e → k' d e) → t env k → t env k') (hm : ∀ env {k k' : D → DEnv → Prop}, (∀ d e, k d e → k' d e) → me env k → me env k') {σ : St} {H : Hp} {Q : VK} {z : Z} {S0 : Addr → Prop} {H0 : Hp} {ps : List (Option Addr)} {env : DEnv} (r : Rel Φ z S0 H0 K ps env σ H) {F : DEnv → List D → DEnv → Prop} (q : mi env fun ds e => compW i t me ds (compE i e) [] (F e))
    (hF : ∀ e1 acc e2 D' ys H1 H2, F e1 acc e2 → Rel Φ z S0 H0 K ps e1 σ H1 → Ext (Mu z ps) S0 H H1 → H1 D' = none → Ext (Zs z) (Sx S0 ps) H1 H2 → Sta z e2.cr e2.mr H2 → H2 D' = some (.lst ys) → IsA z K (hide (Sx S0 (ps ++ [some D'])) H2) ys acc → Q (.ref D') H2) :
    tLc (tDI Φ K mi) (gName i) (tDT (PhiZ p) K t) (tD (PhiZ p) K me) [i] σ H Q := by
  refine ⟨z, S0, H0, ps, env, r, hmi env (fun ds e1 q => ?_) q⟩
  intro J H1 r1 x1 wl D' hD
  have hz := r1.sta.noneNe hD
  have nD : ¬ Sx S0 ps D' := fun w => r1.dom D' w hD
  let S1 := Sx S0 (ps ++ [some D'])
  let n := e1.sl.length
  have sub1 : ∀ p, Sx S0 ps p → S1 p := fun p w => w.imp id fun w => List.mem_append_left _ w
  refine ⟨fun j m H2 => ∃ env2 acc ys, Rel (PhiZ p) z S1 H2 K (List.replicate n none) env2 (wipe σ [i]) H2 ∧ Ext (Zs z) (Sx S0 ps) H1 H2 ∧ H2 D' = some (.lst ys) ∧ IsA z K (hide S1 H2) ys acc ∧ m = ds.length - j ∧ j ≤ ds.length ∧
      compW i t me (ds.drop j) env2 acc (F e1),
    ⟨ds.length, _, [], [], r1.block (hw _ _ _ r1.phi) hD, .of_same (same_upd hD), upd_same, .nil, rfl, Nat.zero_le _, q⟩, ?_⟩
  rintro j m H2 ⟨env2, acc, ys, r2, x2, hD2, i2, rfl, hj, q2⟩
  have st2 : Step z S0 ps H1 (ps ++ [some D']) H2 := ⟨x2.loc, fun p w => by
    rcases List.mem_append.mp w with w | w
    · exact .inl w
    · simp at w; exact .inr (by rw [w]; exact hD)⟩
  by_cases hlt : j < ds.length
  · obtain ⟨g1, g2⟩ := wl.go _ H2 j ds[j] (st2.seen r1.zs) (fun p w => r2.dom p (.inl w)) (List.getElem?_eq_getElem hlt)
    rw [List.drop_eq_getElem_cons hlt] at q2
    unfold compW at q2
    refine .inr ⟨g1, fun H3 => ∃ env3 acc3 ys3, Rel (PhiZ p) z S1 H3 K (List.replicate n none) env3 (wipe σ [i]) H3 ∧ Ext (Zs z) (Sx S0 ps) H1 H3 ∧ H3 D' = some (.lst ys3) ∧ IsA z K (hide S1 H3) ys3 acc3 ∧
      compW i t me (ds.drop (j + 1)) env3 acc3 (F e1),
      fun H3 ⟨env3, acc3, ys3, w1, w2, w3, w4, w5⟩ => ⟨ds.length - (j + 1), by omega, env3, acc3, ys3, w1, w2, w3, w4, rfl, hlt, w5⟩, fun x H3 y => ?_⟩
    obtain ⟨y1, y2⟩ := g2 x H3 y
    have r3 := (r2.same y1).rebase r2.phi
    have y3 : Is z K (hide (Sx S1 (List.replicate n none)) H3) x ds[j] := y2.evx (.of_same (hide_mono fun p w => w.elim id fun w => absurd w none_rep))
    have r4 := r3.put (i := i) y3
    rw [set_rep] at r4
    show wipe ((wipe σ [i]).set i (some x)) [i] = wipe σ [i] ∧ _
    refine ⟨by show List.set (List.set (List.set σ i none) i (some x)) i none = List.set σ i none; rw [List.set_set, List.set_set], z, S1, H3, List.replicate n none, _, r4, ht _ (fun b e5 q5 => ?_) q2⟩
    intro H5 r5 x5
    have z5 : Ext (Zs z) S1 H3 H5 := x5.mono (fun p w => w.elim id fun w => absurd w none_rep) fun _ w => w
    have fin : ∀ {cr : Nat} {mk : Option Int} {H6 : Hp}, Ext (Zs z) S1 H3 H6 → Sta z cr mk H6 → Rel (PhiZ p) z S1 H6 K (List.replicate n none) { env2 with cr := cr, mr := mk } (wipe σ [i]) H6 ∧ Ext (Zs z) (Sx S0 ps) H1 H6 ∧ H6 D' = some (.lst ys) ∧ IsA z K (hide S1 H6) ys acc := by
      intro cr mk H6 e6 s6
      have hnz : ¬ Zs z D' := fun w => nD (.inl (r1.zs _ w))
      obtain ⟨o, h6, v6, _⟩ := e6 D' _ hnz (y1.same _ _ hD2)
      rw [v6.lst] at h6
      refine ⟨(r3.call (e6.mono (fun _ w => w) fun p w => w.elim id fun w => absurd w none_rep) s6).rebase r2.phi, x2.trans ((Ext.of_same y1.same).trans (e6.mono (fun _ w => w) sub1)), h6, i2.evx ?_⟩
      exact (Evx.of_same (hide_keep y1.same)).trans (e6.hide fun p w => .inl (r1.zs p w))
    cases b with
    | true =>
      refine ⟨z, S1, H3, List.replicate n none, e5, r5, hm e5 (fun y e6 q6 => ?_) q5⟩
      intro v H6 r6 x6 i6
      have z6 : Ext (Zs z) S1 H5 H6 := x6.mono (fun p w => w.elim id fun w => absurd w none_rep) fun _ w => w
      obtain ⟨f1, f2, f3, f4⟩ := fin (z5.trans z6) r6.sta
      have hS1 : S1 D' := .inr (by simp)
      have same : Evx (hide S1 H6) (hide S1 (upd H6 D' (.lst (ys ++ [v])))) := .of_same fun b u e => by
        obtain ⟨k, e⟩ := hide_get.mp e
        have ne : b ≠ D' := fun w => k (by rw [w]; exact hS1)
        exact hide_get.mpr ⟨k, by rw [upd_ne ne]; exact e⟩
      refine ⟨ys, f3, by rw [f4.length]; exact q6.1, _, _, _, f1.hid hS1 hz (nostab_at f3 nostab_lst) r2.phi, ?_, upd_same, ?_, q6.2⟩
      · intro p o hp e
        have ne : p ≠ D' := ne_of_none e hD
        rw [upd_ne ne]
        exact f2 p o hp e
      · refine (f4.append (.cons ?_ .nil)).evx same
        exact i6.evx (.of_same (hide_mono fun p w => .inl w))
    | false =>
      obtain ⟨f1, f2, f3, f4⟩ := fin z5 r5.sta
      exact ⟨_, _, _, f1, f2, f3, f4, q5⟩
  · have e : j = ds.length := by omega
    subst e
    rw [List.drop_length] at q2
    unfold compW at q2
    exact .inl ⟨wl.stop _ H2 _ (st2.seen r1.zs) (Nat.le_refl _), hF _ _ _ _ _ _ _ q2 r1 x1 hD x2 r2.sta hD2 i2⟩
theorem lc_of {p : Z → Prop} (hw : ∀ z S0 H0, Φ z S0 H0 → p z) {i : Nat} {K : PySem.W.Frag} {mi : MI} {t : MT} {me : ME} (hmi : ∀ env {k k' : List D → DEnv → Prop}, (∀ d e, k d e → k' d e) → mi env k → mi env k')
    (ht : ∀ env {k k' : Bool → DEnv → Prop}, (∀ d e, k d e → k' d e) → t env k → t env k') (hm : ∀ env {k k' : D → DEnv → Prop}, (∀ d e, k d e → k' d e) → me env k → me env k') {σ : St} {H : Hp} {Q : VK}
    (q : tD Φ K (mLc i mi t me) σ H Q) : tLc (tDI Φ K mi) (gName i) (tDT (PhiZ p) K t) (tD (PhiZ p) K me) [i] σ H Q := by
  obtain ⟨z, S0, H0, ps, env, r, q⟩ := q
  refine lc_gen hw hmi ht hm r q fun e1 acc e2 D' ys H1 H2 q r1 x1 hD x2 st hD2 i2 => q _ _ (r1.call x2 st) (x1.trans x2.loc) ?_
  have nD : ¬ Sx S0 ps D' := fun w => r1.dom D' w hD
  exact .lst (hide_get.mpr ⟨nD, hD2⟩) (i2.evx (.of_same (hide_mono fun p w => w.imp id fun w => List.mem_append_left _ w)))
theorem mLc_mono {i : Nat} {mi : MI} {t : MT} {me : ME} (hmi : ∀ env {k k' : List D → DEnv → Prop}, (∀ d e, k d e → k' d e) → mi env k → mi env k')
    (ht : ∀ env {k k' : Bool → DEnv → Prop}, (∀ d e, k d e → k' d e) → t env k → t env k') (hm : ∀ env {k k' : D → DEnv → Prop}, (∀ d e, k d e → k' d e) → me env k → me env k') :
    ∀ env {k k' : D → DEnv → Prop}, (∀ d e, k d e → k' d e) → mLc i mi t me env k → mLc i mi t me env k' := fun env k k' h q => hmi env (fun ds e q => compW_mono ht hm ds _ _ (fun a e2 q => h _ _ q) q) q
theorem de_lc {p : Z → Prop} {elt iter : Expr} {ifs : List Expr} {scope : Scope} {x : Str} {px : Pos} {i : Nat} {pos : Pos} {mi : MI} {t : MT} {me : ME} (hw : ∀ z S0 H0, Φ z S0 H0 → p z) (hc : X.calm = true) (hN : X.N.Nodup) (hi : DI X Φ (.Name x px) iter mi) (ok : BlkOk X.N X.env.scope scope [(x, i)])
    (hg : ∀ (s : Shared) (H : Hp) (C : Addr) (cl : List (Str × Addr)) (fp : List Addr), PG (X.blk s H scope (compEnvC scope cl C X.env) fp) (.Name x px) (gName i))
    (ht : ∀ (s : Shared) (H : Hp) (C : Addr) (cl : List (Str × Addr)) (fp : List Addr), DTs (X.blk s H scope (compEnvC scope cl C X.env) fp) (PhiZ p) ifs t)
    (he : ∀ (s : Shared) (H : Hp) (C : Addr) (cl : List (Str × Addr)) (fp : List Addr), DE (X.blk s H scope (compEnvC scope cl C X.env) fp) (PhiZ p) elt me) (hs : ∀ x, foldedSetIterable iter X.env x = pure x := by intro _; rfl) :
    DE X Φ (.ListComp elt [⟨.Name x px, iter, ifs, 0⟩] scope pos) (mLc i mi t me) :=
  ⟨mLc_mono hi.mono (ht X.s_0 (fun _ => none) 0 [] []).mono (he X.s_0 (fun _ => none) 0 [] []).mono,
   pe_imp (pe_lc hc hN hi.pi ok hg (fun s H C cl fp => (ht s H C cl fp).pts) (fun s H C cl fp => (he s H C cl fp).pe) hs) fun _ _ _ q => lc_of hw hi.mono (ht X.s_0 (fun _ => none) 0 [] []).mono (he X.s_0 (fun _ => none) 0 [] []).mono q⟩
theorem ds_setLc {p : Z → Prop} {k : Nat} {y : Str} {py spos : Pos} {elt iter : Expr} {ifs : List Expr} {scope : Scope} {x : Str} {px : Pos} {i : Nat} {pos : Pos} {mi : MI} {t : MT} {me : ME} (hw : ∀ z S0 H0, Φ z S0 H0 → p z) (hc : X.calm = true) (hN : X.N.Nodup) (hy : X.N[k]? = some y) (hyl : X.env.scope.names.lookup y = some .local)
    (hsw : swapsWith (.ListComp elt [⟨.Name x px, iter, ifs, 0⟩] scope pos) (some (.Name y py)) spos.line X.env = pure true) (hi : DI X Φ (.Name x px) iter mi) (ok : BlkOk X.N X.env.scope scope [(x, i)])
    (hg : ∀ (s : Shared) (H : Hp) (C : Addr) (cl : List (Str × Addr)) (fp : List Addr), PG (X.blk s H scope (compEnvC scope cl C X.env) fp) (.Name x px) (gName i))
    (ht : ∀ (s : Shared) (H : Hp) (C : Addr) (cl : List (Str × Addr)) (fp : List Addr), DTs (X.blk s H scope (compEnvC scope cl C X.env) fp) (PhiZ p) ifs t)
    (he : ∀ (s : Shared) (H : Hp) (C : Addr) (cl : List (Str × Addr)) (fp : List Addr), DE (X.blk s H scope (compEnvC scope cl C X.env) fp) (PhiZ p) elt me) (hs : ∀ x, foldedSetIterable iter X.env x = pure x := by intro _; rfl) :
    DS X Φ (.Assign [.Name y py] (.ListComp elt [⟨.Name x px, iter, ifs, 0⟩] scope pos) spos) (mSet k (mLc i mi t me)) :=
  have m1 := (ht X.s_0 (fun _ => none) 0 [] []).mono
  have m2 := (he X.s_0 (fun _ => none) 0 [] []).mono
  ⟨mSet_mono (mLc_mono hi.mono m1 m2), ps_imp (ps_setLc hc hN hy hyl hsw hi.pi ok hg (fun s H C cl fp => (ht s H C cl fp).pts) (fun s H C cl fp => (he s H C cl fp).pe) hs) fun _ _ _ q =>
    lc_of hw hi.mono m1 m2 (asg_of (mLc_mono hi.mono m1 m2) q)⟩
end
end DL
namespace DL
open PySem L2 PySem.Spec PyProof.Rows
abbrev WF := List D → Nat → (D → Nat → Prop) → Prop
/-- a def's promise by data -/
def spD (K : PySem.W.Frag) (wd : World) (w : WF) (vs : List V) (H : Hp) (Q : VK) : Prop := ∃ z S0 ds n, (z.w = wd ∧ z.act = false) ∧ Sta z n none H ∧ (∀ p, S0 p → H p ≠ none) ∧ ((∀ p, Zs z p → S0 p) ∧ ∀ p, Zf z p → S0 p) ∧ IsA z K (hide S0 H) vs ds ∧
  w ds n fun d n' => ∀ v H', Ext (Zs z) S0 H H' → Sta z n' none H' → Is z K (hide S0 H') v d → Q v H'
structure FnG (P : Program) (w : World) (K : PySem.W.Frag) (mg : Str → Option Value) (base : Heap) (k : Nat) (f : Addr) (fd : FuncData) (ps : List Str) (W : WF) : Prop where
  mono : ∀ ds n {k k' : D → Nat → Prop}, (∀ d n, k d n → k' d n) → W ds n k → W ds n k'
  len : ∀ ds n k, W ds n k → ds.length = ps.length
  run : ∀ (A : Around) (outer : List Env) (s : Shared) (H : Hp) (args : Args) (us : List Value) (vs : List V) (Q : VK), Room k A → A.guards = some [] → Env0 P w K mg base A outer s H → BindsTo s fd args (ps.zip us) → Vals vs us → spD K w W vs H Q →
    codeAny (model P w) A (.call (.ref f) args) (CR CX0 outer P w H s Q E0) s
theorem FnG.up {P : Program} {w : World} {K : PySem.W.Frag} {mg : Str → Option Value} {base : Heap} {j k : Nat} {f : Addr} {fd : FuncData} {ps : List Str} {W : WF} (F : FnG P w K mg base j f fd ps W) (h : j ≤ k) : FnG P w K mg base k f fd ps W :=
  ⟨F.mono, F.len, fun A outer s H args us vs Q hr => F.run A outer s H args us vs Q (hr.mono h)⟩
/-- a weaker promise -/
theorem FnG.weak {P : Program} {w : World} {K : PySem.W.Frag} {mg : Str → Option Value} {base : Heap} {k : Nat} {f : Addr} {fd : FuncData} {ps : List Str} {W W' : WF} (F : FnG P w K mg base k f fd ps W)
    (mono : ∀ ds n {k k' : D → Nat → Prop}, (∀ d n, k d n → k' d n) → W' ds n k → W' ds n k') (h : ∀ ds n k, W' ds n k → W ds n k) : FnG P w K mg base k f fd ps W' :=
  ⟨mono, fun ds n k q => F.len ds n k (h ds n k q), fun A outer s H args us vs Q hr hg e0 hb r ⟨z, S0, ds, n, h0, h1, h2, h3, h4, h5⟩ => F.run A outer s H args us vs Q hr hg e0 hb r ⟨z, S0, ds, n, h0, h1, h2, h3, h4, h _ _ _ h5⟩⟩
section
variable {X : Cx} {Φ : Phi} {k : Nat} {f : Addr} {fd : FuncData} {ps : List Str} {W : WF}
theorem run_G {pins : List (Addr × Obj)} {σ : L2.St} {H : Hp} {s : Shared} {Q : VK} {args : Args} {us : List Value} {vs : List V} (F : FnG X.prog X.w X.K X.mg X.base k f fd ps W) (hr : Room k X.A) (hgd : X.A.guards = some [])
    (I : Inv X pins σ H s) (hb : BindsTo s fd args (ps.zip us)) (r : Vals vs us) (h : spD X.K X.w W vs H Q) : codeAny (model X.prog X.w) X.A (.call (.ref f) args) (fun r s' => match r with | .ok (.ret u) => EP X pins σ Q u s' | _ => False) s := by
  refine codeAny_mono (F.run X.A X.stack s H args us vs Q hr hgd I.env0 hb r h) fun r s' hq => ?_
  match r, hq with
  | .error e, hq => exact hq.elim
  | .ok (.ret u), hq => exact I.after hq
  | .ok .next, hq => exact hq.elim
  | .ok .brk, hq => exact hq.elim
  | .ok .cont, hq => exact hq.elim
theorem spD_of {n : MA} (hn : ∀ env {k k' : List D → DEnv → Prop}, (∀ d e, k d e → k' d e) → n env k → n env k') (hW : ∀ ds n {k k' : D → Nat → Prop}, (∀ d n, k d n → k' d n) → W ds n k → W ds n k') {K : PySem.W.Frag} {w : World} (hw : PhiOk Φ w) {σ : L2.St} {H : Hp} {Q : VK}
    (q : tD Φ K (fun env k => n env fun ds e => W ds e.cr fun d cr => k d { e with cr := cr }) σ H Q) : tDA Φ K n σ H fun vs H1 => spD K w W vs H1 Q := by
  obtain ⟨z, S0, H0, ps, env, r, q⟩ := q
  refine ⟨z, S0, H0, ps, env, r, hn env (fun ds e q => ?_) q⟩
  intro vs H1 r1 x1 i1
  refine ⟨z.off, Sx S0 ps, ds, e.cr, ⟨show z.w = _ from hw _ _ _ r1.phi, rfl⟩, ⟨r1.sta.dr, r1.sta.wk.fr, r1.sta.inv, r1.sta.tb⟩, r1.dom, ⟨fun p h => .inl (r1.zs p h.on), fun p h => .inl (r1.zf p h)⟩, i1.off, hW ds e.cr (fun d cr q => ?_) q⟩
  intro v H2 x2 s2 i2
  exact q v H2 (r1.callP x2 s2) (x1.trans x2.locP) i2.on
def mCall (W : WF) (n : MA) : ME := fun env k => n env fun ds e => W ds e.cr fun d cr => k d { e with cr := cr }
theorem mCall_mono {n : MA} (hn : ∀ env {k k' : List D → DEnv → Prop}, (∀ d e, k d e → k' d e) → n env k → n env k') (hW : ∀ ds n {k k' : D → Nat → Prop}, (∀ d n, k d n → k' d n) → W ds n k → W ds n k') :
    ∀ env {k k' : D → DEnv → Prop}, (∀ d e, k d e → k' d e) → mCall W n env k → mCall W n env k' := fun env k k' h q => hn env (fun ds e q => hW ds e.cr (fun d cr q => h _ _ q) q) q
theorem de_call {x : Str} {p pos : Pos} {e : Expr} {es : List Expr} {n : MA} (F : FnG X.prog X.w X.K X.mg X.base k f fd ps W) (hr : Room k X.A) (hgd : X.A.guards = some []) (hg : Gl X x) (hm : X.mg x = some (.ref f)) (hk : PySem.W.keepIn X.K (.ref f) = true) (hb : Binds X.K fd ps [])
    (hw : PhiOk Φ X.w) (ha : DA X Φ (e :: es) n) (hdb : (x == ("__debug__" : Str)) = false := by decide) (he : starEach (e :: es) X.env = (false, eval e X.env) :: starEach es X.env := by rfl) (hpl : (backTo pos (starEach es X.env)).any (·.1) = false := by rfl) :
    DE X Φ (.Call (.Name x p) (e :: es) [] pos) (mCall W n) := by
  refine ⟨mCall_mono ha.mono F.mono, ⟨fun pins s σ H Q I h => wpAny_Call_Name_kw (ld_glob I hg hm ?_ hdb)⟩⟩
  have h' := spD_of ha.mono F.mono hw h
  refine PySem.W.callWith_K (h₀ := X.base) I.ok.mod.kin hk (thn (ha.pa.run pos pins s σ H _ I h') fun us s1 ⟨vs, H1, I1, r, q⟩ => ⟨I1.kIn, ?_⟩) he hpl
  have hl : us.length = ps.length := by
    obtain ⟨z, S0, ds, n, _, _, _, _, i, w⟩ := q
    rw [← r.length, i.length]
    exact F.len _ _ _ w
  have bt := hb s1 us I1.kIn (by rw [List.append_nil]; exact hl)
  rw [List.append_nil] at bt
  refine wpAny_call (codeAny_mono (run_G F hr hgd I1 bt r q) fun rr s' hq => ?_)
  match rr, hq with
  | .error e, hq => exact hq.elim
  | .ok (.ret u), hq => exact hq
  | .ok .next, hq => exact hq.elim
  | .ok .brk, hq => exact hq.elim
  | .ok .cont, hq => exact hq.elim
/-- keywords -/
structure DK (X : Cx) (Φ : Phi) (kws : List Keyword) (n : MA) : Prop where
  mono : ∀ env {k k' : List D → DEnv → Prop}, (∀ d e, k d e → k' d e) → n env k → n env k'
  pk : PK X kws (tDA Φ X.K n)
theorem pk_imp {kws : List Keyword} {t t' : TA} (h : PK X kws t) (k : ∀ σ H Q, t' σ H Q → t σ H Q) : PK X kws t' := ⟨fun pos pins s σ H Q I q => h.run pos pins s σ H Q I (k σ H Q q)⟩
theorem dk_nil : DK X Φ [] mNil := ⟨fun env k k' h q => h _ _ q, pk_imp pk_nil fun σ H Q ⟨z, S0, H0, ps, env, r, q⟩ => q [] H r .refl .nil⟩
theorem dk_cons {e : Expr} {kws : List Keyword} {nm : Option Str} {kpos : Pos} {m : ME} {n : MA} (he : DE X Φ e m) (hes : DK X Φ kws n) : DK X Φ (⟨nm, e, kpos⟩ :: kws) (mCons m n) := by
  refine ⟨fun env k k' h q => he.mono env (fun d e1 q => hes.mono e1 (fun ds e2 q => h _ _ q) q) q, pk_imp (pk_cons he.pe hes.pk) fun σ H Q ⟨z, S0, H0, ps, env, r, q⟩ => ⟨z, S0, H0, ps, env, r, he.mono env (fun d e1 q => ?_) q⟩⟩
  intro v H1 r1 x1 i1
  refine ⟨z, S0, H0, ps, e1, r1, hes.mono e1 (fun ds e2 q => ?_) q⟩
  intro vs H2 r2 x2 i2
  exact q _ H2 r2 (x1.trans x2) (.cons (r1.isK i1 x2) i2)
/-- the keywords' values in the order of the parameters -/
def perm {α : Type} (js : List Nat) (xs : List α) : List α := js.filterMap fun j => xs[j]?
def KwB (K : PySem.W.Frag) (fd : FuncData) (ps ks : List Str) (js : List Nat) : Prop := ∀ (s : Shared) (ws : List Value), K.In s.heap → ws.length = ks.length → BindsTo s fd ⟨[], ks.zip ws⟩ (ps.zip (perm js ws))
theorem perm_vals {js : List Nat} {vs : List V} {us : List Value} (r : Vals vs us) : Vals (perm js vs) (perm js us) := by
  induction js with
  | nil => exact .nil
  | cons j js ih =>
    unfold perm
    rw [List.filterMap_cons, List.filterMap_cons]
    cases e : vs[j]? with
    | none => rw [r.none_of e]; exact ih
    | some v =>
      obtain ⟨u, e2, rv⟩ := r.get e
      rw [e2]
      exact .cons rv ih
theorem perm_is {z : Z} {K : PySem.W.Frag} {G : Hp} {js : List Nat} {vs : List V} {ds : List D} (r : IsA z K G vs ds) : IsA z K G (perm js vs) (perm js ds) := by
  induction js with
  | nil => exact .nil
  | cons j js ih =>
    unfold perm
    rw [List.filterMap_cons, List.filterMap_cons]
    cases e : vs[j]? with
    | none =>
      have e2 : ds[j]? = none := by
        rw [List.getElem?_eq_none_iff] at e ⊢
        rw [← r.length]; exact e
      rw [e2]; exact ih
    | some v =>
      obtain ⟨u, e2, rv⟩ := r.get e
      rw [e2]
      exact .cons rv ih
def mCallK (W : WF) (ks : Nat) (js : List Nat) (n : MA) : ME := fun env k => n env fun ds e => ds.length = ks ∧ W (perm js ds) e.cr fun d cr => k d { e with cr := cr }
theorem de_callK {x : Str} {p pos : Pos} {kws : List Keyword} {ks : List Str} {js : List Nat} {n : MA} (F : FnG X.prog X.w X.K X.mg X.base k f fd ps W) (hr : Room k X.A) (hgd : X.A.guards = some []) (hg : Gl X x) (hm : X.mg x = some (.ref f)) (hk : PySem.W.keepIn X.K (.ref f) = true) (hb : KwB X.K fd ps ks js)
    (hw : PhiOk Φ X.w) (hkw : DK X Φ kws n) (hall : (backToKw pos (keywordEach kws X.env)).all (·.1.isSome) = true := by rfl) (hks : (backToKw pos (keywordEach kws X.env)).filterMap (·.1) = ks := by rfl)
    (hdb : (x == ("__debug__" : Str)) = false := by decide) (hpl : ((backTo pos (starEach [] X.env)).any (·.1) || (backToKw pos (keywordEach kws X.env)).any (·.1.isNone)) = false := by rfl) :
    DE X Φ (.Call (.Name x p) [] kws pos) (mCallK W ks.length js n) := by
  refine ⟨fun env k k' h q => hkw.mono env (fun ds e q => ⟨q.1, F.mono _ _ (fun d cr q => h _ _ q) q.2⟩) q, ⟨fun pins s σ H Q I ⟨z, S0, H0, ps', env, r, q⟩ => wpAny_Call_Name_kw (ld_glob I hg hm ?_ hdb)⟩⟩
  have h' : tDA Φ X.K n σ H fun vs H1 => vs.length = ks.length ∧ spD X.K X.w W (perm js vs) H1 Q := by
    refine ⟨z, S0, H0, ps', env, r, hkw.mono env (fun ds e q => ?_) q⟩
    intro vs H1 r1 x1 i1
    refine ⟨by rw [i1.length]; exact q.1, z.off, Sx S0 ps', perm js ds, e.cr, ⟨show z.w = _ from hw _ _ _ r1.phi, rfl⟩, ⟨r1.sta.dr, r1.sta.wk.fr, r1.sta.inv, r1.sta.tb⟩, r1.dom, ⟨fun p h => .inl (r1.zs p h.on), fun p h => .inl (r1.zf p h)⟩, (perm_is i1).off, F.mono _ _ (fun d cr q => ?_) q.2⟩
    intro v H2 x2 s2 i2
    exact q v H2 (r1.callP x2 s2) (x1.trans x2.locP) i2.on
  refine PySem.W.callWith_KW0 (h₀ := X.base) I.ok.mod.kin hk hall (thn (hkw.pk.run pos pins s σ H _ I h') fun ws s2 ⟨zs, H2, I2, rz, hl, q2⟩ => ⟨I2.kIn, ?_⟩) hpl
  rw [hks]
  refine wpAny_call (codeAny_mono (run_G F hr hgd I2 (hb s2 ws I2.kIn (by rw [← rz.length]; exact hl)) (perm_vals rz) q2) fun rr s' hq => ?_)
  match rr, hq with
  | .error e, hq => exact hq.elim
  | .ok (.ret u), hq => exact hq
  | .ok .next, hq => exact hq.elim
  | .ok .brk, hq => exact hq.elim
  | .ok .cont, hq => exact hq.elim
end
/-! ### a def of the text -/
def startE (N : Nat) (ds : List D) (n : Nat) : DEnv := { sl := ds.map Sl.da ++ List.replicate (N - ds.length) Sl.un, cr := n }
theorem rel_start {Φ : Phi} {z : Z} {S0 : Addr → Prop} {H : Hp} {K : PySem.W.Frag} {N : List Str} {vs : List V} {ds : List D} {n : Nat} (hΦ : Φ z S0 H) (st : Sta z n none H) (hS : ∀ p, S0 p → H p ≠ none) (hz : (∀ p, Zs z p → S0 p) ∧ ∀ p, Zf z p → S0 p) (i : IsA z K (hide S0 H) vs ds) :
    Rel Φ z S0 H K (List.replicate (startE N.length ds n).sl.length none) (startE N.length ds n) (L2.start N vs) H := by
  refine ⟨by simp, by simp [startE, L2.start, i.length], fun i j p h1 _ => absurd (List.mem_of_getElem? h1) none_rep, fun p h => absurd h none_rep, hS, hz.1, hz.2, fun p h => hS p (h.elim id fun w => absurd w none_rep), .refl, st, fun j => ?_, hΦ, st.zt⟩
  have en : (List.replicate (startE N.length ds n).sl.length (none : Option Addr)).getD j none = none := by
    rw [List.getD_eq_getElem?_getD, List.getElem?_replicate]
    split <;> rfl
  rw [en]
  by_cases hj : j < ds.length
  · obtain ⟨v, e1, iv⟩ := i.getD (i := j) (d := ds[j]) (List.getElem?_eq_getElem hj)
    have e2 : (startE N.length ds n).at j = .da ds[j] := by
      unfold startE DEnv.at
      rw [List.getD_eq_getElem?_getD, List.getElem?_append_left (by simpa using hj), List.getElem?_map, List.getElem?_eq_getElem hj]
      rfl
    rw [e2]
    refine ⟨rfl, v, ?_, iv.evx (.of_same (hide_mono fun p w => w.elim id fun w => absurd w none_rep))⟩
    unfold L2.start
    rw [List.getD_eq_getElem?_getD, List.getElem?_append_left (by simpa [i.length] using hj), List.getElem?_map, e1]
    rfl
  · have e2 : (startE N.length ds n).at j = .un := by
      unfold startE DEnv.at
      rw [List.getD_eq_getElem?_getD, List.getElem?_append_right (by simpa using Nat.le_of_not_lt hj), List.getElem?_replicate]
      split <;> rfl
    rw [e2]
    trivial
theorem deeper_guards {A : Around} {env : Env} (h : A.guards = some []) : (A.deeper env).guards = some [] := by
  first
    | exact h
    | (show (A.deeper env).guards = _; unfold Around.deeper; exact h)
    | (simp [Around.deeper, h])
/-- the context of a def's body from which no error goes out -/
abbrev cxD (P : Program) (w : World) (K : PySem.W.Frag) (mg : Str → Option Value) (base : Heap) (N : List Str) (qual : Str) (sc : Scope) (f : Addr) (cdv : Value) (A : Around) (outer : List Env) (s : Shared) (H : Hp) : Cx := (cxOf CX0 P w K mg base N qual sc f cdv A outer s H E0).nox
section
variable {P : Program} {w : World} {K : PySem.W.Frag} {mg : Str → Option Value} {base : Heap}
/-- THE RULE for a def that raises nothing: its body as data, and what that asks -/
theorem fnG_of {x qual : Str} {st : Stmt} {f : Addr} {fd : FuncData} {N ps : List Str} {k : Nat} {W : WF} (F : Fun K x qual st f fd) (S : FnScope N ps (defScope st))
    (mono : ∀ ds n {k k' : D → Nat → Prop}, (∀ d n, k d n → k' d n) → W ds n k → W ds n k') (len : ∀ ds n k, W ds n k → ds.length = ps.length)
    (hbody : ∀ (cdv : Value) (A : Around) (outer : List Env) (s : Shared) (H : Hp), Room k (cxD P w K mg base N qual (defScope st) f cdv A outer s H).A → (cxD P w K mg base N qual (defScope st) f cdv A outer s H).A.guards = some [] →
      ∃ m, DSs (cxD P w K mg base N qual (defScope st) f cdv A outer s H) (PhiW w) (defBody st) m ∧ ∀ ds n kk, W ds n kk → m (startE N.length ds n) { nx := fun e => kk .non e.cr, rt := fun d e => kk d e.cr }) : FnG P w K mg base (k + 1) f fd ps W := by
  obtain ⟨oc, od, kV, doc, pm, an, cdv, ct, osl, rfl, lk, hcd⟩ := F.ex
  refine ⟨mono, len, fun A outer s H args us vs Q hr hgd e0 hb r hsp => ?_⟩
  obtain ⟨z, S0, ds, n, h0, h1, h2, h3, h4, h5⟩ := hsp
  have hl : vs.length = ps.length := by rw [h4.length]; exact len _ _ _ h5
  have keep := fun b o e => (e0.bs b o e).1
  have KX : K.In s.heap := e0.mod.kin.keeps keep
  have lim : s.heap.NoLimit := e0.mod.nolimit.keeps keep
  obtain ⟨m, hm, hq⟩ := hbody cdv A outer s H (hr.deeper _) (deeper_guards hgd)
  refine codeAny_call_function hr.depth (KX _ _ lk) rfl S.co S.gen rfl (PySem.W.codeRec_of KX hcd) (hb _ _ _ _ ?_)
  refine wpAny_newFunctionEnv_cells S.kind (fun y hy => ?_) fun env he s1 x => ?_
  · rcases S.par y.1 (List.of_mem_zip hy).1 with q | q
    · exact .inl q
    · exact .inr ⟨q, PySem.W.cellsFrom_some _ _ _ (.inl q)⟩
  · subst he
    refine ⟨lim.keeps x.toInCall.keep, codeAny_func ?_⟩
    have I0 : Inv (cxOf CX0 P w K mg base N qual (defScope st) f cdv A outer s H E0) [] (L2.start N vs) H s1 := inv_start S hr.hd e0 hl r x
    have I : Inv (cxD P w K mg base N qual (defScope st) f cdv A outer s H) [] (L2.start N vs) H s1 := I0.wish _
    have rl := rel_start (Φ := PhiW w) (N := N) h0.1 h1 h2 h3 h4
    have done : ∀ {H' : Hp} {σ' : L2.St} {v : V} {u : Value} {s' : Shared}, Inv (cxD P w K mg base N qual (defScope st) f cdv A outer s H) [] σ' H' s' → RelV v u → Q v H' → CE outer P w H s Q u s' := fun J rv q => ⟨_, _, J.os, J.bare, J.base, J.hok, rv, q⟩
    have hrun := hm.ps.run [] s1 (L2.start N vs) H { nx := fun _ H' => Q .non H', rt := Q } I ⟨z, S0, H, _, _, rl, hm.mono _ ?_ (hq ds n _ h5)⟩
    · refine wpAny_mono hrun (fun fl s' hs => ?_) fun e s' hs => hs.elim
      match fl, hs with
      | .ret u, ⟨v, σ', H', J, rv, q⟩ => exact done J rv q
      | .next, ⟨σ', H', J, q⟩ => exact done (v := V.non) (u := Value.none) J rfl q
      | .brk, ⟨_, _, _, q⟩ => exact q.elim
      | .cont, ⟨_, _, _, q⟩ => exact q.elim
    · refine ⟨fun e q ps' σ' H' r' st' => ?_, fun d e q ps' v σ' H' r' i' => ?_, fun e q => q.elim, fun e q => q.elim, fun _ _ q => q.elim⟩
      · exact q .non H' r'.ext r'.sta.wk .non
      · exact q v H' r'.ext r'.sta.wk (i'.evx (.of_same (hide_mono fun p w => .inl w)))
end
end DL
namespace DL
open PySem L2 PySem.Spec PyProof.Rows
/-- a def of the text, known by its promise -/
structure Ok (P : Program) (w : World) (K : PySem.W.Frag) (mg : Str → Option Value) (base : Heap) (x : Str) (st : Stmt) (k : Nat) (ps : List Str) (W : WF) : Prop where
  ex : ∃ f fd, Fun K x x st f fd ∧ FnG P w K mg base k f fd ps W ∧ mg x = some (.ref f) ∧ Binds K fd ps []
/-- where a def stands -/
structure At (K : PySem.W.Frag) (mg : Str → Option Value) (x : Str) (st : Stmt) (f : Addr) (fd : FuncData) : Prop where
  fn : Fun K x x st f fd
  mg : mg x = some (.ref f)
theorem Ok.mk' {P : Program} {w : World} {K : PySem.W.Frag} {mg : Str → Option Value} {base : Heap} {x : Str} {st : Stmt} {k : Nat} {ps : List Str} {W : WF} {f : Addr} {fd : FuncData} (a : At K mg x st f fd) (b : Binds K fd ps []) (F : FnG P w K mg base k f fd ps W) : Ok P w K mg base x st k ps W := ⟨f, fd, a.fn, F, a.mg, b⟩
theorem Ok.up {P : Program} {w : World} {K : PySem.W.Frag} {mg : Str → Option Value} {base : Heap} {x : Str} {st : Stmt} {j k : Nat} {ps : List Str} {W : WF} (o : Ok P w K mg base x st j ps W) (h : j ≤ k) : Ok P w K mg base x st k ps W := by
  obtain ⟨f, fd, a, F, m, b⟩ := o.ex
  exact ⟨f, fd, a, F.up h, m, b⟩
/-- no promise -/
def WNo : WF := fun _ _ _ => False
def prev (V : Nat → WF) : Nat → WF
  | 0 => WNo
  | L + 1 => V L
theorem Ok.never {P : Program} {w : World} {K : PySem.W.Frag} {mg : Str → Option Value} {base : Heap} {x : Str} {st : Stmt} {k : Nat} {ps : List Str} {f : Addr} {fd : FuncData} (a : At K mg x st f fd) (b : Binds K fd ps []) : Ok P w K mg base x st k ps WNo :=
  Ok.mk' a b ⟨fun _ _ _ _ _ q => q, fun _ _ _ q => q.elim, fun _ _ _ _ _ _ _ _ _ _ _ _ _ ⟨_, _, _, _, _, _, _, _, _, q⟩ => q.elim⟩
/-- a constant of the module -/
def Glob (K : PySem.W.Frag) (mg : Str → Option Value) (x : Str) (d : D) : Prop := ∃ v u, mg x = some u ∧ RelV v u ∧ ∀ z G, Is z K G v d
section
variable {X : Cx} {Φ : Phi} {p pos : Pos} {x : Str}
theorem de_v (i : Nat) (hN : X.N[i]? = some x := by rfl) (hv : Vis X.env.scope x := by first | exact Or.inl rfl | exact Or.inr (Or.inl rfl) | exact Or.inr (Or.inr rfl)) (hd : (x == ("__debug__" : Str)) = false := by decide)
    (hcd : (x == ("__classdict__" : Str)) = false := by decide) : DE X Φ (.Name x pos) (mVar i) := de_var i (pe_var hN hv hd hcd)
theorem de_glob {d : D} (h : Glob X.K X.mg x d) (hg : Gl X x := by rfl) (hd : (x == ("__debug__" : Str)) = false := by decide) : DE X Φ (.Name x pos) (mC d) := by
  obtain ⟨v, u, hm, r, i⟩ := h
  exact de_const (pe_glob hg hm r hd) i
theorem de_ty {T : String} (hm : X.mg x = none) (hv : bootBuiltins x = some (.type T)) (hg : Gl X x := by rfl) (hn : x ≠ "__name__" := by decide) (hd : (x == ("__debug__" : Str)) = false := by decide) : DE X Φ (.Name x pos) (mC (.ty T)) :=
  de_const (pe_bltn (v := .ty T) hg hm hv rfl hn hd) fun _ _ => .ty T
theorem de_ok {st : Stmt} {k : Nat} {ps : List Str} {W : WF} {e : Expr} {es : List Expr} {n : MA} (o : Ok X.prog X.w X.K X.mg X.base x st k ps W) (hr : Room k X.A) (hgd : X.A.guards = some []) (ha : DA X Φ (e :: es) n) (hw : PhiOk Φ X.w := by first | exact fun _ _ _ h => h | exact fun _ _ _ h => h.1) (hg : Gl X x := by rfl)
    (hdb : (x == ("__debug__" : Str)) = false := by decide) (he : starEach (e :: es) X.env = (false, eval e X.env) :: starEach es X.env := by rfl) (hpl : (backTo pos (starEach es X.env)).any (·.1) = false := by rfl) : DE X Φ (.Call (.Name x p) (e :: es) [] pos) (mCall W n) := by
  obtain ⟨f, fd, a, F, m, b⟩ := o.ex
  exact de_call F hr hgd hg m a.kp b hw ha hdb he hpl
theorem kwB {K : PySem.W.Frag} {mg : Str → Option Value} {st : Stmt} {f : Addr} {fd : FuncData} {ps ks : List Str} {js : List Nat} (a : Fun K x x st f fd)
    (h : ∀ (kV doc pm : Value) (an : Option Addr) (cdv ct : Value) (us : List Value), us.length = ks.length → bindArgs (PySem.W.fnOf x x (defArgs st) (defBody st) (defScope st) .none kV doc pm an cdv ct) ⟨[], ks.zip us⟩ = pure (ps.zip (perm js us))) : KwB K fd ps ks js := by
  obtain ⟨oc, od, kV, doc, pm, an, cdv, ct, osl, rfl, lk, hcd⟩ := a.ex
  exact fun s ws _ hl => .of_eq (h kV doc pm an cdv ct ws hl)
theorem de_okK {st : Stmt} {k : Nat} {ps : List Str} {W : WF} {kws : List Keyword} {ks : List Str} {js : List Nat} {n : MA} (o : Ok X.prog X.w X.K X.mg X.base x st k ps W) (hr : Room k X.A) (hgd : X.A.guards = some [])
    (h : ∀ (kV doc pm : Value) (an : Option Addr) (cdv ct : Value) (us : List Value), us.length = ks.length → bindArgs (PySem.W.fnOf x x (defArgs st) (defBody st) (defScope st) .none kV doc pm an cdv ct) ⟨[], ks.zip us⟩ = pure (ps.zip (perm js us)))
    (hkw : DK X Φ kws n) (hw : PhiOk Φ X.w := by first | exact fun _ _ _ h => h | exact fun _ _ _ h => h.1) (hg : Gl X x := by rfl) (hall : (backToKw pos (keywordEach kws X.env)).all (·.1.isSome) = true := by rfl) (hks : (backToKw pos (keywordEach kws X.env)).filterMap (·.1) = ks := by rfl)
    (hdb : (x == ("__debug__" : Str)) = false := by decide) (hpl : ((backTo pos (starEach [] X.env)).any (·.1) || (backToKw pos (keywordEach kws X.env)).any (·.1.isNone)) = false := by rfl) :
    DE X Φ (.Call (.Name x p) [] kws pos) (mCallK W ks.length js n) := by
  obtain ⟨f, fd, a, F, m, b⟩ := o.ex
  exact de_callK F hr hgd hg m a.kp (kwB (mg := X.mg) a h) hw hkw hall hks hdb hpl
/-- x = e, x a local or a cell -/
theorem ds_s {i : Nat} {e : Expr} {me : ME} {pos' : Pos} (he : DE X Φ e me) (hN : X.N.Nodup) (hi : X.N[i]? = some x := by rfl) (hx : Loc X.env.scope x := by first | exact Or.inl rfl | exact Or.inr rfl) (hs : swapsWith e (some (.Name x pos')) pos.line X.env = pure false := by rfl)
    (hf : X.fn x = true ∨ X.env.scope.names.lookup x = some .local := by first | exact .inl rfl | exact .inr rfl | assumption) : DS X Φ (.Assign [.Name x pos'] e pos) (mSet i me) := ds_set hN hi hx he hs hf
end
/-! ### the built-ins' names -/
theorem bt_len : bootBuiltins "len" = some (.builtin "len") := by decide +kernel
theorem bt_isinstance : bootBuiltins "isinstance" = some (.builtin "isinstance") := by decide +kernel
theorem bt_abs : bootBuiltins "abs" = some (.builtin "abs") := by decide +kernel
theorem bt_min : bootBuiltins "min" = some (.builtin "min") := by decide +kernel
theorem bt_all : bootBuiltins "all" = some (.builtin "all") := by decide +kernel
theorem bt_any : bootBuiltins "any" = some (.builtin "any") := by decide +kernel
theorem bt_repr : bootBuiltins "repr" = some (.builtin "repr") := by decide +kernel
theorem bt_sorted : bootBuiltins "sorted" = some (.builtin "sorted") := by decide +kernel
theorem bt_int : bootBuiltins "int" = some (.type "int") := by decide +kernel
theorem bt_bool : bootBuiltins "bool" = some (.type "bool") := by decide +kernel
theorem bt_str : bootBuiltins "str" = some (.type "str") := by decide +kernel
theorem bt_tuple : bootBuiltins "tuple" = some (.type "tuple") := by decide +kernel
theorem bt_list : bootBuiltins "list" = some (.type "list") := by decide +kernel
theorem bt_dict : bootBuiltins "dict" = some (.type "dict") := by decide +kernel
theorem bt_set : bootBuiltins "set" = some (.type "set") := by decide +kernel
/-- the built-ins' names are none of the module's -/
structure NB (mg : Str → Option Value) : Prop where
  len : mg "len" = none
  isinstance : mg "isinstance" = none
  abs : mg "abs" = none
  min : mg "min" = none
  all : mg "all" = none
  any : mg "any" = none
  repr : mg "repr" = none
  sorted : mg "sorted" = none
  int : mg "int" = none
  bool : mg "bool" = none
  str : mg "str" = none
  tuple : mg "tuple" = none
  list : mg "list" = none
  dict : mg "dict" = none
  set : mg "set" = none
  range : mg "range" = none
  zip : mg "zip" = none
  max : mg "max" = none
  sum : mg "sum" = none
end DL
namespace DL
open PySem L2 PySem.Spec PyProof.Rows
/-- a promise is monotone and asks for so many arguments -/
def Good (W : WF) (m : Nat) : Prop := (∀ ds n {k k' : D → Nat → Prop}, (∀ d n, k d n → k' d n) → W ds n k → W ds n k') ∧ ∀ ds n k, W ds n k → ds.length = m
def fW1 (p : D → Prop) (f : D → D) : WF := fun ds n k => ∃ a, ds = [a] ∧ p a ∧ k (f a) n
def fW2 (p : D → D → Prop) (f : D → D → D) : WF := fun ds n k => ∃ a b, ds = [a, b] ∧ p a b ∧ k (f a b) n
def fW3 (p : D → D → D → Prop) (f : D → D → D → D) : WF := fun ds n k => ∃ a b c, ds = [a, b, c] ∧ p a b c ∧ k (f a b c) n
theorem fW1_good {p : D → Prop} {f : D → D} : Good (fW1 p f) 1 := ⟨fun ds n k k' h ⟨a, e, q, w⟩ => ⟨a, e, q, h _ _ w⟩, fun ds n k ⟨a, e, _⟩ => by rw [e]; rfl⟩
theorem fW2_good {p : D → D → Prop} {f : D → D → D} : Good (fW2 p f) 2 := ⟨fun ds n k k' h ⟨a, b, e, q, w⟩ => ⟨a, b, e, q, h _ _ w⟩, fun ds n k ⟨a, b, e, _⟩ => by rw [e]; rfl⟩
theorem fW3_good {p : D → D → D → Prop} {f : D → D → D → D} : Good (fW3 p f) 3 := ⟨fun ds n k k' h ⟨a, b, c, e, q, w⟩ => ⟨a, b, c, e, q, h _ _ w⟩, fun ds n k ⟨a, b, c, e, _⟩ => by rw [e]; rfl⟩
/-- a draw: any result of a kind, at a cost of mixed numbers -/
def dW1 (p : D → Prop) (c : D → Nat) (R : D → D → Prop) : WF := fun ds n k => ∃ a, ds = [.sta, a] ∧ p a ∧ c a ≤ n ∧ ∀ d n', R a d → n ≤ n' + c a → k d n'
def dW0 (c : Nat) (R : D → Prop) : WF := fun ds n k => ds = [.sta] ∧ c ≤ n ∧ ∀ d n', R d → n ≤ n' + c → k d n'
theorem dW1_good {p : D → Prop} {c : D → Nat} {R : D → D → Prop} : Good (dW1 p c R) 2 := ⟨fun ds n k k' h ⟨a, e, q, l, w⟩ => ⟨a, e, q, l, fun d n' r l => h _ _ (w d n' r l)⟩, fun ds n k ⟨a, e, _⟩ => by rw [e]; rfl⟩
theorem dW0_good {c : Nat} {R : D → Prop} : Good (dW0 c R) 1 := ⟨fun ds n k k' h ⟨e, l, w⟩ => ⟨e, l, fun d n' r l => h _ _ (w d n' r l)⟩, fun ds n k ⟨e, _⟩ => by rw [e]; rfl⟩
def okD (d : D) : Prop := (tyN d).isSome = true
def isNum : D → Bool
  | .int _ => true
  | _ => false
def isCnt : D → Bool
  | .int i => decide (0 ≤ i)
  | _ => false
end DL
namespace DL
open PySem L2 PySem.Spec PyProof.Rows
/-! ### dicts -/
def noOwE (env : DEnv) : DEnv := { env with sl := env.sl.map noOw }
theorem noOwE_at (env : DEnv) (j : Nat) : (noOwE env).at j = noOw (env.at j) := by
  unfold noOwE DEnv.at
  rw [List.getD_eq_getElem?_getD, List.getElem?_map, List.getD_eq_getElem?_getD]
  cases env.sl[j]? <;> rfl
section
variable {Φ Φ' : Phi} {z : Z} {S0 : Addr → Prop} {H0 H : Hp} {K : PySem.W.Frag} {ps : List (Option Addr)} {env : DEnv} {σ : L2.St}
/-- a new object is hidden while what goes into it is reckoned -/
theorem Rel.hideNew (r : Rel Φ z S0 H0 K ps env σ H) {q : Addr} {o : HO} (hΦ : Φ' z (Sx S0 (ps ++ [some q])) (L2.upd H q o)) (hq : H q = none) (ho : ∀ C dx fs, o ≠ .ins C dx fs := by (intro _ _ _ w; cases w)) :
    Rel Φ' z (Sx S0 (ps ++ [some q])) (L2.upd H q o) K (List.replicate env.sl.length none) (noOwE env) σ (L2.upd H q o) := by
  have mem : ∀ {p}, some p ∈ ps ++ [some q] → p ≠ q → some p ∈ ps := fun w ne => by
    rcases List.mem_append.mp w with w | w
    · exact w
    · simp at w; exact absurd w ne
  have dm : ∀ p, Sx S0 (ps ++ [some q]) p → L2.upd H q o p ≠ none := fun p hp => by
    by_cases e : p = q
    · subst e; rw [upd_same]; simp
    · rw [upd_ne e]; exact r.dom p (hp.imp id fun w => mem w e)
  refine ⟨by simp [noOwE], by simp [noOwE, r.lens], fun i j p h1 _ => absurd (List.mem_of_getElem? h1) none_rep, fun p h => absurd h none_rep, dm, fun p h => .inl (r.zs p h), fun p h => .inl (r.zf p h), fun p h => dm p (h.elim id fun w => absurd w none_rep), .refl, (show Sta z env.cr env.mr _ from r.sta.upd (r.sta.noneNe hq) (nostab_none hq)), fun j => ?_, hΦ, (r.sta.upd (r.sta.noneNe hq) (nostab_none hq)).zt⟩
  have hj := r.sl j
  have ev : Evx (hide (Sx S0 ps) H) (hide (Sx (Sx S0 (ps ++ [some q])) (List.replicate env.sl.length none)) (L2.upd H q o)) := .of_same fun p u e => by
    obtain ⟨n, e⟩ := hide_get.mp e
    have ne : p ≠ q := ne_of_none e hq
    refine hide_get.mpr ⟨fun w => ?_, by rw [upd_ne ne]; exact e⟩
    rcases w with w | w
    · exact n (w.imp id fun w => mem w ne)
    · exact none_rep w
  rw [noOwE_at]
  cases c : env.at j with
  | un => trivial
  | ow ds => trivial
  | da d =>
    rw [c] at hj
    obtain ⟨_, x, h2, h3⟩ := hj
    refine ⟨?_, x, h2, h3.evx ev⟩
    rw [List.getD_eq_getElem?_getD, List.getElem?_replicate]
    split <;> rfl
end
/-- the pairs of a display -/
def pairsW : List (ME × ME) → DEnv → (List (D × D) → DEnv → Prop) → Prop
  | [], env, k => k [] env
  | (mk, mv) :: r, env, k => mk env fun x e1 => mv e1 fun y e2 => pairsW r e2 fun ps e3 => k ((x, y) :: ps) e3
structure DPs (X : Cx) (Φ : Phi) (pos : Pos) (keys : List (Option Expr)) (values : List Expr) (ms : List (ME × ME)) : Prop where
  mono : ∀ m ∈ ms, (∀ env {k k' : D → DEnv → Prop}, (∀ d e, k d e → k' d e) → m.1 env k → m.1 env k') ∧ ∀ env {k k' : D → DEnv → Prop}, (∀ d e, k d e → k' d e) → m.2 env k → m.2 env k'
  pps : PPs X pos keys values (ms.map fun m => (tD Φ X.K m.1, tD Φ X.K m.2))
theorem pairsW_mono : ∀ {ms : List (ME × ME)} (_ : ∀ m ∈ ms, (∀ env {k k' : D → DEnv → Prop}, (∀ d e, k d e → k' d e) → m.1 env k → m.1 env k') ∧ ∀ env {k k' : D → DEnv → Prop}, (∀ d e, k d e → k' d e) → m.2 env k → m.2 env k')
    (env : DEnv) {k k' : List (D × D) → DEnv → Prop}, (∀ d e, k d e → k' d e) → pairsW ms env k → pairsW ms env k'
  | [], _, env, k, k', h, q => h _ _ q
  | (mk, mv) :: r, hm, env, k, k', h, q => by
    unfold pairsW at q ⊢
    exact (hm _ (List.mem_cons_self ..)).1 env (fun x e1 q => (hm _ (List.mem_cons_self ..)).2 e1 (fun y e2 q => pairsW_mono (fun m w => hm m (List.mem_cons_of_mem _ w)) e2 (fun ps e3 q => h _ _ q) q) q) q
def keyD : D → Option Key
  | .int i => some (.inl i)
  | .str x => some (.inr x)
  | _ => none
def keysD : List (D × D) → Option (List Key)
  | [] => some []
  | (k, _) :: r => match keyD k, keysD r with
    | some a, some b => some (a :: b)
    | _, _ => none
/-- the datum of a dict's display -/
def dictD (ks : List Key) (ds : List D) : Option D := if ks = frKeys then (match ds with | [f, n, .int m] => if 0 ≤ m then some (.frm f n) else none | _ => none) else some (.dct ks ds)
section
variable {X : Cx} {Φ : Phi} {pos : Pos}
theorem dps_nil : DPs X Φ pos [] [] [] := ⟨fun m h => by simp at h, pps_nil⟩
theorem dps_cons {k v : Expr} {ks : List (Option Expr)} {vs : List Expr} {mk mv : ME} {ms : List (ME × ME)} (hk : DE X Φ k mk) (hv : DE X Φ v mv) (hr : DPs X Φ pos ks vs ms) : DPs X Φ pos (some k :: ks) (v :: vs) ((mk, mv) :: ms) :=
  ⟨fun m h => by rcases List.mem_cons.mp h with rfl | h; exact ⟨hk.mono, hv.mono⟩; exact hr.mono m h, pps_cons hk.pe hv.pe hr.pps⟩
theorem pairs_of {Φ : Phi} {z : Z} {S0 : Addr → Prop} {H0 : Hp} {K : PySem.W.Frag} {n : Nat} {σ : L2.St} : ∀ {ms : List (ME × ME)} (_ : ∀ m ∈ ms, (∀ env {k k' : D → DEnv → Prop}, (∀ d e, k d e → k' d e) → m.1 env k → m.1 env k') ∧ ∀ env {k k' : D → DEnv → Prop}, (∀ d e, k d e → k' d e) → m.2 env k → m.2 env k')
    {env : DEnv} {H : Hp} {Q : List (V × V) → Hp → Prop}, Rel Φ z S0 H0 K (List.replicate n none) env σ H → (pairsW ms env fun ps e => ∀ vs H', Rel Φ z S0 H0 K (List.replicate n none) e σ H' → Ext (Zs z) S0 H H' → IsA z K (hide S0 H') (vs.map (·.1)) (ps.map (·.1)) → IsA z K (hide S0 H') (vs.map (·.2)) (ps.map (·.2)) → Q vs H') →
    tPairs (ms.map fun m => (tD Φ K m.1, tD Φ K m.2)) σ H Q
  | [], _, env, H, Q, r, q => q [] H r .refl .nil .nil
  | (mk, mv) :: ms, hm, env, H, Q, r, q => by
    have sub : ∀ {H1 H2 : Hp}, Ext (Mu z (List.replicate n none)) S0 H1 H2 → Ext (Zs z) S0 H1 H2 := fun x => x.mono (fun p w => w.elim id fun w => absurd w none_rep) fun _ w => w
    have un : ∀ {G : Hp} {v : V} {d : D}, Is z K (hide (Sx S0 (List.replicate n none)) G) v d → Is z K (hide S0 G) v d := fun i => i.evx (.of_same (hide_mono fun p w => .inl w))
    refine ⟨z, S0, H0, _, env, r, (hm _ (List.mem_cons_self ..)).1 env (fun x e1 q => ?_) q⟩
    intro v H1 r1 x1 i1
    refine ⟨z, S0, H0, _, e1, r1, (hm _ (List.mem_cons_self ..)).2 e1 (fun y e2 q => ?_) q⟩
    intro u H2 r2 x2 i2
    refine pairs_of (fun m w => hm m (List.mem_cons_of_mem _ w)) r2 (pairsW_mono (fun m w => hm m (List.mem_cons_of_mem _ w)) e2 (fun ps e3 q => ?_) q)
    intro vs H3 r3 x3 k1 k2
    have ev : ∀ {G G' : Hp}, Ext (Zs z) S0 G G' → Evx (hide S0 G) (hide S0 G') := fun x => x.hide fun p w => r.zs p w
    exact q _ H3 r3 ((sub x1).trans ((sub x2).trans x3)) (.cons ((un i1).evx ((ev (sub x2)).trans (ev x3))) k1) (.cons ((un i2).evx (ev x3)) k2)
theorem mergeK_nodup : ∀ (more acc : List (Key × V)), ((acc ++ more).map (·.1)).Nodup → mergeK acc more = acc ++ more
  | [], acc, _ => by simp [mergeK]
  | kv :: more, acc, h => by
    have e : putK acc kv.1 kv.2 = acc ++ [kv] := by
      unfold putK
      rw [if_neg]
      intro w
      obtain ⟨p, hp, ep⟩ := List.any_eq_true.mp w
      rw [List.map_append, List.nodup_append] at h
      exact h.2.2 p.1 (List.mem_map_of_mem hp) kv.1 (by simp) (by simpa using ep)
    show mergeK (putK acc kv.1 kv.2) more = _
    rw [e, mergeK_nodup more (acc ++ [kv]) (by simpa using h)]
    simp
theorem keysD_is {z : Z} {K : PySem.W.Frag} {G : Hp} : ∀ {vs : List (V × V)} {ps : List (D × D)} {ks : List Key}, IsA z K G (vs.map (·.1)) (ps.map (·.1)) → vs.length = ps.length → keysD ps = some ks → vs = (ks.zip (vs.map (·.2))).map (fun kv => (kV kv.1, kv.2)) ∧ ks.length = vs.length
  | [], [], ks, _, _, e => by simp [keysD] at e; subst e; simp
  | [], _ :: _, ks, _, l, e => by simp at l
  | _ :: _, [], ks, _, l, e => by simp at l
  | (v, u) :: vs, (k, d) :: ps, ks, h, l, e => by
    unfold keysD at e
    cases e1 : keyD k with
    | none => rw [e1] at e; simp at e
    | some a =>
      cases e2 : keysD ps with
      | none => rw [e1, e2] at e; simp at e
      | some b =>
        rw [e1, e2] at e
        simp at e
        subst e
        cases h with
        | cons h1 t1 =>
          obtain ⟨i1, i2⟩ := keysD_is t1 (by simpa using l) e2
          have ev : v = kV a := by
            cases k <;> simp [keyD] at e1 <;> subst e1 <;> cases h1 <;> rfl
          refine ⟨?_, by simp [i2]⟩
          simp only [List.map_cons, List.zip_cons_cons]
          rw [← i1, ev]
/-- {k: v, ..} -/
def mDisp (ms : List (ME × ME)) : ME := fun env k => pairsW ms (noOwE env) fun ps e => ∃ ks d, keysD ps = some ks ∧ ks.Nodup ∧ ps.length ≤ 15 ∧ dictD ks (ps.map (·.2)) = some d ∧ k d { env with cr := e.cr, mr := e.mr }
theorem pairsW_len : ∀ (ms : List (ME × ME)) (hm : ∀ m ∈ ms, (∀ env {k k' : D → DEnv → Prop}, (∀ d e, k d e → k' d e) → m.1 env k → m.1 env k') ∧ ∀ env {k k' : D → DEnv → Prop}, (∀ d e, k d e → k' d e) → m.2 env k → m.2 env k') (env : DEnv) (k : List (D × D) → DEnv → Prop), pairsW ms env k → pairsW ms env fun ps e => k ps e ∧ ps.length = ms.length
  | [], _, env, k, q => ⟨q, rfl⟩
  | (mk, mv) :: r, hm, env, k, q => by
    unfold pairsW at q ⊢
    exact (hm _ (List.mem_cons_self ..)).1 env (fun x e1 q => (hm _ (List.mem_cons_self ..)).2 e1 (fun y e2 q => pairsW_mono (fun m w => hm m (List.mem_cons_of_mem _ w)) e2 (fun ps e3 q => ⟨q.1, by simp [q.2]⟩) (pairsW_len r (fun m w => hm m (List.mem_cons_of_mem _ w)) e2 _ q)) q) q
theorem is_dictD {z : Z} {K : PySem.W.Frag} {S : Addr → Prop} {H : Hp} {q : Addr} {ks : List Key} {xs : List V} {ds : List D} {d : D} (hS : ¬ S q) (hd : dictD ks ds = some d) (l : ks.length = xs.length) (i : IsA z K (hide S (L2.upd H q (.dK (ks.zip xs)))) xs ds) :
    Is z K (hide S (L2.upd H q (.dK (ks.zip xs)))) (.ref q) d := by
  have at_ : hide S (L2.upd H q (.dK (ks.zip xs))) q = some (.dK (ks.zip xs)) := hide_get.mpr ⟨hS, upd_same⟩
  unfold dictD at hd
  split at hd
  · rename_i ek
    split at hd
    · rename_i f n m
      split at hd
      · rename_i hm
        cases hd
        cases i with
        | cons i1 t1 =>
          cases t1 with
          | cons i2 t2 =>
            cases t2 with
            | cons i3 t3 =>
              cases t3; cases i3
              subst ek
              exact .frm at_ hm i1 i2
      · cases hd
    · cases hd
  · rename_i ek
    cases hd
    exact .dct at_ l ek i
theorem de_disp {keys : List (Option Expr)} {values : List Expr} {ms : List (ME × ME)} (h : DPs X (PhiW X.w) pos keys values ms) (hall : keys.all (·.isSome) = true := by rfl) (hl : keys.length = values.length := by rfl) (h0 : keys ≠ [] := by (intro h; cases h))
    (h15 : keys.length ≤ 15 := by decide) (hw : PhiOk Φ X.w := by first | exact fun _ _ _ h => h | exact fun _ _ _ h => h.1) : DE X Φ (.Dict keys values pos) (mDisp ms) := by
  refine ⟨fun env k k' hk q => pairsW_mono h.mono _ (fun ps e ⟨ks, d, e1, e2, e3, e4, q⟩ => ⟨ks, d, e1, e2, e3, e4, hk _ _ q⟩) q, pe_imp (pe_disp h.pps hall hl h0 h15) fun σ H Q ⟨z, S0, H0, ps, env, r, q⟩ => ?_⟩
  intro p hp
  have hz := r.sta.noneNe hp
  have nD : ¬ Sx S0 ps p := fun w => r.dom p w hp
  have r1 := r.hideNew (Φ' := PhiW X.w) (o := .dK []) (hw _ _ _ r.phi) hp
  refine pairs_of h.mono r1 (pairsW_mono h.mono _ (fun pp e ⟨⟨ks, d, e1, e2, e3, e4, q⟩, e5⟩ => ?_) (pairsW_len ms h.mono _ _ q))
  intro vs H2 r2 x2 k1 k2
  have hlen : vs.length = pp.length := by
    have := k1.length
    simpa using this
  have hH2 : H2 p = some (.dK []) := by
    have hnz : ¬ Zs z p := fun w => nD (.inl (r.zs _ w))
    obtain ⟨o', h', v, _⟩ := x2 p _ hnz upd_same
    rw [v.dK (by simp [frKeys])] at h'
    exact h'
  obtain ⟨f1, f2⟩ := keysD_is k1 hlen e1
  have lz : ks.length = (vs.map (·.2)).length := by simpa using f2
  refine ⟨hH2, ks.zip (vs.map (·.2)), f1, by rw [List.length_zip, lz, Nat.min_self, List.length_map, hlen]; exact e3, ?_⟩
  rw [mergeK_nodup _ [] (by simpa [zip_keys lz] using e2), List.nil_append]
  have x12 : Ext (Zs z) (Sx S0 ps) H H2 := (Ext.of_same (same_upd hp)).trans (x2.mono (fun _ w => w) fun p w => w.imp id fun w => List.mem_append_left _ w)
  have x3 : Ext (Zs z) (Sx S0 ps) H (L2.upd H2 p (.dK (ks.zip (vs.map (·.2))))) := fun b o hb eb => by
    have ne : b ≠ p := ne_of_none eb hp
    rw [upd_ne ne]
    exact x12 b o hb eb
  refine q _ _ (r.call x3 (r2.sta.upd hz (nostab_at hH2 nostab_dK))) x3.loc (is_dictD nD e4 lz (k2.evx fun b o eb => ?_))
  obtain ⟨nb, eb⟩ := hide_get.mp eb
  have ne : b ≠ p := fun w => nb (.inr (by rw [w]; simp))
  exact .inr ⟨o, hide_get.mpr ⟨fun w => nb (w.imp id fun w => List.mem_append_left _ w), by rw [upd_ne ne]; exact eb⟩, .same o⟩
/-- {} -/
def mDnew : ME := fun env k => k (.dct [] []) env
theorem de_dnew : DE X Φ (.Dict [] [] pos) mDnew := by
  refine ⟨fun env k k' hk q => hk _ _ q, pe_imp pe_dnewK fun σ H Q ⟨z, S0, H0, ps, env, r, q⟩ => ?_⟩
  intro p hp
  refine q _ _ (r.same (grow_upd hp)) (.of_same (grow_upd hp).same) (.dct (xs := []) (hide_upd r.dom hp) rfl (by simp [frKeys]) .nil)
/-- d[k] -/
def lookD (ks : List Key) (ds : List D) (k : Key) : Option D := ((ks.zip ds).find? fun p => decide (p.1 = k)).map (·.2)
def dgW : W2 := fun x y k => match x, keyD y with
  | .frm f n, some (.inr s) => if s = "fields" then k f else if s = "numbers" then k n else s = "marks" ∧ ∀ m : Int, 0 ≤ m → k (.int m)
  | .fra f n, some (.inr s) => if s = "fields" then k f else s = "numbers" ∧ k n
  | .dct ks ds, some key => ∃ d, lookD ks ds key = some d ∧ k d
  | _, _ => False
theorem lookD_val {z : Z} {K : PySem.W.Frag} {G : Hp} {k : Key} : ∀ {ks : List Key} {xs : List V} {ds : List D} {d : D}, IsA z K G xs ds → ks.length = xs.length → lookD ks ds k = some d → ∃ v, valV (ks.zip xs) k = some v ∧ Is z K G v d
  | [], _, _, d, _, _, e => by simp [lookD] at e
  | a :: ks, [], _, d, i, l, e => by simp at l
  | a :: ks, x :: xs, _, d, .cons h t, l, e => by
    unfold lookD at e
    rw [List.zip_cons_cons, List.find?_cons] at e
    by_cases ak : a = k
    · simp [ak] at e
      subst e
      exact ⟨x, by simp [valV, ak], h⟩
    · simp [ak] at e
      obtain ⟨v, e1, i1⟩ := lookD_val t (by simpa using l) (k := k) (d := d) (by unfold lookD; simpa using e)
      refine ⟨v, ?_, i1⟩
      unfold valV at e1 ⊢
      rw [List.zip_cons_cons, List.find?_cons]
      simp [ak]
      simpa using e1
theorem keyD_kV {z : Z} {K : PySem.W.Frag} {G : Hp} {v : V} {d : D} {k : Key} (h : Is z K G v d) (e : keyD d = some k) : v = kV k := by
  cases d <;> simp [keyD] at e <;> subst e <;> cases h <;> rfl
theorem str_ne1 : ¬ ((.inr "fields" : Key) = .inr "numbers") := by decide +kernel
theorem str_ne2 : ¬ ((.inr "fields" : Key) = .inr "marks") := by decide +kernel
theorem str_ne3 : ¬ ((.inr "numbers" : Key) = .inr "marks") := by decide +kernel
theorem de_dget {o i : Expr} {mo mi : ME} (hu : X.A.units + 1 < cLine) (ho : DE X Φ o mo) (hi : DE X Φ i mi) (hs : NoSl i) : DE X Φ (.Subscript o i pos) (mBin dgW mo mi) := by
  have hw : ∀ x y {k k' : KD}, (∀ d, k d → k' d) → dgW x y k → dgW x y k' := fun x y k k' h q => by
    revert q
    unfold dgW
    split
    · split
      · exact fun q => h _ q
      · split
        · exact fun q => h _ q
        · exact fun q => ⟨q.1, fun m hm => h _ (q.2 m hm)⟩
    · split
      · exact fun q => h _ q
      · exact fun q => ⟨q.1, h _ q.2⟩
    · exact fun ⟨d, e, q⟩ => ⟨d, e, h _ q⟩
    · exact fun q => q.elim
  refine ⟨mBin_mono hw ho.mono hi.mono, pe_imp (pe_dget hu ho.pe hi.pe hs) fun σ H Q ⟨z, S0, H0, ps, env, r, q⟩ => ⟨z, S0, H0, ps, env, r, ho.mono env (fun x e1 q => ?_) q⟩⟩
  intro v H1 r1 x1 i1
  refine ⟨z, S0, H0, ps, e1, r1, hi.mono e1 (fun y e2 q => ?_) q⟩
  intro u H2 r2 x2 i2
  have i1' := r1.isK i1 x2
  revert q
  unfold dgW
  split
  · rename_i f n s es
    intro q
    cases keyD_kV i2 es
    cases i1' with
    | frm g hm jf jn =>
      have g' := hide_same _ _ g
      split at q
      · rename_i e; subst e
        exact ⟨_, _, rfl, .inl ⟨_, _, .inl g', rfl, (valV_pos (k := (.inr "fields" : Key)) rfl).symm⟩, q _ H2 r2 (x1.trans x2) jf⟩
      · split at q
        · rename_i _ e; subst e
          exact ⟨_, _, rfl, .inl ⟨_, _, .inl g', rfl, by rw [valV_neg str_ne1, valV_pos rfl]⟩, q _ H2 r2 (x1.trans x2) jn⟩
        · obtain ⟨e, q⟩ := q
          subst e
          exact ⟨_, _, rfl, .inl ⟨_, _, .inl g', rfl, by rw [valV_neg str_ne2, valV_neg str_ne3, valV_pos rfl]⟩, q _ hm _ H2 r2 (x1.trans x2) (.int _)⟩
  · rename_i f n s es
    intro q
    cases keyD_kV i2 es
    cases i1' with
    | fra g jf jn =>
      obtain ⟨m, _, g', _⟩ := r2.sta.fr _ _ _ g
      split at q
      · rename_i e; subst e
        exact ⟨_, _, rfl, .inl ⟨_, _, .inl g', rfl, (valV_pos (k := (.inr "fields" : Key)) rfl).symm⟩, q _ H2 r2 (x1.trans x2) jf⟩
      · obtain ⟨e, q⟩ := q
        subst e
        exact ⟨_, _, rfl, .inl ⟨_, _, .inl g', rfl, by rw [valV_neg str_ne1, valV_pos rfl]⟩, q _ H2 r2 (x1.trans x2) jn⟩
  · rename_i ks ds key es
    rintro ⟨d, e, q⟩
    cases keyD_kV i2 es
    cases i1' with
    | dct g l _ t =>
      obtain ⟨v', e1, iv⟩ := lookD_val t l e
      exact ⟨_, _, rfl, .inl ⟨_, _, .inl (hide_same _ _ g), rfl, e1.symm⟩, q _ H2 r2 (x1.trans x2) iv⟩
  · exact fun q => q.elim
/-- frame["marks"] = e -/
def putW (x y v : D) (P : Prop) : Prop := ∃ f n m, x = .frm f n ∧ y = .str "marks" ∧ v = .int m ∧ 0 ≤ m ∧ P
def mDput (mo mi mv : ME) : MS := fun env k => mv env fun v e1 => mo e1 fun x e2 => mi e2 fun y e3 => putW x y v (k.nx e3)
theorem ds_dput {o i e : Expr} {mo mi mv : ME} {pos' : Pos} (hu : X.A.units + 1 < cLine) (ho : DE X Φ o mo) (hi : DE X Φ i mi) (hv : DE X Φ e mv) (hs : swapsWith e (some (.Subscript o i pos')) pos.line X.env = pure false := by rfl) :
    DS X Φ (.Assign [.Subscript o i pos'] e pos) (mDput mo mi mv) := by
  refine ⟨fun env k k' h q => hv.mono env (fun v e1 q => ho.mono e1 (fun x e2 q => hi.mono e2 (fun y e3 q => ?_) q) q) q, ps_imp (ps_dput hu ho.pe hi.pe hv.pe hs) fun E σ H ⟨z, S0, H0, ps, env, r, q⟩ => ⟨z, S0, H0, ps, env, r, hv.mono env (fun v e1 q => ?_) q⟩⟩
  · obtain ⟨f, n, m, h1, h2, h3, h4, q⟩ := q
    exact ⟨f, n, m, h1, h2, h3, h4, h.nx _ q⟩
  · intro v' H1 r1 x1 i1
    refine ⟨z, S0, H0, ps, e1, r1, ho.mono e1 (fun x e2 q => ?_) q⟩
    intro u H2 r2 x2 i2
    refine ⟨z, S0, H0, ps, e2, r2, hi.mono e2 (fun y e3 q => ?_) q⟩
    intro t H3 r3 x3 i3
    obtain ⟨f, n, m, rfl, rfl, rfl, hm, q⟩ := q
    · cases i1; cases i3
      cases r2.isK i2 x3 with
      | @frm a vf vn m0 f n g hm0 jf jn =>
        obtain ⟨ng, g'⟩ := hide_get.mp g
        have pe : putK [((.inr "fields" : Key), vf), (.inr "numbers", vn), (.inr "marks", V.int m0)] (.inr "marks") (V.int m) = [((.inr "fields" : Key), vf), (.inr "numbers", vn), (.inr "marks", V.int m)] := by
          unfold putK
          rw [if_pos (by simp)]
          simp only [List.map_cons, List.map_nil, if_neg str_ne2, if_neg str_ne3, if_pos]
        refine ⟨a, L2.upd H3 a (frO vf vn m), rfl, .inl ⟨_, .inr "marks", g', rfl, by show 3 < sizeLine; decide, ?_⟩, ?_⟩
        · rw [pe]; rfl
        have ext : Ext (Zs z) (Sx S0 ps) H3 (L2.upd H3 a (frO vf vn m)) := fun b o hb eb => by
          by_cases hba : b = a
          · subst hba
            rw [g'] at eb
            cases eb
            exact ⟨_, upd_same, .frm _ _ _ _ hm, fun w => absurd w ng⟩
          · rw [upd_ne hba]; exact ⟨o, eb, .same o, fun _ _ => rfl⟩
        have nz : ¬ Zt z a := fun w => by
          rcases w with ⟨w, e, k⟩ | k | ⟨qq, k⟩
          · obtain ⟨_, _, ws, cs, h1, h2, h3, _⟩ := (r3.sta.dr w e).ex
            rcases k with rfl | rfl | rfl
            · exact ne_of g' h1 (by intro w; unfold frO at w; cases w) rfl
            · exact ne_of g' h2 (by intro w; unfold frO at w; cases w) rfl
            · exact ne_of g' h3 (by intro w; unfold frO at w; cases w) rfl
          · exact ng (.inl (r3.zf _ k))
          · exact ng (.inl (r3.zs _ (.inr (.inr ⟨qq, k⟩))))
        have st : Sta z e3.cr e3.mr (L2.upd H3 a (frO vf vn m)) := r3.sta.upd nz (nostab_at g' nostab_dK)
        exact q _ _ _ (r3.call ext st) (.of_ext (x1.trans (x2.trans (x3.trans ext.loc))))
end
end DL
namespace DL
open PySem L2 PySem.Spec PyProof.Rows
/-! ### set(xs) of ints and texts -/
variable {κ : Type} [DecidableEq κ]
/-- what is met first, among the first i -/
def met (val : Nat → κ) : Nat → List κ
  | 0 => []
  | i + 1 => if val i ∈ met val i then met val i else met val i ++ [val i]
theorem met_len (val : Nat → κ) : ∀ i, (met val i).length ≤ i
  | 0 => Nat.le_refl _
  | i + 1 => by
    have ih := met_len val i
    unfold met
    split
    · omega
    · rw [List.length_append]; simp; omega
abbrev setO0 (led : Bool) : Obj := { cls := .type "set", dict := none, data := .set #[] 0 (.fresh 0 0 led) }
section
variable {prog : Program} {w : World} {A : Around} {R : Result → Shared → Prop} {I : Addr} {fp wr : List Addr} {G : Array GenState → Array GenState → Prop} {n : Nat} {P : Nat → Value → Prop} {St : Nat → Shared → Prop}
theorem loopK {knd : KeyKind prog w κ} (W : WalksS prog w A.in1 I fp wr G n P St) (S : Addr) (hSf : S ∉ fp) (val : Nat → κ) (hval : ∀ i v, P i v → knd.is (val i) v = true ∧ v.scannable = true) (hb : n + 1 < scanBound) :
    ∀ (k i : Nat) (s : Shared), n - i = k → i ≤ n → St i s → s.heap.SetOf knd S (fun x => decide (x ∈ met val i)) (met val i).length →
      (∀ s', Moved (S :: wr) G s s' → s'.heap.SetOf knd S (fun x => decide (x ∈ met val n)) (met val n).length → R (.ok (.ret .none)) s') → codeAny (model prog w) A (.builtin "set.update.loop" ⟨[.ref S, .ref I], []⟩) R s := by
  have nw : S ∉ wr := fun h => hSf (W.sub _ h)
  have sub : ∀ b ∈ wr, b ∈ S :: wr := fun b => List.mem_cons_of_mem _
  have keep : ∀ {j : Nat} {s s' : Shared}, Moved wr G s s' → s.heap.SetOf knd S (fun x => decide (x ∈ met val j)) (met val j).length → s'.heap.SetOf knd S (fun x => decide (x ∈ met val j)) (met val j).length :=
    fun hm ⟨o, es, ep, t, ho, rest⟩ => ⟨o, es, ep, t, hm.heap S _ nw ho, rest⟩
  intro k
  induction k with
  | zero =>
    intro i s hk hi hst hS hR
    obtain rfl : i = n := by omega
    refine codeAny_builtin PyProof.Rows.F.entry_set_update_loop ?_
    rw [Around.under_plainId PyProof.Rows.F.plain_set_update_loop _]
    show wpAny _ A.in1 (pyNext (.ref I) >>= _) _ _ s
    exact wpAny_bind (W.done s _ _ hst fun s' hm => wpAny_pure (hR s' (hm.mono sub) (keep hm hS)))
  | succ k ih =>
    intro i s hk hi hst hS hR
    have lt : i < n := by omega
    refine codeAny_builtin PyProof.Rows.F.entry_set_update_loop ?_
    rw [Around.under_plainId PyProof.Rows.F.plain_set_update_loop _]
    show wpAny _ A.in1 (pyNext (.ref I) >>= _) _ _ s
    refine wpAny_bind (W.item i s _ _ lt hst fun v s' hP hst' hm => ?_)
    obtain ⟨iv, sc⟩ := hval i v hP
    show wpAny _ A.in1 (holding [v] (setAdd S v) >>= _) _ _ s'
    refine wpAny_bind (wpAny_holding ?_)
    unfold setAdd
    refine wpAny_holding (wpAny_bind (knd.pyHash (k := val i) iv ?_))
    have room : (met val i).length + 1 < scanBound := by have := met_len val i; omega
    refine wpAny_setAddHashed_of (knd := knd) (s := { s' with toks := s'.toks + 1 }) iv sc (show s'.heap.SetOf knd S _ _ from keep hm hS) room fun h' hsb hS2 => ?_
    have hSi : h'.SetOf knd S (fun x => decide (x ∈ met val (i + 1))) (met val (i + 1)).length := by
      have e1 : (fun j => decide (j ∈ met val i) || decide (j = val i)) = fun x => decide (x ∈ met val (i + 1)) := by
        funext x
        by_cases hx : val i ∈ met val i
        · have : met val (i + 1) = met val i := by rw [met, if_pos hx]
          rw [this]
          by_cases ex : x = val i
          · subst ex; simp [hx]
          · simp [ex]
        · have : met val (i + 1) = met val i ++ [val i] := by rw [met, if_neg hx]
          rw [this]; simp
      have e2 : (if decide (val i ∈ met val i) = true then (met val i).length else (met val i).length + 1) = (met val (i + 1)).length := by
        by_cases hx : val i ∈ met val i
        · rw [met, if_pos hx]; simp [hx]
        · rw [met, if_neg hx]; simp [hx]
      rw [e1, e2] at hS2
      exact hS2
    have off : ∀ b, b ≠ S → h'.get? b = s'.heap.get? b := fun b hb => hsb.2 b hb
    refine wpAny_pure ⟨plainId_quiet PyProof.Rows.F.plain_set_update_loop _, ih (i + 1) _ (by omega) lt (W.frame _ s' _ _ hst' (Nat.le_succ _) fun b hb o e => ?_) hSi fun s'' hm'' hS'' => hR s'' (Moved.trans W.gtrans ((hm.mono sub).then_heap (Nat.le_succ _) fun b o hb e => ?_) hm'') hS''⟩
    · rw [off b fun h => hSf (h ▸ hb)]; exact e
    · rw [off b fun h => hb (h ▸ List.mem_cons_self)]; exact e
end
section
variable {prog : Program} {w : World} {A : Around} {E : Value → Shared → Prop} {s : Shared}
set_option maxHeartbeats 16000000 in
/-- set(l), l a list or a tuple -/
theorem call_setK {knd : KeyKind prog w κ} {l : Addr} {items : Array Value} {T : String} {val : Nat → κ} {Q : Value → Shared → Prop} (hh : A.handled = none) (hT0 : (T = "list" ∧ s.heap.IsList l items) ∨ (T = "tuple" ∧ s.heap.IsTuple l items))
    (hval : ∀ (i : Nat) (v : Value), items[i]? = some v → knd.is (val i) v = true ∧ v.scannable = true) (hb : items.size + 1 < scanBound)
    (h : ∀ (h' : Heap) (tk : Nat), h'.SetOf knd s.heap.objs.size (fun x => decide (x ∈ met val items.size)) (met val items.size).length → (∀ b o, b < s.heap.objs.size → s.heap.get? b = some o → h'.get? b = some o) → Q (.ref s.heap.objs.size) { s with heap := h', toks := tk }) :
    wpAny (model prog w) A (call (.type "set") [.ref l]) Q E s := by
  obtain ⟨c, tl, hmro⟩ := PySem.F.called_set.mro
  have c1 := PySem.F.called_set.made; have c2 := PySem.F.called_set.sub; have c3 := PySem.F.called_set.notType; have c4 := PySem.F.called_set.canCreate
  have c5 := PySem.F.typeCall_set_1 (.ref l)
  refine wpAny_call (codeAny_of_tree ?_); show wpAny _ _ (callAny (.type "set") _) _ _ _; refine wpAny_pure ⟨Code.quiet_builtin _ (by decide +kernel), codeAny_builtin PySem.F.entry_type_call ?_⟩
  rw [Around.under_plain (weight_type_call_type "set" [.ref l] []) (by rfl)]
  repeat (any_goals first | assumption | wp_step)
  refine codeAny_mono (code_set_new_1 (.ref l) (E := E) (Q₁ := fun obj s₁ => ∃ led : Bool, obj = .ref s.heap.objs.size ∧ s₁ = { s with heap := s.heap.push (setO0 led) }) (fun led => ⟨led, rfl, rfl⟩)) fun r s₁ hr => ?_
  match r, hr with
  | .error e, hr => exact hr
  | .ok .next, hr => exact hr.elim
  | .ok .brk, hr => exact hr.elim
  | .ok .cont, hr => exact hr.elim
  | .ok (.ret obj), hr =>
    obtain ⟨led, rfl, rfl⟩ := hr
    have hS : (s.heap.push (setO0 led)).get? s.heap.objs.size = some (setO0 led) := Heap.get?_push_size _ rfl
    have hT : Shared.TypeIs { s with heap := s.heap.push (setO0 led) } (.ref s.heap.objs.size) "set" := ⟨_, hS, rfl⟩
    have i1 := PySem.F.called_set.init.lookup; have i2 := PySem.F.called_set.init.bind (.ref s.heap.objs.size)
    repeat (any_goals first | assumption | wp_step)
    refine codeAny_mono (codeAny_call_builtin (R := wants (fun r s₂ => r = .none ∧ ∃ h' tk, s₂ = { s with heap := h', toks := tk } ∧ h'.SetOf knd s.heap.objs.size (fun x => decide (x ∈ met val items.size)) (met val items.size).length ∧ ∀ b o, b < s.heap.objs.size → s.heap.get? b = some o → h'.get? b = some o) E)
      PySem.F.called_set.init.plain PySem.F.entry_set_init (check_set_init_1 hT ?_)) fun r₂ s₂ hr₂ => ?_
    · have lS : l < s.heap.objs.size := hT0.elim (fun h => by obtain ⟨_, o, e, _⟩ := h; exact Heap.lt_size e) fun h => by obtain ⟨_, o, e, _⟩ := h; exact Heap.lt_size e
      have neI : l ≠ (s.heap.push (setO0 led)).objs.size := by rw [Heap.size_push]; exact Nat.ne_of_lt (Nat.lt_succ_of_lt lS)
      have nf : s.heap.objs.size ∉ [(s.heap.push (setO0 led)).objs.size, l] := by
        rw [Heap.size_push]
        intro w
        simp only [List.mem_cons, List.not_mem_nil, or_false] at w
        exact w.elim (Nat.ne_of_lt (Nat.lt_succ_self _)) (Nat.ne_of_gt lS)
      have hh3 : A.in1.in1.in1.handled = none := hh
      have last : ∀ (o : Obj) (s' : Shared), Moved (s.heap.objs.size :: [(s.heap.push (setO0 led)).objs.size]) (fun a b => b = a) { s with heap := (s.heap.push (setO0 led)).push o } s' → ∀ b u, b < s.heap.objs.size → s.heap.get? b = some u → s'.heap.get? b = some u := fun o s' hm b u hb e => by
        refine hm.heap b u (fun w => ?_) (Heap.get?_push_of_some _ (Heap.get?_push_of_some _ e))
        rw [Heap.size_push] at w
        simp only [List.mem_cons, List.not_mem_nil, or_false] at w
        exact w.elim (Nat.ne_of_lt hb) (Nat.ne_of_lt (Nat.lt_succ_of_lt hb))
      have first0 : ∀ o : Obj, ((s.heap.push (setO0 led)).push o).SetOf knd s.heap.objs.size (fun x => decide (x ∈ met val 0)) (met val 0).length := fun o =>
        PyProof.Rows.SetOf_congr ((PyProof.Rows.setObjOf_fresh (knd := knd) led).setOf (Heap.get?_push_of_some _ hS) (by unfold scanBound; omega)) (fun _ => by simp [met]) rfl
      rcases hT0 with ⟨_, hl⟩ | ⟨_, hl⟩
      · obtain ⟨⟨ocls, odict, odata, oslots⟩, hol, hcl, nl, hdl⟩ := id hl
        simp only at hcl hdl
        subst hcl hdl
        have ol : (s.heap.push (setO0 led)).get? l = some { cls := .type "list", dict := odict, data := .seq items nl, slots := oslots } := Heap.get?_push_of_some _ hol
        have t1 := PySem.F.sub_list_set; have t2 := PySem.F.sub_list_frozenset
        have t3 : (Value.type "list" == Value.type "dict") = false := by decide
        have hl1 : (s.heap.push (setO0 led)).IsList l items := ⟨_, ol, rfl, nl, rfl⟩
        unfold Builtin.«set.__init__» noKeywords Builtin.Frozenset.updateFrom; generalize hPI : pyIter = PI; wp_walk; subst hPI
        refine wpAny_pyIter_list hl1 (wpAny_bind (wpAny_runValue ?_))
        refine loopK (knd := knd) ((Walks.list hh3 _ l neI items).toS) s.heap.objs.size nf val hval hb (items.size - 0) 0 _ (by omega) (Nat.zero_le _) ⟨⟨_, Heap.get?_push_size _ rfl, rfl, rfl⟩, hl1.push _⟩ (first0 _) fun s' hm hS' => ?_
        have k4 := last _ s' hm
        obtain ⟨h', g', d', tk', os'⟩ := s'
        cases (hm.gens : g' = s.gens); cases (hm.drawn : d' = s.drawn); cases (hm.os : os' = s.os)
        exact wpAny_pure (wpAny_pure ⟨rfl, h', tk', rfl, hS', k4⟩)
      · obtain ⟨⟨ocls, odict, odata, oslots⟩, hol, hcl, nl, hdl⟩ := id hl
        simp only at hcl hdl
        subst hcl hdl
        have ol : (s.heap.push (setO0 led)).get? l = some { cls := .type "tuple", dict := odict, data := .seq items nl, slots := oslots } := Heap.get?_push_of_some _ hol
        have t1 := PySem.F.sub_tuple_set; have t2 := PySem.F.sub_tuple_frozenset
        have t3 : (Value.type "tuple" == Value.type "dict") = false := by decide
        have hl1 : (s.heap.push (setO0 led)).IsTuple l items := ⟨_, ol, rfl, nl, rfl⟩
        unfold Builtin.«set.__init__» noKeywords Builtin.Frozenset.updateFrom; generalize hPI : pyIter = PI; wp_walk; subst hPI
        refine wpAny_pyIter_tuple hl1 (wpAny_bind (wpAny_runValue ?_))
        refine loopK (knd := knd) ((Walks.tuple hh3 _ l neI items).toS) s.heap.objs.size nf val hval hb (items.size - 0) 0 _ (by omega) (Nat.zero_le _) ⟨⟨_, Heap.get?_push_size _ rfl, rfl, rfl⟩, hl1.push _⟩ (first0 _) fun s' hm hS' => ?_
        have k4 := last _ s' hm
        obtain ⟨h', g', d', tk', os'⟩ := s'
        cases (hm.gens : g' = s.gens); cases (hm.drawn : d' = s.drawn); cases (hm.os : os' = s.os)
        exact wpAny_pure (wpAny_pure ⟨rfl, h', tk', rfl, hS', k4⟩)
    · match r₂, hr₂ with
      | .error e, hr₂ => exact hr₂
      | .ok .next, hr₂ => exact hr₂.elim
      | .ok .brk, hr₂ => exact hr₂.elim
      | .ok .cont, hr₂ => exact hr₂.elim
      | .ok (.ret r), hr₂ =>
        obtain ⟨rfl, h', tk, rfl, hS', hk'⟩ := hr₂
        repeat (any_goals first | assumption | wp_step)
        exact h _ _ hS' hk'
end
end DL
namespace DL
open PySem L2 PySem.Spec PyProof.Rows
section
variable {X : Cx} {Φ : Phi} {pos : Pos}
/-! ### len(set(xs)) -/
def keysOf : List D → Option (List Key)
  | [] => some []
  | d :: ds => match keyD d, keysOf ds with
    | some a, some b => some (a :: b)
    | _, _ => none
theorem keysOf_is {z : Z} {K : PySem.W.Frag} {G : Hp} : ∀ {vs : List V} {ds : List D} {ks : List Key}, IsA z K G vs ds → keysOf ds = some ks → vs = ks.map kV
  | _, _, ks, .nil, e => by simp [keysOf] at e; subst e; rfl
  | _, _, ks, .cons (d := d) (ds := ds) h t, e => by
    unfold keysOf at e
    cases e1 : keyD d with
    | none => rw [e1] at e; simp at e
    | some a =>
      cases e2 : keysOf ds with
      | none => rw [e1, e2] at e; simp at e
      | some b =>
        rw [e1, e2] at e
        simp at e
        subst e
        rw [List.map_cons, keyD_kV h e1, keysOf_is t e2]
/-- how many different ones -/
def nDiff (ks : List Key) : Nat := (met (fun i => ks.getD i (.inl 0)) ks.length).length
theorem met_take {κ : Type} [DecidableEq κ] {ks : List κ} {d : κ} : ∀ i, i ≤ ks.length → (∀ x, x ∈ met (fun i => ks.getD i d) i ↔ x ∈ ks.take i) ∧ ((met (fun i => ks.getD i d) i).length = i ↔ (ks.take i).Nodup)
  | 0, _ => by simp [met]
  | i + 1, h => by
    obtain ⟨i1, i2⟩ := met_take (ks := ks) (d := d) i (by omega)
    have lt : i < ks.length := h
    have eg : ks.getD i d = ks[i] := by rw [List.getD_eq_getElem?_getD, List.getElem?_eq_getElem lt]; rfl
    have et : ks.take (i + 1) = ks.take i ++ [ks[i]] := by rw [List.take_add_one, List.getElem?_eq_getElem lt]; rfl
    have ml := met_len (fun i => ks.getD i d) i
    unfold met
    rw [eg, et]
    by_cases hm : ks[i] ∈ met (fun i => ks.getD i d) i
    · rw [if_pos hm]
      have hm2 := (i1 _).mp hm
      refine ⟨fun x => ?_, ?_⟩
      · rw [i1 x]
        constructor
        · intro w; exact List.mem_append_left _ w
        · intro w
          rcases List.mem_append.mp w with w | w
          · exact w
          · rw [List.mem_singleton.mp w]; exact hm2
      · constructor
        · intro w; omega
        · intro w
          rw [List.nodup_append] at w
          exact absurd rfl (w.2.2 _ hm2 _ (by simp))
    · rw [if_neg hm]
      have hm2 : ks[i] ∉ ks.take i := fun w => hm ((i1 _).mpr w)
      refine ⟨fun x => ?_, ?_⟩
      · rw [List.mem_append, List.mem_append, i1 x]
      · rw [List.length_append, List.nodup_append]
        simp only [List.length_singleton]
        constructor
        · intro w
          refine ⟨i2.mp (by omega), by simp, fun a ha b hb e => ?_⟩
          rw [List.mem_singleton] at hb
          subst hb e
          exact hm2 ha
        · intro w
          have := i2.mpr w.1
          omega
theorem nDiff_iff (ks : List Key) : nDiff ks = ks.length ↔ ks.Nodup := by
  have h := (met_take (ks := ks) (d := (.inl 0 : Key)) ks.length (Nat.le_refl _)).2
  rw [List.take_length] at h
  exact h
def lsW : W1 := fun x k => match x with
  | .lst ds => ∃ ks, keysOf ds = some ks ∧ ks.length + 1 < scanBound ∧ k (.int (nDiff ks))
  | .tup ds => ∃ ks, keysOf ds = some ks ∧ ks.length + 1 < scanBound ∧ k (.int (nDiff ks))
  | _ => False
theorem len_set_run {pins : List (Addr × Obj)} {σ : L2.St} {H : Hp} {s : Shared} {l : Addr} {ks : List Key} {Q : VK} {ex : Expr} (I : Inv X pins σ H s) (hc : X.calm = true) (hq : SqL X.K H l (ks.map kV) ∨ SqT X.K H l (ks.map kV)) (hb : ks.length + 1 < scanBound) (q : Q (.int (nDiff ks)) H) :
    wpAny (model X.prog X.w) X.A (call (.type "set") [.ref l]) (fun v s₁ => wpAny (model X.prog X.w) X.A (call (.builtin "len") [v]) (EP X pins σ Q) X.xe s₁) X.xe s := by
  have key : ∀ (its : List Value) (T : String), Vals (ks.map kV) its → (T = "list" ∧ s.heap.IsList l its.toArray) ∨ (T = "tuple" ∧ s.heap.IsTuple l its.toArray) →
      wpAny (model X.prog X.w) X.A (call (.type "set") [.ref l]) (fun v s₁ => wpAny (model X.prog X.w) X.A (call (.builtin "len") [v]) (EP X pins σ Q) X.xe s₁) X.xe s := fun its T r hT => by
    have sz : its.toArray.size = ks.length := by rw [List.size_toArray, ← r.length, List.length_map]
    refine call_setK (knd := mixKind X.prog X.w) (val := fun i => ks.getD i (.inl 0)) (I.ok.hd hc) hT (fun i v hv => ?_) (by rw [sz]; exact hb) fun h' tk hS hk => ?_
    · have hv' : its[i]? = some v := by simpa using hv
      have hlt : i < ks.length := by
        have := (List.getElem?_eq_some_iff.mp hv').1
        rw [← r.length, List.length_map] at this
        exact this
      obtain ⟨u, hu, ru⟩ := r.get (i := i) (x := kV ks[i]) (by rw [List.getElem?_map, List.getElem?_eq_getElem hlt]; rfl)
      rw [hv'] at hu
      cases hu
      have eg : ks.getD i (.inl 0) = ks[i] := by rw [List.getD_eq_getElem?_getD, List.getElem?_eq_getElem hlt]; rfl
      rw [eg]
      refine ⟨kV_is ru, ?_⟩
      cases ec : ks[i] with
      | inl c => rw [ec] at ru; obtain ⟨t, rfl⟩ := ru; rfl
      | inr c => rw [ec] at ru; obtain ⟨t, rfl⟩ := ru; rfl
    · rw [sz] at hS
      obtain ⟨o, es, ep, t, ho, hex, hd, _, _, _, hf, hn⟩ := hS
      have I2 : Inv X pins σ H { s with heap := h', toks := tk } := I.kept fun b o e => hk b o (Heap.lt_size e) e
      have mlen := met_len (fun i => ks.getD i (.inl 0 : Key)) ks.length
      refine call_len_set ho hex hd hf (by rw [hn]; unfold scanBound at hb; omega) ⟨.int (nDiff ks), H, I2.tok _, ⟨_, by rw [hn]; rfl⟩, q⟩
  rcases hq with hq | hq
  · obtain ⟨its, r, pl, _⟩ := I.list hq
    exact key its _ r (.inl ⟨rfl, pl.isList⟩)
  · obtain ⟨its, r, pl, _⟩ := I.tuple hq
    exact key its _ r (.inr ⟨rfl, pl⟩)
theorem de_lenset {a : Expr} {ma : ME} {p p2 q : Pos} (hm : X.mg "len" = none) (hm2 : X.mg "set" = none) (ha : DE X Φ a ma) (hg : Gl X "len" := by rfl) (hg2 : Gl X "set" := by rfl) (hc : X.calm = true := by rfl)
    (na : starEach [a] X.env = (false, eval a X.env) :: starEach [] X.env := by rfl) : DE X Φ (.Call (.Name "len" p) [.Call (.Name "set" p2) [a] [] q] [] pos) (mUn lsW ma) := by
  have hw : ∀ x {k k' : KD}, (∀ d, k d → k' d) → lsW x k → lsW x k' := fun x k k' h q => by
    revert q
    unfold lsW
    split
    · exact fun ⟨ks, e, l, q⟩ => ⟨ks, e, l, h _ q⟩
    · exact fun ⟨ks, e, l, q⟩ => ⟨ks, e, l, h _ q⟩
    · exact fun q => q.elim
  refine ⟨fun env k k' h q => ha.mono env (fun x e1 q => hw x (fun d q => h d e1 q) q) q, ⟨fun pins s σ H Q I ⟨z, S0, H0, ps, env, r, q⟩ => ?_⟩⟩
  have q2 : tD Φ X.K ma σ H fun x H1 => ∃ l ks, x = .ref l ∧ (SqL X.K H1 l (ks.map kV) ∨ SqT X.K H1 l (ks.map kV)) ∧ ks.length + 1 < scanBound ∧ Q (.int (nDiff ks)) H1 := by
    refine ⟨z, S0, H0, ps, env, r, ha.mono env (fun x e1 q => ?_) q⟩
    intro v H1 r1 x1 i1
    revert q
    unfold lsW
    split
    · rintro ⟨ks, e, l, q⟩
      cases i1 with
      | lst g i => rw [keysOf_is i e] at g; exact ⟨_, ks, rfl, .inl (SqL.of (hide_same _ _ g)), l, q _ H1 r1 x1 (.int _)⟩
    · rintro ⟨ks, e, l, q⟩
      cases i1 with
      | tup g i => rw [keysOf_is i e] at g; exact ⟨_, ks, rfl, .inr (sqT_hide g), l, q _ H1 r1 x1 (.int _)⟩
    · exact fun q => q.elim
  refine Call_ (ld_blt I hg hm PySem.boot_len (PyProof.Rows.callWith_builtin1 (PyProof.Rows.args_cons ?_ rfl) rfl rfl))
  refine Call_ (ld_blt I hg2 hm2 PyProof.Rows.boot_set (PyProof.Rows.callWith_type1 (PyProof.Rows.args_cons (thn (ha.pe.run pins s σ H _ I q2) fun v s1 ⟨x, H1, I1, r1, q1⟩ => PyProof.Rows.args_nil ?_) na) na rfl))
  obtain ⟨l, ks, rfl, h1, h2, h3⟩ := q1
  cases r1
  exact thn (len_set_run (ex := a) I1 hc h1 h2 h3) fun v s2 q3 => PyProof.Rows.args_nil q3
/-! ### sep.join(texts) -/
def joinW (a : Str) (y : D) (k : KD) : Prop := ∃ ds ys, (y = .lst ds ∨ y = .tup ds) ∧ strsOf ds = some ys ∧ (ys.map (·.length)).sum + ys.length * a.length ≤ 16777216 ∧ k (.str (Txt.join a ys))
def mJoin (mo me : ME) : ME := fun env k => mo env fun x e1 => ∃ a, x = .str a ∧ me e1 fun y e2 => joinW a y fun d => k d e2
theorem de_join {o e : Expr} {mo me : ME} {apos : Pos} (ho : DE X Φ o mo) (he : DE X Φ e me) (hs : starEach [e] X.env = [(false, eval e X.env)] := by rfl) (hbase : attributeBase o "join" X.env (eval o X.env) = eval o X.env := by rfl) (hline : (apos.endLine == pos.line) = true := by rfl) :
    DE X Φ (.Call (.Attribute o "join" apos) [e] [] pos) (mJoin mo me) := by
  refine ⟨fun env k k' h q => ho.mono env (fun x e1 ⟨a, ea, q⟩ => ⟨a, ea, he.mono e1 (fun y e2 ⟨ds, ys, w1, w2, w3, q⟩ => ⟨ds, ys, w1, w2, w3, h _ _ q⟩) q⟩) q,
    pe_imp (pe_join ho.pe he.pe hs hbase hline) fun σ H Q ⟨z, S0, H0, ps, env, r, q⟩ => ⟨z, S0, H0, ps, env, r, ho.mono env (fun x e1 q => ?_) q⟩⟩
  obtain ⟨a, rfl, q⟩ := q
  intro v H1 r1 x1 i1
  cases i1
  refine ⟨⟨a, rfl⟩, z, S0, H0, ps, e1, r1, he.mono e1 (fun y e2 q => ?_) q⟩
  obtain ⟨ds, ys, w1, w2, w3, q⟩ := q
  intro u H2 r2 x2 i2
  cases strs_eq w2
  rcases w1 with rfl | rfl
  · cases i2 with
    | lst g i => rw [i.strs] at g; exact ⟨a, _, ys, rfl, rfl, .inl (SqL.of (hide_same _ _ g)), w3, q _ H2 r2 (x1.trans x2) (.str _)⟩
  · cases i2 with
    | tup g i => rw [i.strs] at g; exact ⟨a, _, ys, rfl, rfl, .inr (sqT_hide g), w3, q _ H2 r2 (x1.trans x2) (.str _)⟩
/-! ### sorted(list) -/
def sortedW : WL := fun xs k => ∃ ds, xs = [.lst ds] ∧ ((∃ ns, intsOf ds = some ns ∧ ns.length < 64 ∧ ∀ ns' : List Int, ns'.Perm ns → ns'.Pairwise (· ≤ ·) → k (.lst (ns'.map D.int))) ∨
  ∃ ss, strsOf ds = some ss ∧ ss.length < 64 ∧ ∀ ys : List Str, ys.Perm ss → sortedS ys = true → k (.lst (ys.map D.str)))
theorem cd_sorted : CallD X (.builtin "sorted") sortedW := by
  refine ⟨fun x k k' h ⟨ds, e, q⟩ => ⟨ds, e, q.imp (fun ⟨ns, e, l, q⟩ => ⟨ns, e, l, fun a b c => h _ (q a b c)⟩) fun ⟨ns, e, l, q⟩ => ⟨ns, e, l, fun a b c => h _ (q a b c)⟩⟩, fun pins s σ H xs us Q I r ⟨z, S, ds, hS, hx, q⟩ => ?_⟩
  obtain ⟨ds', rfl, q⟩ := q
  cases hx with
  | cons h t =>
    cases t
    cases h with
    | lst g i =>
      rcases q with ⟨ns, e, l, q⟩ | ⟨ns, e, l, q⟩
      · cases ints_eq e
        rw [i.ints] at g
        exact cr_sorted pins s σ H _ us Q I r ⟨_, ns, rfl, SqL.of (hide_same _ _ g), l, fun ns' p hp hw hn => q ns' hp hw _ _ (grow_upd hn) (is_lst hS hn (.of_ints _))⟩
      · cases strs_eq e
        rw [i.strs] at g
        exact cr_sortedS pins s σ H _ us Q I r ⟨_, ns, rfl, SqL.of (hide_same _ _ g), l, fun ys p hp hw hn => q ys hp hw _ _ (grow_upd hn) (is_lst hS hn (.of_strs _))⟩
end
end DL
namespace DL
open PySem L2 PySem.Spec PyProof.Rows
/-! ### the state of all draws -/
def stK (b c : Addr) (r t : Int) : List (Key × V) := [(.inr "wide", .ref b), (.inr "cells", .ref c), (.inr "rest", .int r), (.inr "turn", .int t)]
theorem k_wc : ¬ ((.inr "wide" : Key) = .inr "cells") := by decide +kernel
theorem k_wr : ¬ ((.inr "wide" : Key) = .inr "rest") := by decide +kernel
theorem k_wt : ¬ ((.inr "wide" : Key) = .inr "turn") := by decide +kernel
theorem k_cr : ¬ ((.inr "cells" : Key) = .inr "rest") := by decide +kernel
theorem k_ct : ¬ ((.inr "cells" : Key) = .inr "turn") := by decide +kernel
theorem k_rt : ¬ ((.inr "rest" : Key) = .inr "turn") := by decide +kernel
theorem v_wide (b c : Addr) (r t : Int) : valV (stK b c r t) (.inr "wide") = some (.ref b) := valV_pos rfl
theorem v_cells (b c : Addr) (r t : Int) : valV (stK b c r t) (.inr "cells") = some (.ref c) := by unfold stK; rw [valV_neg k_wc, valV_pos rfl]
theorem v_rest (b c : Addr) (r t : Int) : valV (stK b c r t) (.inr "rest") = some (.int r) := by unfold stK; rw [valV_neg k_wr, valV_neg k_cr, valV_pos rfl]
theorem v_turn (b c : Addr) (r t : Int) : valV (stK b c r t) (.inr "turn") = some (.int t) := by unfold stK; rw [valV_neg k_wt, valV_neg k_ct, valV_neg k_rt, valV_pos rfl]
theorem p_rest (b c : Addr) (r t y : Int) : putK (stK b c r t) (.inr "rest") (.int y) = stK b c y t := by
  unfold putK stK
  rw [if_pos (by simp)]
  simp only [List.map_cons, List.map_nil, if_neg k_wr, if_neg k_cr, if_neg (fun e => k_rt (Eq.symm e)), if_pos]
theorem p_turn (b c : Addr) (r t y : Int) : putK (stK b c r t) (.inr "turn") (.int y) = stK b c r y := by
  unfold putK stK
  rw [if_pos (by simp)]
  simp only [List.map_cons, List.map_nil, if_neg k_wt, if_neg k_ct, if_neg k_rt, if_pos]
theorem stK_len (b c : Addr) (r t : Int) : (stK b c r t).length < sizeLine := by show 4 < sizeLine; decide
/-- no new instance -/
def NoIns (H H' : Hp) : Prop := ∀ p C dx fs, H' p = some (.ins C dx fs) → H p = some (.ins C dx fs)
theorem NoIns.refl (H : Hp) : NoIns H H := fun _ _ _ _ h => h
theorem NoIns.trans {H H1 H2 : Hp} (a : NoIns H H1) (b : NoIns H1 H2) : NoIns H H2 := fun p C dx fs e => a p C dx fs (b p C dx fs e)
theorem NoIns.upd {H : Hp} {a : Addr} {o : HO} (ho : ∀ C dx fs, o ≠ .ins C dx fs := by (intro _ _ _ w; cases w)) : NoIns H (L2.upd H a o) := fun p C dx fs e => by
  by_cases hb : p = a
  · subst hb; rw [upd_same] at e; exact absurd (Option.some.inj e) (ho _ _ _)
  · rw [upd_ne hb] at e; exact e
/-- the heap but for the state's dict -/
def But (a : Addr) (H H' : Hp) : Prop := (∀ b o, b ≠ a → H b = some o → H' b = some o) ∧ NoIns H H'
theorem But.refl (a : Addr) (H : Hp) : But a H H := ⟨fun _ _ _ e => e, .refl H⟩
theorem But.trans {a : Addr} {H H1 H2 : Hp} (h : But a H H1) (k : But a H1 H2) : But a H H2 := ⟨fun b o n e => k.1 b o n (h.1 b o n e), h.2.trans k.2⟩
theorem But.of_same {a : Addr} {H H1 : Hp} (h : Grow H H1) : But a H H1 := ⟨fun b o _ e => h.same b o e, h.ins⟩
theorem But.upd {a : Addr} {H : Hp} {o : HO} (ho : ∀ C dx fs, o ≠ .ins C dx fs := by (intro _ _ _ w; cases w)) : But a H (L2.upd H a o) := ⟨fun b u n e => by rw [upd_ne n]; exact e, .upd ho⟩
def spMixed : Sp := fun vs H Q _ => ∃ (a b c : Addr) (r t : Int) (cs : List Int), vs = [.ref a] ∧ H a = some (.dK (stK b c r t)) ∧ H c = some (.lst (cs.map V.int)) ∧ 0 ≤ t ∧ t < 2 ^ 40 ∧ (∀ x ∈ cs, 0 ≤ x ∧ x < 2 ^ 31) ∧
  ∀ (v : Int) (H' : Hp), 0 ≤ v → H' a = some (.dK (stK b c r (t + 1))) → But a H H' → Q (.int v) H'
def But2 (a b : Addr) (H H' : Hp) : Prop := (∀ p o, p ≠ a → p ≠ b → H p = some o → H' p = some o) ∧ NoIns H H'
def spTake : Sp := fun vs H Q _ => ∃ (q : ZA) (n : Nat) (m : Int), vs = [.ref q.a, .int m] ∧ StaOk q n H ∧ 1 ≤ n ∧ 0 < m ∧ m < 1073741824 ∧
  ∀ (v : Int) (H' : Hp), 0 ≤ v → v < m → StaOk q (n - 1) H' → But2 q.a q.b H H' → Q (.int v) H'
def spBegun (K : PySem.W.Frag) : Sp := fun vs H Q _ => ∃ (a : Addr) (ns : List Int), vs = [.ref a] ∧ SqL K H a (ns.map V.int) ∧ ns.length ≤ 63 ∧
  ∀ (q : ZA) (H' : Hp), H q.a = none → H q.b = none → H q.c = none → StaOk q (2 ^ 40) H' → Grow H H' → Q (.ref q.a) H'
/-- a def by its own promise -/
theorem FnG.ofOk {P : Program} {w : World} {K : PySem.W.Frag} {mg : Str → Option Value} {base : Heap} {k : Nat} {f : Addr} {fd : FuncData} {ps : List Str} {sp : Sp} {W : WF} (F : FnOk P w K mg base CX0 k f fd ps sp) (g : Good W ps.length)
    (h : ∀ vs H Q, spD K w W vs H Q → sp vs H Q E0) : FnG P w K mg base k f fd ps W :=
  ⟨g.1, g.2, fun A outer s H args us vs Q hr _ e0 hb r q => F.run A outer s H args us vs Q E0 hr e0 hb r (h vs H Q q)⟩
/-- a drawn number below the size -/
def W__law_take : WF := fun ds n k => ∃ m, ds = [.sta, .int m] ∧ 0 < m ∧ m < 1073741824 ∧ 1 ≤ n ∧ ∀ i : Int, 0 ≤ i → i < m → k (.int i) (n - 1)
theorem w__law_take : Good W__law_take 2 := ⟨fun ds n k k' h ⟨m, e, a, b, c, q⟩ => ⟨m, e, a, b, c, fun i x y => h _ _ (q i x y)⟩, fun ds n k ⟨m, e, _⟩ => by rw [e]; rfl⟩
theorem take_of {K : PySem.W.Frag} {w : World} : ∀ vs H Q, spD K w W__law_take vs H Q → spTake vs H Q E0 := by
  rintro vs H Q ⟨z, S0, ds, n, ⟨hw, ha⟩, st, hS, hz, i, m, rfl, h1, h2, h3, q⟩
  cases i with
  | cons i1 t1 =>
    cases t1 with
    | cons i2 t2 =>
      cases t2; cases i2
      cases i1 with
      | @sta q0 e =>
        have ne : ∀ p, q0.a ≠ p → q0.b ≠ p → ∀ H', But2 q0.a q0.b H H' → ∀ o, H p = some o → H' p = some o := fun p n1 n2 H' but o e => but.1 p o (Ne.symm n1) (Ne.symm n2) e
        refine ⟨q0, n, m, rfl, st.dr q0 e, h3, h1, h2, fun v H' v0 v1 st' but => q v v0 v1 _ H' (fun p o hp eo => ⟨o, but.1 p o (fun w => hp (.inl ⟨q0, e, .inl w⟩)) (fun w => hp (.inl ⟨q0, e, .inr w⟩)) eo, .same o, fun _ _ => rfl⟩) ⟨fun q1 e1 => by rw [e] at e1; cases e1; exact st', fun a vf vn ef => ?_, z.stay H H' (fun p o so eo => ?_) st.inv, fun qt ht => ?_⟩ (.int v)⟩
        · obtain ⟨m', m0, g1, g2⟩ := st.fr a vf vn ef
          refine ⟨m', m0, but.1 a _ (fun w => ?_) (fun w => ?_) g1, g2⟩
          · exact st.notZs ⟨vf, vn, ef⟩ (.inl ⟨q0, e, .inl w⟩)
          · exact st.notZs ⟨vf, vn, ef⟩ (.inl ⟨q0, e, .inr w⟩)
        · obtain ⟨r', t, ws, cs, g1, g2, g3, g4⟩ := (st.dr q0 e).ex
          refine but.1 p o (fun w => ?_) (fun w => ?_) eo
          · rw [w, g1] at eo; cases eo; exact so
          · rw [w, g2] at eo; cases eo; exact so
        · obtain ⟨r', t, ws, cs, g1, g2, g3, g4⟩ := (st.dr q0 e).ex
          obtain ⟨ts, t1, t2, t3⟩ := st.tb qt ht
          have go : ∀ p o, H p = some o → (∀ kvs, o ≠ .dK kvs) → (∀ xs, o ≠ .lst xs) → H' p = some o := fun p o eo n1 n2 => by
            refine but.1 p o (fun w => ?_) (fun w => ?_) eo
            · rw [w, g1] at eo; cases eo; exact n1 _ rfl
            · rw [w, g2] at eo; cases eo; exact n2 _ rfl
          refine ⟨ts, go _ _ t1 (fun _ w => by cases w) (fun _ w => by cases w), t2, fun pos cv hc => ?_⟩
          obtain ⟨c, e1, e2⟩ := t3 pos cv hc
          exact ⟨c, e1, go _ _ e2 (fun _ w => by cases w) (fun _ w => by cases w)⟩
end DL
namespace DL
open PySem L2 PySem.Spec PyProof.Rows
/-! ### shuffling -/
mutual
/-- as the layer's own reading of data -/
theorem Is.dp {z : Z} {K : PySem.W.Frag} {G : Hp} : ∀ {v : V} {d : D} {p : PyData}, Is z K G v d → d.py = some p → p.canLay0 = true → Dp K G v p
  | _, _, _, .non, e, _ => by cases e; exact .non
  | _, _, _, .bl b, e, _ => by cases e; exact .bl b
  | _, _, _, .int b, e, _ => by cases e; exact .int b
  | _, _, _, .str b, e, _ => by cases e; exact .str b
  | _, _, _, .ty _, e, _ => by simp [D.py] at e
  | _, _, _, .tup (ds := ds) h t, e, c => by
    unfold D.py at e
    cases e1 : D.pyA ds with
    | none => rw [e1] at e; cases e
    | some ps => rw [e1] at e; cases e; exact .tup h.sq (IsA.dp t e1 (by simpa [PyData.canLay0] using c))
  | _, _, _, .lst (ds := ds) h t, e, c => by
    unfold D.py at e
    cases e1 : D.pyA ds with
    | none => rw [e1] at e; cases e
    | some ps => rw [e1] at e; cases e; exact .lst (SqL.of h) (IsA.dp t e1 (by simpa [PyData.canLay0] using c))
  | _, _, _, .dct (ds := ds) _ _ _ t, e, c => by
    unfold D.py at e
    cases e1 : D.pyA ds with
    | none => rw [e1] at e; cases e
    | some ps => rw [e1] at e; cases e; simp [PyData.canLay0] at c
  | _, _, _, .ins _ _ _, e, _ => by simp [D.py] at e
  | _, _, _, .frm _ _ _ _, e, _ => by simp [D.py] at e
  | _, _, _, .fra _ _ _, e, _ => by simp [D.py] at e
  | _, _, _, .exn0 _ _ _ _, e, _ => by simp [D.py] at e
  | _, _, _, .exnM _ _ _ _ _ _, e, _ => by simp [D.py] at e
  | _, _, _, .exn1 _ _ _ _ _ _ _ _, e, _ => by simp [D.py] at e
  | _, _, _, .dcT _ _ _, e, _ => by simp [D.py] at e
  | _, _, _, .lam _ _, e, _ => by simp [D.py] at e
  | _, _, _, .scr _, e, _ => by simp [D.py] at e
  | _, _, _, .sta _, e, _ => by simp [D.py] at e
  | _, _, _, .cls _, e, _ => by simp [D.py] at e
theorem IsA.dp {z : Z} {K : PySem.W.Frag} {G : Hp} : ∀ {vs : List V} {ds : List D} {ps : List PyData}, IsA z K G vs ds → D.pyA ds = some ps → PyData.canLayAll0 ps = true → DpAll K G vs ps
  | _, _, _, .nil, e, _ => by simp [D.pyA] at e; subst e; exact .nil
  | _, _, _, .cons (d := d) (ds := ds) h t, e, c => by
    unfold D.pyA at e
    cases e1 : d.py with
    | none => rw [e1] at e; simp at e
    | some p =>
      cases e2 : D.pyA ds with
      | none => rw [e1, e2] at e; simp at e
      | some ps =>
        rw [e1, e2] at e; simp at e; subst e
        simp only [PyData.canLayAll0, Bool.and_eq_true] at c
        exact .cons (Is.dp h e1 c.1) (IsA.dp t e2 c.2)
end
/-- data without dicts and objects, not too deep -/
def plain (d : D) : Bool := match d.py with
  | some p => p.canLay0 && decide (p.depth ≤ 60)
  | none => false
theorem plain_all : ∀ {ds : List D}, ds.all plain = true → ∃ ps, D.pyA ds = some ps ∧ PyData.canLayAll0 ps = true ∧ PyData.depthAll ps ≤ 60
  | [], _ => ⟨[], rfl, rfl, Nat.zero_le _⟩
  | d :: ds, h => by
    rw [List.all_cons, Bool.and_eq_true] at h
    obtain ⟨ps, e, c, l⟩ := plain_all h.2
    have h1 := h.1
    unfold plain at h1
    cases e1 : d.py with
    | none => rw [e1] at h1; cases h1
    | some p =>
      rw [e1] at h1
      simp only [Bool.and_eq_true, decide_eq_true_eq] at h1
      refine ⟨p :: ps, by unfold D.pyA; rw [e1, e], by simp [PyData.canLayAll0, h1.1, c], ?_⟩
      show max p.depth (PyData.depthAll ps) ≤ 60
      omega
theorem shaped_plain {ps : List PyData} (c : PyData.canLayAll0 ps = true) (l : PyData.depthAll ps ≤ 60) : SeqAt.shaped (.list ps) = true := by
  unfold SeqAt.shaped
  simp only [PyData.canLay0, c, PyData.depth, Bool.true_and]
  exact decide_eq_true (by omega)
theorem perm_erase {α : Type} : ∀ {l : List α} {i : Nat} {x : α}, l[i]? = some x → (x :: l.eraseIdx i).Perm l
  | [], i, x, h => by simp at h
  | a :: l, 0, x, h => by simp at h; subst h; simp
  | a :: l, i + 1, x, h => by
    have h' : l[i]? = some x := by simpa using h
    have ih := perm_erase h'
    show (x :: a :: l.eraseIdx i).Perm (a :: l)
    exact (List.Perm.swap a x _).trans (ih.cons a)
def W__law_shuffled : WF := fun ds n k => ∃ x es, ds = [.sta, x] ∧ (x = .lst es ∨ x = .tup es) ∧ es.all plain = true ∧ es.length ≤ n ∧ es.length ≤ 1000 ∧ ∀ es', es'.Perm es → k (.lst es') (n - es.length)
theorem w__law_shuffled : Good W__law_shuffled 2 := ⟨fun ds n k k' h ⟨x, es, e, a, b, c, d, q⟩ => ⟨x, es, e, a, b, c, d, fun es' p => h _ _ (q es' p)⟩, fun ds n k ⟨x, es, e, _⟩ => by rw [e]; rfl⟩
end DL
namespace DL
open PySem L2 PySem.Spec PyProof.Rows
/-! ### the law's own def: first the state of all draws, then the rest as data -/
section
variable {P : Program} {w : World} {K : PySem.W.Frag} {mg : Str → Option Value} {base : Heap}
/-- what the law's def promises -/
def LawOk (P : Program) (w : World) (K : PySem.W.Frag) (mg : Str → Option Value) (base : Heap) (k : Nat) (f : Addr) (fd : FuncData) : Prop :=
  ∀ (A : Around) (outer : List Env) (s : Shared) (H : Hp) (args : Args) (u : Value) (a : Addr) (ns : List Int), Room k A → A.guards = some [] → Env0 P w K mg base A outer s H → BindsTo s fd args [("script", u)] → RelV (.ref a) u → SqL K H a (ns.map V.int) → ns.length ≤ 63 →
    codeAny (model P w) A (.call (.ref f) args) (CR CX0 outer P w H s (fun v _ => v = .bl true) E0) s
def lawE (N : Nat) (si : Nat) (ns : List Int) : DEnv := (startE N [.scr ns] (2 ^ 40)).put si (.da .sta)
theorem law_of {st : Stmt} {f fb : Addr} {fd fdb : FuncData} {N : List Str} {k si : Nat} {m : MS} {px pc pn pa ps' : Pos} {rest : List Stmt} (F : Fun K "law" "law" st f fd) (S : FnScope N ["script"] (defScope st))
    (hbo : defBody st = .Assign [.Name "state" px] (.Call (.Name "_law_begun" pn) [.Name "script" pa] [] pc) ps' :: rest) {sb : Stmt} (Fb : Fun K "_law_begun" "_law_begun" sb fb fdb) (hm : mg "_law_begun" = some (.ref fb)) (bb : Binds K fdb ["script"] []) (G : FnOk P w K mg base CX0 1 fb fdb ["script"] (spBegun K)) (k1 : 1 ≤ k)
    (h0 : N[0]? = some ("script" : Str)) (hsi : N[si]? = some ("state" : Str)) (hl0 : Vis (defScope st) "script") (hlo : Loc (defScope st) "state") (hgl : (defScope st).names.lookup ("_law_begun" : Str) = some NameKind.globalImplicit)
    (hrest : ∀ (cdv : Value) (A : Around) (outer : List Env) (s : Shared) (H : Hp), Room k (cxD P w K mg base N "law" (defScope st) f cdv A outer s H).A → (cxD P w K mg base N "law" (defScope st) f cdv A outer s H).A.guards = some [] →
      DSs (cxD P w K mg base N "law" (defScope st) f cdv A outer s H) (PhiW w) rest m)
    (hq : ∀ ns : List Int, ns.length ≤ 63 → m (lawE N.length si ns) { nx := fun _ => False, rt := fun d _ => d = .bl true }) : LawOk P w K mg base (k + 1) f fd := by
  obtain ⟨oc, od, kV, doc, pm, an, cdv, ct, osl, rfl, lk, hcd⟩ := F.ex
  intro A outer s H args u a ns hr hgd e0 hb ru hS hl
  have keep := fun b o e => (e0.bs b o e).1
  have KX : K.In s.heap := e0.mod.kin.keeps keep
  have lim : s.heap.NoLimit := e0.mod.nolimit.keeps keep
  have hm' := hrest cdv A outer s H (hr.deeper _) (deeper_guards hgd)
  refine codeAny_call_function hr.depth (KX _ _ lk) rfl S.co S.gen rfl (PySem.W.codeRec_of KX hcd) (hb _ _ _ _ ?_)
  have hpar := S.par "script" (by simp)
  refine wpAny_newFunctionEnv_cells S.kind (fun y hy => ?_) fun env he s1 x => ?_
  · rw [List.mem_singleton.mp hy]
    rcases hpar with q | q
    · exact .inl q
    · exact .inr ⟨q, PySem.W.cellsFrom_some _ _ _ (.inl q)⟩
  · subst he
    refine ⟨lim.keeps x.toInCall.keep, codeAny_func ?_⟩
    have I0 : Inv (cxOf CX0 P w K mg base N "law" (defScope st) f cdv A outer s H E0) [] (L2.start N [.ref a]) H s1 := inv_start (ps := ["script"]) (us := [u]) S hr.hd e0 rfl (.cons ru .nil) x
    have I : Inv (cxD P w K mg base N "law" (defScope st) f cdv A outer s H) [] (L2.start N [.ref a]) H s1 := I0.wish _
    have hN0 : 0 < N.length := (List.getElem?_eq_some_iff.mp h0).1
    have hbody : PSs (cxD P w K mg base N "law" (defScope st) f cdv A outer s H) (defBody st) (tSeq (tAsg (tCall (spBegun K) [] E0 (tCons (tVar 0) tNil)) (gName si)) (tDS (PhiW w) K m)) := by
      rw [hbo]
      exact pss_cons (ps_set (i := si) S.nd hsi hlo (pe_call G ((hr.deeper _).mono k1) hgl hm Fb.kp bb .nil pass0 (pa_cons (pe_var h0 hl0) pa_nil))) hm'.ps
    have hrun := hbody.run [] s1 (L2.start N [.ref a]) H { nx := fun _ H' => False, rt := fun v _ => v = .bl true } I ?_
    · refine wpAny_mono hrun (fun fl s' hs => ?_) fun e s' hs => hs.elim
      match fl, hs with
      | .ret u, ⟨v, σ', H', J, rv, q⟩ => exact ⟨v, H', J.os, J.bare, J.base, J.hok, rv, q⟩
      | .next, ⟨σ', H', J, q⟩ => exact q.elim
      | .brk, ⟨_, _, _, q⟩ => exact q.elim
      | .cont, ⟨_, _, _, q⟩ => exact q.elim
    · refine ⟨.ref a, rfl, a, ns, rfl, hS, hl, fun q H' na nb nc st' sm => ?_⟩
      let z : Z := { w := w, q := some q }
      have stz : Sta z (2 ^ 40) none H' := ⟨fun q1 e1 => by cases e1; exact st', fun _ _ _ e1 => (by cases e1), trivial, fun _ h => (by cases h)⟩
      have hz : ∀ p, Zs z p → H' p ≠ none := fun p w => stz.dom w
      have hf : ∀ p, Zf z p → Zs z p := fun p ⟨_, _, w⟩ => (by cases w)
      have hS' : SqL K (hide (Zs z) H') a (ns.map V.int) := by
        have ne : ∀ {o}, H a = some o → ¬ Zs z a := fun e w => by
          rcases w with ⟨q1, e1, w | w⟩ | ⟨w, _⟩ | ⟨_, w⟩
          · cases e1; rw [w, na] at e; cases e
          · cases e1; rw [w, nb] at e; cases e
          · cases w
          · cases w
        rcases hS with (e | ⟨o, e⟩) | e
        · exact .inl (.inl (hide_get.mpr ⟨ne e, sm.same _ _ e⟩))
        · exact .inl (.inr ⟨o, hide_get.mpr ⟨ne e, sm.same _ _ e⟩⟩)
        · exact .inr e
      have r1 := rel_start (Φ := PhiW w) (z := z) (N := N) (n := 2 ^ 40) (K := K) rfl stz hz ⟨fun p w => w, hf⟩ (.cons (.scr hS') .nil)
      have r2 := r1.put (i := si) (v := .ref q.a) (d := .sta) (.sta rfl)
      refine ⟨z, Zs z, H', _, _, r2, hm'.mono _ ?_ (hq ns hl)⟩
      refine ⟨fun e q => q.elim, fun d e q ps' v σ' H'' r' i' => ?_, fun e q => q.elim, fun e q => q.elim, fun _ _ q => q.elim⟩
      subst q
      cases i'
      rfl
end
/-! ### the law's row -/
/-- the goal that k_head leaves, from the law's promise -/
theorem walk_law {l : PySem.W.OpenLaw} {k : Nat} {q : Program} {loose : List Str} {XP : (Str → Option Value) → Heap → Prop} {YP : World → Heap → Prop} {d : DefRec} {K : Params → PySem.W.Frag}
    (hi : importsNone q = true) (hn : l.most = some 63) (hdf : d.params.defaults = []) (hr : Room k callerA) (hY : ∀ (w : World) (h : Heap), YP w h → (K w.params).In h)
    (F : ∀ (w : World) (mg : Str → Option Value) (fa : Addr) (h : Heap), (K w.params).In h → h.Ns mainGlobals mg → mg d.name = some (.ref fa) → ∃ fd : FuncData, (∀ (s : Shared) (u : Value), BindsTo s fd ⟨[u], []⟩ [("script", u)]) ∧
        ∀ base : Heap, (K w.params).In base → base.Ns mainGlobals mg → (∃ o, base.get? sysModules = some o) → LawOk l.prog w (K w.params) mg base k fa fd) : PySem.W.WalkO q loose XP YP l.row.toRowW d [] (fun f vs => PySem.call f vs) := by
  intro w s₀ s₁ mg mb G Y fa o pm cd doc dV kV ho hd hcd hD hmg hg args vals as hpre hlay hrd hwl hlo
  obtain rfl : dV = .none := PySem.W.Dflts.none hD hdf
  obtain rfl : kV = .none := PySem.W.Dflts.noKw hD
  obtain ⟨a, vs, ns, rfl, rfl, hobj, hints, hlen⟩ := Att.script_of hn hpre hwl
  have nlow : a ≠ sysModules := by
    cases hrd with
    | cons h1 h2 =>
      cases h2
      cases h1 with
      | list e1 e2 e3 e4 =>
        have := hlo a (by simp)
        simpa using this
  have KX := hY w _ Y
  obtain ⟨fd, hb, hF⟩ := F w mg fa _ KX G.T.g hmg
  have rv := vals_ints hints
  have lenV := hints.length
  have low : ∃ o, s₁.heap.get? sysModules = some o := by
    obtain ⟨mm, ⟨o, es, ep, e, _⟩, _⟩ := (G.T.seer hi).mods
    exact ⟨o, e⟩
  have core : ∀ H : Hp, Only H → SqL (K w.params) H a (ns.map V.int) → HOk l.prog w H s₁.heap → (∀ b, H b ≠ none → b = a) → (H a ≠ none → (K w.params).lookup a = none) →
      codeAny (model l.prog w) callerA (.call (.ref fa) ⟨[.ref a], []⟩) (fun r s' => r = .ok (.ret (.bool true)) ∧ OldK s₁.heap s'.heap ∧ s'.os = s₁.os ∧ AllBare s'.gens) s₁ := by
    intro H hO hS hok hA hK
    have hide0 : ∀ {b : Addr} {o : Obj}, s₁.heap.get? b = some o → H b = none → (hidT s₁.heap H).get? b = some o := fun e n => hidT_get e n
    have off : ∀ {b : Addr}, b ≠ a → H b = none := fun {b} ne => by
      cases e : H b with
      | none => rfl
      | some u => exact absurd (hA b (by rw [e]; simp)) ne
    have nsK : ∀ {b : Addr} {mm : Str → Option Value}, s₁.heap.Ns b mm → (hidT s₁.heap H).Ns b mm := fun {b mm} ⟨o, es, ep, e, dd, r⟩ => by
      refine ⟨o, es, ep, hide0 e (off fun eb => ?_), dd, r⟩
      subst eb
      rw [hobj] at e; cases e
      cases dd
    have kb : (K w.params).In (hidT s₁.heap H) := fun b o e => by
      refine hide0 (KX b o e) ?_
      cases e2 : H b with
      | none => rfl
      | some u =>
        have eb := hA b (by rw [e2]; simp)
        subst eb
        rw [hK (by rw [e2]; simp)] at e; cases e
    have hM : Mod (K w.params) mg (hidT s₁.heap H) := ⟨kb, nsK G.T.g, ⟨mb, nsK G.T.b, G.T.builtins⟩, by obtain ⟨mc, h1, h2⟩ := G.T.nolimit; exact ⟨mc, nsK h1, h2⟩⟩
    have e0 : Env0 l.prog w (K w.params) mg (hidT s₁.heap H) callerA [] s₁ H := ⟨rfl, hM, fun b o e => of_hidT e, Nat.le_of_eq (hidT_size _ _), trivial, fun b hb => absurd hb (by simp [frs]), hok, .of_eq hg⟩
    have hlow : ∃ o, (hidT s₁.heap H).get? sysModules = some o := by
      obtain ⟨o, e⟩ := low
      exact ⟨o, hide0 e (off nlow.symm)⟩
    refine codeAny_mono (hF _ kb (nsK G.T.g) hlow callerA [] s₁ H ⟨[.ref a], []⟩ (.ref a) a ns hr rfl e0 (hb s₁ (.ref a)) rfl hS hlen) fun r s' h => ?_
    match r, h with
    | .error e, h => exact h.elim
    | .ok .next, h => exact h.elim
    | .ok .brk, h => exact h.elim
    | .ok .cont, h => exact h.elim
    | .ok (.ret u), ⟨v, H', os, bare, un, hok', r', q⟩ =>
      cases (show v = .bl true from q)
      cases (show u = Value.bool true from r')
      refine ⟨rfl, OldK.of_keep fun b o e => ?_, os, bare⟩
      cases q : H b with
      | none => exact un.keep b o e q (by simp [frs]) (by simp)
      | some u =>
        rcases hO b with z | ⟨ob, xs, z⟩
        · rw [q] at z; cases z
        · have z2 := un.frzs b ob _ z
          have e1 := (hok b _ z).1
          have e2 := (hok' b _ z2).1
          rw [e] at e1; cases e1
          exact e2
  have main : codeAny (model l.prog w) callerA (.call (.ref fa) ⟨[.ref a], []⟩) (fun r s' => r = .ok (.ret (.bool true)) ∧ OldK s₁.heap s'.heap ∧ s'.os = s₁.os ∧ AllBare s'.gens) s₁ := by
    have hl : ns.length ≤ sizeLine := Nat.le_trans hlen (by decide)
    cases hk : (K w.params).lookup a with
    | some o =>
      have e := KX a o hk
      rw [hobj] at e
      cases e
      refine core (fun _ => none) (fun _ => .inl rfl) (.inr ⟨_, vs.toArray, _, hk, rfl, rfl, rfl, by rw [List.size_toArray, lenV]; exact hl, by simpa using rv⟩) (fun b u z => by cases z) (fun b z => absurd rfl z) fun z => absurd rfl z
    | none =>
      let o0 : Obj := { cls := .type "list", data := .seq vs.toArray }
      refine core (fun b => if b = a then some (.frz o0 (.lst (ns.map V.int))) else none) (fun b => ?_) (.inl (.inr ⟨o0, if_pos rfl⟩)) (fun b u z => ?_) (fun b z => ?_) fun _ => hk
      · by_cases hb : b = a
        · exact .inr ⟨_, _, if_pos hb⟩
        · exact .inl (if_neg hb)
      · by_cases hb : b = a
        · have z' := (if_pos hb).symm.trans z
          cases z'
          subst hb
          exact ⟨hobj, by rw [List.length_map]; exact hl, vs, _, rv, hobj⟩
        · have z' := (if_neg hb).symm.trans z
          cases z'
      · by_cases hb : b = a
        · exact hb
        · exact absurd (if_neg hb) z
  refine PySem.W.enter_call (codeAny_mono main fun r s' hq => ?_)
  obtain ⟨rfl, h2, h3, h4⟩ := hq
  exact ⟨.inl ⟨.bool true, .bool true, [], rfl, fun _ => rfl, .bool true, Att.post_true l _, fun _ => ⟨List.Pairwise.nil, fun _ hm => (nomatch hm)⟩⟩, h2, h3, h4⟩
end DL
namespace DL
open PySem L2 PySem.Spec PyProof.Rows
/-! ### rules for the plain side -/
theorem compW_pure {i : Nat} {me : ME} {f : D → D} : ∀ (ds : List D) (env : DEnv) (acc : List D) {k : List D → DEnv → Prop}, (∀ d ∈ ds, ∀ k' : D → DEnv → Prop, k' (f d) (env.put i (.da d)) → me (env.put i (.da d)) k') →
    acc.length + ds.length ≤ sizeLine → k (acc ++ ds.map f) env → compW i mYes me ds env acc k
  | [], env, acc, k, _, _, q => by simpa [compW] using q
  | d :: ds, env, acc, k, h, hl, q => by
    unfold compW
    simp only [List.length_cons] at hl
    show me (env.put i (.da d)) _
    refine h d List.mem_cons_self _ ⟨by omega, ?_⟩
    refine compW_pure ds env (acc ++ [f d]) (fun x hx => h x (List.mem_cons_of_mem _ hx)) (by simp; omega) ?_
    simpa using q
theorem compW_filt {i : Nat} {t : MT} {me : ME} {g : D → Bool} {f : D → D} : ∀ (ds : List D) (env : DEnv) (acc : List D) {k : List D → DEnv → Prop}, (∀ d ∈ ds, ∀ k' : Bool → DEnv → Prop, k' (g d) (env.put i (.da d)) → t (env.put i (.da d)) k') →
    (∀ d ∈ ds, g d = true → ∀ k' : D → DEnv → Prop, k' (f d) (env.put i (.da d)) → me (env.put i (.da d)) k') →
    acc.length + ds.length ≤ sizeLine → k (acc ++ (ds.filter g).map f) env → compW i t me ds env acc k
  | [], env, acc, k, _, _, _, q => by simpa [compW] using q
  | d :: ds, env, acc, k, h, h2, hl, q => by
    unfold compW
    simp only [List.length_cons] at hl
    refine h d List.mem_cons_self _ ?_
    cases e : g d with
    | true =>
      rw [if_pos rfl]
      refine h2 d List.mem_cons_self e _ ⟨by omega, ?_⟩
      refine compW_filt ds env (acc ++ [f d]) (fun x hx => h x (List.mem_cons_of_mem _ hx)) (fun x hx => h2 x (List.mem_cons_of_mem _ hx)) (by simp; omega) ?_
      simpa [List.filter_cons, e] using q
    | false =>
      rw [if_neg (by simp)]
      refine compW_filt ds env acc (fun x hx => h x (List.mem_cons_of_mem _ hx)) (fun x hx => h2 x (List.mem_cons_of_mem _ hx)) (by omega) ?_
      simpa [List.filter_cons, e] using q
/-- with draws: c at most for each -/
theorem compW_draw {i c : Nat} {me : ME} {R : D → D → Prop} : ∀ (ds : List D) (env : DEnv) (acc : List D) {k : List D → DEnv → Prop},
    (∀ d ∈ ds, ∀ (n : Nat) (k' : D → DEnv → Prop), c ≤ n → (∀ y n', R d y → n ≤ n' + c → ∀ sl, k' y { sl := sl, cr := n', mr := env.mr }) → me (DEnv.put { env with cr := n } i (.da d)) k') →
    acc.length + ds.length ≤ sizeLine → c * ds.length ≤ env.cr → (∀ ys n', ys.length = ds.length → (∀ y ∈ ys, ∃ d ∈ ds, R d y) → env.cr ≤ n' + c * ds.length → k (acc ++ ys) { env with cr := n' }) → compW i mYes me ds env acc k
  | [], env, acc, k, _, _, _, q => by
    have := q [] env.cr rfl (fun _ h => nomatch h) (by simp)
    simpa [compW] using this
  | d :: ds, env, acc, k, h, hl, hc, q => by
    unfold compW
    simp only [List.length_cons] at hl hc
    have hm : c * (ds.length + 1) = c * ds.length + c := Nat.mul_succ _ _
    show me (env.put i (.da d)) _
    refine h d List.mem_cons_self env.cr _ (by omega) fun y n' r hn sl => ⟨by omega, ?_⟩
    refine compW_draw ds { env with cr := n' } (acc ++ [y]) (fun x hx => h x (List.mem_cons_of_mem _ hx)) (by simp; omega) (by show c * ds.length ≤ n'; omega) fun ys n2 e1 e2 e3 => ?_
    have := q (y :: ys) n2 (by simp [e1]) (fun u hu => ?_) (by have e3' : n' ≤ n2 + c * ds.length := e3; rw [List.length_cons, hm]; omega)
    · simpa using this
    · rcases List.mem_cons.mp hu with rfl | hu
      · exact ⟨d, List.mem_cons_self, r⟩
      · obtain ⟨x, hx, rx⟩ := e2 u hu
        exact ⟨x, List.mem_cons_of_mem _ hx, rx⟩
theorem forW_inv {g : MG} {b : MS} (I : List D → DEnv → Prop) {k : KS} (hs : ∀ d ds env (k' : KS), I (d :: ds) env → (∀ e, I ds e → k'.nx e) → (∀ e, I ds e → k'.ct e) → (∀ v e, k.rt v e → k'.rt v e) → (∀ e, k.nx e → k'.bk e) → g d env fun e1 => b e1 k')
    (he : ∀ env, I [] env → k.nx env) : ∀ ds env, I ds env → forW g b ds env k
  | [], env, i => he env i
  | d :: ds, env, i => by
    unfold forW
    exact hs d ds env _ i (fun e i => forW_inv I hs he ds e i) (fun e i => forW_inv I hs he ds e i) (fun _ _ q => q) (fun _ q => q)
theorem seq_gen {m n : MS} {env : DEnv} {k : KS} (h : ∀ N : DEnv → Prop, N = (fun e => n e k) → m env { k with nx := N }) : mSeq m n env k := h _ rfl
/-! ### how long a text of data is -/
def D.sm (c k : Nat) (d : D) : Bool := match d.py with
  | some p => p.showable && decide (p.shown.length ≤ c) && decide (p.depth ≤ k)
  | none => false
theorem sm_py {d : D} {c k : Nat} (h : d.sm c k = true) : ∃ p, d.py = some p ∧ p.showable = true ∧ p.shown.length ≤ c ∧ p.depth ≤ k := by
  unfold D.sm at h
  cases e : d.py with
  | none => rw [e] at h; cases h
  | some p =>
    rw [e] at h
    simp only [Bool.and_eq_true, decide_eq_true_eq] at h
    exact ⟨p, rfl, h.1.1, h.1.2, h.2⟩
theorem sm_of {d : D} {c k : Nat} {p : PyData} (e : d.py = some p) (h1 : p.showable = true) (h2 : p.shown.length ≤ c) (h3 : p.depth ≤ k) : d.sm c k = true := by
  unfold D.sm
  rw [e]
  simp [h1, h2, h3]
theorem D.sm_mono {d : D} {c c' k k' : Nat} (h : d.sm c k = true) (hc : c ≤ c') (hk : k ≤ k') : d.sm c' k' = true := by
  obtain ⟨p, e, h1, h2, h3⟩ := sm_py h
  exact sm_of e h1 (Nat.le_trans h2 hc) (Nat.le_trans h3 hk)
theorem showable_of_sm {d : D} {c k : Nat} (h : d.sm c k = true) (hc : c ≤ sizeLine) (hk : k ≤ 64) : d.showable = true := by
  obtain ⟨p, e, h1, h2, h3⟩ := sm_py h
  unfold D.showable
  rw [e]
  simp only [h1, Bool.true_and, Bool.and_eq_true, decide_eq_true_eq]
  exact ⟨Nat.le_trans h2 hc, Nat.le_trans h3 hk⟩
theorem sm_all {c k : Nat} : ∀ {ds : List D}, (∀ d ∈ ds, d.sm c k = true) → ∃ ps, D.pyA ds = some ps ∧ PyData.showableAll ps = true ∧ ((PyData.shownAll ps).map (·.length)).sum ≤ ds.length * c ∧ (PyData.shownAll ps).length = ds.length ∧ PyData.depthAll ps ≤ k
  | [], _ => ⟨[], rfl, by simp [PyData.showableAll], by simp [PyData.shownAll], by simp [PyData.shownAll], by simp [PyData.depthAll]⟩
  | d :: ds, h => by
    obtain ⟨ps, e, a1, a2, a3, a4⟩ := sm_all (ds := ds) fun x hx => h x (List.mem_cons_of_mem _ hx)
    obtain ⟨p, e1, b1, b2, b3⟩ := sm_py (h d List.mem_cons_self)
    refine ⟨p :: ps, by unfold D.pyA; rw [e1, e], by simp [PyData.showableAll, b1, a1], ?_, by simp [PyData.shownAll, a3], ?_⟩
    · simp only [PyData.shownAll, List.map_cons, List.sum_cons, List.length_cons, Nat.succ_mul]
      omega
    · show max p.depth (PyData.depthAll ps) ≤ k
      omega
theorem sm_lst {c k : Nat} {ds : List D} (h : ∀ d ∈ ds, d.sm c k = true) : (D.lst ds).sm (ds.length * (c + 2) + 3) (k + 1) = true := by
  obtain ⟨ps, e, a1, a2, a3, a4⟩ := sm_all h
  refine sm_of (p := .list ps) (by unfold D.py; rw [e]; rfl) (by simpa [PyData.showable] using a1) ?_ (by show PyData.depthAll ps + 1 ≤ k + 1; omega)
  have := PySem.listText_len_le (PyData.shownAll ps)
  show (PyData.shown (.list ps)).length ≤ _
  simp only [PyData.shown]
  rw [Nat.mul_add]
  omega
theorem sm_tup {c k : Nat} {ds : List D} (h : ∀ d ∈ ds, d.sm c k = true) : (D.tup ds).sm (ds.length * (c + 2) + 3) (k + 1) = true := by
  obtain ⟨ps, e, a1, a2, a3, a4⟩ := sm_all h
  refine sm_of (p := .tuple ps) (by unfold D.py; rw [e]; rfl) (by simpa [PyData.showable] using a1) ?_ (by show PyData.depthAll ps + 1 ≤ k + 1; omega)
  have := PySem.tupleText_len_le (PyData.shownAll ps)
  show (PyData.shown (.tuple ps)).length ≤ _
  simp only [PyData.shown]
  rw [Nat.mul_add]
  omega
theorem sm_str {x : Str} (h : ∀ c ∈ x.cps.toList, c < 16 ^ 8) : (D.str x).sm (10 * x.length + 2) 0 = true :=
  sm_of (p := .str x) (by simp [D.py]) (by simp [PyData.showable]) (by simp only [PyData.shown]; exact PySem.StrLaws.reprText_len x h) (by simp [PyData.depth])
theorem sm_int {i : Int} (h : i.natAbs.log2 < 1920) : (D.int i).sm 1921 0 = true :=
  sm_of (p := .int i) (by simp [D.py]) (by simpa [PyData.showable] using h) (by simp only [PyData.shown]; have := int_text_length_le (a := i) (k := 1920) (by decide) h; rw [PySem.ofString_length]; exact this) (by simp [PyData.depth])
theorem sm_int' {i : Int} (h0 : -(2 ^ 1900) < i) (h1 : i < 2 ^ 1900) : (D.int i).sm 1921 0 = true := by
  refine sm_int ?_
  have : i.natAbs < 2 ^ 1920 := by
    have : (2 : Nat) ^ 1900 < 2 ^ 1920 := Nat.pow_lt_pow_right (by decide) (by decide)
    omega
  by_cases z : i.natAbs = 0
  · rw [z]; decide
  · exact (Nat.log2_lt z).mpr this
theorem sm_bl (b : Bool) : (D.bl b).sm 5 0 = true := by cases b <;> decide +kernel
theorem sm_non : D.non.sm 4 0 = true := by decide +kernel
/-! ### == -/
def twoStr (x y : D) : Bool := match x, y with
  | .str _, .str _ => true
  | _, _ => false
def eqX : W2 := fun x y k => (twoStr x y = true ∨ (x.shaped = true ∧ y.shaped = true)) ∧ k (.bl (D.eqv x y))
def neX : W2 := fun x y k => (twoStr x y = true ∨ (x.shaped = true ∧ y.shaped = true)) ∧ k (.bl (!D.eqv x y))
theorem twoStr_of {x y : D} (h : twoStr x y = true) : ∃ a b, x = .str a ∧ y = .str b := by
  cases x <;> cases y <;> first | exact ⟨_, _, rfl, rfl⟩ | cases h
theorem str_beq (a b : Str) : (a.cps.toList == b.cps.toList) = (a == b) := by
  by_cases e : a = b
  · subst e; simp
  · have : a.cps.toList ≠ b.cps.toList := fun q => e (by obtain ⟨⟨l⟩⟩ := a; obtain ⟨⟨l'⟩⟩ := b; simp at q; rw [q])
    rw [beq_eq_false_iff_ne.mpr this, beq_eq_false_iff_ne.mpr e]
theorem str_bne (a b : Str) : (a.cps.toList != b.cps.toList) = !(a == b) := by rw [← str_beq]; rfl
section
variable {X : Cx} {Φ : Phi}
theorem od_eqX (hu : X.A.units + 64 < cLine) (hl : LowK X) : OpD X (compareOp .Eq) eqX := by
  refine ⟨fun x y k k' h q => ⟨q.1, h _ q.2⟩, fun pins s σ H x y v u Q I rx ry ⟨z, S, dx, dy, hS, hx, hy, s1, q⟩ => ?_⟩
  rcases s1 with s1 | s1
  · obtain ⟨a, b, rfl, rfl⟩ := twoStr_of s1
    cases hx; cases hy
    obtain ⟨t, rfl⟩ := rx; obtain ⟨t', rfl⟩ := ry
    refine PySem.P.eq_str ?_
    rw [str_beq]
    have e : D.eqv (.str a) (.str b) = (a == b) := by simp [D.eqv, D.py, PyData.eqv]
    rw [e] at q
    exact ⟨.bl _, H, I, rfl, q _ H (Grow.refl H) (.bl _)⟩
  · exact (od_eq hu hl).run pins s σ H x y v u Q I rx ry ⟨z, S, dx, dy, hS, hx, hy, s1.1, s1.2, q⟩
theorem od_neX (hu : X.A.units + 64 < cLine) (hl : LowK X) : OpD X (compareOp .NotEq) neX := by
  refine ⟨fun x y k k' h q => ⟨q.1, h _ q.2⟩, fun pins s σ H x y v u Q I rx ry ⟨z, S, dx, dy, hS, hx, hy, s1, q⟩ => ?_⟩
  rcases s1 with s1 | s1
  · obtain ⟨a, b, rfl, rfl⟩ := twoStr_of s1
    cases hx; cases hy
    obtain ⟨t, rfl⟩ := rx; obtain ⟨t', rfl⟩ := ry
    refine PySem.P.ne_str ?_
    rw [str_bne]
    have e : D.eqv (.str a) (.str b) = (a == b) := by simp [D.eqv, D.py, PyData.eqv]
    rw [e] at q
    exact ⟨.bl _, H, I, rfl, q _ H (Grow.refl H) (.bl _)⟩
  · exact (od_ne hu hl).run pins s σ H x y v u Q I rx ry ⟨z, S, dx, dy, hS, hx, hy, s1.1, s1.2, q⟩
end
theorem size_empty {its : List Value} {ds : List D} (h : its.length = ds.length) : (its.toArray.size == (#[] : Array Value).size) = ds.isEmpty := by
  cases ds <;> cases its <;> simp_all
/-- == with an empty tuple or list -/
def eqZ : W2 := fun x y k => match x, y with
  | .tup a, .tup [] => k (.bl a.isEmpty)
  | .lst a, .lst [] => k (.bl a.isEmpty)
  | _, _ => False
theorem od_eqZ {X : Cx} (hu : X.A.units + 64 < cLine) : OpD X (compareOp .Eq) eqZ := by
  refine ⟨fun x y k k' h q => ?_, fun pins s σ H x y v u Q I rx ry ⟨z, S, dx, dy, hS, hx, hy, q⟩ => ?_⟩
  · revert q
    unfold eqZ
    split
    · exact fun q => h _ q
    · exact fun q => h _ q
    · exact fun q => q.elim
  · unfold eqZ at q
    split at q
    · cases hx with
      | tup e1 i1 =>
        cases hy with
        | tup e2 i2 =>
          cases i2
          cases rx; cases ry
          obtain ⟨its, rv, p1, _⟩ := I.tuple (sqT_hide e1)
          obtain ⟨its2, rv2, p2, _⟩ := I.tuple (sqT_hide e2)
          cases rv2
          have e5 : (its.toArray.size == (#[] : Array Value).size) = (List.isEmpty _) := size_empty (rv.length.symm.trans i1.length)
          refine SeqAt.eq_tupleAt (e := fun _ => true) (show s.heap.IsTuple _ its.toArray from p1) (show s.heap.IsTuple _ #[] from p2) (by omega) (fun j _ h2 => absurd h2 (by simp)) ⟨.bl _, H, I, rfl, ?_⟩
          rw [e5]
          simpa using q _ H (Grow.refl H) (.bl _)
    · cases hx with
      | lst e1 i1 =>
        cases hy with
        | lst e2 i2 =>
          cases i2
          cases rx; cases ry
          obtain ⟨its, rv, p1, _⟩ := I.list (SqL.of (K := X.K) (hide_same _ _ e1))
          obtain ⟨its2, rv2, p2, _⟩ := I.list (SqL.of (K := X.K) (hide_same _ _ e2))
          cases rv2
          have e5 : (its.toArray.size == (#[] : Array Value).size) = (List.isEmpty _) := size_empty (rv.length.symm.trans i1.length)
          have q' := q _ H (Grow.refl H) (.bl _)
          rw [← e5] at q'
          by_cases hz : its.toArray.size = 0
          · refine SeqAt.eq_listAt (e := fun _ => true) p1.isList p2.isList (by rw [hz]; rfl) (by omega) (fun j _ h2 => absurd h2 (by simp)) ⟨.bl _, H, I, rfl, ?_⟩
            rw [hz] at q' ⊢
            simpa using q'
          · refine SeqAt.eq_list_lengthsAt p1.isList p2.isList (by simpa using hz) (by omega) ⟨.bl _, H, I, rfl, ?_⟩
            have : (its.toArray.size == (#[] : Array Value).size) = false := by simpa using hz
            rw [this] at q'
            exact q'
    · exact q.elim
theorem eqv_str (a b : Str) : D.eqv (.str a) (.str b) = (a == b) := by simp [D.eqv, D.py, PyData.eqv]
theorem eqv_int (a b : Int) : D.eqv (.int a) (.int b) = (a == b) := by simp [D.eqv, D.py, PyData.eqv]
theorem shaped_int (a : Int) : (D.int a).shaped = true := by simp [D.shaped, D.py, SeqAt.shaped, PyData.canLay0, PyData.depth]
theorem shaped_bl (a : Bool) : (D.bl a).shaped = true := by simp [D.shaped, D.py, SeqAt.shaped, PyData.canLay0, PyData.depth]
theorem shaped_non : D.non.shaped = true := by simp [D.shaped, D.py, SeqAt.shaped, PyData.canLay0, PyData.depth]
/-! ### what == takes -/
def D.lay (k : Nat) (d : D) : Bool := match d.py with
  | some p => p.canLay0 && decide (p.depth ≤ k)
  | none => false
theorem lay_py {d : D} {k : Nat} (h : d.lay k = true) : ∃ p, d.py = some p ∧ p.canLay0 = true ∧ p.depth ≤ k := by
  unfold D.lay at h
  cases e : d.py with
  | none => rw [e] at h; cases h
  | some p =>
    rw [e] at h
    simp only [Bool.and_eq_true, decide_eq_true_eq] at h
    exact ⟨p, rfl, h.1, h.2⟩
theorem lay_of {d : D} {k : Nat} {p : PyData} (e : d.py = some p) (h1 : p.canLay0 = true) (h3 : p.depth ≤ k) : d.lay k = true := by
  unfold D.lay
  rw [e]
  simp [h1, h3]
theorem D.lay_mono {d : D} {k k' : Nat} (h : d.lay k = true) (hk : k ≤ k') : d.lay k' = true := by
  obtain ⟨p, e, h1, h3⟩ := lay_py h
  exact lay_of e h1 (Nat.le_trans h3 hk)
theorem shaped_of_lay {d : D} {k : Nat} (h : d.lay k = true) (hk : k ≤ 64) : d.shaped = true := by
  obtain ⟨p, e, h1, h3⟩ := lay_py h
  unfold D.shaped SeqAt.shaped
  rw [e]
  simp only [h1, Bool.true_and, decide_eq_true_eq]
  omega
theorem plain_of_lay {d : D} {k : Nat} (h : d.lay k = true) (hk : k ≤ 60) : plain d = true := by
  obtain ⟨p, e, h1, h3⟩ := lay_py h
  unfold plain
  rw [e]
  simp only [h1, Bool.true_and, decide_eq_true_eq]
  omega
theorem lay_all {k : Nat} : ∀ {ds : List D}, (∀ d ∈ ds, d.lay k = true) → ∃ ps, D.pyA ds = some ps ∧ PyData.canLayAll0 ps = true ∧ PyData.depthAll ps ≤ k
  | [], _ => ⟨[], rfl, rfl, Nat.zero_le _⟩
  | d :: ds, h => by
    obtain ⟨ps, e, a1, a4⟩ := lay_all (ds := ds) fun x hx => h x (List.mem_cons_of_mem _ hx)
    obtain ⟨p, e1, b1, b3⟩ := lay_py (h d List.mem_cons_self)
    refine ⟨p :: ps, by unfold D.pyA; rw [e1, e], by simp [PyData.canLayAll0, b1, a1], ?_⟩
    show max p.depth (PyData.depthAll ps) ≤ k
    omega
theorem lay_lst {k : Nat} {ds : List D} (h : ∀ d ∈ ds, d.lay k = true) : (D.lst ds).lay (k + 1) = true := by
  obtain ⟨ps, e, a1, a4⟩ := lay_all h
  exact lay_of (p := .list ps) (by unfold D.py; rw [e]; rfl) (by simpa [PyData.canLay0] using a1) (by show PyData.depthAll ps + 1 ≤ k + 1; omega)
theorem lay_tup {k : Nat} {ds : List D} (h : ∀ d ∈ ds, d.lay k = true) : (D.tup ds).lay (k + 1) = true := by
  obtain ⟨ps, e, a1, a4⟩ := lay_all h
  exact lay_of (p := .tuple ps) (by unfold D.py; rw [e]; rfl) (by simpa [PyData.canLay0] using a1) (by show PyData.depthAll ps + 1 ≤ k + 1; omega)
theorem lay_str {x : Str} (h : PyData.strOk x = true) : (D.str x).lay 0 = true := lay_of (p := .str x) (by simp [D.py]) (by simpa [PyData.canLay0] using h) (by simp [PyData.depth])
theorem lay_int (i : Int) : (D.int i).lay 0 = true := lay_of (p := .int i) (by simp [D.py]) (by simp [PyData.canLay0]) (by simp [PyData.depth])
theorem lay_bl (i : Bool) : (D.bl i).lay 0 = true := lay_of (p := .bool i) (by simp [D.py]) (by simp [PyData.canLay0]) (by simp [PyData.depth])
theorem lay_non : D.non.lay 0 = true := lay_of (p := .none) (by simp [D.py]) (by simp [PyData.canLay0]) (by simp [PyData.depth])
theorem eqv_nil {k : Nat} {ds : List D} (h : ∀ d ∈ ds, d.lay k = true) : D.eqv (.lst ds) (.lst []) = ds.isEmpty := by
  obtain ⟨ps, e, a1, a4⟩ := lay_all h
  have := pyA_len e
  unfold D.eqv D.py
  rw [e]
  cases ds with
  | nil => simp at this; subst this; simp [D.pyA, PyData.eqv, PyData.eqvAll]
  | cons d ds => cases ps with
    | nil => simp at this
    | cons p ps => simp [D.pyA, PyData.eqv, PyData.eqvAll]
end DL
namespace DL
open PySem L2 PySem.Spec PyProof.Rows
/-! ### what the top has written -/
section
variable {K : PySem.W.Frag} {h : Heap} {mg : Str → Option Value}
theorem def_at {x : Str} {st : Stmt} {f : Addr} {oc : Value} {od an : Option Addr} {osl : Array (Option Value)} {kV doc pm cdv ct : Value} (X : K.In h) (G : h.Ns mainGlobals mg) (a : PySem.W.nsIn K mainGlobals x = some (some (.ref f)))
    (l : K.lookup f = some ⟨oc, od, .func (PySem.W.fnOf x x (defArgs st) (defBody st) (defScope st) .none kV doc pm an cdv ct), osl⟩) (c : PySem.W.codeIn K cdv x = true) (k : PySem.W.keepIn K (.ref f) = true) :
    ∃ f fd, At K mg x st f fd := ⟨f, _, fun_mk l c k, PySem.W.mg_of X G a⟩
theorem pick {K : PySem.W.Frag} {h : Heap} (_ : K.In h) {p : PySem.W.Frag → Prop} (q : p K) : p K := q
theorem law_binds {st : Stmt} {f : Addr} {fd : FuncData} (F : Fun K "law" "law" st f fd)
    (h : ∀ (kV doc pm : Value) (an : Option Addr) (cdv ct u : Value), bindArgs (PySem.W.fnOf "law" "law" (defArgs st) (defBody st) (defScope st) .none kV doc pm an cdv ct) ⟨[u], []⟩ = pure [(("script" : Str), u)]) : ∀ (s : Shared) (u : Value), BindsTo s fd ⟨[u], []⟩ [(("script" : Str), u)] := by
  obtain ⟨oc, od, kV, doc, pm, an, cdv, ct, osl, rfl, lk, hcd⟩ := F.ex
  exact fun s u => .of_eq (h _ _ _ _ _ _ u)
theorem glob_str {x z : Str} {t : Tok} (X : K.In h) (G : h.Ns mainGlobals mg) (a : PySem.W.nsIn K mainGlobals x = some (some (.str z t))) : Glob K mg x (.str z) := ⟨.str z, _, PySem.W.mg_of X G a, ⟨t, rfl⟩, fun _ _ => .str z⟩
theorem glob_int {x : Str} {i : Int} {t : Tok} (X : K.In h) (G : h.Ns mainGlobals mg) (a : PySem.W.nsIn K mainGlobals x = some (some (.int i t))) : Glob K mg x (.int i) := ⟨.int i, _, PySem.W.mg_of X G a, ⟨t, rfl⟩, fun _ _ => .int i⟩
/-- flat values as data -/
def flatD : Value → Option (V × D)
  | .none => some (.non, .non)
  | .bool b => some (.bl b, .bl b)
  | .int i _ => some (.int i, .int i)
  | .str z _ => some (.str z, .str z)
  | _ => none
def flatDs : List Value → Option (List V × List D)
  | [] => some ([], [])
  | v :: vs => match flatD v, flatDs vs with
    | some a, some b => some (a.1 :: b.1, a.2 :: b.2)
    | _, _ => none
theorem flatD_is {v : Value} {a : V × D} (e : flatD v = some a) (z : Z) (G : Hp) : RelV a.1 v ∧ Is z K G a.1 a.2 := by
  cases v <;> simp [flatD] at e <;> subst e
  · exact ⟨rfl, .non⟩
  · exact ⟨rfl, .bl _⟩
  · exact ⟨⟨_, rfl⟩, .int _⟩
  · exact ⟨⟨_, rfl⟩, .str _⟩
theorem flatDs_is : ∀ {vs : List Value} {a : List V × List D}, flatDs vs = some a → ∀ (z : Z) (G : Hp), Vals a.1 vs ∧ IsA z K G a.1 a.2
  | [], a, e, z, G => by simp [flatDs] at e; subst e; exact ⟨.nil, .nil⟩
  | v :: vs, a, e, z, G => by
    unfold flatDs at e
    cases e1 : flatD v with
    | none => rw [e1] at e; simp at e
    | some b =>
      cases e2 : flatDs vs with
      | none => rw [e1, e2] at e; simp at e
      | some c =>
        rw [e1, e2] at e; simp at e; subst e
        have h1 := flatD_is (K := K) e1 z G
        have h2 := flatDs_is e2 z G
        exact ⟨.cons h1.1 h2.1, .cons h1.2 h2.2⟩
theorem glob_tup {x : Str} {p : Addr} {od : Option Addr} {osl : Array (Option Value)} {its : Array Value} {n : Nat} {vs : List V} {ds : List D} (X : K.In h) (G : h.Ns mainGlobals mg) (a : PySem.W.nsIn K mainGlobals x = some (some (.ref p)))
    (l : K.lookup p = some ⟨.type "tuple", od, .seq its n, osl⟩) (e : flatDs its.toList = some (vs, ds)) (hs : its.size ≤ sizeLine) : Glob K mg x (.tup ds) :=
  ⟨.ref p, _, PySem.W.mg_of X G a, rfl, fun z G => .tup (.inr ⟨_, its, n, l, rfl, rfl, hs, (flatDs_is (K := K) e z G).1⟩) (flatDs_is e z G).2⟩
theorem nb_of (X : K.In h) (G : h.Ns mainGlobals mg) (z1 : PySem.W.nsIn K mainGlobals "len" = some none) (z2 : PySem.W.nsIn K mainGlobals "isinstance" = some none) (z3 : PySem.W.nsIn K mainGlobals "abs" = some none) (z4 : PySem.W.nsIn K mainGlobals "min" = some none)
    (z5 : PySem.W.nsIn K mainGlobals "all" = some none) (z6 : PySem.W.nsIn K mainGlobals "any" = some none) (z7 : PySem.W.nsIn K mainGlobals "repr" = some none) (z8 : PySem.W.nsIn K mainGlobals "sorted" = some none)
    (z9 : PySem.W.nsIn K mainGlobals "int" = some none) (y1 : PySem.W.nsIn K mainGlobals "bool" = some none) (y2 : PySem.W.nsIn K mainGlobals "str" = some none) (y3 : PySem.W.nsIn K mainGlobals "tuple" = some none)
    (y4 : PySem.W.nsIn K mainGlobals "list" = some none) (y5 : PySem.W.nsIn K mainGlobals "dict" = some none) (y6 : PySem.W.nsIn K mainGlobals "set" = some none) (y7 : PySem.W.nsIn K mainGlobals "range" = some none) (y8 : PySem.W.nsIn K mainGlobals "zip" = some none) (y9 : PySem.W.nsIn K mainGlobals "max" = some none) (x1 : PySem.W.nsIn K mainGlobals "sum" = some none) : NB mg :=
  ⟨PySem.W.mg_none_of X G z1, PySem.W.mg_none_of X G z2, PySem.W.mg_none_of X G z3, PySem.W.mg_none_of X G z4, PySem.W.mg_none_of X G z5, PySem.W.mg_none_of X G z6, PySem.W.mg_none_of X G z7, PySem.W.mg_none_of X G z8,
   PySem.W.mg_none_of X G z9, PySem.W.mg_none_of X G y1, PySem.W.mg_none_of X G y2, PySem.W.mg_none_of X G y3, PySem.W.mg_none_of X G y4, PySem.W.mg_none_of X G y5, PySem.W.mg_none_of X G y6, PySem.W.mg_none_of X G y7, PySem.W.mg_none_of X G y8, PySem.W.mg_none_of X G y9, PySem.W.mg_none_of X G x1⟩
end
end DL
namespace DL
open PySem L2 PySem.Spec PyProof.Rows
/-! ### how long a datum's text is at most, how deep it is -/
mutual
def D.wt : D → Nat
  | .non => 4
  | .bl _ => 5
  | .int i => i.natAbs.log2 + 3
  | .str x => 10 * x.length + 2
  | .tup ds => D.wtA ds + 3
  | .lst ds => D.wtA ds + 3
  | .dct _ _ => 40
  | _ => 0
def D.wtA : List D → Nat
  | [] => 0
  | d :: ds => d.wt + 2 + D.wtA ds
end
mutual
def D.dp : D → Nat
  | .tup ds => D.dpA ds + 1
  | .lst ds => D.dpA ds + 1
  | .dct _ _ => 2
  | _ => 0
def D.dpA : List D → Nat
  | [] => 0
  | d :: ds => max d.dp (D.dpA ds)
end
theorem wtA_append : ∀ a b : List D, D.wtA (a ++ b) = D.wtA a + D.wtA b
  | [], b => by simp [D.wtA]
  | x :: a, b => by simp [D.wtA, wtA_append a b]; omega
theorem dpA_append : ∀ a b : List D, D.dpA (a ++ b) = max (D.dpA a) (D.dpA b)
  | [], b => by simp [D.dpA]
  | x :: a, b => by simp [D.dpA, dpA_append a b, Nat.max_assoc]
theorem wtA_len : ∀ a : List D, 2 * a.length ≤ D.wtA a
  | [] => by simp [D.wtA]
  | x :: a => by have := wtA_len a; simp [D.wtA]; omega
theorem wtA_mem : ∀ {a : List D} {x : D}, x ∈ a → x.wt + 2 ≤ D.wtA a
  | y :: a, x, h => by
    rcases List.mem_cons.mp h with rfl | h
    · simp [D.wtA]
    · have := wtA_mem h; simp [D.wtA]; omega
theorem dpA_mem : ∀ {a : List D} {x : D}, x ∈ a → x.dp ≤ D.dpA a
  | y :: a, x, h => by
    rcases List.mem_cons.mp h with rfl | h
    · simp [D.dpA]; omega
    · have := dpA_mem h; simp [D.dpA]; omega
theorem dpA_le : ∀ {a : List D} {k : Nat}, (∀ x ∈ a, x.dp ≤ k) → D.dpA a ≤ k
  | [], k, _ => by simp [D.dpA]
  | y :: a, k, h => by
    have h1 := h y List.mem_cons_self
    have h2 := dpA_le (a := a) fun x hx => h x (List.mem_cons_of_mem _ hx)
    simp [D.dpA]; omega
theorem wtA_le : ∀ {a : List D} {k : Nat}, (∀ x ∈ a, x.wt ≤ k) → D.wtA a ≤ a.length * (k + 2)
  | [], k, _ => by simp [D.wtA]
  | y :: a, k, h => by
    have h1 := h y List.mem_cons_self
    have h2 := wtA_le (a := a) fun x hx => h x (List.mem_cons_of_mem _ hx)
    simp [D.wtA, Nat.succ_mul]; omega
/-- data that have a text -/
inductive Nice : D → Prop
  | non : Nice .non
  | bl (b : Bool) : Nice (.bl b)
  | int {i : Int} : i.natAbs.log2 < 1900 → Nice (.int i)
  | str {x : Str} : PyData.strOk x = true → x.length ≤ 100000 → Nice (.str x)
  | tup {ds : List D} : (∀ d ∈ ds, Nice d) → Nice (.tup ds)
  | lst {ds : List D} : (∀ d ∈ ds, Nice d) → Nice (.lst ds)
  | d0 : Nice (.dct [] [])
  | d1 : Nice (.dct [.inr "a"] [.int 1])
theorem nice_all : ∀ {ds : List D}, (∀ d ∈ ds, ∃ p, d.py = some p ∧ p.showable = true ∧ p.shown.length ≤ d.wt ∧ p.depth ≤ d.dp) →
    ∃ ps, D.pyA ds = some ps ∧ PyData.showableAll ps = true ∧ ((PyData.shownAll ps).map (·.length)).sum + 2 * ds.length ≤ D.wtA ds ∧ (PyData.shownAll ps).length = ds.length ∧ PyData.depthAll ps ≤ D.dpA ds
  | [], _ => ⟨[], rfl, by simp [PyData.showableAll], by simp [PyData.shownAll, D.wtA], by simp [PyData.shownAll], by simp [PyData.depthAll]⟩
  | d :: ds, h => by
    obtain ⟨ps, e, a1, a2, a3, a4⟩ := nice_all (ds := ds) fun x hx => h x (List.mem_cons_of_mem _ hx)
    obtain ⟨p, e1, b1, b2, b3⟩ := h d List.mem_cons_self
    refine ⟨p :: ps, by unfold D.pyA; rw [e1, e], by simp [PyData.showableAll, b1, a1], ?_, by simp [PyData.shownAll, a3], ?_⟩
    · simp only [PyData.shownAll, List.map_cons, List.sum_cons, List.length_cons, D.wtA]
      omega
    · show max p.depth (PyData.depthAll ps) ≤ max d.dp (D.dpA ds)
      omega
theorem nice_py {d : D} (h : Nice d) : ∃ p, d.py = some p ∧ p.showable = true ∧ p.shown.length ≤ d.wt ∧ p.depth ≤ d.dp := by
  induction h with
  | non => obtain ⟨p, e, h1, h2, h3⟩ := sm_py sm_non; exact ⟨p, e, h1, h2, h3⟩
  | bl b => obtain ⟨p, e, h1, h2, h3⟩ := sm_py (sm_bl b); exact ⟨p, e, h1, h2, h3⟩
  | @int i h =>
    refine ⟨.int i, by simp [D.py], by simp [PyData.showable]; omega, ?_, by simp [PyData.depth]⟩
    have := int_text_length_le (a := i) (k := i.natAbs.log2 + 1) (by omega) (Nat.lt_succ_self _)
    simp only [PyData.shown, D.wt]
    rw [PySem.ofString_length]
    omega
  | @str x h hl =>
    have hs : ∀ c ∈ x.cps.toList, c < 16 ^ 8 := fun c hc => by
      unfold PyData.strOk at h
      rw [← Array.all_toList] at h
      have := List.all_eq_true.mp h c hc
      simp at this; omega
    obtain ⟨p, e, h1, h2, h3⟩ := sm_py (sm_str hs)
    exact ⟨p, e, h1, h2, h3⟩
  | @tup ds h ih =>
    obtain ⟨ps, e, a1, a2, a3, a4⟩ := nice_all ih
    refine ⟨.tuple ps, by unfold D.py; rw [e]; rfl, by simpa [PyData.showable] using a1, ?_, by show PyData.depthAll ps + 1 ≤ D.dpA ds + 1; omega⟩
    have := PySem.tupleText_len_le (PyData.shownAll ps)
    simp only [PyData.shown, D.wt]
    omega
  | @lst ds h ih =>
    obtain ⟨ps, e, a1, a2, a3, a4⟩ := nice_all ih
    refine ⟨.list ps, by unfold D.py; rw [e]; rfl, by simpa [PyData.showable] using a1, ?_, by show PyData.depthAll ps + 1 ≤ D.dpA ds + 1; omega⟩
    have := PySem.listText_len_le (PyData.shownAll ps)
    simp only [PyData.shown, D.wt]
    omega
  | d0 => exact ⟨.dict [], by rfl, by decide +kernel, by decide +kernel, by decide +kernel⟩
  | d1 => exact ⟨.dict [(.str "a", .int 1)], by rfl, by decide +kernel, by decide +kernel, by decide +kernel⟩
theorem nice_show {d : D} (h : Nice d) (hw : d.wt ≤ sizeLine) (hd : d.dp ≤ 64) : d.showable = true := by
  obtain ⟨p, e, h1, h2, h3⟩ := nice_py h
  exact showable_of_sm (sm_of e h1 (Nat.le_trans h2 hw) (Nat.le_trans h3 hd)) (Nat.le_refl _) (Nat.le_refl _)
theorem nice_okD {d : D} (h : Nice d) : okD d := by cases h <;> rfl
theorem nice_int {i : Int} (h0 : -(2 ^ 200) < i) (h1 : i < 2 ^ 200) : Nice (.int i) := by
  refine .int ?_
  have : i.natAbs < 2 ^ 1899 := by
    have : (2 : Nat) ^ 200 < 2 ^ 1899 := Nat.pow_lt_pow_right (by decide) (by decide)
    omega
  by_cases z : i.natAbs = 0
  · rw [z]; decide
  · have := (Nat.log2_lt z).mpr this; omega
theorem log2_le {i : Int} {k : Nat} (h : i.natAbs < 2 ^ k) : i.natAbs.log2 ≤ k := by
  by_cases z : i.natAbs = 0
  · rw [z]; simp
  · exact Nat.le_of_lt ((Nat.log2_lt z).mpr h)
end DL
namespace DL
open PySem L2 PySem.Spec PyProof.Rows
/-! ### a frame whose marks are counted -/
abbrev WFm := List D → Nat → Int → (D → Nat → Int → Prop) → Prop
abbrev PhiA (w : World) : Phi := fun z _ _ => z.w = w ∧ z.act = true
def spM (K : PySem.W.Frag) (wd : World) (w : WFm) (vs : List V) (H : Hp) (Q : VK) : Prop := ∃ z S0 ds n m, (z.w = wd ∧ z.act = true) ∧ Sta z n (some m) H ∧ (∀ p, S0 p → H p ≠ none) ∧ ((∀ p, Zs z p → S0 p) ∧ ∀ p, Zf z p → S0 p) ∧ IsA z K (hide S0 H) vs ds ∧
  w ds n m fun d n' m' => ∀ v H', Ext (Zs z) S0 H H' → Sta z n' (some m') H' → Is z K (hide S0 H') v d → Q v H'
structure FnM (P : Program) (w : World) (K : PySem.W.Frag) (mg : Str → Option Value) (base : Heap) (k : Nat) (f : Addr) (fd : FuncData) (ps : List Str) (W : WFm) : Prop where
  mono : ∀ ds n m {k k' : D → Nat → Int → Prop}, (∀ d n m, k d n m → k' d n m) → W ds n m k → W ds n m k'
  len : ∀ ds n m k, W ds n m k → ds.length = ps.length
  run : ∀ (A : Around) (outer : List Env) (s : Shared) (H : Hp) (args : Args) (us : List Value) (vs : List V) (Q : VK), Room k A → A.guards = some [] → Env0 P w K mg base A outer s H → BindsTo s fd args (ps.zip us) → Vals vs us → spM K w W vs H Q →
    codeAny (model P w) A (.call (.ref f) args) (CR CX0 outer P w H s Q E0) s
theorem FnM.up {P : Program} {w : World} {K : PySem.W.Frag} {mg : Str → Option Value} {base : Heap} {j k : Nat} {f : Addr} {fd : FuncData} {ps : List Str} {W : WFm} (F : FnM P w K mg base j f fd ps W) (h : j ≤ k) : FnM P w K mg base k f fd ps W :=
  ⟨F.mono, F.len, fun A outer s H args us vs Q hr => F.run A outer s H args us vs Q (hr.mono h)⟩
structure OkM (P : Program) (w : World) (K : PySem.W.Frag) (mg : Str → Option Value) (base : Heap) (x : Str) (st : Stmt) (k : Nat) (ps : List Str) (W : WFm) : Prop where
  ex : ∃ f fd, Fun K x x st f fd ∧ FnM P w K mg base k f fd ps W ∧ mg x = some (.ref f) ∧ Binds K fd ps []
theorem OkM.mk' {P : Program} {w : World} {K : PySem.W.Frag} {mg : Str → Option Value} {base : Heap} {x : Str} {st : Stmt} {k : Nat} {ps : List Str} {W : WFm} {f : Addr} {fd : FuncData} (a : At K mg x st f fd) (b : Binds K fd ps []) (F : FnM P w K mg base k f fd ps W) : OkM P w K mg base x st k ps W := ⟨f, fd, a.fn, F, a.mg, b⟩
def GoodM (W : WFm) (m : Nat) : Prop := (∀ ds n q {k k' : D → Nat → Int → Prop}, (∀ d n m, k d n m → k' d n m) → W ds n q k → W ds n q k') ∧ ∀ ds n q k, W ds n q k → ds.length = m
def WNoM : WFm := fun _ _ _ _ => False
def prevM (V : Nat → WFm) : Nat → WFm
  | 0 => WNoM
  | L + 1 => V L
theorem OkM.never {P : Program} {w : World} {K : PySem.W.Frag} {mg : Str → Option Value} {base : Heap} {x : Str} {st : Stmt} {k : Nat} {ps : List Str} {f : Addr} {fd : FuncData} (a : At K mg x st f fd) (b : Binds K fd ps []) : OkM P w K mg base x st k ps WNoM :=
  OkM.mk' a b ⟨fun _ _ _ _ _ _ q => q, fun _ _ _ _ q => q.elim, fun _ _ _ _ _ _ _ _ _ _ _ _ _ ⟨_, _, _, _, _, _, _, _, _, _, q⟩ => q.elim⟩
section
variable {X : Cx} {Φ : Phi} {k : Nat} {f : Addr} {fd : FuncData} {ps : List Str} {W : WFm}
theorem run_M {pins : List (Addr × Obj)} {σ : L2.St} {H : Hp} {s : Shared} {Q : VK} {args : Args} {us : List Value} {vs : List V} (F : FnM X.prog X.w X.K X.mg X.base k f fd ps W) (hr : Room k X.A) (hgd : X.A.guards = some [])
    (I : Inv X pins σ H s) (hb : BindsTo s fd args (ps.zip us)) (r : Vals vs us) (h : spM X.K X.w W vs H Q) : codeAny (model X.prog X.w) X.A (.call (.ref f) args) (fun r s' => match r with | .ok (.ret u) => EP X pins σ Q u s' | _ => False) s := by
  refine codeAny_mono (F.run X.A X.stack s H args us vs Q hr hgd I.env0 hb r h) fun r s' hq => ?_
  match r, hq with
  | .error e, hq => exact hq.elim
  | .ok (.ret u), hq => exact I.after hq
  | .ok .next, hq => exact hq.elim
  | .ok .brk, hq => exact hq.elim
  | .ok .cont, hq => exact hq.elim
/-- the call, by values -/
theorem pe_M {x : Str} {p pos : Pos} {e : Expr} {es : List Expr} {ta : TA} (F : FnM X.prog X.w X.K X.mg X.base k f fd ps W) (hr : Room k X.A) (hgd : X.A.guards = some []) (hg : Gl X x) (hm : X.mg x = some (.ref f)) (hk : PySem.W.keepIn X.K (.ref f) = true) (hb : Binds X.K fd ps [])
    (ha : PA X (e :: es) ta) (hdb : (x == ("__debug__" : Str)) = false := by decide) (he : starEach (e :: es) X.env = (false, eval e X.env) :: starEach es X.env := by rfl) (hpl : (backTo pos (starEach es X.env)).any (·.1) = false := by rfl) :
    PE X (.Call (.Name x p) (e :: es) [] pos) (fun σ H Q => ta σ H fun vs H1 => spM X.K X.w W vs H1 Q) := by
  refine ⟨fun pins s σ H Q I h => wpAny_Call_Name_kw (ld_glob I hg hm ?_ hdb)⟩
  refine PySem.W.callWith_K (h₀ := X.base) I.ok.mod.kin hk (thn (ha.run pos pins s σ H _ I h) fun us s1 ⟨vs, H1, I1, r, q⟩ => ⟨I1.kIn, ?_⟩) he hpl
  have hl : us.length = ps.length := by
    obtain ⟨z, S0, ds, n, m, _, _, _, _, i, w⟩ := q
    rw [← r.length, i.length]
    exact F.len _ _ _ _ w
  have bt := hb s1 us I1.kIn (by rw [List.append_nil]; exact hl)
  rw [List.append_nil] at bt
  refine wpAny_call (codeAny_mono (run_M F hr hgd I1 bt r q) fun rr s' hq => ?_)
  match rr, hq with
  | .error e, hq => exact hq.elim
  | .ok (.ret u), hq => exact hq
  | .ok .next, hq => exact hq.elim
  | .ok .brk, hq => exact hq.elim
  | .ok .cont, hq => exact hq.elim
def mCallM (W : WFm) (n : MA) : ME := fun env k => n env fun ds e => ∃ m, e.mr = some m ∧ W ds e.cr m fun d cr m' => k d { e with cr := cr, mr := some m' }
theorem de_okM {x : Str} {p pos : Pos} {st : Stmt} {e : Expr} {es : List Expr} {n : MA} (o : OkM X.prog X.w X.K X.mg X.base x st k ps W) (hr : Room k X.A) (hgd : X.A.guards = some []) (ha : DA X Φ (e :: es) n) (hw : ∀ z S0 H0, Φ z S0 H0 → z.w = X.w ∧ z.act = true := by exact fun _ _ _ h => h) (hg : Gl X x := by rfl)
    (hdb : (x == ("__debug__" : Str)) = false := by decide) (he : starEach (e :: es) X.env = (false, eval e X.env) :: starEach es X.env := by rfl) (hpl : (backTo pos (starEach es X.env)).any (·.1) = false := by rfl) : DE X Φ (.Call (.Name x p) (e :: es) [] pos) (mCallM W n) := by
  obtain ⟨f, fd, a, F, m, b⟩ := o.ex
  refine ⟨fun env k k' h q => ha.mono env (fun ds e ⟨m, em, q⟩ => ⟨m, em, F.mono _ _ _ (fun d n m q => h _ _ q) q⟩) q, pe_imp (pe_M F hr hgd hg m a.kp b ha.pa hdb he hpl) fun σ H Q ⟨z, S0, H0, ps, env, r, q⟩ => ⟨z, S0, H0, ps, env, r, ha.mono env (fun ds e q => ?_) q⟩⟩
  obtain ⟨m, em, q⟩ := q
  intro vs H1 r1 x1 i1
  have st1 := r1.sta
  rw [em] at st1
  refine ⟨z, Sx S0 ps, ds, e.cr, m, hw _ _ _ r1.phi, st1, r1.dom, ⟨fun p h => .inl (r1.zs p h), fun p h => .inl (r1.zf p h)⟩, i1, F.mono _ _ _ (fun d cr m' q => ?_) q⟩
  intro v H2 x2 s2 i2
  exact q v H2 (r1.call x2 s2) (x1.trans x2.loc) i2
/-- frame["marks"] -/
def mMarks (mo : ME) : ME := fun env k => mo env fun x e1 => (∃ f n, x = .fra f n) ∧ ∃ m, e1.mr = some m ∧ k (.int m) e1
theorem de_marks {o : Expr} {mo : ME} {j : Nat} {pos p2 : Pos} (hu : X.A.units + 1 < cLine) (ho : DE X Φ o mo) : DE X Φ (.Subscript o (.Constant (.str "marks") j p2) pos) (mMarks mo) := by
  refine ⟨fun env k k' h q => ho.mono env (fun x e1 ⟨w, m, em, q⟩ => ⟨w, m, em, h _ _ q⟩) q, pe_imp (pe_dget hu ho.pe pe_str (fun _ _ => rfl)) fun σ H Q ⟨z, S0, H0, ps, env, r, q⟩ => ⟨z, S0, H0, ps, env, r, ho.mono env (fun x e1 q => ?_) q⟩⟩
  obtain ⟨⟨f, n, rfl⟩, m, em, q⟩ := q
  intro v H1 r1 x1 i1
  cases i1 with
  | fra g jf jn =>
    obtain ⟨m', _, g', e'⟩ := r1.sta.fr _ _ _ g
    cases e' m em
    exact ⟨_, _, rfl, .inl ⟨_, .inr "marks", .inl g', rfl, by rw [valV_neg str_ne2, valV_neg str_ne3, valV_pos rfl]⟩, q _ H1 r1 x1 (.int _)⟩
/-- frame["marks"] = e -/
def mMput (mo mv : ME) : MS := fun env k => mv env fun v e1 => mo e1 fun x e2 => (∃ f n, x = .fra f n) ∧ ∃ m, v = .int m ∧ 0 ≤ m ∧ k.nx { e2 with mr := some m }
theorem putK_marks (vf vn : V) (m0 m : Int) : putK [((.inr "fields" : Key), vf), (.inr "numbers", vn), (.inr "marks", V.int m0)] (.inr "marks") (V.int m) = [((.inr "fields" : Key), vf), (.inr "numbers", vn), (.inr "marks", V.int m)] := by
  unfold putK
  rw [if_pos (by simp)]
  simp only [List.map_cons, List.map_nil, if_neg str_ne2, if_neg str_ne3, if_pos]
theorem ds_mput {o e : Expr} {mo mv : ME} {j : Nat} {pos pos' p2 : Pos} (hu : X.A.units + 1 < cLine) (ho : DE X Φ o mo) (hv : DE X Φ e mv) (hw : ∀ z S0 H0, Φ z S0 H0 → z.w = X.w ∧ z.act = true := by exact fun _ _ _ h => h) (hs : swapsWith e (some (.Subscript o (.Constant (.str "marks") j p2) pos')) pos.line X.env = pure false := by rfl) :
    DS X Φ (.Assign [.Subscript o (.Constant (.str "marks") j p2) pos'] e pos) (mMput mo mv) := by
  refine ⟨fun env k k' h q => hv.mono env (fun v e1 q => ho.mono e1 (fun x e2 ⟨w, m, a, b, q⟩ => ⟨w, m, a, b, h.nx _ q⟩) q) q, ps_imp (ps_dput hu ho.pe pe_str hv.pe hs) fun E σ H ⟨z, S0, H0, ps, env, r, q⟩ => ⟨z, S0, H0, ps, env, r, hv.mono env (fun v e1 q => ?_) q⟩⟩
  intro v' H1 r1 x1 i1
  refine ⟨z, S0, H0, ps, e1, r1, ho.mono e1 (fun x e2 q => ?_) q⟩
  intro u H2 r2 x2 i2
  obtain ⟨⟨f, n, rfl⟩, m, rfl, hm, q⟩ := q
  cases i1
  cases i2 with
  | @fra a vf vn _ _ g jf jn =>
    obtain ⟨m0, _, g', _⟩ := r2.sta.fr _ _ _ g
    have za : Zs z a := .inr <| .inl ⟨(hw _ _ _ r2.phi).2, _, _, g⟩
    refine ⟨a, L2.upd H2 a (frO vf vn m), rfl, .inl ⟨_, .inr "marks", g', rfl, by show 3 < sizeLine; decide, ?_⟩, ?_⟩
    · rw [putK_marks]; rfl
    have ext : Ext (Zs z) (Sx S0 ps) H2 (L2.upd H2 a (frO vf vn m)) := fun b o hb eb => by
      have hba : b ≠ a := fun w => hb (w ▸ za)
      rw [upd_ne hba]; exact ⟨o, eb, .same o, fun _ _ => rfl⟩
    have st : Sta z e2.cr (some m) (L2.upd H2 a (frO vf vn m)) := by
      refine ⟨fun q e => (r2.sta.dr q e).same fun b hb => upd_ne fun w => ?_, fun a' vf' vn' e => ?_, z.stay H2 _ (fun b u su e => ?_) r2.sta.inv, tabs_upd r2.sta.tb g' (fun w => w) (fun _ w => by unfold frO at w; cases w)⟩
      · obtain ⟨_, _, ws, cs, h1, h2, h3, _⟩ := (r2.sta.dr q e).ex
        subst w
        rcases hb with rfl | rfl | rfl
        · exact ne_of g' h1 (by intro w; unfold frO at w; cases w) rfl
        · exact ne_of g' h2 (by intro w; unfold frO at w; cases w) rfl
        · exact ne_of g' h3 (by intro w; unfold frO at w; cases w) rfl
      · rw [g] at e; cases e
        exact ⟨m, hm, upd_same, fun m' w => by cases w; rfl⟩
      · rw [upd_ne]
        · exact e
        · intro w; subst w; rw [g'] at e; cases e; exact su
    exact q _ _ _ (r2.call ext st) (.of_ext (x1.trans (x2.trans ext.loc)))
end
section
variable {P : Program} {w : World} {K : PySem.W.Frag} {mg : Str → Option Value} {base : Heap}
/-- a def that writes the frame -/
theorem fnM_of {x qual : Str} {st : Stmt} {f : Addr} {fd : FuncData} {N ps : List Str} {k : Nat} {W : WFm} (F : Fun K x qual st f fd) (S : FnScope N ps (defScope st)) (gd : GoodM W ps.length)
    (hbody : ∀ (cdv : Value) (A : Around) (outer : List Env) (s : Shared) (H : Hp), Room k (cxD P w K mg base N qual (defScope st) f cdv A outer s H).A → (cxD P w K mg base N qual (defScope st) f cdv A outer s H).A.guards = some [] →
      ∃ m, DSs (cxD P w K mg base N qual (defScope st) f cdv A outer s H) (PhiA w) (defBody st) m ∧ ∀ ds n q kk, W ds n q kk → m { startE N.length ds n with mr := some q } { nx := fun e => ∃ m, e.mr = some m ∧ kk .non e.cr m, rt := fun d e => ∃ m, e.mr = some m ∧ kk d e.cr m }) : FnM P w K mg base (k + 1) f fd ps W := by
  obtain ⟨oc, od, kV, doc, pm, an, cdv, ct, osl, rfl, lk, hcd⟩ := F.ex
  refine ⟨gd.1, gd.2, fun A outer s H args us vs Q hr hgd e0 hb r hsp => ?_⟩
  obtain ⟨z, S0, ds, n, q0, h0, h1, h2, h3, h4, h5⟩ := hsp
  have hl : vs.length = ps.length := by rw [h4.length]; exact gd.2 _ _ _ _ h5
  have keep := fun b o e => (e0.bs b o e).1
  have KX : K.In s.heap := e0.mod.kin.keeps keep
  have lim : s.heap.NoLimit := e0.mod.nolimit.keeps keep
  obtain ⟨m, hm, hq⟩ := hbody cdv A outer s H (hr.deeper _) (deeper_guards hgd)
  refine codeAny_call_function hr.depth (KX _ _ lk) rfl S.co S.gen rfl (PySem.W.codeRec_of KX hcd) (hb _ _ _ _ ?_)
  refine wpAny_newFunctionEnv_cells S.kind (fun y hy => ?_) fun env he s1 x => ?_
  · rcases S.par y.1 (List.of_mem_zip hy).1 with q | q
    · exact .inl q
    · exact .inr ⟨q, PySem.W.cellsFrom_some _ _ _ (.inl q)⟩
  · subst he
    refine ⟨lim.keeps x.toInCall.keep, codeAny_func ?_⟩
    have I0 : Inv (cxOf CX0 P w K mg base N qual (defScope st) f cdv A outer s H E0) [] (L2.start N vs) H s1 := inv_start S hr.hd e0 hl r x
    have I : Inv (cxD P w K mg base N qual (defScope st) f cdv A outer s H) [] (L2.start N vs) H s1 := I0.wish _
    have rl0 := rel_start (Φ := PhiA w) (N := N) h0 h1.wk h2 h3 h4
    have rl := rl0.call (n := n) .refl h1
    have done : ∀ {H' : Hp} {σ' : L2.St} {v : V} {u : Value} {s' : Shared}, Inv (cxD P w K mg base N qual (defScope st) f cdv A outer s H) [] σ' H' s' → RelV v u → Q v H' → CE outer P w H s Q u s' := fun J rv q => ⟨_, _, J.os, J.bare, J.base, J.hok, rv, q⟩
    have hrun := hm.ps.run [] s1 (L2.start N vs) H { nx := fun _ H' => Q .non H', rt := Q } I ⟨z, S0, H, _, _, rl, hm.mono _ ?_ (hq ds n q0 _ h5)⟩
    · refine wpAny_mono hrun (fun fl s' hs => ?_) fun e s' hs => hs.elim
      match fl, hs with
      | .ret u, ⟨v, σ', H', J, rv, q⟩ => exact done J rv q
      | .next, ⟨σ', H', J, q⟩ => exact done (v := V.non) (u := Value.none) J rfl q
      | .brk, ⟨_, _, _, q⟩ => exact q.elim
      | .cont, ⟨_, _, _, q⟩ => exact q.elim
    · refine ⟨fun e ⟨m', em, q⟩ ps' σ' H' r' st' => ?_, fun d e ⟨m', em, q⟩ ps' v σ' H' r' i' => ?_, fun e q => q.elim, fun e q => q.elim, fun _ _ q => q.elim⟩
      · have sr := r'.sta; rw [em] at sr
        exact q .non H' r'.ext sr .non
      · have sr := r'.sta; rw [em] at sr
        exact q v H' r'.ext sr (i'.evx (.of_same (hide_mono fun p w => .inl w)))
end
/-! ### data that stand for themselves -/
mutual
def D.own : D → Bool
  | .non => true
  | .bl _ => true
  | .int _ => true
  | .str _ => true
  | .tup ds => D.ownA ds
  | .lst ds => D.ownA ds
  | _ => false
def D.ownA : List D → Bool
  | [] => true
  | d :: ds => d.own && D.ownA ds
end
mutual
theorem Is.self {z z' : Z} {K : PySem.W.Frag} {G : Hp} : ∀ {v : V} {d : D}, d.own = true → Is z K G v d → Is z' K G v d
  | _, _, _, .non => .non
  | _, _, _, .bl b => .bl b
  | _, _, _, .int i => .int i
  | _, _, _, .str x => .str x
  | _, _, h, .tup e t => .tup e (IsA.self (by simpa [D.own] using h) t)
  | _, _, h, .lst e t => .lst e (IsA.self (by simpa [D.own] using h) t)
  | _, _, h, .ty _ => by simp [D.own] at h
  | _, _, h, .dct _ _ _ _ => by simp [D.own] at h
  | _, _, h, .ins _ _ _ => by simp [D.own] at h
  | _, _, h, .frm _ _ _ _ => by simp [D.own] at h
  | _, _, h, .fra _ _ _ => by simp [D.own] at h
  | _, _, h, .exn0 _ _ _ _ => by simp [D.own] at h
  | _, _, h, .exnM _ _ _ _ _ _ => by simp [D.own] at h
  | _, _, h, .exn1 _ _ _ _ _ _ _ _ => by simp [D.own] at h
  | _, _, h, .dcT _ _ _ => by simp [D.own] at h
  | _, _, h, .lam _ _ => by simp [D.own] at h
  | _, _, h, .scr _ => by simp [D.own] at h
  | _, _, h, .sta _ => by simp [D.own] at h
  | _, _, h, .cls _ => by simp [D.own] at h
theorem IsA.self {z z' : Z} {K : PySem.W.Frag} {G : Hp} : ∀ {vs : List V} {ds : List D}, D.ownA ds = true → IsA z K G vs ds → IsA z' K G vs ds
  | _, _, _, .nil => .nil
  | _, _, h, .cons i t => by
    simp only [D.ownA, Bool.and_eq_true] at h
    exact .cons (Is.self h.1 i) (IsA.self h.2 t)
end
end DL
namespace DL
open PySem L2 PySem.Spec PyProof.Rows
/-! ### _law_marked_tree: the frame's marks are counted from here on -/
def mMarked (W : WFm) : MS := fun env k => ∃ F N d mk, env.at 0 = .da .sta ∧ env.at 1 = .da (.frm F N) ∧ env.at 2 = .da (.int d) ∧ env.at 3 = .da (.int mk) ∧ F.own = true ∧ N.own = true ∧ 0 ≤ mk ∧
  W [.sta, .fra F N, .int d] env.cr mk fun r n' _ => r.own = true ∧ k.rt r { env with cr := n' }
/-- what stands elsewhere than at a -/
theorem own_off {z z' : Z} {K : PySem.W.Frag} {S S' : Addr → Prop} {H H' : Hp} {a : Addr} {vf0 vn0 : V} {m0 : Int} (ha : H a = some (frO vf0 vn0 m0)) (h : ∀ p o, p ≠ a → ¬ S p → H p = some o → ¬ S' p ∧ H' p = some o) : ∀ {v : V} {d : D}, d.own = true → Is z K (hide S H) v d → Is z' K (hide S' H') v d := by
  have key : ∀ p o, (∀ vf vn m, o ≠ frO vf vn m) → hide S H p = some o → hide S' H' p = some o := fun p o no e => by
    obtain ⟨n, e⟩ := hide_get.mp e
    have ne : p ≠ a := fun w => by subst w; rw [ha] at e; cases e; exact no _ _ _ rfl
    obtain ⟨n', e'⟩ := h p o ne n e
    exact hide_get.mpr ⟨n', e'⟩
  have key2 : ∀ {p xs}, TupAt K (hide S H) p xs → TupAt K (hide S' H') p xs := fun {p xs} t => t.imp (fun e => key p _ (fun _ _ _ w => by unfold frO at w; cases w) e) id
  intro v d ho i
  exact @Is.rec z K (hide S H) (fun v d _ => d.own = true → Is z' K (hide S' H') v d) (fun vs ds _ => D.ownA ds = true → IsA z' K (hide S' H') vs ds)
    (fun _ => .non) (fun b _ => .bl b) (fun i _ => .int i) (fun x _ => .str x) (fun _ h => by simp [D.own] at h)
    (fun e t ih h => .tup (key2 e) (ih (by simpa [D.own] using h))) (fun e t ih h => .lst (key _ _ (fun _ _ _ w => by unfold frO at w; cases w) e) (ih (by simpa [D.own] using h)))
    (fun _ _ _ _ _ h => by simp [D.own] at h) (fun _ _ _ _ h => by simp [D.own] at h) (fun _ _ _ _ h => by simp [D.own] at h) (fun _ _ _ _ _ _ h => by simp [D.own] at h) (fun _ _ _ _ _ h => by simp [D.own] at h) (fun _ _ _ _ h => by simp [D.own] at h) (fun _ _ _ _ _ _ h => by simp [D.own] at h) (fun _ _ _ _ _ _ _ _ _ h => by simp [D.own] at h) (fun _ _ _ h => by simp [D.own] at h) (fun _ h => by simp [D.own] at h) (fun _ h => by simp [D.own] at h) (fun _ h => by simp [D.own] at h)
    (fun _ => .nil) (fun _ _ i1 i2 h => by simp only [D.ownA, Bool.and_eq_true] at h; exact .cons (i1 h.1) (i2 h.2)) v d i ho
section
variable {X : Cx} {Φ : Phi}
theorem slot_da {z : Z} {S0 : Addr → Prop} {H0 H : Hp} {K : PySem.W.Frag} {ps : List (Option Addr)} {env : DEnv} {σ : L2.St} (r : Rel Φ z S0 H0 K ps env σ H) {i : Nat} {d : D} (e : env.at i = .da d) : ∃ v, σ[i]? = some (some v) ∧ Is z K (hide (Sx S0 ps) H) v d := by
  have h := r.sl i
  rw [e] at h
  obtain ⟨_, v, hv, iv⟩ := h
  refine ⟨v, ?_, iv⟩
  rw [List.getD_eq_getElem?_getD] at hv
  cases e2 : σ[i]? with
  | none => rw [e2] at hv; cases hv
  | some y => rw [e2] at hv; exact congrArg some hv
theorem dss_marked {f : Addr} {fd : FuncData} {k : Nat} {W : WFm} {pps : List Str} {x s0 s1 s2 s3 : Str} {p0 p1 p1' p2 p3 pa pb pd pe pf pk : Pos} {j : Nat} (F : FnM X.prog X.w X.K X.mg X.base k f fd pps W) (hr : Room k X.A) (hgd : X.A.guards = some []) (hg : Gl X x) (hm : X.mg x = some (.ref f)) (hk : PySem.W.keepIn X.K (.ref f) = true) (hb : Binds X.K fd pps [])
    (hu : X.A.units + 1 < cLine) (v0 : PE X (.Name s0 p0) (tVar 0)) (v1 : PE X (.Name s1 p1) (tVar 1)) (v1' : PE X (.Name s1 p1') (tVar 1)) (v2 : PE X (.Name s2 p2) (tVar 2)) (v3 : PE X (.Name s3 p3) (tVar 3)) (hw : PhiOk Φ X.w)
    (hdb : (x == ("__debug__" : Str)) = false := by decide) (hs : swapsWith (.Name s3 p3) (some (.Subscript (.Name s1 p1) (.Constant (.str "marks") j pk) pa)) pb.line X.env = pure false := by rfl)
    (q1 : starEach [.Name s0 p0, .Name s1 p1', .Name s2 p2] X.env = (false, eval (.Name s0 p0) X.env) :: starEach [.Name s1 p1', .Name s2 p2] X.env := by rfl) (q2 : starEach [.Name s1 p1', .Name s2 p2] X.env = (false, eval (.Name s1 p1') X.env) :: starEach [.Name s2 p2] X.env := by rfl)
    (q3 : starEach [.Name s2 p2] X.env = (false, eval (.Name s2 p2) X.env) :: starEach [] X.env := by rfl) (hpl : (backTo pe (starEach [.Name s1 p1', .Name s2 p2] X.env)).any (·.1) = false := by rfl) :
    DSs X Φ [.Assign [.Subscript (.Name s1 p1) (.Constant (.str "marks") j pk) pa] (.Name s3 p3) pb, .Return (some (.Call (.Name x pd) [.Name s0 p0, .Name s1 p1', .Name s2 p2] [] pe)) pf] (mMarked W) := by
  refine ⟨fun env k k' h ⟨F1, N, d, mk, a0, a1, a2, a3, b1, b2, b3, q⟩ => ⟨F1, N, d, mk, a0, a1, a2, a3, b1, b2, b3, F.mono _ _ _ (fun r n' m q => ⟨q.1, h.rt _ _ q.2⟩) q⟩,
    pss_imp (pss_cons (ps_dput hu v1 pe_str v3 hs) (pss_one (ps_ret (pe_M F hr hgd hg hm hk hb (pa_cons v0 (pa_cons v1' (pa_cons v2 pa_nil q3) q2) q1) hdb q1 hpl)))) fun E σ H ⟨z, S0, H0, ps, env, r, F1, N, d, mk, a0, a1, a2, a3, b1, b2, b3, q⟩ => ?_⟩
  obtain ⟨w0, e0, i0⟩ := slot_da r a0
  obtain ⟨w1, e1, i1⟩ := slot_da r a1
  obtain ⟨w2, e2, i2⟩ := slot_da r a2
  obtain ⟨w3, e3, i3⟩ := slot_da r a3
  cases i2; cases i3
  cases i0 with
  | @sta qz eq =>
  cases i1 with
  | @frm a vf vn m0 _ _ g hm0 jf jn =>
    obtain ⟨ng, g'⟩ := hide_get.mp g
    refine ⟨_, e3, _, e1, a, L2.upd H a (frO vf vn mk), rfl, .inl ⟨_, .inr "marks", g', rfl, by show 3 < sizeLine; decide, by rw [putK_marks]; rfl⟩, _, e0, _, e1, _, e2, ?_⟩
    have nq : ∀ p, p = qz.a ∨ p = qz.b ∨ p = qz.c → p ≠ a := fun p hp w => by
      obtain ⟨_, _, ws, cs, h1, h2, h3, _⟩ := (r.sta.dr qz eq).ex
      rw [← w] at g'
      rcases hp with rfl | rfl | rfl
      · rw [h1] at g'; unfold frO at g'; simp at g'
      · rw [h2] at g'; cases g'
      · rw [h3] at g'; cases g'
    let z1 : Z := { z with fr := some (a, vf, vn), act := true }
    let S1 : Addr → Prop := fun p => Sx S0 ps p ∨ p = a
    have off : ∀ p o, p ≠ a → ¬ Sx S0 ps p → H p = some o → ¬ S1 p ∧ (L2.upd H a (frO vf vn mk)) p = some o := fun p o ne n e => ⟨fun w => w.elim n ne, by rw [upd_ne ne]; exact e⟩
    refine ⟨z1, S1, [.sta, .fra F1 N, .int d], env.cr, mk, ⟨show z.w = _ from hw _ _ _ r.phi, rfl⟩, ⟨fun q1 e1 => (r.sta.dr q1 e1).same fun p hp => upd_ne ?_, fun a' vf' vn' e => ?_, ?_, ?_⟩, fun p hp => ?_, ⟨fun p hp => ?_, fun p hp => ?_⟩, .cons (.sta eq) (.cons (.fra rfl (own_off g' off b1 jf) (own_off g' off b2 jn)) (.cons (.int d) .nil)), F.mono _ _ _ (fun res n' m' q => ?_) q⟩
    · rw [eq] at e1; cases e1; exact nq p hp
    · cases e; exact ⟨mk, b3, upd_same, fun m' w => by cases w; rfl⟩
    · refine z.stay H _ (fun b u su e => ?_) r.sta.inv
      rw [upd_ne]
      · exact e
      · intro w; subst w; rw [g'] at e; cases e; exact su
    · exact tabs_upd r.sta.tb g' (fun w => w) (fun _ w => by unfold frO at w; cases w)
    · by_cases hp' : p = a
      · subst hp'; rw [upd_same]; simp
      · rw [upd_ne hp']; exact r.dom p (hp.elim id fun w => absurd w hp')
    · rcases hp with hp | ⟨_, vf', vn', hp⟩ | hp
      · exact .inl (.inl (r.zs p (.inl hp)))
      · cases hp; exact .inr rfl
      · exact .inl (.inl (r.zs p (.inr (.inr hp))))
    · obtain ⟨vf', vn', hp⟩ := hp; cases hp; exact .inr rfl
    · intro v H' x' st' i'
      obtain ⟨ow, q⟩ := q
      obtain ⟨m1, m10, ha', _⟩ := st'.fr a vf vn rfl
      have na : ¬ Sx S0 ps a := ng
      have zz : ∀ p, Zs z1 p → Zs z p ∨ p = a := fun p hp => by
        rcases hp with hp | ⟨_, vf', vn', hp⟩ | hp
        · exact .inl (.inl hp)
        · cases hp; exact .inr rfl
        · exact .inl (.inr (.inr hp))
      have ext : Ext (Zs z) (Sx S0 ps) H H' := fun p o hp e => by
        by_cases hpa : p = a
        · subst hpa
          rw [g'] at e; cases e
          exact ⟨_, ha', .frm _ _ _ _ m10, fun w => absurd w na⟩
        · obtain ⟨o', e', ev, s'⟩ := x' p o (fun w => (zz p w).elim hp hpa) (by rw [upd_ne hpa]; exact e)
          exact ⟨o', e', ev, fun w => s' (.inl w)⟩
      have st2 : Sta z n' env.mr H' := by
        refine ⟨st'.dr, fun a' vf' vn' e => ?_, st'.inv, st'.tb⟩
        obtain ⟨m2, m20, h1, h2⟩ := r.sta.fr a' vf' vn' e
        have hS : S0 a' := r.zf a' ⟨vf', vn', e⟩
        have ne : a' ≠ a := fun w => na (w ▸ .inl hS)
        have nz : ¬ Zs z1 a' := fun w => by
          rcases w with ⟨q1, e1, k⟩ | ⟨_, vf2, vn2, w⟩ | ⟨qq, w⟩
          · obtain ⟨r', t, ws, cs, g1, g2, g3, g4⟩ := (r.sta.dr q1 e1).ex
            rcases k with rfl | rfl
            · rw [g1] at h1; unfold frO at h1; simp at h1
            · rw [g2] at h1; cases h1
          · cases w; exact ne rfl
          · obtain ⟨ts, t1, _⟩ := r.sta.tb _ w
            have t1 : H a' = some (.tbl ts) := t1
            rw [h1] at t1; unfold frO at t1; cases t1
        obtain ⟨o', e', ev, s'⟩ := x' a' _ nz (by rw [upd_ne ne]; exact h1)
        refine ⟨m2, m20, ?_, h2⟩
        rw [e', s' (.inl (.inl hS)) (fun φ w => by unfold frO at w; cases w)]
      exact q ps v σ H' (r.call ext st2) ((Is.self ow i').evx (.of_same (hide_mono fun p w => .inl w)))
end
end DL
namespace DL
open PySem L2 PySem.Spec PyProof.Rows
/-! ### objects of one's own -/
def OwK.toD : OwK → D
  | .lst ds => .lst ds
  | .dct ks ds => .dct ks ds
  | .dcT ks ds => .dcT ks ds
  | .ins C ns ds => .ins C ns ds
theorem OwIs.is {z : Z} {K : PySem.W.Frag} {G : Hp} {ho : HO} {p : Addr} : ∀ {o : OwK}, OwIs z K G ho o → G p = some ho → Is z K G (.ref p) o.toD
  | .lst _, ⟨xs, a, b⟩, e => by subst a; exact .lst e b
  | .dct _ _, ⟨xs, a, b, c, d⟩, e => by subst a; exact .dct e b c d
  | .dcT _ _, ⟨xs, a, b, d⟩, e => by subst a; exact .dcT e b d
  | .ins _ _ _, ⟨dx, xs, a, b, d⟩, e => by subst a; exact .ins e b d
theorem SlOk.evx {z : Z} {K : PySem.W.Frag} {G G' H : Hp} {o : Option Addr} {v : Option V} (e : Evx G G') : ∀ {s : Sl}, SlOk z K G H o v s → SlOk z K G' H o v s
  | .un, _ => trivial
  | .da d, ⟨a, x, b, c⟩ => ⟨a, x, b, c.evx e⟩
  | .ow k, ⟨p, ho, a, b, c, d⟩ => ⟨p, ho, a, b, c, d.evx e⟩
section
variable {Φ : Phi} {z : Z} {S0 : Addr → Prop} {H0 H H' : Hp} {K : PySem.W.Frag} {ps qs : List (Option Addr)} {env env' : DEnv} {σ σ' : L2.St}
theorem Rel.none0 (r : Rel Φ z S0 H0 K ps env σ H) {p : Addr} (hp : H p = none) : H0 p = none := by
  cases e : H0 p with
  | none => rfl
  | some o =>
    by_cases hz : Zs z p
    · exact absurd hp (r.sta.dom hz)
    · obtain ⟨o', e', _⟩ := r.ext p o hz e
      rw [hp] at e'; cases e'
theorem Rel.noZt (r : Rel Φ z S0 H0 K ps env σ H) {p : Addr} (h : some p ∈ ps) : ¬ Zt z p := fun q => r.zt p q (r.fresh p h)
theorem mem_set_some {ps : List (Option Addr)} {i : Nat} {p q : Addr} (h : some q ∈ ps.set i (some p)) : some q ∈ ps ∨ q = p := by
  rcases List.mem_or_eq_of_mem_set h with h | h
  · exact .inl h
  · exact .inr (Option.some.inj h)
/-- slots and owned addresses anew, over the same heap; nothing new is owned -/
theorem Rel.re (r : Rel Φ z S0 H0 K ps env σ H) (hl : env'.sl.length ≤ qs.length) (hs : σ'.length = env'.sl.length) (hc : env'.cr = env.cr) (hm : env'.mr = env.mr)
    (inj : ∀ (i j : Nat) p, qs[i]? = some (some p) → qs[j]? = some (some p) → i = j) (sub : ∀ p, some p ∈ qs → some p ∈ ps) (sl : ∀ i, SlOk z K (hide (Sx S0 qs) H) H (qs.getD i none) (σ'.getD i none) (env'.at i)) :
    Rel Φ z S0 H0 K qs env' σ' H :=
  ⟨hl, hs, inj, fun p h => r.fresh p (sub p h), r.s0, r.zs, r.zf, fun p h => r.dom p (h.imp id (sub p)), r.ext, by rw [hc, hm]; exact r.sta, sl, r.phi, r.zt⟩
theorem sub_hide (sub : ∀ p, some p ∈ qs → some p ∈ ps) : Evx (hide (Sx S0 ps) H) (hide (Sx S0 qs) H) := .of_same (hide_mono fun p w => w.imp id (sub p))
/-- a new object, beyond the slots -/
theorem Rel.tempX (r : Rel Φ z S0 H0 K ps env σ H) {p : Addr} {ho : HO} {n : Nat} {mk : Option Int} (hp : H p = none) (e : Ext (Zs z) (Sx S0 ps) H H') (st : Sta z n mk H') (hp' : H' p = some ho) :
    Rel Φ z S0 H0 K (ps ++ [some p]) { env with cr := n, mr := mk } σ H' := by
  have np : some p ∉ ps := fun w => r.dom p (.inr w) hp
  have nz : ¬ Zs z p := fun w => r.sta.dom w hp
  have mem : ∀ {q}, some q ∈ ps ++ [some p] → some q ∈ ps ∨ q = p := fun {q} w => by
    rcases List.mem_append.mp w with w | w
    · exact .inl w
    · exact .inr (Option.some.inj (List.mem_singleton.mp w))
  have ev : Evx (hide (Sx S0 ps) H) (hide (Sx S0 (ps ++ [some p])) H') := fun q o w => by
    obtain ⟨n, w⟩ := hide_get.mp w
    have ne : q ≠ p := ne_of_none w hp
    obtain ⟨o', e', v, _⟩ := e q o (fun w => n (.inl (r.zs q w))) w
    exact .inr ⟨o', hide_get.mpr ⟨fun w => w.elim (fun w => n (.inl w)) fun w => (mem w).elim (fun w => n (.inr w)) ne, e'⟩, v⟩
  refine ⟨by have := r.lenp; simp; omega, r.lens, fun i j q h1 h2 => ?_, fun q w => ?_, r.s0, r.zs, r.zf, fun q w => ?_, r.ext.trans (e.mono (fun _ h => h) fun _ h => .inl h), st, fun i => ?_, r.phi, r.zt⟩
  · rw [List.getElem?_append] at h1 h2
    split at h1
    · split at h2
      · exact r.inj i j q h1 h2
      · have : q = p := by
          have := List.mem_of_getElem? h2
          exact Option.some.inj (List.mem_singleton.mp this)
        subst this
        exact absurd (List.mem_of_getElem? h1) np
    · have e1 : q = p := Option.some.inj (List.mem_singleton.mp (List.mem_of_getElem? h1))
      subst e1
      split at h2
      · exact absurd (List.mem_of_getElem? h2) np
      · have a1 := (List.getElem?_eq_some_iff.mp h1).1
        have a2 := (List.getElem?_eq_some_iff.mp h2).1
        simp at a1 a2
        omega
  · rcases mem w with w | rfl
    · exact r.fresh q w
    · exact r.none0 hp
  · by_cases hq : q = p
    · subst hq; rw [hp']; simp
    · by_cases hz : Zs z q
      · exact st.dom hz
      · cases w2 : H q with
        | none => exact absurd w2 (r.dom q (w.imp id fun w => (mem w).elim id fun w => absurd w hq))
        | some o =>
          obtain ⟨o', e', _⟩ := e q o hz w2
          rw [e']; simp
  · have hj := r.sl i
    show SlOk z K _ _ _ _ (env.at i)
    have eg : env.at i = .un ∨ (ps ++ [some p]).getD i none = ps.getD i none := by
      by_cases hi : i < env.sl.length
      · right
        rw [List.getD_eq_getElem?_getD, List.getD_eq_getElem?_getD, List.getElem?_append_left (Nat.lt_of_lt_of_le hi r.lenp)]
      · left
        simp [DEnv.at, List.getD_eq_getElem?_getD, List.getElem?_eq_none (Nat.le_of_not_lt hi)]
    cases q : env.at i with
    | un => trivial
    | da d =>
      rw [q] at hj eg
      obtain ⟨h1, x, h2, h3⟩ := hj
      exact ⟨by rcases eg with w | w; cases w; rw [w]; exact h1, x, h2, h3.evx ev⟩
    | ow ds =>
      rw [q] at hj eg
      obtain ⟨b, xs, h1, h2, h3, h4⟩ := hj
      obtain ⟨o', e', v, s'⟩ := e b _ (r.noZ (mem_ps h1).1) h3
      rw [s' (.inr (mem_ps h1).1) h4.noext.2] at e'
      exact ⟨b, xs, by rcases eg with w | w; cases w; rw [w]; exact h1, h2, e', h4.evx ev⟩
theorem Rel.temp (r : Rel Φ z S0 H0 K ps env σ H) {p : Addr} {ho : HO} (hp : H p = none) : Rel Φ z S0 H0 K (ps ++ [some p]) env σ (L2.upd H p ho) :=
  r.tempX (n := env.cr) (mk := env.mr) hp (.of_same (same_upd hp)) (r.sta.upd (r.sta.noneNe hp) (nostab_none hp)) upd_same
/-- beyond the slots nothing is owned -/
theorem Rel.cut (r : Rel Φ z S0 H0 K (ps ++ qs) env σ H) (h : env.sl.length ≤ ps.length) : Rel Φ z S0 H0 K ps env σ H := by
  have sub : ∀ p, some p ∈ ps → some p ∈ ps ++ qs := fun p w => List.mem_append_left _ w
  refine r.re h r.lens rfl rfl (fun i j p h1 h2 => r.inj i j p ?_ ?_) sub fun i => ?_
  · rw [List.getElem?_append_left (List.getElem?_eq_some_iff.mp h1).1]; exact h1
  · rw [List.getElem?_append_left (List.getElem?_eq_some_iff.mp h2).1]; exact h2
  · by_cases hi : i < env.sl.length
    · have e := r.sl i
      rw [List.getD_eq_getElem?_getD, List.getElem?_append_left (Nat.lt_of_lt_of_le hi h), ← List.getD_eq_getElem?_getD] at e
      exact e.evx (sub_hide sub)
    · have : env.at i = .un := by simp [DEnv.at, List.getD_eq_getElem?_getD, List.getElem?_eq_none (Nat.le_of_not_lt hi)]
      rw [this]; trivial
/-- what is owned beyond the slots goes to slot i -/
theorem Rel.take (r : Rel Φ z S0 H0 K ps env σ H) {i j : Nat} {p : Addr} {ho : HO} {o : OwK} (hj : ps[j]? = some (some p)) (hl : env.sl.length ≤ j) (hi : i < env.sl.length) (hp : H p = some ho) (h : OwIs z K (hide (Sx S0 ps) H) ho o) :
    Rel Φ z S0 H0 K ((ps.set j none).set i (some p)) (env.put i (.ow o)) (σ.set i (some (.ref p))) H := by
  have hij : i ≠ j := by omega
  have sub : ∀ q, some q ∈ (ps.set j none).set i (some p) → some q ∈ ps := fun q w => by
    rcases mem_set_some w with w | rfl
    · exact mem_set_none w
    · exact List.mem_of_getElem? hj
  have jl : j < ps.length := (List.getElem?_eq_some_iff.mp hj).1
  have get : ∀ {k : Nat} {q : Addr}, ((ps.set j none).set i (some p))[k]? = some (some q) → (k = i ∧ q = p) ∨ (k ≠ i ∧ k ≠ j ∧ ps[k]? = some (some q)) := fun {k q} w => by
    rw [List.getElem?_set] at w
    split at w
    · rename_i e
      split at w
      · cases w; exact .inl ⟨e.symm, rfl⟩
      · cases w
    · rename_i e
      rw [List.getElem?_set] at w
      split at w
      · first | (split at w <;> cases w) | cases w
      · rename_i e2
        exact .inr ⟨fun w => e w.symm, fun w => e2 w.symm, w⟩
  refine r.re (by have := r.lenp; simp [DEnv.put]; omega) (by simp [DEnv.put, r.lens]) rfl rfl (fun a b q h1 h2 => ?_) sub fun k => ?_
  · rcases get h1 with ⟨a1, a2⟩ | ⟨a1, a2, a3⟩
    · rcases get h2 with ⟨b1, b2⟩ | ⟨b1, b2, b3⟩
      · omega
      · subst a2; exact absurd (r.inj b j q b3 hj) b2
    · rcases get h2 with ⟨b1, b2⟩ | ⟨b1, b2, b3⟩
      · subst b2; exact absurd (r.inj a j q a3 hj) a2
      · exact r.inj a b q a3 b3
  · by_cases hk : i = k
    · subst hk
      have e1 : (env.put i (.ow o)).at i = .ow o := by simp [DEnv.put, DEnv.at, hi]
      rw [e1]
      refine ⟨p, ho, ?_, by simp [r.lens, hi], hp, h.evx (sub_hide sub)⟩
      have : i < ps.length := by have := r.lenp; omega
      simp [List.getD_eq_getElem?_getD, this]
    · have e1 : (env.put i (.ow o)).at k = env.at k := by simp [DEnv.put, DEnv.at, List.getD_eq_getElem?_getD, List.getElem?_set, hk]
      have e3 : (σ.set i (some (V.ref p))).getD k none = σ.getD k none := by simp [List.getD_eq_getElem?_getD, List.getElem?_set, hk]
      rw [e1, e3]
      by_cases hkl : k < env.sl.length
      · have hkj : ¬ j = k := by omega
        have e2 : ((ps.set j none).set i (some p)).getD k none = ps.getD k none := by simp [List.getD_eq_getElem?_getD, List.getElem?_set, hk, hkj]
        rw [e2]
        exact (r.sl k).evx (sub_hide sub)
      · have : env.at k = .un := by simp [DEnv.at, List.getD_eq_getElem?_getD, List.getElem?_eq_none (Nat.le_of_not_lt hkl)]
        rw [this]; trivial
/-- what is owned is written -/
theorem Rel.owUpd (r : Rel Φ z S0 H0 K ps env σ H) {i : Nat} {p : Addr} {k k' : OwK} {ho' : HO} (he : env.at i = .ow k) (hp : ps.getD i none = some p) (h : OwIs z K (hide (Sx S0 ps) H) ho' k') :
    Rel Φ z S0 H0 K ps (env.put i (.ow k')) σ (L2.upd H p ho') ∧ Step z S0 ps H ps (L2.upd H p ho') := by
  obtain ⟨mp, gp⟩ := mem_ps hp
  have hs := r.sl i
  rw [he] at hs
  obtain ⟨p', xs, h1, h2, h3, h4⟩ := hs
  rw [hp] at h1; cases h1
  have gr : Evx (hide (Sx S0 ps) H) (hide (Sx S0 ps) (L2.upd H p ho')) := .of_same fun q o e => by
    obtain ⟨n, e⟩ := hide_get.mp e
    have ne : q ≠ p := fun w => n (.inr (w ▸ mp))
    exact hide_get.mpr ⟨n, by rw [upd_ne ne]; exact e⟩
  have hi : i < env.sl.length := by
    cases Nat.lt_or_ge i env.sl.length with
    | inl h => exact h
    | inr h => simp [DEnv.at, List.getD_eq_getElem?_getD, List.getElem?_eq_none h] at he
  refine ⟨⟨by simp [DEnv.put, r.lenp], by simp [DEnv.put, r.lens], r.inj, r.fresh, r.s0, r.zs, r.zf, fun q w => ?_, fun q o hq e => ?_, r.sta.upd (r.noZt mp) (nostab_at h3 h4.noext.1), fun j => ?_, r.phi, r.zt⟩, ⟨fun q o hq e => ?_, fun q w => .inl w⟩⟩
  · by_cases hq : q = p
    · subst hq; rw [upd_same]; simp
    · rw [upd_ne hq]; exact r.dom q w
  · have ne : q ≠ p := fun w => by rw [w, r.fresh p mp] at e; cases e
    rw [upd_ne ne]; exact r.ext q o hq e
  · have hj := r.sl j
    by_cases hij : i = j
    · subst hij
      have e1 : (env.put i (.ow k')).at i = .ow k' := by simp [DEnv.put, DEnv.at, hi]
      rw [e1]
      exact ⟨p, ho', hp, h2, upd_same, h.evx gr⟩
    · have e1 : (env.put i (.ow k')).at j = env.at j := by simp [DEnv.put, DEnv.at, List.getD_eq_getElem?_getD, List.getElem?_set, hij]
      rw [e1]
      cases q : env.at j with
      | un => trivial
      | da d' =>
        rw [q] at hj
        obtain ⟨k1, x, k2, k3⟩ := hj
        exact ⟨k1, x, k2, k3.evx gr⟩
      | ow es =>
        rw [q] at hj
        obtain ⟨b, ys, k1, k2, k3, k4⟩ := hj
        have nb : b ≠ p := fun w => by
          subst w
          exact hij (r.inj i j b gp (mem_ps k1).2)
        exact ⟨b, ys, k1, k2, by rw [upd_ne nb]; exact k3, k4.evx gr⟩
  · have ne : q ≠ p := fun w => hq (.inr (w ▸ mp))
    rw [upd_ne ne]; exact ⟨o, e, .same o, fun _ _ => rfl⟩
theorem lt_of_ow {env : DEnv} {i : Nat} {k : OwK} (he : env.at i = .ow k) : i < env.sl.length := by
  cases Nat.lt_or_ge i env.sl.length with
  | inl h => exact h
  | inr h => simp [DEnv.at, List.getD_eq_getElem?_getD, List.getElem?_eq_none h] at he
/-- what is owned at j is so no more -/
theorem Rel.drop (r : Rel Φ z S0 H0 K ps env σ H) {j : Nat} (hl : env.sl.length ≤ j) : Rel Φ z S0 H0 K (ps.set j none) env σ H := by
  have sub : ∀ q, some q ∈ ps.set j none → some q ∈ ps := fun q w => mem_set_none w
  have get : ∀ (j' : Nat) p, (ps.set j none)[j']? = some (some p) → ps[j']? = some (some p) := fun j' p q => by
    rw [List.getElem?_set] at q
    split at q
    · split at q <;> cases q
    · exact q
  refine r.re (by simp [r.lenp]) r.lens rfl rfl (fun a b p h1 h2 => r.inj a b p (get a p h1) (get b p h2)) sub fun k => ?_
  by_cases hkl : k < env.sl.length
  · have hkj : ¬ j = k := by omega
    have e2 : (ps.set j none).getD k none = ps.getD k none := by simp [List.getD_eq_getElem?_getD, List.getElem?_set, hkj]
    rw [e2]
    exact (r.sl k).evx (sub_hide sub)
  · have : env.at k = .un := by simp [DEnv.at, List.getD_eq_getElem?_getD, List.getElem?_eq_none (Nat.le_of_not_lt hkl)]
    rw [this]; trivial
theorem not_in_set {p : Addr} {i : Nat} (inj : ∀ (i j : Nat) p, ps[i]? = some (some p) → ps[j]? = some (some p) → i = j) (gp : ps[i]? = some (some p)) : some p ∉ ps.set i none := fun w => by
  obtain ⟨j, hj⟩ := List.getElem?_of_mem w
  rw [List.getElem?_set] at hj
  split at hj
  · split at hj <;> cases hj
  · rename_i ne; exact ne (inj i j p gp hj)
/-- what is owned is given away -/
theorem Rel.give (r : Rel Φ z S0 H0 K ps env σ H) {i : Nat} {k : OwK} (he : env.at i = .ow k) : Rel Φ z S0 H0 K (ps.set i none) (env.put i (.da k.toD)) σ H := by
  have hs := r.sl i
  rw [he] at hs
  obtain ⟨p, ho, h1, h2, h3, h4⟩ := hs
  obtain ⟨mp, gp⟩ := mem_ps h1
  have hi := lt_of_ow he
  have np := not_in_set r.inj gp
  have ns : ¬ S0 p := fun w => r.s0 p w (r.fresh p mp)
  have sub : ∀ q, some q ∈ ps.set i none → some q ∈ ps := fun q w => mem_set_none w
  have get : ∀ (j : Nat) p, (ps.set i none)[j]? = some (some p) → ps[j]? = some (some p) := fun j p q => by
    rw [List.getElem?_set] at q
    split at q
    · split at q <;> cases q
    · exact q
  refine r.re (by simp [DEnv.put, r.lenp]) (by simp [DEnv.put, r.lens]) rfl rfl (fun a b p h1 h2 => r.inj a b p (get a p h1) (get b p h2)) sub fun j => ?_
  by_cases hij : i = j
  · subst hij
    have e1 : (env.put i (.da k.toD)).at i = .da k.toD := by simp [DEnv.put, DEnv.at, hi]
    rw [e1]
    have : i < ps.length := by have := r.lenp; omega
    exact ⟨by simp [List.getD_eq_getElem?_getD, this], .ref p, h2, (h4.evx (sub_hide sub)).is (hide_get.mpr ⟨fun w => w.elim ns np, h3⟩)⟩
  · have e1 : (env.put i (.da k.toD)).at j = env.at j := by simp [DEnv.put, DEnv.at, List.getD_eq_getElem?_getD, List.getElem?_set, hij]
    have e2 : (ps.set i none).getD j none = ps.getD j none := by simp [List.getD_eq_getElem?_getD, List.getElem?_set, hij]
    rw [e1, e2]
    exact (r.sl j).evx (sub_hide sub)
theorem slot_ow (r : Rel Φ z S0 H0 K ps env σ H) {i : Nat} {k : OwK} (e : env.at i = .ow k) : ∃ p ho, ps.getD i none = some p ∧ σ[i]? = some (some (.ref p)) ∧ H p = some ho ∧ OwIs z K (hide (Sx S0 ps) H) ho k := by
  have h := r.sl i
  rw [e] at h
  obtain ⟨p, xs, h1, h2, h3, h4⟩ := h
  refine ⟨p, xs, h1, ?_, h3, h4⟩
  rw [List.getD_eq_getElem?_getD] at h2
  cases e2 : σ[i]? with
  | none => rw [e2] at h2; cases h2
  | some y => rw [e2] at h2; exact congrArg some h2
end
/-! ### expressions that make a new object -/
abbrev MF := DEnv → (OwK → DEnv → Prop) → Prop
def tDF (Φ : Phi) (K : PySem.W.Frag) (m : MF) : TE := fun σ H Q => ∃ z S0 H0 ps env, Rel Φ z S0 H0 K ps env σ H ∧
  m env fun o env' => ∀ p ho H', Rel Φ z S0 H0 K (ps ++ [some p]) env' σ H' → Ext (Mu z ps) S0 H H' → H p = none → H' p = some ho → OwIs z K (hide (Sx S0 (ps ++ [some p])) H') ho o → Q (.ref p) H'
structure DF (X : Cx) (Φ : Phi) (e : Expr) (m : MF) : Prop where
  mono : ∀ env {k k' : OwK → DEnv → Prop}, (∀ d e, k d e → k' d e) → m env k → m env k'
  pe : PE X e (tDF Φ X.K m)
section
variable {X : Cx} {Φ : Phi} {pos : Pos}
theorem set_app {α : Type} (l : List α) (x y : α) : (l ++ [x]).set l.length y = l ++ [y] := by simp
theorem get_app {α : Type} (l : List α) (x : α) : (l ++ [x])[l.length]? = some x := by simp
theorem temp_new {z : Z} {S0 : Addr → Prop} {H H' : Hp} {ps : List (Option Addr)} {p : Addr} (x : Ext (Mu z ps) S0 H H') (hp : H p = none) : Step z S0 ps H (ps ++ [some p]) H' := ⟨x, fun q w => by
  rcases List.mem_append.mp w with w | w
  · exact .inl w
  · cases List.mem_singleton.mp w; exact .inr hp⟩
/-- as a datum -/
def mGive (m : MF) : ME := fun env k => m env fun o e => k o.toD e
theorem de_of {e : Expr} {m : MF} (h : DF X Φ e m) : DE X Φ e (mGive m) := by
  refine ⟨fun env k k' hk q => h.mono env (fun o e q => hk _ _ q) q, pe_imp h.pe fun σ H Q ⟨z, S0, H0, ps, env, r, q⟩ => ⟨z, S0, H0, ps, env, r, h.mono env (fun o e q => ?_) q⟩⟩
  intro p ho H' r' x' hp hp' iw
  have ll : e.sl.length ≤ ps.length := by rw [← r'.lens, r.lens]; exact r.lenp
  have np : some p ∉ ps := fun w => r.dom p (.inr w) hp
  have ns : ¬ S0 p := fun w => r.dom p (.inl w) hp
  exact q _ H' (r'.cut ll) x' ((iw.evx (sub_hide fun q w => List.mem_append_left _ w)).is (hide_get.mpr ⟨fun w => w.elim ns np, hp'⟩))
/-- x = e, the new object is one's own -/
def mSetF (i : Nat) (m : MF) : MS := fun env k => m env fun o e => i < e.sl.length ∧ k.nx (e.put i (.ow o))
theorem asgF_of {i : Nat} {m : MF} {K : PySem.W.Frag} (hm : ∀ env {k k' : OwK → DEnv → Prop}, (∀ d e, k d e → k' d e) → m env k → m env k') {E : Ends} {σ : L2.St} {H : Hp} (q : tDS Φ K (mSetF i m) E σ H) : tAsg (tDF Φ K m) (gName i) E σ H := by
  obtain ⟨z, S0, H0, ps, env, r, q⟩ := q
  refine ⟨z, S0, H0, ps, env, r, hm env (fun o e q => ?_) q⟩
  intro p ho H' r' x' hp hp' iw
  have ll : e.sl.length ≤ ps.length := by rw [← r'.lens, r.lens]; exact r.lenp
  have r2 := r'.take (j := ps.length) (i := i) (get_app ps _) ll q.1 hp' iw
  refine q.2 _ _ _ r2 ((temp_new x' hp).trans ⟨.refl, fun q w => .inl ?_⟩ fun _ hp => r2.noZ hp)
  rcases mem_set_some w with w | rfl
  · exact mem_set_none w
  · exact List.mem_append_right _ (by simp)
theorem ds_setF {i : Nat} {x : Str} {pos' : Pos} {e : Expr} {m : MF} (he : DF X Φ e m) (hN : X.N.Nodup) (hi : X.N[i]? = some x := by rfl) (hx : Loc X.env.scope x := by first | exact Or.inl rfl | exact Or.inr rfl) (hs : swapsWith e (some (.Name x pos')) pos.line X.env = pure false := by rfl)
    (hf : X.fn x = true ∨ X.env.scope.names.lookup x = some .local := by first | exact .inl rfl | exact .inr rfl | assumption) : DS X Φ (.Assign [.Name x pos'] e pos) (mSetF i m) :=
  ⟨fun env k k' h q => he.mono env (fun o e q => ⟨q.1, h.nx _ q.2⟩) q, ps_imp (ps_set hN hi hx he.pe hs hf) fun _ _ _ q => asgF_of he.mono q⟩
/-- return e, a new object -/
def mRetF (m : MF) : MS := fun env k => m env fun o e => k.rf o e
theorem ds_retF {e : Expr} {m : MF} (he : DF X Φ e m) : DS X Φ (.Return (some e) pos) (mRetF m) := by
  refine ⟨fun env k k' h q => he.mono env (fun o e q => h.rf _ _ q) q, ps_imp (ps_ret he.pe) fun E σ H ⟨z, S0, H0, ps, env, r, q⟩ => ⟨z, S0, H0, ps, env, r, he.mono env (fun o e q => ?_) q⟩⟩
  intro p ho H' r' x' hp hp' iw
  exact q p ho H' (r.none0 hp) hp' (iw.evx (.of_same (hide_mono fun q w => w.imp id fun w => by subst w; exact List.mem_append_right _ (by simp)))) r'.ext r'.sta
/-- return x, one's own -/
def mRetO (i : Nat) : MS := fun env k => ∃ o, env.at i = .ow o ∧ k.rf o env
theorem ds_retO {i : Nat} {x : Str} {p1 : Pos} (hv : PE X (.Name x p1) (tVar i)) : DS X Φ (.Return (some (.Name x p1)) pos) (mRetO i) := by
  refine ⟨fun env k k' h ⟨o, e, q⟩ => ⟨o, e, h.rf _ _ q⟩, ps_imp (ps_ret hv) fun E σ H ⟨z, S0, H0, ps, env, r, o, e, q⟩ => ?_⟩
  obtain ⟨p, ho, h1, h2, h3, h4⟩ := slot_ow r e
  have mp := (mem_ps h1).1
  exact ⟨_, h2, q p ho H (r.fresh p mp) h3 (h4.evx (.of_same (hide_mono fun q w => w.imp id fun w => by subst w; exact mp))) r.ext r.sta⟩
/-- what is owned in slot i is given away ahead of a statement -/
def mRel (i : Nat) (m : MS) : MS := fun env k => ∃ o, env.at i = .ow o ∧ m (env.put i (.da o.toD)) k
theorem ds_rel (i : Nat) {st : Stmt} {m : MS} (h : DS X Φ st m) : DS X Φ st (mRel i m) := by
  refine ⟨fun env k k' hk ⟨ds, e, q⟩ => ⟨ds, e, h.mono _ hk q⟩, ps_imp h.ps fun E σ H ⟨z, S0, H0, ps, env, r, ds, e, q⟩ => ⟨z, S0, H0, ps.set i none, _, r.give e, h.mono _ ?_ q⟩⟩
  have st : Step z S0 ps H (ps.set i none) H := ⟨.refl, fun _ w => .inl (mem_set_none w)⟩
  exact kOf_le st
theorem dss_rel (i : Nat) {st : List Stmt} {m : MS} (h : DSs X Φ st m) : DSs X Φ st (mRel i m) := by
  refine ⟨fun env k k' hk ⟨ds, e, q⟩ => ⟨ds, e, h.mono _ hk q⟩, pss_imp h.ps fun E σ H ⟨z, S0, H0, ps, env, r, ds, e, q⟩ => ⟨z, S0, H0, ps.set i none, _, r.give e, h.mono _ ?_ q⟩⟩
  have st : Step z S0 ps H (ps.set i none) H := ⟨.refl, fun _ w => .inl (mem_set_none w)⟩
  exact kOf_le st
/-- [..] -/
def mLstF (n : MA) : MF := fun env k => n env fun ds e => ds.length ≤ sizeLine ∧ k (.lst ds) e
theorem df_lst {es : List Expr} {n : MA} (h : DA X Φ es n) : DF X Φ (.List es pos) (mLstF n) := by
  refine ⟨fun env k k' hk q => h.mono env (fun ds e q => ⟨q.1, hk _ _ q.2⟩) q, pe_imp (pe_lst h.pa) fun σ H Q ⟨z, S0, H0, ps, env, r, q⟩ => ⟨z, S0, H0, ps, env, r, h.mono env (fun ds e q => ?_) q⟩⟩
  intro vs H1 r1 x1 i1
  refine ⟨by rw [i1.length]; exact q.1, fun p hp => ?_⟩
  have hp0 : H p = none := by
    cases e : H p with
    | none => rfl
    | some o =>
      by_cases hm : Mu z ps p
      · rcases hm with hm | hm
        · exact absurd hp (r1.sta.dom hm)
        · exact absurd hp (r1.dom p (.inr hm))
      · obtain ⟨o', e', _⟩ := x1 p o hm e
        rw [hp] at e'; cases e'
  refine q.2 p _ _ (r1.temp hp) (x1.trans (.of_same (same_upd hp))) hp0 upd_same ⟨vs, rfl, i1.evx (.of_same fun q o w => ?_)⟩
  obtain ⟨n, w⟩ := hide_get.mp w
  have ne : q ≠ p := ne_of_none w hp
  refine hide_get.mpr ⟨fun w => w.elim (fun w => n (.inl w)) fun w => ?_, by rw [upd_ne ne]; exact w⟩
  rcases List.mem_append.mp w with w | w
  · exact n (.inr w)
  · cases List.mem_singleton.mp w; exact ne rfl
/-- x.append(e) -/
def mApp (i : Nat) (m : ME) : MS := fun env k => (∃ ds, env.at i = .ow (.lst ds)) ∧ m env fun d e => ∃ ds, e.at i = .ow (.lst ds) ∧ ds.length < sizeLine ∧ k.nx (e.put i (.ow (.lst (ds ++ [d]))))
theorem ds_app {i : Nat} {x : Str} {e : Expr} {m : ME} {p1 p2 p3 : Pos} (hv : PE X (.Name x p1) (tVar i)) (he : DE X Φ e m) (hq : ∀ t, PA X [e] t → PE X (.Call (.Attribute (.Name x p1) "append" p2) [e] [] p3) (tBM X.K "list" rAppend (tVar i) t)) (na : starEach [e] X.env = (false, eval e X.env) :: starEach [] X.env := by rfl)
    (hs : swapsWith (.Call (.Attribute (.Name x p1) "append" p2) [e] [] p3) none pos.line X.env = pure false := by rfl) : DS X Φ (.Expr (.Call (.Attribute (.Name x p1) "append" p2) [e] [] p3) pos) (mApp i m) := by
  refine ⟨fun env k k' h ⟨w, q⟩ => ⟨w, he.mono env (fun d e ⟨ds, a, b, q⟩ => ⟨ds, a, b, h.nx _ q⟩) q⟩, ps_imp (ps_expr (hq _ (pa_cons he.pe pa_nil na)) hs) fun E σ H ⟨z, S0, H0, ps, env, r, ⟨ds0, e0⟩, q⟩ => ?_⟩
  obtain ⟨p, ho, h1, h2, h3, xs, rfl, h4⟩ := slot_ow r e0
  refine ⟨_, h2, .inl ⟨rfl, _, SqL.of h3⟩, z, S0, H0, ps, env, r, he.mono env (fun d e q => ?_) q⟩
  obtain ⟨ds, e1, hl, q⟩ := q
  intro v H1 r1 x1 i1
  obtain ⟨p', ho', k1, k2, k3, ys, rfl, k4⟩ := slot_ow r1 e1
  rw [h1] at k1; cases k1
  refine ⟨p, ys, v, rfl, rfl, k3, by rw [k4.length]; exact hl, ?_⟩
  obtain ⟨r2, s2⟩ := r1.owUpd (k' := .lst (ds ++ [d])) (ho' := .lst (ys ++ [v])) e1 h1 ⟨_, rfl, k4.append (.cons i1 .nil)⟩
  exact q _ _ _ r2 ((Step.of_ext x1).trans s2 fun _ hp => r2.noZ hp)
/-- len(x) of a list of one's own -/
def mLenO (i : Nat) : ME := fun env k => ∃ ds, env.at i = .ow (.lst ds) ∧ k (.int ds.length) env
theorem de_lenO {i : Nat} {x : Str} {p1 p2 : Pos} (hv : PE X (.Name x p1) (tVar i)) (hm : X.mg "len" = none) (hg : Gl X "len" := by rfl) (na : starEach [.Name x p1] X.env = (false, eval (.Name x p1) X.env) :: starEach [] X.env := by rfl) (hpl : (backTo pos (starEach [] X.env)).any (·.1) = false := by rfl) :
    DE X Φ (.Call (.Name "len" p2) [.Name x p1] [] pos) (mLenO i) := by
  refine ⟨fun env k k' h ⟨ds, e, q⟩ => ⟨ds, e, h _ _ q⟩, pe_imp (pe_callB call_len_seq hg hm PySem.boot_len (pa_cons hv pa_nil na) (by decide) (by decide) na hpl) fun σ H Q ⟨z, S0, H0, ps, env, r, ds, e, q⟩ => ?_⟩
  obtain ⟨p, ho, h1, h2, h3, xs, rfl, h4⟩ := slot_ow r e
  exact ⟨_, h2, p, xs, rfl, .inl (SqL.of h3), by rw [h4.length]; exact q _ H r .refl (.int _)⟩
/-! ### star displays -/
def mStar (m : ME) (n : MA) : MA := fun env k => m env fun d e1 => ∃ es, (d = .lst es ∨ d = .tup es) ∧ n e1 fun ds e2 => k (es ++ ds) e2
theorem da_star {e : Expr} {es : List Expr} {m : ME} {n : MA} {p : Pos} (he : DE X Φ e m) (hes : DA X Φ es n) (hs : starEach (.Starred e p :: es) X.env = (true, eval e X.env) :: starEach es X.env := by rfl) : DA X Φ (.Starred e p :: es) (mStar m n) := by
  refine ⟨fun env k k' h q => he.mono env (fun d e1 ⟨es, w, q⟩ => ⟨es, w, hes.mono e1 (fun ds e2 q => h _ _ q) q⟩) q, pa_imp (StX.pa_star he.pe hes.pa hs) fun σ H Q ⟨z, S0, H0, ps, env, r, q⟩ => ⟨z, S0, H0, ps, env, r, he.mono env (fun d e1 q => ?_) q⟩⟩
  obtain ⟨ys, hd, q⟩ := q
  intro v H1 r1 x1 i1
  have key : ∃ a xs, v = .ref a ∧ (SqT X.K H1 a xs ∨ SqL X.K H1 a xs) ∧ IsA z X.K (hide (Sx S0 ps) H1) xs ys := by
    rcases hd with rfl | rfl
    · cases i1 with
      | lst g i => exact ⟨_, _, rfl, .inr (SqL.of (hide_same _ _ g)), i⟩
    · cases i1 with
      | tup g i => exact ⟨_, _, rfl, .inl (sqT_hide g), i⟩
  obtain ⟨a, xs, rfl, h1, h2⟩ := key
  refine ⟨a, xs, rfl, h1, z, S0, H0, ps, e1, r1, hes.mono e1 (fun ds e2 q => ?_) q⟩
  intro vs H2 r2 x2 i2
  exact q _ H2 r2 (x1.trans x2) ((r1.isKA h2 x2).append i2)
end
end DL
namespace DL
open PySem L2 PySem.Spec PyProof.Rows
/-! ### [elt for x in xs for y in ys] -/
/-- the second clause's turns -/
def compI (j : Nat) (t : MT) (me : ME) : List D → DEnv → List D → (List D → DEnv → Prop) → Prop
  | [], env, acc, k => k acc env
  | d :: ds, env, acc, k => t (env.put j (.da d)) fun b e2 => if b = true then me e2 fun y e3 => acc.length < sizeLine ∧ compI j t me ds { env with cr := e3.cr, mr := e3.mr } (acc ++ [y]) k else compI j t me ds { env with cr := e2.cr, mr := e2.mr } acc k
def unE (i : Nat) (env : DEnv) : DEnv := { env with sl := env.sl.set i .un }
def compW2 (i j : Nat) (t : MT) (mi1 : MI) (t1 : MT) (me : ME) : List D → DEnv → List D → (List D → DEnv → Prop) → Prop
  | [], env, acc, k => k acc env
  | d :: ds, env, acc, k => t (env.put i (.da d)) fun b e2 => if b = true then mi1 e2 fun es e3 => compI j t1 me es (unE j e3) acc fun acc' e4 => compW2 i j t mi1 t1 me ds { env with cr := e4.cr, mr := e4.mr } acc' k
      else compW2 i j t mi1 t1 me ds { env with cr := e2.cr, mr := e2.mr } acc k
def compE2 (i j : Nat) (env : DEnv) : DEnv := { sl := ((env.sl.map noOw).set i .un).set j .un, cr := env.cr, mr := env.mr }
def mLc2 (i j : Nat) (mi : MI) (t : MT) (mi1 : MI) (t1 : MT) (me : ME) : ME := fun env k => mi env fun ds e => compW2 i j t mi1 t1 me ds (compE2 i j e) [] fun acc e2 => k (.lst acc) { e with cr := e2.cr, mr := e2.mr }
theorem compI_mono {j : Nat} {t : MT} {me : ME} (ht : ∀ env {k k' : Bool → DEnv → Prop}, (∀ d e, k d e → k' d e) → t env k → t env k') (hm : ∀ env {k k' : D → DEnv → Prop}, (∀ d e, k d e → k' d e) → me env k → me env k') :
    ∀ (ds : List D) env acc {k k' : List D → DEnv → Prop}, (∀ a e, k a e → k' a e) → compI j t me ds env acc k → compI j t me ds env acc k'
  | [], env, acc, k, k', h, q => h _ _ q
  | d :: ds, env, acc, k, k', h, q => by
    unfold compI at q ⊢
    refine ht _ (fun b e2 q => ?_) q
    cases b with
    | true => exact hm e2 (fun y e3 q => ⟨q.1, compI_mono ht hm ds _ _ h q.2⟩) q
    | false => exact compI_mono ht hm ds _ _ h q
theorem compW2_mono {i j : Nat} {t t1 : MT} {mi1 : MI} {me : ME} (ht : ∀ env {k k' : Bool → DEnv → Prop}, (∀ d e, k d e → k' d e) → t env k → t env k') (hi1 : ∀ env {k k' : List D → DEnv → Prop}, (∀ d e, k d e → k' d e) → mi1 env k → mi1 env k')
    (ht1 : ∀ env {k k' : Bool → DEnv → Prop}, (∀ d e, k d e → k' d e) → t1 env k → t1 env k') (hm : ∀ env {k k' : D → DEnv → Prop}, (∀ d e, k d e → k' d e) → me env k → me env k') :
    ∀ (ds : List D) env acc {k k' : List D → DEnv → Prop}, (∀ a e, k a e → k' a e) → compW2 i j t mi1 t1 me ds env acc k → compW2 i j t mi1 t1 me ds env acc k'
  | [], env, acc, k, k', h, q => h _ _ q
  | d :: ds, env, acc, k, k', h, q => by
    unfold compW2 at q ⊢
    refine ht _ (fun b e2 q => ?_) q
    cases b with
    | true => exact hi1 e2 (fun es e3 q => compI_mono ht1 hm es _ _ (fun a e q => compW2_mono ht hi1 ht1 hm ds _ _ h q) q) q
    | false => exact compW2_mono ht hi1 ht1 hm ds _ _ h q
section
variable {Φ : Phi} {z : Z} {D' : Addr} {S0 : Addr → Prop} {H0 H H' : Hp} {K : PySem.W.Frag} {env : DEnv} {σ : L2.St} {n : Nat}
/-- a name is forgotten -/
theorem Rel.un (r : Rel Φ z S0 H0 K (List.replicate n none) env σ H) (j : Nat) : Rel Φ z S0 H0 K (List.replicate n none) (unE j env) (σ.set j none) H := by
  refine ⟨by have := r.lenp; simpa [unE] using this, by simp [unE, r.lens], r.inj, r.fresh, r.s0, r.zs, r.zf, r.dom, r.ext, r.sta, fun i => ?_, r.phi, r.zt⟩
  have hi := r.sl i
  by_cases e : j = i
  · subst e
    have e1 : (unE j env).at j = .un := by
      unfold unE DEnv.at
      by_cases hl : j < env.sl.length <;> simp [hl]
    rw [e1]; trivial
  · have e1 : (unE j env).at i = env.at i := by simp [unE, DEnv.at, List.getD_eq_getElem?_getD, List.getElem?_set, e]
    have e3 : (σ.set j none).getD i none = σ.getD i none := by simp [List.getD_eq_getElem?_getD, List.getElem?_set, e]
    rw [e1, e3]
    exact hi
/-- only the credits are other -/
theorem Rel.back (r : Rel Φ z S0 H0 K (List.replicate n none) env σ H) {cr : Nat} {mk : Option Int} (e : Ext (Zs z) S0 H H') (st : Sta z cr mk H') (hΦ : Φ z S0 H') : Rel Φ z S0 H' K (List.replicate n none) { env with cr := cr, mr := mk } σ H' :=
  (r.call (e.mono (fun _ w => w) fun p w => w.elim id fun w => absurd w none_rep) st).rebase hΦ
end
theorem set_rep' {n i : Nat} : (List.replicate n (none : Option Addr)).set i none = List.replicate n none := set_rep
section
variable {Φ : Phi}
set_option maxHeartbeats 8000000 in
theorem lc2_gen {p : Z → Prop} (hw : ∀ z S0 H0, Φ z S0 H0 → p z) {i j : Nat} (hij : i ≠ j) {K : PySem.W.Frag} {mi mi1 : MI} {t t1 : MT} {me : ME} (hmi : ∀ env {k k' : List D → DEnv → Prop}, (∀ d e, k d e → k' d e) → mi env k → mi env k')
    (ht : ∀ env {k k' : Bool → DEnv → Prop}, (∀ d e, k d e → k' d e) → t env k → t env k') (hmi1 : ∀ env {k k' : List D → DEnv → Prop}, (∀ d e, k d e → k' d e) → mi1 env k → mi1 env k') (ht1 : ∀ env {k k' : Bool → DEnv → Prop}, (∀ d e, k d e → k' d e) → t1 env k → t1 env k')
    (hm : ∀ env {k k' : D → DEnv → Prop}, (∀ d e, k d e → k' d e) → me env k → me env k') {σ : L2.St} {H : Hp} {Q : VK} {z : Z} {S0 : Addr → Prop} {H0 : Hp} {ps : List (Option Addr)} {env : DEnv} (r : Rel Φ z S0 H0 K ps env σ H) {F : DEnv → List D → DEnv → Prop} (q : mi env fun ds e => compW2 i j t mi1 t1 me ds (compE2 i j e) [] (F e))
    (hF : ∀ e1 acc e2 D' ys H1 H2, F e1 acc e2 → Rel Φ z S0 H0 K ps e1 σ H1 → Ext (Mu z ps) S0 H H1 → H1 D' = none → Ext (Zs z) (Sx S0 ps) H1 H2 → Sta z e2.cr e2.mr H2 → H2 D' = some (.lst ys) → IsA z K (hide (Sx S0 (ps ++ [some D'])) H2) ys acc → Q (.ref D') H2) :
    tLc2 (tDI Φ K mi) (gName i) (tDT (PhiZ p) K t) (tDI (PhiZ p) K mi1) (gName j) (tDT (PhiZ p) K t1) (tD (PhiZ p) K me) [i, j] [j] σ H Q := by
  refine ⟨z, S0, H0, ps, env, r, hmi env (fun ds e1 q => ?_) q⟩
  intro J H1 r1 x1 wl D' hD
  have hz := r1.sta.noneNe hD
  have nD : ¬ Sx S0 ps D' := fun w => r1.dom D' w hD
  have hnz : ¬ Zs z D' := fun w => nD (.inl (r1.zs _ w))
  let S1 := Sx S0 (ps ++ [some D'])
  have hS1 : S1 D' := .inr (by simp)
  let n := e1.sl.length
  have pz : p z := hw _ _ _ r1.phi
  have sub1 : ∀ p, Sx S0 ps p → S1 p := fun p w => w.imp id fun w => List.mem_append_left _ w
  have no0 : ∀ b, Mu z (List.replicate n none) b → Zs z b := fun b w => w.elim id fun w => absurd w none_rep
  let fin := F e1
  have wσ : wipe σ [i, j] = (σ.set i none).set j none := by simp [wipe, List.set_comm _ _ hij]
  have rb0 : Rel (PhiZ p) z S1 (L2.upd H1 D' (.lst [])) K (List.replicate n none) (compE2 i j e1) (wipe σ [i, j]) (L2.upd H1 D' (.lst [])) := by
    have rb := r1.block (Φ' := PhiZ p) (D' := D') (i := i) pz hD
    have rb2 := rb.un j
    have e : unE j (compE i e1) = compE2 i j e1 := by simp [unE, compE, compE2]
    rw [e] at rb2
    rw [wσ]
    exact rb2
  -- what stands between two turns
  let St := fun (env2 : DEnv) (σ2 : L2.St) (acc : List D) (ys : List V) (H2 : Hp) => Rel (PhiZ p) z S1 H2 K (List.replicate n none) env2 σ2 H2 ∧ Ext (Zs z) (Sx S0 ps) H1 H2 ∧ H2 D' = some (.lst ys) ∧ IsA z K (hide S1 H2) ys acc
  have move : ∀ {env2 : DEnv} {σ2 : L2.St} {acc : List D} {ys : List V} {H2 H3 : Hp} {cr : Nat} {mk : Option Int}, St env2 σ2 acc ys H2 → Ext (Zs z) S1 H2 H3 → Sta z cr mk H3 → St { env2 with cr := cr, mr := mk } σ2 acc ys H3 := by
    rintro env2 σ2 acc ys H2 H3 cr mk ⟨a1, a2, a3, a4⟩ e st
    obtain ⟨o, h6, v6, _⟩ := e D' _ hnz a3
    rw [v6.lst] at h6
    exact ⟨a1.back e st pz, a2.trans (e.mono (fun _ w => w) sub1), h6, a4.evx (e.hide fun p w => .inl (r1.zs p w))⟩
  refine ⟨fun a m H2 => ∃ env2 acc ys, St env2 (wipe σ [i, j]) acc ys H2 ∧ m = ds.length - a ∧ a ≤ ds.length ∧ compW2 i j t mi1 t1 me (ds.drop a) env2 acc fin,
    ⟨ds.length, _, [], [], ⟨rb0, .of_same (same_upd hD), upd_same, .nil⟩, rfl, Nat.zero_le _, q⟩, ?_⟩
  rintro a m H2 ⟨env2, acc, ys, s2, rfl, ha, q2⟩
  have r2 := s2.1
  have x2 := s2.2.1
  have st2 : Step z S0 ps H1 (ps ++ [some D']) H2 := ⟨x2.loc, fun p w => by
    rcases List.mem_append.mp w with w | w
    · exact .inl w
    · simp at w; exact .inr (by rw [w]; exact hD)⟩
  by_cases hlt : a < ds.length
  · obtain ⟨g1, g2⟩ := wl.go _ H2 a ds[a] (st2.seen r1.zs) (fun p w => r2.dom p (.inl w)) (List.getElem?_eq_getElem hlt)
    rw [List.drop_eq_getElem_cons hlt] at q2
    unfold compW2 at q2
    let Nx := fun (H3 : Hp) => ∃ env3 acc3 ys3, St env3 (wipe σ [i, j]) acc3 ys3 H3 ∧ compW2 i j t mi1 t1 me (ds.drop (a + 1)) env3 acc3 fin
    refine .inr ⟨g1, Nx, fun H3 ⟨env3, acc3, ys3, w1, w2⟩ => ⟨ds.length - (a + 1), by omega, env3, acc3, ys3, w1, rfl, hlt, w2⟩, fun x H3 y => ?_⟩
    obtain ⟨y1, y2⟩ := g2 x H3 y
    have s3 : St env2 (wipe σ [i, j]) acc ys H3 := by
      have := move s2 (.of_same y1.same) (r2.sta.same y1)
      exact this
    have y3 : Is z K (hide (Sx S1 (List.replicate n none)) H3) x ds[a] := y2.evx (.of_same (hide_mono fun p w => w.elim id fun w => absurd w none_rep))
    have r4 := s3.1.put (i := i) y3
    rw [set_rep] at r4
    have wi : wipe ((wipe σ [i, j]).set i (some x)) [i, j] = wipe σ [i, j] := by
      have w2 : ∀ τ : L2.St, wipe τ [i, j] = (τ.set i none).set j none := fun τ => by simp [wipe, List.set_comm _ _ hij]
      rw [w2, w2]
      apply List.ext_getElem?
      intro b
      simp only [List.getElem?_set, List.length_set]
      split <;> split <;> simp_all
    refine ⟨wi, z, S1, H3, List.replicate n none, _, r4, ht _ (fun b e5 q5 => ?_) q2⟩
    intro H5 r5 x5
    have z5 : Ext (Zs z) S1 H3 H5 := x5.mono no0 fun _ w => w
    cases b with
    | false => exact ⟨_, _, _, move s3 z5 r5.sta, q5⟩
    | true =>
      refine ⟨z, S1, H3, List.replicate n none, e5, r5, hmi1 e5 (fun es e6 q6 => ?_) q5⟩
      intro J1 H6 r6 x6 wl1
      have z6 : Ext (Zs z) S1 H5 H6 := x6.mono no0 fun _ w => w
      have s6 := move s3 (z5.trans z6) r6.sta
      let σ2 := (wipe σ [i, j]).set i (some x)
      have r6b : Rel (PhiZ p) z S1 H6 K (List.replicate n none) e6 σ2 H6 := r6.rebase pz
      have r6u := r6b.un j
      have vis : ∀ {b}, Sx S1 (List.replicate n none) b → S1 b := fun w => w.elim id fun w => absurd w none_rep
      have evm : ∀ {Ha Hb : Hp}, Ext (Zs z) S1 Ha Hb → Evx (hide (Sx S1 (List.replicate n none)) Ha) (hide (Sx S1 (List.replicate n none)) Hb) := fun e => e.hide fun b w => .inl (.inl (r1.zs b w))
      have evd : ∀ {Ha : Hp} {o : HO}, Evx (hide (Sx S1 (List.replicate n none)) Ha) (hide (Sx S1 (List.replicate n none)) (L2.upd Ha D' o)) := fun {Ha o} => .of_same fun b u e => by
        obtain ⟨k, e⟩ := hide_get.mp e
        have ne : b ≠ D' := fun w => k (.inl (by rw [w]; exact hS1))
        exact hide_get.mpr ⟨k, by rw [upd_ne ne]; exact e⟩
      have push : ∀ {envx : DEnv} {σx : L2.St} {accx : List D} {ysx : List V} {Hx : Hp} {v : V} {y : D}, St envx σx accx ysx Hx → Is z K (hide (Sx S1 (List.replicate n none)) Hx) v y → St envx σx (accx ++ [y]) (ysx ++ [v]) (L2.upd Hx D' (.lst (ysx ++ [v]))) := by
        rintro envx σx accx ysx Hx v y ⟨a1, a2, a3, a4⟩ iv
        refine ⟨a1.hid hS1 hz (nostab_at a3 nostab_lst) pz, ?_, upd_same, ?_⟩
        · intro p o hp e
          have ne : p ≠ D' := ne_of_none e hD
          rw [upd_ne ne]
          exact a2 p o hp e
        · refine IsA.evx (.of_same fun b u e => ?_) (a4.append (.cons (iv.evx (.of_same (hide_mono fun p w => .inl w))) .nil))
          obtain ⟨k, e⟩ := hide_get.mp e
          have ne : b ≠ D' := fun w => k (by rw [w]; exact hS1)
          exact hide_get.mpr ⟨k, by rw [upd_ne ne]; exact e⟩
      let fin1 := fun (acc' : List D) (e4 : DEnv) => compW2 i j t mi1 t1 me (ds.drop (a + 1)) { env2 with cr := e4.cr, mr := e4.mr } acc' fin
      let In := fun (H7 : Hp) (env7 : DEnv) (acc7 : List D) (ys7 : List V) => Rel (PhiZ p) z S1 H7 K (List.replicate n none) env7 (wipe σ2 [j]) H7 ∧ Evx (hide (Sx S1 (List.replicate n none)) H6) (hide (Sx S1 (List.replicate n none)) H7) ∧ St { env2 with cr := env7.cr, mr := env7.mr } (wipe σ [i, j]) acc7 ys7 H7
      refine ⟨fun c k H7 => ∃ env7 acc7 ys7, In H7 env7 acc7 ys7 ∧ k = es.length - c ∧ c ≤ es.length ∧ compI j t1 me (es.drop c) env7 acc7 fin1,
        ⟨es.length, _, acc, ys, ⟨r6u, .of_same (Same.refl _), s6⟩, rfl, Nat.zero_le _, q6⟩, ?_⟩
      rintro c k H7 ⟨env7, acc7, ys7, ⟨r7, ev7, s7⟩, rfl, hc, q7⟩
      by_cases hlt2 : c < es.length
      · obtain ⟨g3, g4⟩ := wl1.go _ H7 c es[c] ev7 r7.dom (List.getElem?_eq_getElem hlt2)
        rw [List.drop_eq_getElem_cons hlt2] at q7
        unfold compI at q7
        refine .inr ⟨g3, fun H8 => ∃ env8 acc8 ys8, In H8 env8 acc8 ys8 ∧ compI j t1 me (es.drop (c + 1)) env8 acc8 fin1,
          fun H8 ⟨env8, acc8, ys8, w1, w5⟩ => ⟨es.length - (c + 1), by omega, env8, acc8, ys8, w1, rfl, hlt2, w5⟩, fun u H8 y8 => ?_⟩
        obtain ⟨y4, y5⟩ := g4 u H8 y8
        have r8 := (r7.same y4).rebase pz
        have s8 : St { env2 with cr := env7.cr, mr := env7.mr } (wipe σ [i, j]) acc7 ys7 H8 := by
          have w := move s7 (.of_same y4.same) (r7.sta.same y4)
          exact w
        have r9 := r8.put (i := j) y5
        rw [set_rep] at r9
        refine ⟨by show ((((σ2.set j none).set j (some u)).set j none)) = σ2.set j none; rw [List.set_set, List.set_set], z, S1, H8, List.replicate n none, _, r9, ht1 _ (fun b e9 q9 => ?_) q7⟩
        intro H9 ra xa
        have za : Ext (Zs z) S1 H8 H9 := xa.mono no0 fun _ w => w
        have e8 : Evx (hide (Sx S1 (List.replicate n none)) H6) (hide (Sx S1 (List.replicate n none)) H8) := ev7.trans (.of_same (hide_keep y4.same))
        have fin2 : ∀ {cr : Nat} {mk : Option Int} {Hx : Hp}, Ext (Zs z) S1 H8 Hx → Sta z cr mk Hx → In Hx { env7 with cr := cr, mr := mk } acc7 ys7 := fun {cr mk Hx} e st => ⟨r8.back e st pz, e8.trans (evm e), by have w := move s8 e st; exact w⟩
        cases b with
        | false => exact ⟨_, _, _, fin2 za ra.sta, q9⟩
        | true =>
          refine ⟨z, S1, H8, List.replicate n none, e9, ra, hm e9 (fun y eb qb => ?_) q9⟩
          intro v Hb rb xb ib
          have zb : Ext (Zs z) S1 H9 Hb := xb.mono no0 fun _ w => w
          obtain ⟨f1, f2, f3⟩ := fin2 (za.trans zb) rb.sta
          refine ⟨ys7, f3.2.2.1, by rw [f3.2.2.2.length]; exact qb.1, _, _, _, ⟨f1.hid hS1 hz (nostab_at f3.2.2.1 nostab_lst) pz, f2.trans evd, push f3 ib⟩, qb.2⟩
      · have e : c = es.length := by omega
        subst e
        rw [List.drop_length] at q7
        unfold compI at q7
        exact .inl ⟨wl1.stop _ H7 _ ev7 (Nat.le_refl _), _, acc7, ys7, s7, q7⟩
  · have e : a = ds.length := by omega
    subst e
    rw [List.drop_length] at q2
    unfold compW2 at q2
    exact .inl ⟨wl.stop _ H2 _ (st2.seen r1.zs) (Nat.le_refl _), hF _ _ _ _ _ _ _ q2 r1 x1 hD x2 r2.sta s2.2.2.1 s2.2.2.2⟩
theorem lc2_of {p : Z → Prop} (hw : ∀ z S0 H0, Φ z S0 H0 → p z) {i j : Nat} (hij : i ≠ j) {K : PySem.W.Frag} {mi mi1 : MI} {t t1 : MT} {me : ME} (hmi : ∀ env {k k' : List D → DEnv → Prop}, (∀ d e, k d e → k' d e) → mi env k → mi env k')
    (ht : ∀ env {k k' : Bool → DEnv → Prop}, (∀ d e, k d e → k' d e) → t env k → t env k') (hmi1 : ∀ env {k k' : List D → DEnv → Prop}, (∀ d e, k d e → k' d e) → mi1 env k → mi1 env k') (ht1 : ∀ env {k k' : Bool → DEnv → Prop}, (∀ d e, k d e → k' d e) → t1 env k → t1 env k')
    (hm : ∀ env {k k' : D → DEnv → Prop}, (∀ d e, k d e → k' d e) → me env k → me env k') {σ : L2.St} {H : Hp} {Q : VK}
    (q : tD Φ K (mLc2 i j mi t mi1 t1 me) σ H Q) : tLc2 (tDI Φ K mi) (gName i) (tDT (PhiZ p) K t) (tDI (PhiZ p) K mi1) (gName j) (tDT (PhiZ p) K t1) (tD (PhiZ p) K me) [i, j] [j] σ H Q := by
  obtain ⟨z, S0, H0, ps, env, r, q⟩ := q
  refine lc2_gen hw hij hmi ht hmi1 ht1 hm r q fun e1 acc e2 D' ys H1 H2 q r1 x1 hD x2 st hD2 i2 => q _ _ (r1.call x2 st) (x1.trans x2.loc) ?_
  have nD : ¬ Sx S0 ps D' := fun w => r1.dom D' w hD
  exact .lst (hide_get.mpr ⟨nD, hD2⟩) (i2.evx (.of_same (hide_mono fun p w => w.imp id fun w => List.mem_append_left _ w)))
/-- the end of a comprehension, its list new -/
theorem endF {z : Z} {S0 : Addr → Prop} {H0 H : Hp} {K : PySem.W.Frag} {ps : List (Option Addr)} {σ : L2.St} {Q : VK} {kk : OwK → DEnv → Prop} (hk : ∀ o env', kk o env' → ∀ p ho H', Rel Φ z S0 H0 K (ps ++ [some p]) env' σ H' → Ext (Mu z ps) S0 H H' → H p = none → H' p = some ho → OwIs z K (hide (Sx S0 (ps ++ [some p])) H') ho o → Q (.ref p) H') :
    ∀ e1 acc (e2 : DEnv) D' ys H1 H2, kk (.lst acc) { e1 with cr := e2.cr, mr := e2.mr } → Rel Φ z S0 H0 K ps e1 σ H1 → Ext (Mu z ps) S0 H H1 → H1 D' = none → Ext (Zs z) (Sx S0 ps) H1 H2 → Sta z e2.cr e2.mr H2 → H2 D' = some (.lst ys) → IsA z K (hide (Sx S0 (ps ++ [some D'])) H2) ys acc → Q (.ref D') H2 := by
  intro e1 acc e2 D' ys H1 H2 q r1 x1 hD x2 st hD2 i2
  refine hk _ _ q D' _ H2 (r1.tempX hD x2 st hD2) (x1.trans x2.loc) ?_ hD2 ⟨ys, rfl, i2⟩
  cases e : H D' with
  | none => rfl
  | some o =>
    by_cases hm : Mu z ps D'
    · rcases hm with hm | hm
      · exact absurd hD (r1.sta.dom hm)
      · exact absurd hD (r1.dom _ (.inr hm))
    · obtain ⟨o', e', _⟩ := x1 _ o hm e
      rw [hD] at e'; cases e'
end
section
variable {X : Cx} {Φ : Phi}
theorem mLc2_mono {i j : Nat} {mi mi1 : MI} {t t1 : MT} {me : ME} (hmi : ∀ env {k k' : List D → DEnv → Prop}, (∀ d e, k d e → k' d e) → mi env k → mi env k') (ht : ∀ env {k k' : Bool → DEnv → Prop}, (∀ d e, k d e → k' d e) → t env k → t env k') (hmi1 : ∀ env {k k' : List D → DEnv → Prop}, (∀ d e, k d e → k' d e) → mi1 env k → mi1 env k')
    (ht1 : ∀ env {k k' : Bool → DEnv → Prop}, (∀ d e, k d e → k' d e) → t1 env k → t1 env k') (hm : ∀ env {k k' : D → DEnv → Prop}, (∀ d e, k d e → k' d e) → me env k → me env k') :
    ∀ env {k k' : D → DEnv → Prop}, (∀ d e, k d e → k' d e) → mLc2 i j mi t mi1 t1 me env k → mLc2 i j mi t mi1 t1 me env k' := fun env k k' h q => hmi env (fun ds e q => compW2_mono ht hmi1 ht1 hm ds _ _ (fun a e2 q => h _ _ q) q) q
theorem de_lc2 {p : Z → Prop} {elt iter iter1 : Expr} {ifs ifs1 : List Expr} {scope : Scope} {x y : Str} {px py : Pos} {i j : Nat} {pos : Pos} {mi mi1 : MI} {t t1 : MT} {me : ME} (hw : ∀ z S0 H0, Φ z S0 H0 → p z) (hij : i ≠ j) (hc : X.calm = true) (hN : X.N.Nodup) (hi : DI X Φ (.Name x px) iter mi) (ok : BlkOk X.N X.env.scope scope [(x, i), (y, j)])
    (hg : ∀ (s : Shared) (H : Hp) (C : Addr) (cl : List (Str × Addr)) (fp : List Addr), PG (X.blk s H scope (compEnvC scope cl C X.env) fp) (.Name x px) (gName i))
    (ht : ∀ (s : Shared) (H : Hp) (C : Addr) (cl : List (Str × Addr)) (fp : List Addr), DTs (X.blk s H scope (compEnvC scope cl C X.env) fp) (PhiZ p) ifs t)
    (hi1 : ∀ (s : Shared) (H : Hp) (C : Addr) (cl : List (Str × Addr)) (fp : List Addr), DI (X.blk s H scope (compEnvC scope cl C X.env) fp) (PhiZ p) (.Name y py) iter1 mi1)
    (hg1 : ∀ (s : Shared) (H : Hp) (C : Addr) (cl : List (Str × Addr)) (fp : List Addr), PG (X.blk s H scope (compEnvC scope cl C X.env) fp) (.Name y py) (gName j))
    (ht1 : ∀ (s : Shared) (H : Hp) (C : Addr) (cl : List (Str × Addr)) (fp : List Addr), DTs (X.blk s H scope (compEnvC scope cl C X.env) fp) (PhiZ p) ifs1 t1)
    (he : ∀ (s : Shared) (H : Hp) (C : Addr) (cl : List (Str × Addr)) (fp : List Addr), DE (X.blk s H scope (compEnvC scope cl C X.env) fp) (PhiZ p) elt me) (hs : ∀ x, foldedSetIterable iter X.env x = pure x := by intro _; rfl) (hs1 : ∀ env x, foldedSetIterable iter1 env x = pure x := by intro _ _; rfl) :
    DE X Φ (.ListComp elt [⟨.Name x px, iter, ifs, 0⟩, ⟨.Name y py, iter1, ifs1, 0⟩] scope pos) (mLc2 i j mi t mi1 t1 me) :=
  have m0 := (ht X.s_0 (fun _ => none) 0 [] []).mono
  have m1 := (hi1 X.s_0 (fun _ => none) 0 [] []).mono
  have m2 := (ht1 X.s_0 (fun _ => none) 0 [] []).mono
  have m3 := (he X.s_0 (fun _ => none) 0 [] []).mono
  ⟨mLc2_mono hi.mono m0 m1 m2 m3,
   pe_imp (pe_lc2 (own := [(x, i), (y, j)]) (vs1 := [j]) hc hN hi.pi ok (by simp) hg (fun s H C cl fp => (ht s H C cl fp).pts) (fun s H C cl fp => (hi1 s H C cl fp).pi) hg1 (fun s H C cl fp => (ht1 s H C cl fp).pts) (fun s H C cl fp => (he s H C cl fp).pe) hs hs1) fun _ _ _ q => lc2_of hw hij hi.mono m0 m1 m2 m3 q⟩
theorem ds_setLc2 {p : Z → Prop} {k : Nat} {u : Str} {pu spos : Pos} {elt iter iter1 : Expr} {ifs ifs1 : List Expr} {scope : Scope} {x y : Str} {px py : Pos} {i j : Nat} {pos : Pos} {mi mi1 : MI} {t t1 : MT} {me : ME} (hw : ∀ z S0 H0, Φ z S0 H0 → p z) (hij : i ≠ j) (hc : X.calm = true) (hN : X.N.Nodup) (hy : X.N[k]? = some u) (hyl : X.env.scope.names.lookup u = some .local)
    (hsw : swapsWith (.ListComp elt [⟨.Name x px, iter, ifs, 0⟩, ⟨.Name y py, iter1, ifs1, 0⟩] scope pos) (some (.Name u pu)) spos.line X.env = pure true) (hi : DI X Φ (.Name x px) iter mi) (ok : BlkOk X.N X.env.scope scope [(x, i), (y, j)])
    (hg : ∀ (s : Shared) (H : Hp) (C : Addr) (cl : List (Str × Addr)) (fp : List Addr), PG (X.blk s H scope (compEnvC scope cl C X.env) fp) (.Name x px) (gName i))
    (ht : ∀ (s : Shared) (H : Hp) (C : Addr) (cl : List (Str × Addr)) (fp : List Addr), DTs (X.blk s H scope (compEnvC scope cl C X.env) fp) (PhiZ p) ifs t)
    (hi1 : ∀ (s : Shared) (H : Hp) (C : Addr) (cl : List (Str × Addr)) (fp : List Addr), DI (X.blk s H scope (compEnvC scope cl C X.env) fp) (PhiZ p) (.Name y py) iter1 mi1)
    (hg1 : ∀ (s : Shared) (H : Hp) (C : Addr) (cl : List (Str × Addr)) (fp : List Addr), PG (X.blk s H scope (compEnvC scope cl C X.env) fp) (.Name y py) (gName j))
    (ht1 : ∀ (s : Shared) (H : Hp) (C : Addr) (cl : List (Str × Addr)) (fp : List Addr), DTs (X.blk s H scope (compEnvC scope cl C X.env) fp) (PhiZ p) ifs1 t1)
    (he : ∀ (s : Shared) (H : Hp) (C : Addr) (cl : List (Str × Addr)) (fp : List Addr), DE (X.blk s H scope (compEnvC scope cl C X.env) fp) (PhiZ p) elt me) (hs : ∀ x, foldedSetIterable iter X.env x = pure x := by intro _; rfl) (hs1 : ∀ env x, foldedSetIterable iter1 env x = pure x := by intro _ _; rfl) :
    DS X Φ (.Assign [.Name u pu] (.ListComp elt [⟨.Name x px, iter, ifs, 0⟩, ⟨.Name y py, iter1, ifs1, 0⟩] scope pos) spos) (mSet k (mLc2 i j mi t mi1 t1 me)) :=
  have m0 := (ht X.s_0 (fun _ => none) 0 [] []).mono
  have m1 := (hi1 X.s_0 (fun _ => none) 0 [] []).mono
  have m2 := (ht1 X.s_0 (fun _ => none) 0 [] []).mono
  have m3 := (he X.s_0 (fun _ => none) 0 [] []).mono
  have mm := mLc2_mono (i := i) (j := j) hi.mono m0 m1 m2 m3
  ⟨mSet_mono mm, ps_imp (ps_setLc2 (own := [(x, i), (y, j)]) (vs1 := [j]) hc hN hy hyl hsw hi.pi ok (by simp) hg (fun s H C cl fp => (ht s H C cl fp).pts) (fun s H C cl fp => (hi1 s H C cl fp).pi) hg1 (fun s H C cl fp => (ht1 s H C cl fp).pts) (fun s H C cl fp => (he s H C cl fp).pe) hs hs1) fun _ _ _ q =>
    lc2_of hw hij hi.mono m0 m1 m2 m3 (asg_of mm q)⟩
end
section
variable {X : Cx} {Φ : Phi}
/-! ### comprehensions as new lists -/
def mLcF (i : Nat) (mi : MI) (t : MT) (me : ME) : MF := fun env k => mi env fun ds e => compW i t me ds (compE i e) [] fun acc e2 => k (.lst acc) { e with cr := e2.cr, mr := e2.mr }
def mLc2F (i j : Nat) (mi : MI) (t : MT) (mi1 : MI) (t1 : MT) (me : ME) : MF := fun env k => mi env fun ds e => compW2 i j t mi1 t1 me ds (compE2 i j e) [] fun acc e2 => k (.lst acc) { e with cr := e2.cr, mr := e2.mr }
theorem df_lc {p : Z → Prop} {elt iter : Expr} {ifs : List Expr} {scope : Scope} {x : Str} {px : Pos} {i : Nat} {pos : Pos} {mi : MI} {t : MT} {me : ME} (hw : ∀ z S0 H0, Φ z S0 H0 → p z) (hc : X.calm = true) (hN : X.N.Nodup) (hi : DI X Φ (.Name x px) iter mi) (ok : BlkOk X.N X.env.scope scope [(x, i)])
    (hg : ∀ (s : Shared) (H : Hp) (C : Addr) (cl : List (Str × Addr)) (fp : List Addr), PG (X.blk s H scope (compEnvC scope cl C X.env) fp) (.Name x px) (gName i))
    (ht : ∀ (s : Shared) (H : Hp) (C : Addr) (cl : List (Str × Addr)) (fp : List Addr), DTs (X.blk s H scope (compEnvC scope cl C X.env) fp) (PhiZ p) ifs t)
    (he : ∀ (s : Shared) (H : Hp) (C : Addr) (cl : List (Str × Addr)) (fp : List Addr), DE (X.blk s H scope (compEnvC scope cl C X.env) fp) (PhiZ p) elt me) (hs : ∀ x, foldedSetIterable iter X.env x = pure x := by intro _; rfl) :
    DF X Φ (.ListComp elt [⟨.Name x px, iter, ifs, 0⟩] scope pos) (mLcF i mi t me) :=
  have m1 := (ht X.s_0 (fun _ => none) 0 [] []).mono
  have m2 := (he X.s_0 (fun _ => none) 0 [] []).mono
  ⟨fun env k k' h q => hi.mono env (fun ds e q => compW_mono m1 m2 ds _ _ (fun a e2 q => h _ _ q) q) q,
   pe_imp (pe_lc hc hN hi.pi ok hg (fun s H C cl fp => (ht s H C cl fp).pts) (fun s H C cl fp => (he s H C cl fp).pe) hs) fun σ H Q ⟨z, S0, H0, ps, env, r, q⟩ => lc_gen hw hi.mono m1 m2 r q (endF fun _ _ q => q)⟩
theorem ds_setLcF {p : Z → Prop} {k : Nat} {y : Str} {py spos : Pos} {elt iter : Expr} {ifs : List Expr} {scope : Scope} {x : Str} {px : Pos} {i : Nat} {pos : Pos} {mi : MI} {t : MT} {me : ME} (hw : ∀ z S0 H0, Φ z S0 H0 → p z) (hc : X.calm = true) (hN : X.N.Nodup) (hy : X.N[k]? = some y) (hyl : X.env.scope.names.lookup y = some .local)
    (hsw : swapsWith (.ListComp elt [⟨.Name x px, iter, ifs, 0⟩] scope pos) (some (.Name y py)) spos.line X.env = pure true) (hi : DI X Φ (.Name x px) iter mi) (ok : BlkOk X.N X.env.scope scope [(x, i)])
    (hg : ∀ (s : Shared) (H : Hp) (C : Addr) (cl : List (Str × Addr)) (fp : List Addr), PG (X.blk s H scope (compEnvC scope cl C X.env) fp) (.Name x px) (gName i))
    (ht : ∀ (s : Shared) (H : Hp) (C : Addr) (cl : List (Str × Addr)) (fp : List Addr), DTs (X.blk s H scope (compEnvC scope cl C X.env) fp) (PhiZ p) ifs t)
    (he : ∀ (s : Shared) (H : Hp) (C : Addr) (cl : List (Str × Addr)) (fp : List Addr), DE (X.blk s H scope (compEnvC scope cl C X.env) fp) (PhiZ p) elt me) (hs : ∀ x, foldedSetIterable iter X.env x = pure x := by intro _; rfl) :
    DS X Φ (.Assign [.Name y py] (.ListComp elt [⟨.Name x px, iter, ifs, 0⟩] scope pos) spos) (mSetF k (mLcF i mi t me)) :=
  have m1 := (ht X.s_0 (fun _ => none) 0 [] []).mono
  have m2 := (he X.s_0 (fun _ => none) 0 [] []).mono
  ⟨fun env k k' h q => hi.mono env (fun ds e q => compW_mono m1 m2 ds _ _ (fun a e2 q => ⟨q.1, h.nx _ q.2⟩) q) q, ps_imp (ps_setLc hc hN hy hyl hsw hi.pi ok hg (fun s H C cl fp => (ht s H C cl fp).pts) (fun s H C cl fp => (he s H C cl fp).pe) hs) fun E σ H q => by
    obtain ⟨z, S0, H0, ps, env, r, q⟩ := asgF_of (m := mLcF i mi t me) (fun env k k' h q => hi.mono env (fun ds e q => compW_mono m1 m2 ds _ _ (fun a e2 q => h _ _ q) q) q) q
    exact lc_gen (Q := fun x H1 => gName k x σ H1 E.nx) hw hi.mono m1 m2 r q (endF (Q := fun x H1 => gName k x σ H1 E.nx) fun _ _ q => q)⟩
theorem df_lc2 {p : Z → Prop} {elt iter iter1 : Expr} {ifs ifs1 : List Expr} {scope : Scope} {x y : Str} {px py : Pos} {i j : Nat} {pos : Pos} {mi mi1 : MI} {t t1 : MT} {me : ME} (hw : ∀ z S0 H0, Φ z S0 H0 → p z) (hij : i ≠ j) (hc : X.calm = true) (hN : X.N.Nodup) (hi : DI X Φ (.Name x px) iter mi) (ok : BlkOk X.N X.env.scope scope [(x, i), (y, j)])
    (hg : ∀ (s : Shared) (H : Hp) (C : Addr) (cl : List (Str × Addr)) (fp : List Addr), PG (X.blk s H scope (compEnvC scope cl C X.env) fp) (.Name x px) (gName i))
    (ht : ∀ (s : Shared) (H : Hp) (C : Addr) (cl : List (Str × Addr)) (fp : List Addr), DTs (X.blk s H scope (compEnvC scope cl C X.env) fp) (PhiZ p) ifs t)
    (hi1 : ∀ (s : Shared) (H : Hp) (C : Addr) (cl : List (Str × Addr)) (fp : List Addr), DI (X.blk s H scope (compEnvC scope cl C X.env) fp) (PhiZ p) (.Name y py) iter1 mi1)
    (hg1 : ∀ (s : Shared) (H : Hp) (C : Addr) (cl : List (Str × Addr)) (fp : List Addr), PG (X.blk s H scope (compEnvC scope cl C X.env) fp) (.Name y py) (gName j))
    (ht1 : ∀ (s : Shared) (H : Hp) (C : Addr) (cl : List (Str × Addr)) (fp : List Addr), DTs (X.blk s H scope (compEnvC scope cl C X.env) fp) (PhiZ p) ifs1 t1)
    (he : ∀ (s : Shared) (H : Hp) (C : Addr) (cl : List (Str × Addr)) (fp : List Addr), DE (X.blk s H scope (compEnvC scope cl C X.env) fp) (PhiZ p) elt me) (hs : ∀ x, foldedSetIterable iter X.env x = pure x := by intro _; rfl) (hs1 : ∀ env x, foldedSetIterable iter1 env x = pure x := by intro _ _; rfl) :
    DF X Φ (.ListComp elt [⟨.Name x px, iter, ifs, 0⟩, ⟨.Name y py, iter1, ifs1, 0⟩] scope pos) (mLc2F i j mi t mi1 t1 me) :=
  have m0 := (ht X.s_0 (fun _ => none) 0 [] []).mono
  have m1 := (hi1 X.s_0 (fun _ => none) 0 [] []).mono
  have m2 := (ht1 X.s_0 (fun _ => none) 0 [] []).mono
  have m3 := (he X.s_0 (fun _ => none) 0 [] []).mono
  ⟨fun env k k' h q => hi.mono env (fun ds e q => compW2_mono m0 m1 m2 m3 ds _ _ (fun a e2 q => h _ _ q) q) q,
   pe_imp (pe_lc2 (own := [(x, i), (y, j)]) (vs1 := [j]) hc hN hi.pi ok (by simp) hg (fun s H C cl fp => (ht s H C cl fp).pts) (fun s H C cl fp => (hi1 s H C cl fp).pi) hg1 (fun s H C cl fp => (ht1 s H C cl fp).pts) (fun s H C cl fp => (he s H C cl fp).pe) hs hs1) fun σ H Q ⟨z, S0, H0, ps, env, r, q⟩ => lc2_gen hw hij hi.mono m0 m1 m2 m3 r q (endF fun _ _ q => q)⟩
theorem ds_setLc2F {p : Z → Prop} {k : Nat} {u : Str} {pu spos : Pos} {elt iter iter1 : Expr} {ifs ifs1 : List Expr} {scope : Scope} {x y : Str} {px py : Pos} {i j : Nat} {pos : Pos} {mi mi1 : MI} {t t1 : MT} {me : ME} (hw : ∀ z S0 H0, Φ z S0 H0 → p z) (hij : i ≠ j) (hc : X.calm = true) (hN : X.N.Nodup) (hy : X.N[k]? = some u) (hyl : X.env.scope.names.lookup u = some .local)
    (hsw : swapsWith (.ListComp elt [⟨.Name x px, iter, ifs, 0⟩, ⟨.Name y py, iter1, ifs1, 0⟩] scope pos) (some (.Name u pu)) spos.line X.env = pure true) (hi : DI X Φ (.Name x px) iter mi) (ok : BlkOk X.N X.env.scope scope [(x, i), (y, j)])
    (hg : ∀ (s : Shared) (H : Hp) (C : Addr) (cl : List (Str × Addr)) (fp : List Addr), PG (X.blk s H scope (compEnvC scope cl C X.env) fp) (.Name x px) (gName i))
    (ht : ∀ (s : Shared) (H : Hp) (C : Addr) (cl : List (Str × Addr)) (fp : List Addr), DTs (X.blk s H scope (compEnvC scope cl C X.env) fp) (PhiZ p) ifs t)
    (hi1 : ∀ (s : Shared) (H : Hp) (C : Addr) (cl : List (Str × Addr)) (fp : List Addr), DI (X.blk s H scope (compEnvC scope cl C X.env) fp) (PhiZ p) (.Name y py) iter1 mi1)
    (hg1 : ∀ (s : Shared) (H : Hp) (C : Addr) (cl : List (Str × Addr)) (fp : List Addr), PG (X.blk s H scope (compEnvC scope cl C X.env) fp) (.Name y py) (gName j))
    (ht1 : ∀ (s : Shared) (H : Hp) (C : Addr) (cl : List (Str × Addr)) (fp : List Addr), DTs (X.blk s H scope (compEnvC scope cl C X.env) fp) (PhiZ p) ifs1 t1)
    (he : ∀ (s : Shared) (H : Hp) (C : Addr) (cl : List (Str × Addr)) (fp : List Addr), DE (X.blk s H scope (compEnvC scope cl C X.env) fp) (PhiZ p) elt me) (hs : ∀ x, foldedSetIterable iter X.env x = pure x := by intro _; rfl) (hs1 : ∀ env x, foldedSetIterable iter1 env x = pure x := by intro _ _; rfl) :
    DS X Φ (.Assign [.Name u pu] (.ListComp elt [⟨.Name x px, iter, ifs, 0⟩, ⟨.Name y py, iter1, ifs1, 0⟩] scope pos) spos) (mSetF k (mLc2F i j mi t mi1 t1 me)) :=
  have m0 := (ht X.s_0 (fun _ => none) 0 [] []).mono
  have m1 := (hi1 X.s_0 (fun _ => none) 0 [] []).mono
  have m2 := (ht1 X.s_0 (fun _ => none) 0 [] []).mono
  have m3 := (he X.s_0 (fun _ => none) 0 [] []).mono
  ⟨fun env k k' h q => hi.mono env (fun ds e q => compW2_mono m0 m1 m2 m3 ds _ _ (fun a e2 q => ⟨q.1, h.nx _ q.2⟩) q) q, ps_imp (ps_setLc2 (own := [(x, i), (y, j)]) (vs1 := [j]) hc hN hy hyl hsw hi.pi ok (by simp) hg (fun s H C cl fp => (ht s H C cl fp).pts) (fun s H C cl fp => (hi1 s H C cl fp).pi) hg1 (fun s H C cl fp => (ht1 s H C cl fp).pts) (fun s H C cl fp => (he s H C cl fp).pe) hs hs1) fun E σ H q => by
    obtain ⟨z, S0, H0, ps, env, r, q⟩ := asgF_of (m := mLc2F i j mi t mi1 t1 me) (fun env k k' h q => hi.mono env (fun ds e q => compW2_mono m0 m1 m2 m3 ds _ _ (fun a e2 q => h _ _ q) q) q) q
    exact lc2_gen (Q := fun x H1 => gName k x σ H1 E.nx) hw hij hi.mono m0 m1 m2 m3 r q (endF (Q := fun x H1 => gName k x σ H1 E.nx) fun _ _ q => q)⟩
end
end DL
namespace DL
open PySem L2 PySem.Spec PyProof.Rows
/-! ### errors that leave a def -/
/-- an error in flight stands for the datum -/
def IsX (z : Z) (K : PySem.W.Frag) (G : Hp) (cls : Value) (d : Option Addr) : D → Prop
  | .exn C ns ds => cls = .ref C ∧ ((d = none ∧ ns = [] ∧ ds = []) ∨ ∃ p xs, d = some p ∧ G p = some (.xd (ns.zip xs)) ∧ ns.length = xs.length ∧ ns ≠ [] ∧ IsA z K G xs ds)
  | _ => False
theorem IsX.evx {z : Z} {K : PySem.W.Frag} {G G' : Hp} {cls : Value} {d : Option Addr} {dx : D} (h : IsX z K G cls d dx) (e : Evx G G') : IsX z K G' cls d dx := by
  cases dx with
  | exn C ns ds =>
    obtain ⟨h1, h2⟩ := h
    refine ⟨h1, h2.imp id ?_⟩
    rintro ⟨p, xs, a, b, c, nn, i⟩
    obtain ⟨o', e', v⟩ := e.get b (fun ⟨_, _, _, w, _⟩ => by cases w)
    rw [v.xd] at e'
    exact ⟨p, xs, a, e', c, nn, i.evx e⟩
  | _ => exact h.elim
theorem IsX.cg {z z' : Z} (h1 : z.q = z'.q) (h2 : z.fr = z'.fr) (h3 : z.w = z'.w) (h4 : z.lm = z'.lm) {K : PySem.W.Frag} {G : Hp} {cls : Value} {d : Option Addr} {dx : D} (h : IsX z K G cls d dx) : IsX z' K G cls d dx := by
  cases dx with
  | exn C ns ds =>
    obtain ⟨a, b⟩ := h
    refine ⟨a, b.imp id ?_⟩
    rintro ⟨p, xs, a, b, c, nn, i⟩
    exact ⟨p, xs, a, b, c, nn, i.cg h1 h2 h3 h4⟩
  | _ => exact h.elim
abbrev WFX := List D → Nat → (Sl → Nat → Prop) → (D → Nat → Prop) → Prop
/-- what a def gives: a datum, a new object -/
def RzOk (z : Z) (K : PySem.W.Frag) (S0 : Addr → Prop) (H : Hp) (Q : VK) : Sl → Nat → Prop
  | .da d, n' => ∀ v H', Ext (Zs z) S0 H H' → Sta z n' none H' → Is z K (hide S0 H') v d → Q v H'
  | .ow o, n' => ∀ p ho H', H p = none → H' p = some ho → OwIs z K (hide (fun q => S0 q ∨ q = p) H') ho o → Ext (Zs z) S0 H H' → Sta z n' none H' → Q (.ref p) H'
  | .un, _ => False
def spX (K : PySem.W.Frag) (wd : World) (w : WFX) (vs : List V) (H : Hp) (Q : VK) (E : XK) : Prop := ∃ z S0 ds n, (z.w = wd ∧ z.act = false) ∧ Sta z n none H ∧ (∀ p, S0 p → H p ≠ none) ∧ ((∀ p, Zs z p → S0 p) ∧ ∀ p, Zf z p → S0 p) ∧ IsA z K (hide S0 H) vs ds ∧
  w ds n (RzOk z K S0 H Q) fun dx n' => ∀ cls d H', Ext (Zs z) S0 H H' → Sta z n' none H' → IsX z K (hide S0 H') cls d dx → E cls d H'
def GoodX (W : WFX) (m : Nat) : Prop := (∀ ds n {k k' : Sl → Nat → Prop} {q q' : D → Nat → Prop}, (∀ d n, k d n → k' d n) → (∀ d n, q d n → q' d n) → W ds n k q → W ds n k' q') ∧ ∀ ds n k q, W ds n k q → ds.length = m
structure FnX (P : Program) (w : World) (K : PySem.W.Frag) (mg : Str → Option Value) (base : Heap) (k : Nat) (f : Addr) (fd : FuncData) (ps : List Str) (W : WFX) : Prop where
  good : GoodX W ps.length
  run : ∀ (A : Around) (outer : List Env) (s : Shared) (H : Hp) (args : Args) (us : List Value) (vs : List V) (Q : VK) (E : XK), Room k A → A.guards = some [] → Env0 P w K mg base A outer s H → BindsTo s fd args (ps.zip us) → Vals vs us → spX K w W vs H Q E →
    codeAny (model P w) A (.call (.ref f) args) (CR (L2.CX P w) outer P w H s Q E) s
theorem FnX.up {P : Program} {w : World} {K : PySem.W.Frag} {mg : Str → Option Value} {base : Heap} {j k : Nat} {f : Addr} {fd : FuncData} {ps : List Str} {W : WFX} (F : FnX P w K mg base j f fd ps W) (h : j ≤ k) : FnX P w K mg base k f fd ps W :=
  ⟨F.good, fun A outer s H args us vs Q E hr => F.run A outer s H args us vs Q E (hr.mono h)⟩
/-- what a raised error owes: kx of it, of the draws that are left -/
def PhiE (K : PySem.W.Frag) (w : World) (E : XK) (kx : D → Nat → Prop) : Phi := fun z S0 H0 => z.w = w ∧ ∀ ps env σ H cls d dx, Rel (fun _ _ _ => True) z S0 H0 K ps env σ H → IsX z K (hide (Sx S0 ps) H) cls d dx → kx dx env.cr → E cls d H
/-- no error is wished for -/
theorem phiE0 {Φ : Phi} {K : PySem.W.Frag} {w : World} (h : PhiOk Φ w) : ∀ z S0 H0, Φ z S0 H0 → PhiE K w (fun _ _ _ => False) (fun _ _ => False) z S0 H0 := fun z S0 H0 p => ⟨h z S0 H0 p, fun _ _ _ _ _ _ _ _ _ q => q⟩
theorem Rel.free {Φ : Phi} {z : Z} {S0 : Addr → Prop} {H0 H : Hp} {K : PySem.W.Frag} {ps : List (Option Addr)} {env : DEnv} {σ : L2.St} (r : Rel Φ z S0 H0 K ps env σ H) : Rel (fun _ _ _ => True) z S0 H0 K ps env σ H :=
  ⟨r.lenp, r.lens, r.inj, r.fresh, r.s0, r.zs, r.zf, r.dom, r.ext, r.sta, r.sl, trivial, r.zt⟩
section
variable {X : Cx} {k : Nat} {f : Addr} {fd : FuncData} {ps : List Str} {W : WFX} {E : XK} {kx : D → Nat → Prop}
def rzD (k : D → DEnv → Prop) (e : DEnv) : Sl → Nat → Prop
  | .da d, cr => k d { e with cr := cr }
  | .ow o, cr => k o.toD { e with cr := cr }
  | .un, _ => False
def rzF (k : OwK → DEnv → Prop) (e : DEnv) : Sl → Nat → Prop
  | .ow o, cr => k o { e with cr := cr }
  | _, _ => False
theorem rzD_mono {k k' : D → DEnv → Prop} {e : DEnv} (h : ∀ d e, k d e → k' d e) : ∀ s n, rzD k e s n → rzD k' e s n
  | .da _, _, q => h _ _ q
  | .ow _, _, q => h _ _ q
  | .un, _, q => q
theorem rzF_mono {k k' : OwK → DEnv → Prop} {e : DEnv} (h : ∀ d e, k d e → k' d e) : ∀ s n, rzF k e s n → rzF k' e s n
  | .da _, _, q => q
  | .ow _, _, q => h _ _ q
  | .un, _, q => q
def mCallX (W : WFX) (kx : D → Nat → Prop) (n : MA) : ME := fun env k => n env fun ds e => W ds e.cr (rzD k e) kx
def mCallXF (W : WFX) (kx : D → Nat → Prop) (n : MA) : MF := fun env k => n env fun ds e => W ds e.cr (rzF k e) kx
section
variable {Φ : Phi} {z : Z} {S0 : Addr → Prop} {H0 H H1 : Hp} {K : PySem.W.Frag} {env e : DEnv} {σ : L2.St} {Q : VK} {pps : List (Option Addr)}
/-- what a def gives, as a datum of the caller -/
theorem rz_data (r1 : Rel Φ z S0 H0 K pps e σ H1) (x1 : Ext (Mu z pps) S0 H H1) : ∀ s cr, rzD (fun d env' => ∀ v H', Rel Φ z S0 H0 K pps env' σ H' → Ext (Mu z pps) S0 H H' → Is z K (hide (Sx S0 pps) H') v d → Q v H') e s cr → RzOk z.off K (Sx S0 pps) H1 Q s cr
  | .da d, cr, q => fun v H2 x2 s2 i2 => q v H2 (r1.callP x2 s2) (x1.trans x2.locP) i2.on
  | .ow o, cr, q => fun p ho H2 hp hp2 iw x2 s2 => by
    have np : ¬ Sx S0 pps p := fun w => r1.dom p w hp
    exact q _ H2 (r1.callP x2 s2) (x1.trans x2.locP) ((OwIs.is (iw.evx (.of_same (hide_mono fun q w => .inl w))) (hide_get.mpr ⟨np, hp2⟩)).on)
  | .un, cr, q => q.elim
theorem OwIs.on {G : Hp} {ho : HO} : ∀ {o : OwK}, OwIs z.off K G ho o → OwIs z K G ho o
  | .lst _, ⟨xs, a, b⟩ => ⟨xs, a, b.on⟩
  | .dct _ _, ⟨xs, a, b, c, d⟩ => ⟨xs, a, b, c, d.on⟩
  | .dcT _ _, ⟨xs, a, b, d⟩ => ⟨xs, a, b, d.on⟩
  | .ins _ _ _, ⟨dx, xs, a, b, d⟩ => ⟨dx, xs, a, b, d.on⟩
theorem none_back (r1 : Rel Φ z S0 H0 K pps e σ H1) (x1 : Ext (Mu z pps) S0 H H1) {p : Addr} (hp : H1 p = none) : H p = none := by
  cases e : H p with
  | none => rfl
  | some o =>
    by_cases hm : Mu z pps p
    · rcases hm with hm | hm
      · exact absurd hp (r1.sta.dom hm)
      · exact absurd hp (r1.dom _ (.inr hm))
    · obtain ⟨o', e', _⟩ := x1 _ o hm e
      rw [hp] at e'; cases e'
theorem rz_fresh (r1 : Rel Φ z S0 H0 K pps e σ H1) (x1 : Ext (Mu z pps) S0 H H1) : ∀ s cr, rzF (fun o env' => ∀ p ho H', Rel Φ z S0 H0 K (pps ++ [some p]) env' σ H' → Ext (Mu z pps) S0 H H' → H p = none → H' p = some ho → OwIs z K (hide (Sx S0 (pps ++ [some p])) H') ho o → Q (.ref p) H') e s cr → RzOk z.off K (Sx S0 pps) H1 Q s cr
  | .da d, cr, q => q.elim
  | .ow o, cr, q => fun p ho H2 hp hp2 iw x2 s2 => by
    have rc := r1.callP x2 s2
    have sub : ∀ q, Sx S0 (pps ++ [some p]) q → (Sx S0 pps q ∨ q = p) := fun q w => by
      rcases w with w | w
      · exact .inl (.inl w)
      · rcases List.mem_append.mp w with w | w
        · exact .inl (.inr w)
        · exact .inr (Option.some.inj (List.mem_singleton.mp w))
    exact q p ho H2 (r1.tempX (mk := e.mr) hp (x2.mono (fun _ h => h.on) fun _ h => h) rc.sta hp2) (x1.trans x2.locP) (none_back r1 x1 hp) hp2 (OwIs.on (iw.evx (.of_same (hide_mono sub))))
  | .un, cr, q => q.elim
end
theorem spX_of {Φ : Phi} {n : MA} {w : World} {K : PySem.W.Frag} (hΦ : ∀ z S0 H0, Φ z S0 H0 → PhiE K w E kx z S0 H0) (hn : ∀ env {k k' : List D → DEnv → Prop}, (∀ d e, k d e → k' d e) → n env k → n env k') (gW : ∀ ds n {k k' : Sl → Nat → Prop} {q q' : D → Nat → Prop}, (∀ d n, k d n → k' d n) → (∀ d n, q d n → q' d n) → W ds n k q → W ds n k' q') {σ : L2.St} {H : Hp} {Q : VK}
    (q : tD Φ K (mCallX W kx n) σ H Q) : tDA Φ K n σ H fun vs H1 => spX K w W vs H1 Q E := by
  obtain ⟨z, S0, H0, ps, env, r, q⟩ := q
  refine ⟨z, S0, H0, ps, env, r, hn env (fun ds e q => ?_) q⟩
  intro vs H1 r1 x1 i1
  refine ⟨z.off, Sx S0 ps, ds, e.cr, ⟨show z.w = _ from (hΦ _ _ _ r1.phi).1, rfl⟩, ⟨r1.sta.dr, r1.sta.wk.fr, r1.sta.inv, r1.sta.tb⟩, r1.dom, ⟨fun p h => .inl (r1.zs p h.on), fun p h => .inl (r1.zf p h)⟩, i1.off, gW ds e.cr (rz_data r1 x1) (fun dx cr q => ?_) q⟩
  · intro cls d H2 x2 s2 i2
    exact (hΦ _ _ _ r1.phi).2 ps _ σ H2 cls d dx (r1.callP x2 s2).free (IsX.cg (z := z.off) (z' := z) rfl rfl rfl rfl i2) q
theorem run_X {pins : List (Addr × Obj)} {σ : L2.St} {H : Hp} {s : Shared} {Q : VK} {args : Args} {us : List Value} {vs : List V} (F : FnX X.prog X.w X.K X.mg X.base k f fd ps W) (hr : Room k X.A) (hgd : X.A.guards = some []) (tk : Takes X fun cls d _ H => E cls d H)
    (I : Inv X pins σ H s) (hb : BindsTo s fd args (ps.zip us)) (r : Vals vs us) (h : spX X.K X.w W vs H Q E) : codeAny (model X.prog X.w) X.A (.call (.ref f) args) (fun r s' => match r with | .ok (.ret u) => EP X pins σ Q u s' | .error e => X.xe e s' | _ => False) s := by
  refine codeAny_mono (F.run X.A X.stack s H args us vs Q E hr hgd I.env0 hb r h) fun r s' hq => ?_
  match r, hq with
  | .error e, hq => exact passes_call tk (fun _ _ _ _ h => h) pins σ H s e s' I hq
  | .ok (.ret u), hq => exact I.after hq
  | .ok .next, hq => exact False.elim hq
  | .ok .brk, hq => exact False.elim hq
  | .ok .cont, hq => exact False.elim hq
theorem de_callX {Φ : Phi} {x : Str} {p pos : Pos} {e : Expr} {es : List Expr} {n : MA} (F : FnX X.prog X.w X.K X.mg X.base k f fd ps W) (hr : Room k X.A) (hgd : X.A.guards = some []) (tk : Takes X fun cls d _ H => E cls d H) (hΦ : ∀ z S0 H0, Φ z S0 H0 → PhiE X.K X.w E kx z S0 H0) (hg : Gl X x) (hm : X.mg x = some (.ref f)) (hk : PySem.W.keepIn X.K (.ref f) = true) (hb : Binds X.K fd ps [])
    (ha : DA X Φ (e :: es) n) (hdb : (x == ("__debug__" : Str)) = false := by decide) (he : starEach (e :: es) X.env = (false, eval e X.env) :: starEach es X.env := by rfl) (hpl : (backTo pos (starEach es X.env)).any (·.1) = false := by rfl) :
    DE X Φ (.Call (.Name x p) (e :: es) [] pos) (mCallX W kx n) := by
  refine ⟨fun env k k' h q => ha.mono env (fun ds e q => F.good.1 _ _ (rzD_mono h) (fun _ _ q => q) q) q, ⟨fun pins s σ H Q I h => wpAny_Call_Name_kw (ld_glob I hg hm ?_ hdb)⟩⟩
  have h' := spX_of hΦ ha.mono F.good.1 h
  refine PySem.W.callWith_K (h₀ := X.base) I.ok.mod.kin hk (thn (ha.pa.run pos pins s σ H _ I h') fun us s1 ⟨vs, H1, I1, r, q⟩ => ⟨I1.kIn, ?_⟩) he hpl
  have hl : us.length = ps.length := by
    obtain ⟨z, S0, ds, n, _, _, _, _, i, w⟩ := q
    rw [← r.length, i.length]
    exact F.good.2 _ _ _ _ w
  have bt := hb s1 us I1.kIn (by rw [List.append_nil]; exact hl)
  rw [List.append_nil] at bt
  refine wpAny_call (codeAny_mono (run_X F hr hgd tk I1 bt r q) fun rr s' hq => ?_)
  match rr, hq with
  | .error e, hq => exact hq
  | .ok (.ret u), hq => exact hq
  | .ok .next, hq => exact hq.elim
  | .ok .brk, hq => exact hq.elim
  | .ok .cont, hq => exact hq.elim
theorem spXF_of {Φ : Phi} {n : MA} {w : World} {K : PySem.W.Frag} (hΦ : ∀ z S0 H0, Φ z S0 H0 → PhiE K w E kx z S0 H0) (hn : ∀ env {k k' : List D → DEnv → Prop}, (∀ d e, k d e → k' d e) → n env k → n env k') (gW : ∀ ds n {k k' : Sl → Nat → Prop} {q q' : D → Nat → Prop}, (∀ d n, k d n → k' d n) → (∀ d n, q d n → q' d n) → W ds n k q → W ds n k' q') {σ : L2.St} {H : Hp} {Q : VK}
    (q : tDF Φ K (mCallXF W kx n) σ H Q) : tDA Φ K n σ H fun vs H1 => spX K w W vs H1 Q E := by
  obtain ⟨z, S0, H0, ps, env, r, q⟩ := q
  refine ⟨z, S0, H0, ps, env, r, hn env (fun ds e q => ?_) q⟩
  intro vs H1 r1 x1 i1
  refine ⟨z.off, Sx S0 ps, ds, e.cr, ⟨show z.w = _ from (hΦ _ _ _ r1.phi).1, rfl⟩, ⟨r1.sta.dr, r1.sta.wk.fr, r1.sta.inv, r1.sta.tb⟩, r1.dom, ⟨fun p h => .inl (r1.zs p h.on), fun p h => .inl (r1.zf p h)⟩, i1.off, gW ds e.cr (rz_fresh r1 x1) (fun dx cr q => ?_) q⟩
  intro cls d H2 x2 s2 i2
  exact (hΦ _ _ _ r1.phi).2 ps _ σ H2 cls d dx (r1.callP x2 s2).free (IsX.cg (z := z.off) (z' := z) rfl rfl rfl rfl i2) q
theorem df_callX {Φ : Phi} {x : Str} {p pos : Pos} {e : Expr} {es : List Expr} {n : MA} (F : FnX X.prog X.w X.K X.mg X.base k f fd ps W) (hr : Room k X.A) (hgd : X.A.guards = some []) (tk : Takes X fun cls d _ H => E cls d H) (hΦ : ∀ z S0 H0, Φ z S0 H0 → PhiE X.K X.w E kx z S0 H0) (hg : Gl X x) (hm : X.mg x = some (.ref f)) (hk : PySem.W.keepIn X.K (.ref f) = true) (hb : Binds X.K fd ps [])
    (ha : DA X Φ (e :: es) n) (hdb : (x == ("__debug__" : Str)) = false := by decide) (he : starEach (e :: es) X.env = (false, eval e X.env) :: starEach es X.env := by rfl) (hpl : (backTo pos (starEach es X.env)).any (·.1) = false := by rfl) :
    DF X Φ (.Call (.Name x p) (e :: es) [] pos) (mCallXF W kx n) := by
  refine ⟨fun env k k' h q => ha.mono env (fun ds e q => F.good.1 _ _ (rzF_mono h) (fun _ _ q => q) q) q, ⟨fun pins s σ H Q I h => wpAny_Call_Name_kw (ld_glob I hg hm ?_ hdb)⟩⟩
  have h' := spXF_of hΦ ha.mono F.good.1 h
  refine PySem.W.callWith_K (h₀ := X.base) I.ok.mod.kin hk (thn (ha.pa.run pos pins s σ H _ I h') fun us s1 ⟨vs, H1, I1, r, q⟩ => ⟨I1.kIn, ?_⟩) he hpl
  have hl : us.length = ps.length := by
    obtain ⟨z, S0, ds, n, _, _, _, _, i, w⟩ := q
    rw [← r.length, i.length]
    exact F.good.2 _ _ _ _ w
  have bt := hb s1 us I1.kIn (by rw [List.append_nil]; exact hl)
  rw [List.append_nil] at bt
  refine wpAny_call (codeAny_mono (run_X F hr hgd tk I1 bt r q) fun rr s' hq => ?_)
  match rr, hq with
  | .error e, hq => exact hq
  | .ok (.ret u), hq => exact hq
  | .ok .next, hq => exact hq.elim
  | .ok .brk, hq => exact hq.elim
  | .ok .cont, hq => exact hq.elim
def mCallKX (W : WFX) (kx : D → Nat → Prop) (ks : Nat) (js : List Nat) (n : MA) : ME := fun env k => n env fun ds e => ds.length = ks ∧ W (perm js ds) e.cr (rzD k e) kx
theorem de_callKX {Φ : Phi} {x : Str} {p pos : Pos} {kws : List Keyword} {ks : List Str} {js : List Nat} {n : MA} (F : FnX X.prog X.w X.K X.mg X.base k f fd ps W) (hr : Room k X.A) (hgd : X.A.guards = some []) (tk : Takes X fun cls d _ H => E cls d H) (hΦ : ∀ z S0 H0, Φ z S0 H0 → PhiE X.K X.w E kx z S0 H0) (hg : Gl X x) (hm : X.mg x = some (.ref f)) (hk : PySem.W.keepIn X.K (.ref f) = true) (hb : KwB X.K fd ps ks js)
    (hkw : DK X Φ kws n) (hall : (backToKw pos (keywordEach kws X.env)).all (·.1.isSome) = true := by rfl) (hks : (backToKw pos (keywordEach kws X.env)).filterMap (·.1) = ks := by rfl)
    (hdb : (x == ("__debug__" : Str)) = false := by decide) (hpl : ((backTo pos (starEach [] X.env)).any (·.1) || (backToKw pos (keywordEach kws X.env)).any (·.1.isNone)) = false := by rfl) :
    DE X Φ (.Call (.Name x p) [] kws pos) (mCallKX W kx ks.length js n) := by
  refine ⟨fun env k k' h q => hkw.mono env (fun ds e q => ⟨q.1, F.good.1 _ _ (rzD_mono h) (fun _ _ q => q) q.2⟩) q, ⟨fun pins s σ H Q I ⟨z, S0, H0, ps', env, r, q⟩ => wpAny_Call_Name_kw (ld_glob I hg hm ?_ hdb)⟩⟩
  have h' : tDA Φ X.K n σ H fun vs H1 => vs.length = ks.length ∧ spX X.K X.w W (perm js vs) H1 Q E := by
    refine ⟨z, S0, H0, ps', env, r, hkw.mono env (fun ds e q => ?_) q⟩
    intro vs H1 r1 x1 i1
    refine ⟨by rw [i1.length]; exact q.1, z.off, Sx S0 ps', perm js ds, e.cr, ⟨show z.w = _ from (hΦ _ _ _ r1.phi).1, rfl⟩, ⟨r1.sta.dr, r1.sta.wk.fr, r1.sta.inv, r1.sta.tb⟩, r1.dom, ⟨fun p h => .inl (r1.zs p h.on), fun p h => .inl (r1.zf p h)⟩, (perm_is i1).off, F.good.1 _ _ (rz_data r1 x1) (fun dx cr q => ?_) q.2⟩
    · intro cls d H2 x2 s2 i2
      exact (hΦ _ _ _ r1.phi).2 ps' _ σ H2 cls d dx (r1.callP x2 s2).free (IsX.cg (z := z.off) (z' := z) rfl rfl rfl rfl i2) q
  refine PySem.W.callWith_KW0 (h₀ := X.base) I.ok.mod.kin hk hall (thn (hkw.pk.run pos pins s σ H _ I h') fun ws s2 ⟨zs, H2, I2, rz, hl, q2⟩ => ⟨I2.kIn, ?_⟩) hpl
  rw [hks]
  refine wpAny_call (codeAny_mono (run_X F hr hgd tk I2 (hb s2 ws I2.kIn (by rw [← rz.length]; exact hl)) (perm_vals rz) q2) fun rr s' hq => ?_)
  match rr, hq with
  | .error e, hq => exact hq
  | .ok (.ret u), hq => exact hq
  | .ok .next, hq => exact hq.elim
  | .ok .brk, hq => exact hq.elim
  | .ok .cont, hq => exact hq.elim
/-- raise C('..'), C without __init__ of its own -/
def mRaise0 (C : Addr) (kx : D → Nat → Prop) : MS := fun env _ => kx (.exn C [] []) env.cr
theorem ds_raise0 {Φ : Phi} {C : Addr} {x m : Str} {j : Nat} {p p2 pos rp : Pos} {B newId initId : String} {bmB : List Value} (hc : X.calm = true) (tk : Takes X fun cls d _ H => E cls d H) (hΦ : ∀ z S0 H0, Φ z S0 H0 → PhiE X.K X.w E kx z S0 H0) (F : ExcBaseFacts B newId initId bmB) (q : PySem.W.excIn X.K C bmB newId = true) (gC : X.mg x = some (.ref C)) (kC : PySem.W.keepIn X.K (.ref C) = true) (rC : Raises X (.ref C)) (hg : Gl X x := by rfl)
    (hdb : (x == ("__debug__" : Str)) = false := by decide) : DS X Φ (.Raise (some (.Call (.Name x p) [.Constant (.str m) j p2] [] pos)) none rp) (mRaise0 C kx) := by
  refine ⟨fun env k k' h q => q, ps_imp (ps_raise hc tk (pmk_own F q gC kC rC hg hdb)) fun D σ H ⟨z, S0, H0, ps, env, r, q⟩ => ?_⟩
  exact (hΦ _ _ _ r.phi).2 ps env σ H (.ref C) none (.exn C [] []) r.free ⟨rfl, .inl ⟨rfl, rfl, rfl⟩⟩ q
end
section
variable {P : Program} {w : World} {K : PySem.W.Frag} {mg : Str → Option Value} {base : Heap}
/-- the context of a def's body from which errors may go out -/
abbrev cxE (P : Program) (w : World) (K : PySem.W.Frag) (mg : Str → Option Value) (base : Heap) (N : List Str) (qual : Str) (sc : Scope) (f : Addr) (cdv : Value) (A : Around) (outer : List Env) (s : Shared) (H : Hp) (E : XK) : Cx := cxOf (L2.CX P w) P w K mg base N qual sc f cdv A outer s H E
theorem fnX_of {x qual : Str} {st : Stmt} {f : Addr} {fd : FuncData} {N ps : List Str} {k : Nat} {W : WFX} (F : Fun K x qual st f fd) (S : FnScope N ps (defScope st)) (gd : GoodX W ps.length)
    (hbody : ∀ (cdv : Value) (A : Around) (outer : List Env) (s : Shared) (H : Hp) (E : XK) (kx : D → Nat → Prop), Room k (cxE P w K mg base N qual (defScope st) f cdv A outer s H E).A → (cxE P w K mg base N qual (defScope st) f cdv A outer s H E).A.guards = some [] →
      ∃ m, DSs (cxE P w K mg base N qual (defScope st) f cdv A outer s H E) (PhiE K w E kx) (defBody st) m ∧ ∀ ds n kk, W ds n kk kx → m (startE N.length ds n) { nx := fun e => kk (.da .non) e.cr, rt := fun d e => kk (.da d) e.cr, rf := fun o e => kk (.ow o) e.cr }) : FnX P w K mg base (k + 1) f fd ps W := by
  obtain ⟨oc, od, kV, doc, pm, an, cdv, ct, osl, rfl, lk, hcd⟩ := F.ex
  refine ⟨gd, fun A outer s H args us vs Q E hr hgd e0 hb r hsp => ?_⟩
  obtain ⟨z, S0, ds, n, h0, h1, h2, h3, h4, h5⟩ := hsp
  have hl : vs.length = ps.length := by rw [h4.length]; exact gd.2 _ _ _ _ h5
  have keep := fun b o e => (e0.bs b o e).1
  have KX : K.In s.heap := e0.mod.kin.keeps keep
  have lim : s.heap.NoLimit := e0.mod.nolimit.keeps keep
  obtain ⟨m, hm, hq⟩ := hbody cdv A outer s H E _ (hr.deeper _) (deeper_guards hgd)
  refine codeAny_call_function hr.depth (KX _ _ lk) rfl S.co S.gen rfl (PySem.W.codeRec_of KX hcd) (hb _ _ _ _ ?_)
  refine wpAny_newFunctionEnv_cells S.kind (fun y hy => ?_) fun env he s1 x => ?_
  · rcases S.par y.1 (List.of_mem_zip hy).1 with q | q
    · exact .inl q
    · exact .inr ⟨q, PySem.W.cellsFrom_some _ _ _ (.inl q)⟩
  · subst he
    refine ⟨lim.keeps x.toInCall.keep, codeAny_func ?_⟩
    have I : Inv (cxE P w K mg base N qual (defScope st) f cdv A outer s H E) [] (L2.start N vs) H s1 := inv_start S hr.hd e0 hl r x
    have ph : PhiE K w E (fun dx n' => ∀ cls d H', Ext (Zs z) S0 H H' → Sta z n' none H' → IsX z K (hide S0 H') cls d dx → E cls d H') z S0 H :=
      ⟨h0.1, fun ps env σ H' cls d dx r i q => q cls d H' r.ext r.sta.wk (i.evx (.of_same (hide_mono fun p w => .inl w)))⟩
    have rl := rel_start (Φ := PhiE K w E _) (N := N) ph h1 h2 h3 h4
    have done : ∀ {H' : Hp} {σ' : L2.St} {v : V} {u : Value} {s' : Shared}, Inv (cxE P w K mg base N qual (defScope st) f cdv A outer s H E) [] σ' H' s' → RelV v u → Q v H' → CE outer P w H s Q u s' := fun J rv q => ⟨_, _, J.os, J.bare, J.base, J.hok, rv, q⟩
    have hrun := hm.ps.run [] s1 (L2.start N vs) H { nx := fun _ H' => Q .non H', rt := Q } I ⟨z, S0, H, _, _, rl, hm.mono _ ?_ (hq ds n _ h5)⟩
    · refine wpAny_mono hrun (fun fl s' hs => ?_) fun e s' hs => hs
      match fl, hs with
      | .ret u, ⟨v, σ', H', J, rv, q⟩ => exact done J rv q
      | .next, ⟨σ', H', J, q⟩ => exact done (v := V.non) (u := Value.none) J rfl q
      | .brk, ⟨_, _, _, q⟩ => exact q.elim
      | .cont, ⟨_, _, _, q⟩ => exact q.elim
    · refine ⟨fun e q ps' σ' H' r' st' => ?_, fun d e q ps' v σ' H' r' i' => ?_, fun e q => q.elim, fun e q => q.elim, fun o e q p ho H' h0 hp iw x st => q p ho H' h0 hp iw x st.wk⟩
      · exact q .non H' r'.ext r'.sta.wk .non
      · exact q v H' r'.ext r'.sta.wk (i'.evx (.of_same (hide_mono fun p w => .inl w)))
end
end DL
namespace PySem
open Sem (wp)
open PySem.W (KdxIt kdx_alive)
section
variable {prog : Program} {w : World} {A : Around} {E : Value → Shared → Prop} {s : Shared} {z TI TO i1 i2 : Addr} {fp1 fp2 : List Addr} {n1 n2 i : Nat} {P1 P2 : Nat → Value → Prop} {St1 St2 : Nat → Heap → Prop} {a1 a2 : Value}
theorem zipD2_next_item_held {T : Addr} {f : Bool} {oT : Obj} {Q : Value → Shared → Prop} (S : ZipSep2 z TI TO i1 i2 fp1 fp2) (D1 : Draws prog w A i1 fp1 n1 P1 St1) (D2 : Draws prog w A i2 fp2 n2 P2 St2)
    (hz : IsZipHeld s.heap z TI TO T f) (hT : s.heap.get? T = some oT) (hTI : IsTupOf2 s.heap TI (.ref i1) (.ref i2)) (st1 : St1 i s.heap) (st2 : St2 i s.heap) (hlt1 : i < n1) (hlt2 : i < n2)
    (hQ : ∀ x1 x2 h' tk, P1 i x1 → P2 i x2 → IsZipHeld h' z TI TO T true → St1 (i + 1) h' → St2 (i + 1) h' → IsTupOf2 h' s.heap.objs.size x1 x2 → h'.objs.size = s.heap.objs.size + 1 →
      (∀ c o, c ≠ z → c ≠ i1 → c ≠ i2 → s.heap.get? c = some o → h'.get? c = some o) → Q (.ref s.heap.objs.size) { s with heap := h', toks := tk }) :
    wpAny (model prog w) A (Builtin.«zip.__next__» ⟨[.ref z], []⟩) (fun fin s' => ∃ v, fin = .done (.ret v) ∧ Q v s') E s := by
  obtain ⟨hp, g, d, tk0, os⟩ := s
  show wpAny _ _ (field (.ref z) 2 >>= _) _ _ _
  refine wpAny_bind (wpAny_field hz rfl (x := .bool false) rfl ?_)
  show wpAny _ _ (field (.ref z) 3 >>= _) _ _ _
  refine wpAny_bind (wpAny_field hz rfl (x := .ref TI) rfl ?_)
  refine wpAny_bind (wpAny_seqItems hTI rfl ?_)
  show wpAny _ _ (Builtin.SmallTypes.ownedTupleIsFree (.ref z) >>= _) _ _ _
  refine wpAny_bind (wpAny_tupleHeld_zip hz hT fun h₁ hz₁ hs₁ => ?_)
  replace hs₁ : Heap.SameBut z hp h₁ := hs₁
  simp only [Bool.false_eq_true, if_false]
  refine wpAny_bind ?_
  rw [← Array.forIn_toList]
  simp only [List.forIn_cons, List.forIn_nil]
  refine wpAny_bind (wpAny_bind (wpAny_holding ?_))
  show wpAny _ _ (Builtin.SmallTypes.nextOf (.ref i1) >>= _) _ _ ⟨h₁, g, d, tk0, os⟩
  refine wpAny_bind (D1.item i _ _ _ hlt1 (D1.over st1 hs₁ S.zf1) fun x1 h₂ tk1 hx1 sn1 hs₂ => wpAny_pure ?_)
  replace hs₂ : Heap.SameBut i1 h₁ h₂ := hs₂
  refine wpAny_pure ?_
  refine wpAny_bind (wpAny_bind (wpAny_holding ?_))
  show wpAny _ _ (Builtin.SmallTypes.nextOf (.ref i2) >>= _) _ _ ⟨h₂, g, d, tk1, os⟩
  refine wpAny_bind (D2.item i _ _ _ hlt2 (D2.over (D2.over st2 hs₁ S.zf2) hs₂ S.sep1_2) fun x2 h₃ tk2 hx2 sn2 hs₃ => wpAny_pure ?_)
  replace hs₃ : Heap.SameBut i2 h₂ h₃ := hs₃
  refine wpAny_pure (wpAny_pure ?_)
  show wpAny _ _ (newTuple [x1, x2] >>= _) _ _ _
  refine wpAny_bind (wpAny_newTuple ?_)
  have hsz : h₃.objs.size = hp.objs.size := by rw [hs₃.1, hs₂.1, hs₁.1]
  have hz₃ : IsZipHeld h₃ z TI TO T true := hs₃.extBut _ _ S.zi2 (hs₂.extBut _ _ S.zi1 hz₁)
  have hk : ∀ c o, c ≠ z → c ≠ i1 → c ≠ i2 → hp.get? c = some o → h₃.get? c = some o := fun c o c1 c2 c3 e => hs₃.extBut _ _ c3 (hs₂.extBut _ _ c2 (hs₁.extBut _ _ c1 e))
  have h1₃ : St1 (i + 1) h₃ := D1.over sn1 hs₃ S.sep2_1
  refine wpAny_pure ⟨_, rfl, ?_⟩
  show Q (.ref h₃.objs.size) _
  have hp' : IsTupOf2 (h₃.push { cls := .type "tuple", data := .seq #[x1, x2] }) h₃.objs.size x1 x2 := Heap.get?_push_size _ rfl
  have hz4 : (h₃.push { cls := .type "tuple", data := .seq #[x1, x2] }).objs.size = h₃.objs.size + 1 := Heap.size_push ..
  rw [hsz] at hp' hz4 ⊢
  exact hQ x1 x2 _ _ hx1 hx2 (Heap.get?_push_of_some _ hz₃) (D1.frame _ _ _ h1₃ fun b _ o e => Heap.get?_push_of_some _ e) (D2.frame _ _ _ sn2 fun b _ o e => Heap.get?_push_of_some _ e) hp' hz4 fun c o c1 c2 c3 e => Heap.get?_push_of_some _ (hk c o c1 c2 c3 e)
theorem zipD2_next_end_held {T : Addr} {f : Bool} {oT : Obj} {Q : Fin → Shared → Prop} (S : ZipSep2 z TI TO i1 i2 fp1 fp2) (D1 : Draws prog w A i1 fp1 n1 P1 St1) (D2 : Draws prog w A i2 fp2 n2 P2 St2)
    (hz : IsZipHeld s.heap z TI TO T f) (hT : s.heap.get? T = some oT) (hTI : IsTupOf2 s.heap TI (.ref i1) (.ref i2)) (st1 : St1 i s.heap) (st2 : St2 i s.heap) (hle1 : i ≤ n1) (hle2 : i ≤ n2) (hend : i = n1 ∨ i = n2)
    (hE : ∀ h' tk e, (∀ c o, c ≠ z → c ≠ i1 → c ≠ i2 → s.heap.get? c = some o → h'.get? c = some o) → (∃ o, h'.get? e = some o ∧ o.cls = .type "StopIteration") → E (.ref e) { s with heap := h', toks := tk }) :
    wpAny (model prog w) A (Builtin.«zip.__next__» ⟨[.ref z], []⟩) Q E s := by
  obtain ⟨hp, g, d, tk0, os⟩ := s
  show wpAny _ _ (field (.ref z) 2 >>= _) _ _ _
  refine wpAny_bind (wpAny_field hz rfl (x := .bool false) rfl ?_)
  show wpAny _ _ (field (.ref z) 3 >>= _) _ _ _
  refine wpAny_bind (wpAny_field hz rfl (x := .ref TI) rfl ?_)
  refine wpAny_bind (wpAny_seqItems hTI rfl ?_)
  show wpAny _ _ (Builtin.SmallTypes.ownedTupleIsFree (.ref z) >>= _) _ _ _
  refine wpAny_bind (wpAny_tupleHeld_zip hz hT fun h₁ hz₁ hs₁ => ?_)
  replace hs₁ : Heap.SameBut z hp h₁ := hs₁
  simp only [Bool.false_eq_true, if_false]
  refine wpAny_bind ?_
  rw [← Array.forIn_toList]
  simp only [List.forIn_cons, List.forIn_nil]
  refine wpAny_bind (wpAny_bind (wpAny_holding ?_))
  show wpAny _ _ (Builtin.SmallTypes.nextOf (.ref i1) >>= _) _ _ ⟨h₁, g, d, tk0, os⟩
  by_cases hlt1 : i < n1
  · refine wpAny_bind (D1.item i _ _ _ hlt1 (D1.over st1 hs₁ S.zf1) fun x1 h₂ tk1 hx1 sn1 hs₂ => wpAny_pure ?_)
    replace hs₂ : Heap.SameBut i1 h₁ h₂ := hs₂
    refine wpAny_pure ?_
    refine wpAny_bind (wpAny_bind (wpAny_holding ?_))
    show wpAny _ _ (Builtin.SmallTypes.nextOf (.ref i2) >>= _) _ _ ⟨h₂, g, d, tk1, os⟩
    have hi2 : i = n2 := by omega
    refine wpAny_bind (D2.done _ _ _ (hi2 ▸ D2.over (D2.over st2 hs₁ S.zf2) hs₂ S.sep1_2) fun h₃ e hs₃ he => ?_)
    exact hE h₃ _ e (fun c o c1 c2 c3 x => hs₃ _ _ c3 (hs₂.extBut _ _ c2 (hs₁.extBut _ _ c1 x))) he
  · have hi1 : i = n1 := by omega
    refine wpAny_bind (D1.done _ _ _ (hi1 ▸ D1.over st1 hs₁ S.zf1) fun h₂ e hs₂ he => ?_)
    exact hE h₂ _ e (fun c o c1 c2 _ x => hs₂ _ _ c2 (hs₁.extBut _ _ c1 x)) he
theorem wpAny_pyNext_zipD2_item_held {T : Addr} {f : Bool} {oT : Obj} {Q : Option Value → Shared → Prop} (S : ZipSep2 z TI TO i1 i2 fp1 fp2) (D1 : Draws prog w A.in1 i1 fp1 n1 P1 St1) (D2 : Draws prog w A.in1 i2 fp2 n2 P2 St2)
    (hz : IsZipHeld s.heap z TI TO T f) (hT : s.heap.get? T = some oT) (hTI : IsTupOf2 s.heap TI (.ref i1) (.ref i2)) (st1 : St1 i s.heap) (st2 : St2 i s.heap) (hlt1 : i < n1) (hlt2 : i < n2)
    (hQ : ∀ x1 x2 h' tk, P1 i x1 → P2 i x2 → IsZipHeld h' z TI TO T true → St1 (i + 1) h' → St2 (i + 1) h' → IsTupOf2 h' s.heap.objs.size x1 x2 → h'.objs.size = s.heap.objs.size + 1 →
      (∀ c o, c ≠ z → c ≠ i1 → c ≠ i2 → s.heap.get? c = some o → h'.get? c = some o) → Q (some (.ref s.heap.objs.size)) { s with heap := h', toks := tk }) :
    wpAny (model prog w) A (pyNext (.ref z)) Q E s := by
  have hTy : s.TypeIs (.ref z) "zip" := ⟨_, hz, rfl⟩
  unfold pyNext
  exact wpAny_bind (wpAny_attempt (wpAny_callSpecial?_slot (name := Str.ofString "__next__") hTy F.slot_zip_next
    (wpAny_call_entry F.slot_zip_next hTy F.entry_zip_next
      (zipD2_next_item_held S D1 D2 hz hT hTI st1 st2 hlt1 hlt2 fun x1 x2 h' tk y1 y2 b1 d1 d2 b5 b6 b7 => wpAny_pure (hQ x1 x2 h' tk y1 y2 b1 d1 d2 b5 b6 b7)) (F.args_zip_next_1 _))))
theorem wpAny_pyNext_zipD2_end_held {T : Addr} {f : Bool} {oT : Obj} {Q : Option Value → Shared → Prop} (S : ZipSep2 z TI TO i1 i2 fp1 fp2) (D1 : Draws prog w A.in1 i1 fp1 n1 P1 St1) (D2 : Draws prog w A.in1 i2 fp2 n2 P2 St2)
    (hz : IsZipHeld s.heap z TI TO T f) (hT : s.heap.get? T = some oT) (hTI : IsTupOf2 s.heap TI (.ref i1) (.ref i2)) (st1 : St1 i s.heap) (st2 : St2 i s.heap) (hle1 : i ≤ n1) (hle2 : i ≤ n2) (hend : i = n1 ∨ i = n2)
    (hQ : ∀ h' tk, (∀ c o, c ≠ z → c ≠ i1 → c ≠ i2 → s.heap.get? c = some o → h'.get? c = some o) → Q none { s with heap := h', toks := tk }) : wpAny (model prog w) A (pyNext (.ref z)) Q E s := by
  have hTy : s.TypeIs (.ref z) "zip" := ⟨_, hz, rfl⟩
  unfold pyNext
  refine wpAny_bind (wpAny_attempt (wpAny_callSpecial?_slot (name := Str.ofString "__next__") hTy F.slot_zip_next
    (wpAny_call_entry F.slot_zip_next hTy F.entry_zip_next (zipD2_next_end_held S D1 D2 hz hT hTI st1 st2 hle1 hle2 hend fun h' tk e hk he => ?_) (F.args_zip_next_1 _))))
  obtain ⟨o, ho, hc⟩ := he
  refine wpAny_bind (wpAny_isInstance (T := "StopIteration") (b := true) ⟨o, ho, hc⟩ isSubtype_stop ?_)
  exact wpAny_pure (hQ _ _ hk)
/-- a zip over any two iterators, at turn i, while S is being filled -/
def ZipSt (z TI TO i1 i2 S : Addr) (St1 St2 : Nat → Heap → Prop) (i : Nat) (h : Heap) : Prop := IsTupOf2 h TI (.ref i1) (.ref i2) ∧ St1 i h ∧ St2 i h ∧
  ((IsZip h z TI TO .none ∧ ∃ a b, IsTupOf2 h TO a b) ∨ ∃ T f oT, IsZipHeld h z TI TO T f ∧ h.get? T = some oT ∧ T ≠ z ∧ T ≠ i1 ∧ T ≠ i2 ∧ T ≠ S)
theorem ZipSt.keep {S : Addr} {h h' : Heap} (D1 : Draws prog w A i1 fp1 n1 P1 St1) (D2 : Draws prog w A i2 fp2 n2 P2 St2) (x : ZipSt z TI TO i1 i2 S St1 St2 i h) (hk : ∀ b o, b ≠ S → h.get? b = some o → h'.get? b = some o) (a1 : TI ≠ S) (a2 : z ≠ S) (a3 : TO ≠ S) (a4 : S ∉ fp1) (a5 : S ∉ fp2) : ZipSt z TI TO i1 i2 S St1 St2 i h' := by
  obtain ⟨h1, h2, h3, h4⟩ := x
  refine ⟨hk _ _ a1 h1, D1.frame _ _ _ h2 fun b hb o e => hk b o (fun w => a4 (w ▸ hb)) e, D2.frame _ _ _ h3 fun b hb o e => hk b o (fun w => a5 (w ▸ hb)) e, ?_⟩
  rcases h4 with ⟨hz, a, b, hTO⟩ | ⟨T, f, oT, hz, hT, r1, r2, r3, r4⟩
  · exact .inl ⟨hk _ _ a2 hz, a, b, hk _ _ a3 hTO⟩
  · exact .inr ⟨T, f, oT, hk _ _ a2 hz, hk _ _ r4 hT, r1, r2, r3, r4⟩
theorem ZipSt.item {S : Addr} {Q : Option Value → Shared → Prop} (X : ZipSep2 z TI TO i1 i2 fp1 fp2) (D1 : Draws prog w A.in1 i1 fp1 n1 P1 St1) (D2 : Draws prog w A.in1 i2 fp2 n2 P2 St2) (x : ZipSt z TI TO i1 i2 S St1 St2 i s.heap) (hS : S < s.heap.objs.size) (hlt1 : i < n1) (hlt2 : i < n2)
    (hQ : ∀ x1 x2 h' tk, P1 i x1 → P2 i x2 → ZipSt z TI TO i1 i2 S St1 St2 (i + 1) h' → IsTupOf2 h' s.heap.objs.size x1 x2 → h'.objs.size = s.heap.objs.size + 1 →
      (∀ c o, c ≠ z → c ≠ TO → c ≠ i1 → c ≠ i2 → s.heap.get? c = some o → h'.get? c = some o) → Q (some (.ref s.heap.objs.size)) { s with heap := h', toks := tk }) :
    wpAny (model prog w) A (pyNext (.ref z)) Q E s := by
  obtain ⟨h1, h2, h3, h4⟩ := x
  have lt : ∀ {c o}, s.heap.get? c = some o → s.heap.objs.size ≠ c := fun e => Nat.ne_of_gt (Heap.lt_size e)
  have n1' : s.heap.objs.size ≠ i1 := let ⟨_, e⟩ := D1.live _ _ h2; lt e
  have n2' : s.heap.objs.size ≠ i2 := let ⟨_, e⟩ := D2.live _ _ h3; lt e
  rcases h4 with ⟨hz, a, b, hTO⟩ | ⟨T, f, oT, hz, hT, r1, r2, r3, r4⟩
  · exact wpAny_pyNext_zipD2_item X D1 D2 hz h1 hTO h2 h3 hlt1 hlt2 fun x1 x2 h' tk p1 p2 g1 g2 g3 g4 g5 g6 hk => hQ x1 x2 h' tk p1 p2 ⟨hk _ _ X.TIz X.TITO X.TIi1 X.TIi2 h1, g3, g4, .inr ⟨s.heap.objs.size, false, _, g1, g5, lt hz, n1', n2', Nat.ne_of_gt hS⟩⟩ g5 g6 hk
  · exact wpAny_pyNext_zipD2_item_held X D1 D2 hz hT h1 h2 h3 hlt1 hlt2 fun x1 x2 h' tk p1 p2 g1 g3 g4 g5 g6 hk => hQ x1 x2 h' tk p1 p2 ⟨hk _ _ X.TIz X.TIi1 X.TIi2 h1, g3, g4, .inr ⟨T, true, oT, g1, hk _ _ r1 r2 r3 hT, r1, r2, r3, r4⟩⟩ g5 g6 fun c o c1 _ c3 c4 e => hk c o c1 c3 c4 e
theorem ZipSt.done {S : Addr} {Q : Option Value → Shared → Prop} (X : ZipSep2 z TI TO i1 i2 fp1 fp2) (D1 : Draws prog w A.in1 i1 fp1 n1 P1 St1) (D2 : Draws prog w A.in1 i2 fp2 n2 P2 St2) (x : ZipSt z TI TO i1 i2 S St1 St2 i s.heap) (hle1 : i ≤ n1) (hle2 : i ≤ n2) (hend : i = n1 ∨ i = n2)
    (hQ : ∀ h' tk, (∀ c o, c ≠ z → c ≠ TO → c ≠ i1 → c ≠ i2 → s.heap.get? c = some o → h'.get? c = some o) → Q none { s with heap := h', toks := tk }) : wpAny (model prog w) A (pyNext (.ref z)) Q E s := by
  obtain ⟨h1, h2, h3, h4⟩ := x
  rcases h4 with ⟨hz, a, b, hTO⟩ | ⟨T, f, oT, hz, hT, r1, r2, r3, r4⟩
  · exact wpAny_pyNext_zipD2_end X D1 D2 hz h1 hTO h2 h3 hle1 hle2 hend hQ
  · exact wpAny_pyNext_zipD2_end_held X D1 D2 hz hT h1 h2 h3 hle1 hle2 hend fun h' tk hk => hQ h' tk fun c o c1 _ c3 c4 e => hk c o c1 c3 c4 e
end
/-- dict(zip(v1, v2)) over any two iterators -/
theorem PairArg.zipD {prog : Program} {w : World} {z TI TO i1 i2 : Addr} {fp1 fp2 : List Addr} {n1 n2 : Nat} {P1 P2 : Nat → Value → Prop} {St1 St2 : Nat → Heap → Prop} (X : ZipSep2 z TI TO i1 i2 fp1 fp2) (D1 : ∀ A : Around, A.handled = none → Draws prog w A i1 fp1 n1 P1 St1) (D2 : ∀ A : Around, A.handled = none → Draws prog w A i2 fp2 n2 P2 St2) (t1 : ∀ h, St1 0 h → ∀ b ∈ fp1, ∃ o, h.get? b = some o) (t2 : ∀ h, St2 0 h → ∀ b ∈ fp2, ∃ o, h.get? b = some o) (hA0 : ∃ A : Around, A.handled = none) :
    PairArg prog w "zip" z (z :: TI :: TO :: (fp1 ++ fp2)) [z, TO, i1, i2] (min n1 n2) (fun i k v => P1 i k ∧ P2 i v)
      (fun h => IsZip h z TI TO .none ∧ IsTupOf2 h TI (.ref i1) (.ref i2) ∧ (∃ a b, IsTupOf2 h TO a b) ∧ St1 0 h ∧ St2 0 h) where
  type := fun s ok => ⟨_, ok.1, rfl⟩
  notDict := by decide
  keep := fun h h' ok hk => by
    obtain ⟨A0, hA0⟩ := hA0
    obtain ⟨hz, hTI, ⟨a, b, hTO⟩, h1, h2⟩ := ok
    exact ⟨hk _ _ hz, hk _ _ hTI, ⟨a, b, hk _ _ hTO⟩, (D1 A0 hA0).frame _ _ _ h1 fun b _ o e => hk b o e, (D2 A0 hA0).frame _ _ _ h2 fun b _ o e => hk b o e⟩
  there := fun h ok b hb => by
    obtain ⟨hz, hTI, ⟨a, c, hTO⟩, h1, h2⟩ := ok
    simp only [List.mem_cons, List.mem_append] at hb
    rcases hb with rfl | rfl | rfl | hb | hb
    · exact ⟨_, hz⟩
    · exact ⟨_, hTI⟩
    · exact ⟨_, hTO⟩
    · exact t1 h h1 b hb
    · exact t2 h h2 b hb
  sub := fun b hb => by
    simp only [List.mem_cons, List.not_mem_nil, or_false] at hb
    simp only [List.mem_cons, List.mem_append]
    rcases hb with rfl | rfl | rfl | rfl
    · exact .inl rfl
    · exact .inr (.inr (.inl rfl))
    · exact .inr (.inr (.inr (.inl X.mem1)))
    · exact .inr (.inr (.inr (.inr X.mem2)))
  noKeys := fun A s Q E hA ok h => getAttrOr_miss_zip ok.1 rfl rfl rfl zip_no_keys (by decide +kernel) hA h
  iter := fun A s d Q E hA ok hd hdf h => by
    obtain ⟨hz, hTI, ⟨a, b, hTO⟩, h1, h2⟩ := ok
    simp only [List.mem_cons, List.mem_append, not_or] at hdf
    obtain ⟨dz, dTI, dTO, d1, d2⟩ := hdf
    have di1 : d ≠ i1 := fun e => d1 (e ▸ X.mem1)
    have di2 : d ≠ i2 := fun e => d2 (e ▸ X.mem2)
    have E1 := D1 A.in1 hA
    have E2 := D2 A.in1 hA
    refine wpAny_pyIter_zip hz (h z [z, TO, i1, i2] (ZipSt z TI TO i1 i2 d St1 St2) s.heap s.toks ?_ ⟨hTI, h1, h2, .inl ⟨hz, a, b, hTO⟩⟩ (fun _ _ e => e) fun b hb => .inl hb)
    exact {
      off := fun hm => by
        simp only [List.mem_cons, List.not_mem_nil, or_false] at hm
        rcases hm with e | e | e | e
        · exact dz e
        · exact dTO e
        · exact di1 e
        · exact di2 e
      frame := fun i h₁ h₂ st hk => st.keep E1 E2 hk (Ne.symm dTI) (Ne.symm dz) (Ne.symm dTO) d1 d2
      item := fun i s₁ Q₁ E₁ hi st hds hQ => by
        refine st.item X E1 E2 hds (Nat.lt_of_lt_of_le hi (Nat.min_le_left ..)) (Nat.lt_of_lt_of_le hi (Nat.min_le_right ..)) fun x1 x2 h' tk p1 p2 g1 g2 g3 hk => ?_
        exact hQ s₁.heap.objs.size x1 x2 h' tk ⟨p1, p2⟩ (.inl ⟨_, g2, rfl, _, rfl⟩) g1 fun c o hc e => hk c o (fun x => hc (by simp [x])) (fun x => hc (by simp [x])) (fun x => hc (by simp [x])) (fun x => hc (by simp [x])) e
      done := fun s₁ Q₁ E₁ st hQ => by
        refine st.done X E1 E2 (Nat.min_le_left ..) (Nat.min_le_right ..) (by omega) fun h' tk hk => ?_
        exact hQ h' tk fun c o hc e => hk c o (fun x => hc (by simp [x])) (fun x => hc (by simp [x])) (fun x => hc (by simp [x])) (fun x => hc (by simp [x])) e }
/-! ### list(zip(v1, v2)) -/
/-- the pairs that were made -/
structure ZipG (P1 P2 : Nat → Value → Prop) (lo : Addr) (h : Heap) (as : List Addr) : Prop where
  rise : as.Pairwise (· < ·)
  above : ∀ a ∈ as, lo < a
  pairs : ∀ (j : Nat) (a : Addr), as[j]? = some a → ∃ x y, P1 j x ∧ P2 j y ∧ IsTupOf2 h a x y
theorem ZipG.there {P1 P2 : Nat → Value → Prop} {lo : Addr} {h : Heap} {as : List Addr} (g : ZipG P1 P2 lo h as) {a : Addr} (ha : a ∈ as) : a < h.objs.size := by
  obtain ⟨j, hj⟩ := List.mem_iff_getElem?.mp ha
  obtain ⟨_, _, _, _, e⟩ := g.pairs j a hj
  exact Heap.lt_size e
section
variable {prog : Program} {w : World} {A : Around} {s : Shared} {R : Result → Shared → Prop} {z TI TO i1 i2 : Addr} {fp1 fp2 : List Addr} {n1 n2 : Nat} {P1 P2 : Nat → Value → Prop} {St1 St2 : Nat → Heap → Prop}
theorem zip_loop {S : Addr} (X : ZipSep2 z TI TO i1 i2 fp1 fp2) (D1 : Draws prog w A.in1.in1 i1 fp1 n1 P1 St1) (D2 : Draws prog w A.in1.in1 i2 fp2 n2 P2 St2) (zS : z < S) (l1 : TI < S) (l2 : TO < S) (f1 : ∀ b ∈ fp1, b < S) (f2 : ∀ b ∈ fp2, b < S) (hn : min n1 n2 ≤ sizeLine) (res : Value) {h₁ : Heap}
    (hR : ∀ h' tk acc c as, (∀ b o, b ≠ S → b ≠ z → b ≠ TO → b ≠ i1 → b ≠ i2 → h₁.get? b = some o → h'.get? b = some o) → h'.get? S = some { cls := .type "list", dict := none, data := .seq acc c, slots := #[] } → as.length = min n1 n2 → ZipG P1 P2 S h' as →
      acc.toList = as.map Value.ref → R (.ok (.ret res)) { s with heap := h', toks := tk }) :
    ∀ (k i : Nat) (h : Heap) (tk c : Nat) (acc : Array Value) (as : List Addr), min n1 n2 - i = k → i ≤ min n1 n2 → ZipSt z TI TO i1 i2 S St1 St2 i h → (∀ b o, b ≠ S → b ≠ z → b ≠ TO → b ≠ i1 → b ≠ i2 → h₁.get? b = some o → h.get? b = some o) →
      h.get? S = some { cls := .type "list", dict := none, data := .seq acc c, slots := #[] } → acc.toList = as.map Value.ref → as.length = i → ZipG P1 P2 S h as →
      codeAny (model prog w) A (.builtin "list.extend.loop" ⟨[.ref S, .ref z, res], []⟩) R { s with heap := h, toks := tk } := by
  have i1S : i1 < S := f1 _ X.mem1
  have i2S : i2 < S := f2 _ X.mem2
  have ne : ∀ {b : Addr}, S < b → b ≠ z ∧ b ≠ TO ∧ b ≠ i1 ∧ b ≠ i2 := fun {b} hb => ⟨Nat.ne_of_gt (Nat.lt_trans zS hb), Nat.ne_of_gt (Nat.lt_trans l2 hb), Nat.ne_of_gt (Nat.lt_trans i1S hb), Nat.ne_of_gt (Nat.lt_trans i2S hb)⟩
  intro k
  induction k with
  | zero =>
    intro i h tk c acc as hk hi hst hkeep hS hacc hal hG
    refine codeAny_builtin PySem.F.entry_extend_loop ?_
    rw [Around.under_plainId PySem.F.plain_extend_loop _]
    show wpAny _ A.in1 (pyNext (.ref z) >>= _) _ _ _
    refine wpAny_bind (hst.done (s := { s with heap := h, toks := tk }) (A := A.in1) X D1 D2 (by omega) (by omega) (by omega) fun h' tk' he => ?_)
    refine wpAny_pure (hR h' tk' acc c as (fun b o h1 h2 h3 h4 h5 e => he b o h2 h3 h4 h5 (hkeep b o h1 h2 h3 h4 h5 e)) (he S _ (Nat.ne_of_gt zS) (Nat.ne_of_gt l2) (Nat.ne_of_gt i1S) (Nat.ne_of_gt i2S) hS) (by omega) ⟨hG.rise, hG.above, fun j a hj => ?_⟩ hacc)
    obtain ⟨x, y, e1, e2, e3⟩ := hG.pairs j a hj
    obtain ⟨q1, q2, q3, q4⟩ := ne (hG.above a (List.mem_of_getElem? hj))
    exact ⟨x, y, e1, e2, he a _ q1 q2 q3 q4 e3⟩
  | succ k ih =>
    intro i h tk c acc as hk hi hst hkeep hS hacc hal hG
    have hsz : acc.size = i := by rw [← Array.length_toList, hacc, List.length_map, hal]
    have hSl : S < h.objs.size := Heap.lt_size hS
    refine codeAny_builtin PySem.F.entry_extend_loop ?_
    rw [Around.under_plainId PySem.F.plain_extend_loop _]
    show wpAny _ A.in1 (pyNext (.ref z) >>= _) _ _ _
    refine wpAny_bind (hst.item (s := { s with heap := h, toks := tk }) (A := A.in1) X D1 D2 hSl (by omega) (by omega) fun x y h' tk' p1 p2 hst' ht hz hkp => ?_)
    dsimp only at ht hz hkp ⊢
    have hS' := hkp S _ (Nat.ne_of_gt zS) (Nat.ne_of_gt l2) (Nat.ne_of_gt i1S) (Nat.ne_of_gt i2S) hS
    have up : ∀ b o, b ≠ S → h'.get? b = some o → (h'.update S (Obj.mapSeq (·.push (Value.ref h.objs.size)))).get? b = some o := fun b o hb e => (Heap.get?_update_other _ _ (Ne.symm hb)).trans e
    show wpAny _ A.in1 (updateSeq S (·.push (Value.ref h.objs.size)) >>= _) _ _ _
    refine wpAny_bind ?_
    refine wpAny_updateSeq hS' rfl (wpAny_pure ⟨plainId_quiet PySem.F.plain_extend_loop _, ih (i + 1) _ tk' _ (acc.push (Value.ref h.objs.size)) (as ++ [h.objs.size]) (by omega) (by omega)
      (hst'.keep D1 D2 up (Nat.ne_of_lt l1) (Nat.ne_of_lt zS) (Nat.ne_of_lt l2) (fun m => Nat.lt_irrefl _ (f1 _ m)) (fun m => Nat.lt_irrefl _ (f2 _ m)))
      (fun b o h1 h2 h3 h4 h5 e => up b o h1 (hkp b o h2 h3 h4 h5 (hkeep b o h1 h2 h3 h4 h5 e))) (Heap.get?_update_self _ hS' rfl) (by rw [Array.toList_push, hacc, List.map_append]; rfl) (by rw [List.length_append, hal]; rfl) ⟨?_, ?_, ?_⟩⟩) (by rw [hsz]; omega) (by show (acc.push (Value.ref h.objs.size)).size ≤ sizeLine + 1; rw [Array.size_push, hsz]; omega)
    · refine List.pairwise_append.mpr ⟨hG.rise, List.pairwise_singleton _ _, fun a ha b hb => ?_⟩
      rw [List.mem_singleton.mp hb]
      exact hG.there ha
    · intro a ha
      rcases List.mem_append.mp ha with ha | ha
      · exact hG.above a ha
      · rw [List.mem_singleton.mp ha]; exact hSl
    · intro j b hj
      rcases Nat.lt_trichotomy j as.length with h1 | h1 | h1
      · rw [List.getElem?_append_left h1] at hj
        obtain ⟨x', y', e1, e2, e3⟩ := hG.pairs j b hj
        have hb := hG.above b (List.mem_of_getElem? hj)
        obtain ⟨q1, q2, q3, q4⟩ := ne hb
        exact ⟨x', y', e1, e2, up b _ (Nat.ne_of_gt hb) (hkp b _ q1 q2 q3 q4 e3)⟩
      · subst h1
        have hb : h.objs.size = b := by simpa using hj
        subst hb
        exact ⟨x, y, by rw [hal]; exact p1, by rw [hal]; exact p2, up _ _ (Nat.ne_of_gt hSl) ht⟩
      · have hnone : (as ++ [h.objs.size])[j]? = none := List.getElem?_eq_none (by rw [List.length_append, List.length_singleton]; omega)
        rw [hnone] at hj; cases hj
end
theorem zip_no_len : typeLookup (.type "zip") "__len__" = pure none := am_miss_of_fast (by decide +kernel)
theorem zip_no_hint : typeLookup (.type "zip") "__length_hint__" = pure none := am_miss_of_fast (by decide +kernel)
section
variable {prog : Program} {w : World} {A : Around} {E : Value → Shared → Prop} {s : Shared} {z TI TO i1 i2 : Addr} {fp1 fp2 : List Addr} {n1 n2 : Nat} {P1 P2 : Nat → Value → Prop} {St1 St2 : Nat → Heap → Prop}
theorem zip_hint (hT : s.TypeIs (.ref z) "zip") {Q : Bool → Shared → Prop} (h : Q true s) : wpAny (model prog w) A (Builtin.List.listLengthHint (.ref z)) Q E s := by
  unfold Builtin.List.listLengthHint
  refine wpAny_bind (wpAny_specialOf hT zip_no_len ?_)
  refine wpAny_bind (wpAny_specialOf hT zip_no_hint ?_)
  exact wpAny_pure h
/-- list(z), z a new zip -/
theorem call_list_zip {Q : Value → Shared → Prop} (hh : A.handled = none) (X : ZipSep2 z TI TO i1 i2 fp1 fp2) (D1 : ∀ A : Around, A.handled = none → Draws prog w A i1 fp1 n1 P1 St1) (D2 : ∀ A : Around, A.handled = none → Draws prog w A i2 fp2 n2 P2 St2)
    (hz : IsZip s.heap z TI TO .none) (hTI : IsTupOf2 s.heap TI (.ref i1) (.ref i2)) (hTO : ∃ a b, IsTupOf2 s.heap TO a b) (h1 : St1 0 s.heap) (h2 : St2 0 s.heap) (f1 : ∀ b ∈ fp1, b < s.heap.objs.size) (f2 : ∀ b ∈ fp2, b < s.heap.objs.size) (hn : min n1 n2 ≤ sizeLine)
    (hQ : ∀ h' tk acc c as, (∀ b o, b ≠ z → b ≠ TO → b ≠ i1 → b ≠ i2 → s.heap.get? b = some o → h'.get? b = some o) → h'.get? s.heap.objs.size = some { cls := .type "list", dict := none, data := .seq acc c, slots := #[] } → as.length = min n1 n2 → ZipG P1 P2 s.heap.objs.size h' as →
      acc.toList = as.map Value.ref → Q (.ref s.heap.objs.size) { s with heap := h', toks := tk }) :
    wpAny (model prog w) A (call (.type "list") [.ref z]) Q E s := by
  refine callType_codes (Q₁ := fun obj s₁ => obj = .ref s.heap.objs.size ∧ s₁ = { s with heap := s.heap.push { cls := .type "list", data := .seq #[] } }) PySem.F.called_list (PySem.F.typeCall_list_1 _) PySem.F.entry_list_init
    (code_list_new _ ⟨rfl, rfl⟩) fun obj s₁ h₁ => ?_
  obtain ⟨rfl, rfl⟩ := h₁
  have hS : (s.heap.push { cls := .type "list", data := .seq #[] }).get? s.heap.objs.size = some { cls := .type "list", data := .seq #[] } := Heap.get?_push_size _ rfl
  have zS : z < s.heap.objs.size := Heap.lt_size hz
  have TS : TI < s.heap.objs.size := Heap.lt_size hTI
  obtain ⟨a, b, hTO⟩ := hTO
  have OS : TO < s.heap.objs.size := Heap.lt_size hTO
  refine ⟨⟨_, hS, rfl⟩, PySem.F.args_list_init_2 _ _, ?_⟩
  generalize hSe : s.heap.objs.size = S at *
  have key : ∀ (h : Heap) (c₁ tk : Nat), (∀ b o, b ≠ S → s.heap.get? b = some o → h.get? b = some o) →
      h.get? S = some { cls := .type "list", data := .seq #[] c₁ } → codeAny (model prog w) A.in1 (.builtin "list.extend.loop" ⟨[.ref S, .ref z, .none], []⟩) (wants (fun r s₂ => r = .none ∧ Q (.ref S) s₂) E) { s with heap := h, toks := tk } := by
    intro h c₁ tk hk hS₁
    have lt : ∀ {b}, b < S → b ≠ S := fun h => Nat.ne_of_lt h
    refine zip_loop (A := A.in1) (R := wants (fun r s₂ => r = .none ∧ Q (.ref S) s₂) E) (s := s) (h₁ := s.heap) X (D1 _ hh) (D2 _ hh) zS TS OS f1 f2 hn .none (fun h' tk' acc c as hk' hS' hl hG hacc => ⟨rfl, hQ h' tk' acc c as (fun b o q1 q2 q3 q4 e => hk' b o (by rw [← hSe]; exact Nat.ne_of_lt (Heap.lt_size e)) q1 q2 q3 q4 e) hS' hl hG hacc⟩)
      (min n1 n2) 0 h tk c₁ #[] [] (Nat.sub_zero _) (Nat.zero_le _) ⟨hk _ _ (lt TS) hTI, (D1 A hh).frame _ _ _ h1 (fun b hb o e => hk b o (lt (f1 b hb)) e), (D2 A hh).frame _ _ _ h2 (fun b hb o e => hk b o (lt (f2 b hb)) e), .inl ⟨hk _ _ (lt zS) hz, a, b, hk _ _ (lt OS) hTO⟩⟩ (fun b o hb _ _ _ _ e => hk b o hb e) hS₁ rfl rfl
      ⟨List.Pairwise.nil, (fun _ ha => nomatch ha), (fun j a hj => by simp at hj)⟩
  show wpAny _ _ (do let old ← Builtin.List.listItems (.ref S); Builtin.List.listUpdate (.ref S) (fun _ => #[]); letGo old.toList.reverse; Builtin.List.listExtendWith (.ref S) (.ref z) .none) _ _ _
  refine wpAny_bind ?_
  unfold Builtin.List.listItems
  refine wpAny_bind (wpAny_seqItems hS rfl (wpAny_pure ?_))
  show wpAny _ _ (updateSeq S (fun _ => #[]) >>= fun _ => letGo (#[] : Array Value).toList.reverse >>= fun _ => Builtin.List.listExtendWith (.ref S) (.ref z) .none) _ _ _
  refine wpAny_bind (wpAny_updateSeq hS rfl ?_)
  have hS₂ := Heap.get?_update_self (Obj.mapSeq (fun _ => (#[] : Array Value))) hS rfl
  have oth : ∀ b o, b ≠ S → s.heap.get? b = some o → ((s.heap.push { cls := .type "list", data := .seq #[] }).update S (Obj.mapSeq (fun _ => (#[] : Array Value)))).get? b = some o :=
    fun b o hb e => (Heap.get?_update_other _ _ (Ne.symm hb)).trans (Heap.get?_push_of_some _ e)
  refine wpAny_bind (wpAny_letGo ?_)
  unfold Builtin.List.listExtendWith
  have hzT := oth z _ (Nat.ne_of_lt zS) hz
  refine wpAny_bind (wpAny_typeOf (T := "zip") ⟨_, hzT, rfl⟩ ?_)
  have h1' : Builtin.List.listSameRef (.ref S) (.ref z) = false := by simp [Builtin.List.listSameRef, Nat.ne_of_gt zS]
  have h2' : (Value.type "zip" == Value.type "list") = false := by decide
  have h3' : (Value.type "zip" == Value.type "tuple") = false := by decide
  simp only [h1', h2', h3', Bool.or_false, Bool.false_eq_true, if_false]
  refine wpAny_bind (wpAny_pyIter_zip hzT ?_)
  refine wpAny_bind (wpAny_holding (zip_hint ⟨_, hzT, rfl⟩ ?_))
  refine wpAny_ite_split (fun _ => ?_) (fun hab => absurd rfl hab)
  refine wpAny_bind (wpAny_rule ?_)
  refine wpAny_bind ?_
  show wpAny _ _ (updateSeq S (·.push .none) >>= fun _ => updateSeq S (·.pop)) _ _ _
  refine wpAny_bind (wpAny_updateSeq hS₂ rfl ?_)
  have hS₃ := Heap.get?_update_self (Obj.mapSeq (·.push Value.none)) hS₂ rfl
  refine wpAny_updateSeq (hz := by seq_fits) hS₃ rfl ?_
  have hS₄ := Heap.get?_update_self (Obj.mapSeq (·.pop)) hS₃ rfl
  refine wpAny_pure ⟨plainId_quiet PySem.F.plain_extend_loop _, key _ _ _ (fun b o hb e => ?_) hS₄⟩
  exact (Heap.get?_update_other _ _ (Ne.symm hb)).trans ((Heap.get?_update_other _ _ (Ne.symm hb)).trans (oth b o hb e))
end
end PySem
namespace DL
open PySem PySem.Spec PyProof.Rows L2
/-- what zip goes over -/
def Src (prog : Program) (w : World) (a : Addr) (items : Array Value) (h : Heap) : Prop := ∃ (ob : Obj) (Hc : Heap → Prop) (St : Addr → Nat → Heap → Prop), Begins (.ref a) ob Hc ∧ Hc h ∧
  (∀ it, a ≠ it → ∀ A : Around, A.handled = none → Draws prog w A it [it, a] items.size (fun i v => items[i]? = some v) (St it)) ∧ (∀ it h', h'.get? it = some ob → Hc h' → St it 0 h') ∧
  (∀ it h', St it 0 h' → (∃ o, h'.get? it = some o) ∧ ∃ o, h'.get? a = some o) ∧ ∃ o, h.get? a = some o
theorem src_list {prog : Program} {w : World} {a : Addr} {items : Array Value} {h : Heap} (hl : h.IsList a items) : Src prog w a items h :=
  ⟨_, _, fun it i h => h.IsListIter it a i ∧ h.IsList a items, begins_list a items, hl, fun it hne A hh => Draws.list hh it a hne items, fun it h' e x => ⟨⟨_, e, rfl, rfl⟩, x⟩, fun it h' x => ⟨let ⟨o, ho, _⟩ := x.1; ⟨o, ho⟩, let ⟨o, ho, _⟩ := x.2; ⟨o, ho⟩⟩, let ⟨o, ho, _⟩ := hl; ⟨o, ho⟩⟩
theorem src_tuple {prog : Program} {w : World} {a : Addr} {items : Array Value} {h : Heap} (hl : h.IsTuple a items) : Src prog w a items h :=
  ⟨_, _, fun it i h => h.IsTupleIter it a i ∧ h.IsTuple a items, begins_tuple a items, hl, fun it hne A hh => Draws.tuple hh it a hne items, fun it h' e x => ⟨⟨_, e, rfl, rfl⟩, x⟩, fun it h' x => ⟨let ⟨o, ho, _⟩ := x.1; ⟨o, ho⟩, let ⟨o, ho, _⟩ := x.2; ⟨o, ho⟩⟩, let ⟨o, ho, _⟩ := hl; ⟨o, ho⟩⟩
/-- zip(a, b) and what becomes of it -/
theorem zip_made {prog : Program} {w : World} {A : Around} {E : Value → Shared → Prop} {s : Shared} {a b : Addr} {xs ys : Array Value} {Q : Value → Shared → Prop} (h1 : Src prog w a xs s.heap) (h2 : Src prog w b ys s.heap)
    (h : ∀ (h' : Heap) (z TI TO i1 i2 : Addr) (fp1 fp2 : List Addr) (St1 St2 : Nat → Heap → Prop), ZipSep2 z TI TO i1 i2 fp1 fp2 → (∀ A : Around, A.handled = none → Draws prog w A i1 fp1 xs.size (fun i v => xs[i]? = some v) St1) → (∀ A : Around, A.handled = none → Draws prog w A i2 fp2 ys.size (fun i v => ys[i]? = some v) St2) →
      IsZip h' z TI TO .none → IsTupOf2 h' TI (.ref i1) (.ref i2) → (∃ a b, IsTupOf2 h' TO a b) → St1 0 h' → St2 0 h' → (∀ b ∈ fp1, b < h'.objs.size) → (∀ b ∈ fp2, b < h'.objs.size) → (∀ b, (b = z ∨ b = TO ∨ b = i1 ∨ b = i2) → s.heap.objs.size ≤ b) →
      (∀ h, St1 0 h → ∀ b ∈ fp1, ∃ o, h.get? b = some o) → (∀ h, St2 0 h → ∀ b ∈ fp2, ∃ o, h.get? b = some o) →
      s.heap.objs.size < h'.objs.size → (∀ c o, s.heap.get? c = some o → h'.get? c = some o) → Q (.ref z) { s with heap := h' }) :
    wpAny (model prog w) A (call (.type "zip") [.ref a, .ref b]) Q E s := by
  obtain ⟨o1, H1, S1, B1, c1, D1, b1, t1, oa, ea⟩ := h1
  obtain ⟨o2, H2, S2, B2, c2, D2, b2, t2, ob, eb⟩ := h2
  have la : a < s.heap.objs.size := Heap.lt_size ea
  have lb : b < s.heap.objs.size := Heap.lt_size eb
  refine zip_begins2 B1 B2 c1 c2 fun h' g1 g2 g3 g4 g5 g6 hk => ?_
  have N : ∀ k : Nat, s.heap.objs.size ≤ s.heap.objs.size + k := fun k => Nat.le_add_right _ _
  refine h h' _ _ _ _ _ _ _ _ _ (zip_sep2 (fp1 := [a]) (fp2 := [b]) (fun c hc => by rw [List.mem_singleton.mp hc]; exact la) fun c hc => by rw [List.mem_singleton.mp hc]; exact lb)
    (D1 _ (Nat.ne_of_lt la)) (D2 _ (Nat.ne_of_lt (Nat.lt_of_lt_of_le lb (N 1)))) g1 g2 ⟨_, _, g3⟩ (b1 _ _ g4 (B1.keeps _ _ c1 hk)) (b2 _ _ g5 (B2.keeps _ _ c2 hk)) (fun c hc => ?_) (fun c hc => ?_) (fun c hc => ?_) (fun h x c hc => ?_) (fun h x c hc => ?_) (by rw [g6]; exact Nat.lt_add_of_pos_right (by omega)) hk
  · rw [g6]
    rcases List.mem_cons.mp hc with e | e
    · rw [e]; exact Nat.lt_add_of_pos_right (by omega)
    · rw [List.mem_singleton.mp e]; exact Nat.lt_of_lt_of_le la (N 5)
  · rw [g6]
    rcases List.mem_cons.mp hc with e | e
    · rw [e]; exact Nat.add_lt_add_left (by omega) _
    · rw [List.mem_singleton.mp e]; exact Nat.lt_of_lt_of_le lb (N 5)
  · rcases hc with e | e | e | e
    · rw [e]; exact N 4
    · rw [e]; exact N 3
    · rw [e]; exact N 0
    · rw [e]; exact N 1
  · rcases List.mem_cons.mp hc with e | e
    · rw [e]; exact (t1 _ _ x).1
    · rw [List.mem_singleton.mp e]; exact (t1 _ _ x).2
  · rcases List.mem_cons.mp hc with e | e
    · rw [e]; exact (t2 _ _ x).1
    · rw [List.mem_singleton.mp e]; exact (t2 _ _ x).2
/-- the pairs tracked at their addresses -/
def putP : Hp → List Addr → List (V × V) → Hp
  | H, a :: as, p :: kvs => putP (upd H a (.tup [p.1, p.2])) as kvs
  | H, _, _ => H
theorem putP_off {b : Addr} : ∀ (as : List Addr) (kvs : List (V × V)) (H : Hp), b ∉ as → putP H as kvs b = H b
  | [], _, _, _ => rfl
  | _ :: _, [], _, _ => rfl
  | a :: as, p :: kvs, H, h => by
    show putP (upd H a (.tup [p.1, p.2])) as kvs b = H b
    rw [putP_off as kvs _ (fun z => h (List.mem_cons_of_mem _ z)), upd_ne (fun z => h (by rw [z]; exact List.mem_cons_self))]
theorem putP_at : ∀ (as : List Addr) (kvs : List (V × V)) (H : Hp), as.length = kvs.length → as.Nodup → Paired (fun (t : Addr) (p : V × V) => putP H as kvs t = some (.tup [p.1, p.2])) as kvs
  | [], [], _, _, _ => .nil
  | [], _ :: _, _, h, _ => by cases h
  | _ :: _, [], _, h, _ => by cases h
  | a :: as, p :: kvs, H, h, hn => by
    have hn' := List.nodup_cons.mp hn
    have ih := putP_at as kvs (upd H a (.tup [p.1, p.2])) (Nat.succ.inj h) hn'.2
    refine .cons ?_ ih
    show putP (upd H a (.tup [p.1, p.2])) as kvs a = some (.tup [p.1, p.2])
    rw [putP_off as kvs _ hn'.1, upd_same]
section
variable {X : Cx} {pins : List (Addr × Obj)} {σ : L2.St} {H : Hp} {s : Shared}
theorem pairs_laid {h' : Heap} {tk : Nat} {ps : List (V × V)} {acc : Array Value} {c : Nat} {as : List Addr} {S : Addr} (I : Inv X pins σ H s) (hz : ps.length ≤ sizeLine) (hS0 : s.heap.objs.size ≤ S)
    (hk : ∀ b o, s.heap.get? b = some o → h'.get? b = some o) (hS : h'.get? S = some { cls := .type "list", dict := none, data := .seq acc c, slots := #[] }) (hl : as.length = ps.length) (rise : as.Pairwise (· < ·)) (above : ∀ a ∈ as, S < a)
    (prs : ∀ (j : Nat) (a : Addr) p, as[j]? = some a → ps[j]? = some p → ∃ x y, RelV p.1 x ∧ RelV p.2 y ∧ IsTupOf2 h' a x y) (hacc : acc.toList = as.map Value.ref) :
    ∃ H' : Hp, (∀ b o, H b = some o → H' b = some o) ∧ H S = none ∧ (∀ t ∈ as, H t = none) ∧ S ∉ as ∧ H' S = some (.lst (as.map V.ref)) ∧ Paired (fun (t : Addr) (q : V × V) => H' t = some (.tup [q.1, q.2])) as ps ∧ Inv X pins σ H' { s with heap := h', toks := tk } := by
  have hSn : S ∉ as := fun z => Nat.lt_irrefl _ (above _ z)
  have nd : as.Nodup := List.Pairwise.imp (fun {a b} (h : a < b) => Nat.ne_of_lt h) rise
  have new : ∀ t ∈ as, H t = none := fun t ht => I.hok.fresh (Nat.le_of_lt (Nat.lt_of_le_of_lt hS0 (above t ht)))
  have newS : H S = none := I.hok.fresh hS0
  have atP := putP_at as ps (upd H S (.lst (as.map V.ref))) hl nd
  have off : ∀ b, b ∉ as → b ≠ S → putP (upd H S (.lst (as.map V.ref))) as ps b = H b := fun b h1 h2 => by rw [putP_off as ps _ h1, upd_ne h2]
  have low : ∀ b o, s.heap.get? b = some o → b ∉ as ∧ b ≠ S := fun b o e => ⟨fun z => absurd (Heap.lt_size e) (Nat.not_lt.mpr (Nat.le_of_lt (Nat.lt_of_le_of_lt hS0 (above b z)))), Nat.ne_of_lt (Nat.lt_of_lt_of_le (Heap.lt_size e) hS0)⟩
  have kp : ∀ b u, H b = some u → (putP (upd H S (.lst (as.map V.ref))) as ps) b = some u := fun b u e => by
    rw [off b (fun z => by rw [new b z] at e; cases e) (fun z => by rw [z, newS] at e; cases e)]
    exact e
  have eS : putP (upd H S (.lst (as.map V.ref))) as ps S = some (.lst (as.map V.ref)) := by rw [putP_off as ps _ hSn, upd_same]
  refine ⟨putP (upd H S (.lst (as.map V.ref))) as ps, kp, newS, new, hSn, eS, atP, ?_⟩
  refine I.call' (ch := []) rfl ⟨fun b o q _ _ _ => hk b o q, fun b o q _ _ _ => ⟨o.slots, hk b o q⟩, fun b o q n _ => ?_, fun b o q _ => ⟨o, hk b o q⟩, fun b xs q => kp b _ q, fun b o u q => kp b _ q, fun b ps q => ⟨#[], by rw [kp b _ q]; simp⟩⟩ (fun b u q => ?_) I.bare fun b z => by simp at z
  · obtain ⟨z1, z2⟩ := low b o q
    rw [off b z1 z2]
    exact n
  · by_cases hb : b ∈ as
    · obtain ⟨j, pk, e1, e2, e3⟩ := LiI.paired_ix atP hb
      rw [e3] at q
      cases q
      obtain ⟨x, y, f1, f2, f3⟩ := prs j b pk e1 e2
      exact ⟨by show 2 ≤ sizeLine; decide, [x, y], .cons f1 (.cons f2 .nil), ⟨_, f3, rfl, _, rfl⟩⟩
    · by_cases hb2 : b = S
      · rw [hb2] at q ⊢
        rw [eS] at q
        cases q
        refine ⟨by rw [List.length_map, hl]; exact hz, acc.toList, c, by rw [hacc]; exact LiI.vals_refs as, ?_⟩
        rw [Array.toArray_toList]
        exact hS
      · rw [off b hb hb2] at q
        exact (I.hok b u q).stay (fun d v _ y => hk d v y) (fun d y => kp d _ y) fun d xs y => kp d _ y
end
/-- a list or a tuple -/
def SqA (K : PySem.W.Frag) (H : Hp) (a : Addr) (xs : List V) : Prop := SqT K H a xs ∨ SqL K H a xs
theorem SqA.src {X : Cx} {pins : List (Addr × Obj)} {σ : L2.St} {H : Hp} {s : Shared} (I : Inv X pins σ H s) {a : Addr} {xs : List V} (h : SqA X.K H a xs) : ∃ its : List Value, Vals xs its ∧ Src X.prog X.w a its.toArray s.heap ∧ xs.length ≤ sizeLine := by
  rcases h with h | h
  · obtain ⟨its, rv, ht, hz⟩ := I.tuple h
    exact ⟨its, rv, src_tuple ht, hz⟩
  · obtain ⟨its, rv, hl, hz⟩ := I.list h
    exact ⟨its, rv, src_list hl.isList, hz⟩
def rZipL (K : PySem.W.Frag) : List V → Hp → VK → Prop := fun vs H Q => ∃ (a b : Addr) (xs ys : List V), vs = [.ref a, .ref b] ∧ SqA K H a xs ∧ SqA K H b ys ∧
  ∀ (H' : Hp) (p : Addr) (ts : List Addr), (∀ b o, H b = some o → H' b = some o) → H p = none → (∀ t ∈ ts, H t = none) → p ∉ ts → H' p = some (.lst (ts.map V.ref)) → Paired (fun (t : Addr) (q : V × V) => H' t = some (.tup [q.1, q.2])) ts (xs.zip ys) → Q (.ref p) H'
def tZipL (K : PySem.W.Frag) (ta : TA) : TE := fun σ H Q => ta σ H fun vs H1 => rZipL K vs H1 Q
/-- dict(zip(ks, vs)), different keys -/
def rZipD (K : PySem.W.Frag) : List V → Hp → VK → Prop := fun vs H Q => ∃ (a b : Addr) (ks : List Key) (ys : List V), vs = [.ref a, .ref b] ∧ SqA K H a (ks.map kV) ∧ SqA K H b ys ∧ ks.Nodup ∧ ks.length = ys.length ∧
  ∀ (p : Addr), H p = none → Q (.ref p) (upd H p (.dK (ks.zip ys)))
def tZipD (K : PySem.W.Frag) (ta : TA) : TE := fun σ H Q => ta σ H fun vs H1 => rZipD K vs H1 Q
theorem vals_get : ∀ {xs : List V} {us : List Value}, Vals xs us → ∀ {i : Nat} {x : V} {u : Value}, xs[i]? = some x → us[i]? = some u → RelV x u
  | _, _, .cons r t, 0, x, u, h1, h2 => by simp at h1 h2; subst h1 h2; exact r
  | _, _, .cons r t, i + 1, x, u, h1, h2 => vals_get t (by simpa using h1) (by simpa using h2)
theorem merged_nodup {K : Type} [DecidableEq K] : ∀ (kvs acc : List (K × Value)), (kvs.map (·.1)).Nodup → (∀ k ∈ kvs.map (·.1), k ∉ acc.map (·.1)) → merged acc kvs = acc ++ kvs := by
  intro kvs
  induction kvs with
  | nil => intro acc _ _; simp [merged]
  | cons p kvs ih =>
    intro acc hn hd
    have e : merged acc (p :: kvs) = merged (stored acc p.1 p.2) kvs := rfl
    have h0 : p.1 ∉ acc.map (·.1) := hd p.1 (by simp)
    have e2 : stored acc p.1 p.2 = acc ++ [p] := by
      unfold stored
      rw [if_neg]
      simp only [List.any_eq_true, decide_eq_true_eq, not_exists, not_and]
      intro q hq w
      exact h0 (w ▸ List.mem_map.mpr ⟨q, hq, rfl⟩)
    rw [e, e2, ih _ (by simpa using (List.nodup_cons.mp (by simpa using hn)).2) (fun k hk => ?_)]
    · simp
    · simp only [List.map_append, List.mem_append, List.map_cons, List.map_nil, List.mem_singleton, not_or]
      refine ⟨hd k (by simp only [List.map_cons, List.mem_cons]; exact .inr hk), fun w => ?_⟩
      have := (List.nodup_cons.mp (show (p.1 :: kvs.map (·.1)).Nodup from by simpa using hn)).1
      exact this (w ▸ hk)
theorem zip_keys' {α β : Type} : ∀ {ks : List α} {xs : List β}, ks.length = xs.length → (ks.zip xs).map (·.1) = ks
  | [], _, _ => by simp
  | k :: ks, [], h => by simp at h
  | k :: ks, x :: xs, h => by simp [zip_keys' (ks := ks) (xs := xs) (by simpa using h)]
theorem kv_of : ∀ {ks : List Key} {ys : List V} {us : List Value}, Vals ys us → ks.length = ys.length → KV (ks.zip ys) (ks.zip us)
  | [], _, _, _, _ => by simp; exact .nil
  | k :: ks, _, _, .nil, h => by simp at h
  | k :: ks, _, _, .cons r t, h => by
    simp only [List.zip_cons_cons]
    exact .cons ⟨rfl, r⟩ (kv_of t (by simpa using h))
theorem key_relV {prog : Program} {w : World} {k : Key} {u : Value} (h : RelV (kV k) u) : (mixKind prog w).is k u = true := by
  show keyIs k u = true
  cases k with
  | inl i => obtain ⟨t, rfl⟩ := h; simp [keyIs, Value.isInt]
  | inr x => obtain ⟨t, rfl⟩ := h; simp [keyIs, Value.isStrOf]
section
variable {X : Cx} {e1 e2 : Expr} {ta : TA} {p p2 cpos pos : Pos}
theorem pe_listZip (hc : X.calm = true) (ha : PA X [e1, e2] ta) (hg : Gl X "list") (hm : X.mg "list" = none) (hv : bootBuiltins "list" = some (.type "list")) (hg2 : Gl X "zip") (hm2 : X.mg "zip" = none) (hv2 : bootBuiltins "zip" = some (.type "zip"))
    (hs : starEach [.Call (.Name "zip" p2) [e1, e2] [] cpos] X.env = (false, eval (.Call (.Name "zip" p2) [e1, e2] [] cpos) X.env) :: starEach [] X.env := by rfl)
    (he : starEach [e1, e2] X.env = (false, eval e1 X.env) :: starEach [e2] X.env := by rfl) (hpl : (backTo cpos (starEach [e2] X.env)).any (·.1) = false := by rfl) :
    PE X (.Call (.Name "list" p) [.Call (.Name "zip" p2) [e1, e2] [] cpos] [] pos) (tZipL X.K ta) := by
  refine ⟨fun pins s σ H Q I hq => ?_⟩
  refine wpAny_Call_Name_kw (ld_blt I hg hm hv ?_)
  refine PyProof.Rows.callWith_type1 ?_ hs rfl
  rw [hs]
  show wpAny _ _ (spliced ((false, eval (.Call (.Name "zip" p2) [e1, e2] [] cpos) X.env) :: backTo pos (starEach [] X.env))) _ _ s
  refine Calls.spliced_cons ?_
  refine wpAny_Call_Name_kw (ld_blt I hg2 hm2 hv2 ?_)
  refine PyProof.Rows.callWith_type1 (thn (ha.run cpos pins s σ H _ I hq) fun us s1 ⟨vs, H1, I1, r1, a, b, xs, ys, ev, h1, h2, q⟩ => ?_) he hpl
  subst ev
  obtain ⟨u1, u2, rfl, ru1, ru2⟩ : ∃ u1 u2, us = [u1, u2] ∧ RelV (.ref a) u1 ∧ RelV (.ref b) u2 := by
    cases r1 with
    | cons r t => cases t with
      | cons r2 t2 => cases t2; exact ⟨_, _, rfl, r, r2⟩
  obtain rfl : u1 = Value.ref a := ru1
  obtain rfl : u2 = Value.ref b := ru2
  obtain ⟨is1, v1, s1', z1⟩ := h1.src I1
  obtain ⟨is2, v2, s2', z2⟩ := h2.src I1
  refine zip_made s1' s2' fun h' z TI TO i1 i2 fp1 fp2 St1 St2 Xs D1 D2 g1 g2 g3 g4 g5 f1 f2 fz t1 t2 lt hk => ?_
  refine Calls.spliced_nil ?_
  have e1' := v1.length
  have e2' := v2.length
  refine call_list_zip (s := { s1 with heap := h' }) (I1.ok.hd hc) Xs D1 D2 g1 g2 g3 g4 g5 f1 f2 (by simp; omega) fun h2 tk acc c as hk2 hS hl hG hacc => ?_
  dsimp only at hS hG hk2 ⊢
  have hkk : ∀ c o, s1.heap.get? c = some o → h2.get? c = some o := fun c o e => by
    have lc : c < s1.heap.objs.size := Heap.lt_size e
    have nz : ∀ b, (b = z ∨ b = TO ∨ b = i1 ∨ b = i2) → c ≠ b := fun b hb => Nat.ne_of_lt (Nat.lt_of_lt_of_le lc (fz b hb))
    exact hk2 c o (nz _ (.inl rfl)) (nz _ (.inr (.inl rfl))) (nz _ (.inr (.inr (.inl rfl)))) (nz _ (.inr (.inr (.inr rfl)))) (hk c o e)
  have prs : ∀ (j : Nat) (a : Addr) (p : V × V), as[j]? = some a → (xs.zip ys)[j]? = some p → ∃ x y, RelV p.1 x ∧ RelV p.2 y ∧ IsTupOf2 h2 a x y := fun j a' p ej ep => by
    obtain ⟨x, y, x1, y1, hT⟩ := hG.pairs j a' ej
    obtain ⟨p1, p2⟩ := p
    obtain ⟨ex, ey⟩ := List.getElem?_zip_eq_some.mp ep
    exact ⟨x, y, vals_get v1 ex (by simpa using x1), vals_get v2 ey (by simpa using y1), hT⟩
  obtain ⟨H', k1, k2, k3, k4, k5, k6, J⟩ := pairs_laid (tk := tk) (ps := xs.zip ys) I1 (by simp; omega) (Nat.le_of_lt lt) hkk hS (by rw [hl]; simp; omega) hG.rise hG.above prs hacc
  exact ⟨.ref _, H', J, rfl, q H' _ as k1 k2 k3 k4 k5 k6⟩
theorem pe_dictZip (hc : X.calm = true) (ha : PA X [e1, e2] ta) (hg : Gl X "dict") (hm : X.mg "dict" = none) (hv : bootBuiltins "dict" = some (.type "dict")) (hg2 : Gl X "zip") (hm2 : X.mg "zip" = none) (hv2 : bootBuiltins "zip" = some (.type "zip"))
    (hs : starEach [.Call (.Name "zip" p2) [e1, e2] [] cpos] X.env = (false, eval (.Call (.Name "zip" p2) [e1, e2] [] cpos) X.env) :: starEach [] X.env := by rfl)
    (he : starEach [e1, e2] X.env = (false, eval e1 X.env) :: starEach [e2] X.env := by rfl) (hpl : (backTo cpos (starEach [e2] X.env)).any (·.1) = false := by rfl) :
    PE X (.Call (.Name "dict" p) [.Call (.Name "zip" p2) [e1, e2] [] cpos] [] pos) (tZipD X.K ta) := by
  refine ⟨fun pins s σ H Q I hq => ?_⟩
  refine wpAny_Call_Name_kw (ld_blt I hg hm hv ?_)
  refine PyProof.Rows.callWith_type1 ?_ hs rfl
  rw [hs]
  show wpAny _ _ (spliced ((false, eval (.Call (.Name "zip" p2) [e1, e2] [] cpos) X.env) :: backTo pos (starEach [] X.env))) _ _ s
  refine Calls.spliced_cons ?_
  refine wpAny_Call_Name_kw (ld_blt I hg2 hm2 hv2 ?_)
  refine PyProof.Rows.callWith_type1 (thn (ha.run cpos pins s σ H _ I hq) fun us s1 ⟨vs, H1, I1, r1, a, b, ks, ys, ev, h1, h2, nd, hl, q⟩ => ?_) he hpl
  subst ev
  obtain ⟨u1, u2, rfl, ru1, ru2⟩ : ∃ u1 u2, us = [u1, u2] ∧ RelV (.ref a) u1 ∧ RelV (.ref b) u2 := by
    cases r1 with
    | cons r t => cases t with
      | cons r2 t2 => cases t2; exact ⟨_, _, rfl, r, r2⟩
  obtain rfl : u1 = Value.ref a := ru1
  obtain rfl : u2 = Value.ref b := ru2
  obtain ⟨is1, v1, s1', z1⟩ := h1.src I1
  obtain ⟨is2, v2, s2', z2⟩ := h2.src I1
  refine zip_made s1' s2' fun h' z TI TO i1 i2 fp1 fp2 St1 St2 Xs D1 D2 g1 g2 g3 g4 g5 f1 f2 fz t1 t2 lt hk => ?_
  refine Calls.spliced_nil ?_
  have e1' := v1.length
  have e2' := v2.length
  have hh : X.A.handled = none := I1.ok.hd hc
  simp only [List.length_map] at e1' z1
  have hz2 : is2.length = ks.length := by omega
  refine call_dict_pairs (s := { s1 with heap := h' }) (knd := mixKind X.prog X.w) (kvs := ks.zip is2) (PairArg.zipD Xs D1 D2 t1 t2 ⟨_, hh⟩) hh ⟨g1, g2, g3, g4, g5⟩ ⟨by simp; omega, fun i key v hr => ?_⟩ (by simp; omega) fun h2 tk hd' hk2 => ?_
  · obtain ⟨r1, r2⟩ := hr
    have r1' : is1[i]? = some key := by simpa using r1
    have r2' : is2[i]? = some v := by simpa using r2
    have il : i < ks.length := by
      have := (List.getElem?_eq_some_iff.mp r1').1
      omega
    have ek : ks[i]? = some ks[i] := List.getElem?_eq_getElem il
    refine ⟨ks[i], List.getElem?_zip_eq_some.mpr ⟨ek, r2'⟩, ?_⟩
    have rv : RelV (kV ks[i]) key := vals_get v1 (by rw [List.getElem?_map, ek]; rfl) r1'
    exact key_relV rv
  · dsimp only at hd' hk2 ⊢
    have hkk : ∀ c o, s1.heap.get? c = some o → h2.get? c = some o := fun c o e => by
      have lc : c < s1.heap.objs.size := Heap.lt_size e
      have nz : ∀ b, (b = z ∨ b = TO ∨ b = i1 ∨ b = i2) → c ≠ b := fun b hb => Nat.ne_of_lt (Nat.lt_of_lt_of_le lc (fz b hb))
      refine hk2 c o (fun w => ?_) (hk c o e)
      simp only [List.mem_cons, List.not_mem_nil, or_false] at w
      exact nz c w rfl
    have em : merged [] (ks.zip is2) = ks.zip is2 := merged_nodup _ _ (by rw [zip_keys' (by omega)]; exact nd) (by simp)
    rw [em] at hd'
    have kv : KV (ks.zip ys) (ks.zip is2) := kv_of v2 hl
    refine ⟨.ref _, upd H1 h'.objs.size (.dK (ks.zip ys)), I1.laid (t' := tk) hkk (Nat.le_of_lt lt) ⟨by simp; omega, ?_, _, kv, hd'⟩, rfl, q _ (I1.hok.fresh (Nat.le_of_lt lt))⟩
    exact beq_eq_false_iff_ne.mpr (Nat.ne_of_gt (Nat.lt_trans I1.big lt))
end
end DL
namespace DL
open PySem L2 PySem.Spec PyProof.Rows
/-! ### sorted(x): lists and tuples of data that are alike -/
def D.kt (d : D) : List (Int ⊕ List Nat) := PySem.W.keyToks (d.py.getD .none)
def leD : D → D → Bool := PySem.W.sortLe (listOrd itemOrd) false D.kt
def sortD (ds : List D) : List D := ds.mergeSort leD
theorem collect_tup {prog : Program} {w : World} {A : Around} {E : Value → Shared → Prop} {s : Shared} {l : Addr} {vs : List Value} {Q : List Value → Shared → Prop} (hl : s.heap.IsTuple l vs.toArray)
    (h : Q vs { s with heap := (s.heap.push (seqObj "list" #[] 0)).update s.heap.objs.size (Obj.mapSeq (· ++ vs.toArray)) }) (hsz : vs.length ≤ sizeLine) :
    wpAny (model prog w) A (collect (.ref l)) Q E s := by
  obtain ⟨o, ho, hc, n, hd⟩ := id hl
  unfold collect
  refine wpAny_bind (wpAny_runValue (codeAny_builtin entry_proto_collect' ?_))
  show wpAny _ _ (do again (.builtin "list.__iadd__" ⟨[← newList [], .ref l], []⟩)) _ _ s
  refine wpAny_bind (wpAny_newList (wpAny_pure ⟨Code.quiet_builtin _ (by decide +kernel), codeAny_builtin entry_list_iadd' ?_⟩))
  show wpAny _ _ (Builtin.List.listExtendWith (.ref s.heap.objs.size) (.ref l) (.ref s.heap.objs.size)) _ _ { s with heap := s.heap.push (seqObj "list" #[] 0) }
  unfold Builtin.List.listExtendWith
  have ho' : (s.heap.push (seqObj "list" #[] 0)).get? l = some o := Heap.get?_push_of_some _ ho
  refine wpAny_bind (wpAny_typeOf (T := "tuple") ⟨o, ho', hc⟩ ?_)
  have ht : (Value.type "tuple" == Value.type "tuple") = true := by rfl
  rw [if_pos (by rw [ht]; simp)]
  refine wpAny_bind (listItems_at ho' hd ?_)
  refine wpAny_bind (listItems_at (xs := #[]) (n := 0) (Heap.get?_push_size _ rfl) rfl ?_)
  rw [if_neg (by simp)]
  refine wpAny_bind (listUpdate_at (xs := #[]) (n := 0) (Heap.get?_push_size _ rfl) rfl ?_ (Nat.zero_le _) (by show (#[] ++ vs.toArray).size ≤ sizeLine + 1; simp only [Array.size_append, List.size_toArray, List.length_nil]; omega))
  refine wpAny_pure ?_
  show wpAny (model prog w) A (do
      let o ← load s.heap.objs.size
      match o.data with
      | .seq xs _ => pure xs.toList
      | _ => unsupported "internal:collect") Q E { s with heap := (s.heap.push (seqObj "list" #[] 0)).update s.heap.objs.size (Obj.mapSeq (· ++ vs.toArray)) }
  refine wpAny_bind (wpAny_load (get?_update_seq (Heap.get?_push_size _ rfl) _) ?_)
  show wpAny _ _ (pure ((#[] : Array Value) ++ vs.toArray).toList) Q E _
  rw [show ((#[] : Array Value) ++ vs.toArray).toList = vs by simp]
  exact wpAny_pure h
open PySem.W in
theorem sorted_valsT {prog : Program} {w : World} {A : Around} {E : Value → Shared → Prop} {s : Shared} {κ : PyProof.Rows.KeyKind} {l : Addr} {vs : List Value} {Q : Value → Shared → Prop} (hl : s.heap.IsTuple l vs.toArray) (S : SortsAt prog w A.in1.in1 { s with heap := sortingHeap (copyHeap s.heap vs) (s.heap.objs.size + 1) vs } κ vs) (hL : vs.length ≤ sizeLine)
    (h : Q (.ref (s.heap.objs.size + 1)) { s with heap := sortedAll s.heap vs (sortVals κ false vs vs).toArray }) : wpAny (model prog w) A (call (.builtin "sorted") [.ref l]) Q E s := by
  refine Calls.call_function_entry kind_sorted plain_sorted entry_sorted (args_sorted1 _) ?_
  unfold Builtin.«sorted»
  refine wpAny_bind (m := checkCount "sorted" 1 1 _) (wpAny_pure ?_)
  refine wpAny_bind (collect_tup hl ?_ hL)
  refine wpAny_bind (wpAny_newList ?_ hL)
  have hsz : ((s.heap.push (seqObj "list" #[] 0)).update s.heap.objs.size (Obj.mapSeq (· ++ vs.toArray))).objs.size = s.heap.objs.size + 1 := by
    rw [Heap.size_update, size_push']
  show wpAny _ _ _ _ _ { s with heap := copyHeap s.heap vs }
  rw [hsz]
  refine wpAny_bind (wpAny_holding (wpAny_call_entry slot_list_sort ⟨_, copyHeap_at s.heap vs, rfl⟩ entry_list_sort ?body (args_list_sort _)))
  case body =>
    show wpAny (model prog w) A.in1.in1 (Builtin.«list.sort» ⟨[.ref (s.heap.objs.size + 1)], []⟩) _ _ _
    refine wpAny_mono (list_sort_vals (P := fun f s' => f = .done (.ret .none) ∧ Q (.ref (s.heap.objs.size + 1)) s') (s := { s with heap := copyHeap s.heap vs }) (copyHeap_at s.heap vs) S hL ⟨rfl, h⟩) (fun f s' hf => ?_) fun _ _ e => e
    obtain ⟨rfl, hq⟩ := hf
    exact ⟨_, rfl, wpAny_pure ⟨_, rfl, hq⟩⟩
section
variable {z : Z} {K : PySem.W.Frag} {G : Hp}
theorem each_vals : ∀ {xs : List V} {us : List Value} {ds : List D}, Vals xs us → IsA z K G xs ds → PySem.W.EachIs (fun (u : Value) (b : V × D) => RelV b.1 u ∧ Is z K G b.1 b.2) us (xs.zip ds)
  | _, _, _, .nil, .nil => .nil
  | _, _, _, .cons r t, .cons h i => .cons ⟨r, h⟩ (each_vals t i)
theorem vals_each : ∀ {us : List Value} {bs : List (V × D)}, PySem.W.EachIs (fun (u : Value) (b : V × D) => RelV b.1 u ∧ Is z K G b.1 b.2) us bs → Vals (bs.map (·.1)) us ∧ IsA z K G (bs.map (·.1)) (bs.map (·.2))
  | _, _, .nil => ⟨.nil, .nil⟩
  | _, _, .cons h t => ⟨.cons h.1 (vals_each t).1, .cons h.2 (vals_each t).2⟩
end
section
variable {X : Cx} {pins : List (Addr × Obj)} {σ : L2.St} {H : Hp} {s : Shared} {z : Z} {S : Addr → Prop}
theorem each_reads (I : Inv X pins σ H s) (hf : H sysModules = none) : ∀ {xs : List V} {us : List Value} {ds : List D} {ps : List PyData}, Vals xs us → IsA z X.K (hide S H) xs ds → D.pyA ds = some ps → PySem.W.EachIs (fun v d => ∃ as, Reads s.heap v d as) us ps
  | _, _, _, _, .nil, .nil, e => by simp [D.pyA] at e; subst e; exact .nil
  | _, _, _, _, .cons r t, .cons (d := d) (ds := ds) h i, e => by
    unfold D.pyA at e
    cases e1 : d.py with
    | none => rw [e1] at e; simp at e
    | some p =>
      cases e2 : D.pyA ds with
      | none => rw [e1, e2] at e; simp at e
      | some ps =>
        rw [e1, e2] at e; simp at e; subst e
        obtain ⟨as, rd, _⟩ := h.reads I hf e1 r
        exact .cons ⟨as, rd⟩ (each_reads I hf t i e2)
theorem each_keys {h : Heap} {ps0 : List PyData} (hal : PySem.W.AllAlike ps0) : ∀ {us : List Value} {ps : List PyData}, PySem.W.EachIs (fun v d => ∃ as, Reads h v d as) us ps → ∀ {xs : List V} {ds : List D}, xs.length = us.length → D.pyA ds = some ps → (∀ p ∈ ps, p ∈ ps0) →
    PySem.W.EachIs (fun v (b : V × D) => (PySem.W.dataKind h ps0).keyOf v = some (b.2.kt)) us (xs.zip ds) := by
  intro us ps e
  induction e with
  | nil =>
    intro xs ds l _ _
    have : xs = [] := List.length_eq_zero_iff.mp l
    subst this
    simp; exact .nil
  | cons r t ih =>
    intro xs ds l e sub
    obtain ⟨x, xs, rfl⟩ : ∃ x r, xs = x :: r := by
      cases xs with
      | nil => simp at l
      | cons x r => exact ⟨x, r, rfl⟩
    cases ds with
    | nil => simp [D.pyA] at e
    | cons d ds =>
      unfold D.pyA at e
      cases e1 : d.py with
      | none => rw [e1] at e; simp at e
      | some p =>
        cases e2 : D.pyA ds with
        | none => rw [e1, e2] at e; simp at e
        | some ps =>
          rw [e1, e2] at e; simp at e
          obtain ⟨rfl, rfl⟩ := e
          obtain ⟨as, rd⟩ := r
          refine .cons ?_ (ih (by simpa using l) e2 fun q hq => sub q (List.mem_cons_of_mem _ hq))
          rw [PySem.W.dataKind_some hal (sub p (by simp)) rd]
          unfold D.kt
          rw [e1]
          rfl
end
def sortDW : WL := fun xs k => ∃ ds ps, (xs = [.lst ds] ∨ xs = [.tup ds]) ∧ D.pyA ds = some ps ∧ PySem.W.AllAlike ps ∧ PySem.W.Sortable ps ∧ (∀ p ∈ ps, p.depth ≤ 64) ∧ k (.lst (sortD ds))
theorem cd_sortD {X : Cx} (hu : X.A.units + 80 < cLine) (hl : LowK X) : CallD X (.builtin "sorted") sortDW := by
  refine ⟨fun x k k' h ⟨ds, ps, a, b, c, d, e, q⟩ => ⟨ds, ps, a, b, c, d, e, h _ q⟩, fun pins s σ H xs us Q I r ⟨z, S, ds0, hS, hx, ds, ps, ea, ep, hal, hso, hdp, q⟩ => ?_⟩
  have key : ∃ a ys, xs = [.ref a] ∧ SqA X.K H a ys ∧ IsA z X.K (hide S H) ys ds := by
    rcases ea with rfl | rfl
    · cases hx with
      | cons h t =>
        cases t
        cases h with
        | lst g i => exact ⟨_, _, rfl, .inr (SqL.of (hide_same _ _ g)), i⟩
    · cases hx with
      | cons h t =>
        cases t
        cases h with
        | tup g i => exact ⟨_, _, rfl, .inl (sqT_hide g), i⟩
  obtain ⟨a, ys, rfl, sq, i⟩ := key
  obtain ⟨u, rfl, ru⟩ := vals1 r
  obtain rfl : u = Value.ref a := ru
  have main : ∃ its : List Value, Vals ys its ∧ ys.length ≤ sizeLine ∧ (s.heap.IsList a its.toArray ∨ s.heap.IsTuple a its.toArray) := by
    rcases sq with h | h
    · obtain ⟨its, rv, ht, hz⟩ := I.tuple h
      exact ⟨its, rv, hz, .inr ht⟩
    · obtain ⟨its, rv, hl, hz⟩ := I.list h
      exact ⟨its, rv, hz, .inl hl.isList⟩
  obtain ⟨its, rv, hz, hls⟩ := main
  have il := rv.length
  have I2 : Inv X pins σ H { s with heap := PySem.W.sortingHeap (PySem.W.copyHeap s.heap its) (s.heap.objs.size + 1) its } := I.kept (t' := s.toks) fun b o e => PySem.W.sorting_copy_old e
  have er := each_reads I2 (hl.free I2) rv i ep
  have hS2 : PySem.W.SortsAt X.prog X.w X.A.in1.in1 { s with heap := PySem.W.sortingHeap (PySem.W.copyHeap s.heap its) (s.heap.objs.size + 1) its } (PySem.W.dataKind (PySem.W.sortingHeap (PySem.W.copyHeap s.heap its) (s.heap.objs.size + 1) its) ps) its :=
    PySem.W.SortsAt.data er hal hso fun d hd => by
      have := hdp d hd
      show X.A.units + 1 + 1 + d.depth < cLine
      omega
  have eo := PySem.W.sortVals_each (κ := PySem.W.dataKind (PySem.W.sortingHeap (PySem.W.copyHeap s.heap its) (s.heap.objs.size + 1) its) ps) (rev := false) (fun b : V × D => b.2.kt) (each_vals rv i) (each_keys hal er (xs := ys) il ep fun p hp => hp)
  obtain ⟨v1, v2⟩ := vals_each eo
  have em : ((ys.zip ds).mergeSort (PySem.W.sortLe (listOrd itemOrd) false fun b : V × D => b.2.kt)).map (·.2) = sortD ds := by
    unfold sortD
    have e1 := List.map_mergeSort (r := PySem.W.sortLe (listOrd itemOrd) false fun b : V × D => b.2.kt) (s := leD) (f := fun b : V × D => b.2) (l := ys.zip ds) (fun a _ b _ => rfl)
    have e2 : (ys.zip ds).map (fun b : V × D => b.2) = ds := List.map_snd_zip (by rw [i.length]; exact Nat.le_refl _)
    rw [e2] at e1
    exact e1
  have fin : Q (.ref (s.heap.objs.size + 1)) (upd H (s.heap.objs.size + 1) (.lst (((ys.zip ds).mergeSort (PySem.W.sortLe (listOrd itemOrd) false fun b : V × D => b.2.kt)).map (·.1)))) := by
    have hn : H (s.heap.objs.size + 1) = none := I.hok.fresh (Nat.le_succ _)
    refine q _ _ (grow_upd hn) ?_
    rw [← em]
    exact is_lst hS hn v2
  have lay : EP X pins σ Q (.ref (s.heap.objs.size + 1)) { s with heap := sortedAll s.heap its (PySem.W.sortVals (PySem.W.dataKind (PySem.W.sortingHeap (PySem.W.copyHeap s.heap its) (s.heap.objs.size + 1) its) ps) false its its).toArray } := by
    obtain ⟨ep', he'⟩ := PyProof.Rows.sortedAll_at s.heap its (PySem.W.sortVals (PySem.W.dataKind (PySem.W.sortingHeap (PySem.W.copyHeap s.heap its) (s.heap.objs.size + 1) its) ps) false its its).toArray
    refine ⟨.ref _, upd H (s.heap.objs.size + 1) (.lst (((ys.zip ds).mergeSort (PySem.W.sortLe (listOrd itemOrd) false fun b : V × D => b.2.kt)).map (·.1))), I.laid (t' := s.toks) (fun _ _ => PyProof.Rows.sortedAll_old) (Nat.le_succ _) ⟨?_, _, ep', v1, he'⟩, rfl, fin⟩
    have e1 := v1.length
    rw [PySem.W.sortVals_length false rfl, ← il] at e1
    exact Nat.le_trans (Nat.le_of_eq e1) hz
  rcases hls with h | h
  · exact PySem.W.sorted_vals h hS2 (by omega) lay
  · exact sorted_valsT h hS2 (by omega) lay
theorem bt_zip : bootBuiltins "zip" = some (.type "zip") := by decide +kernel
/-! ### list(zip(a, b)), dict(zip(a, b)), list(d.items()) -/
theorem Sta.sameS {z : Z} {n : Nat} {mk : Option Int} {H H' : Hp} (h : Sta z n mk H) (s : Same H H') : Sta z n mk H' :=
  ⟨fun q e => (h.dr q e).same fun p hp => by
    obtain ⟨o, eo, _⟩ := h.at (.inl ⟨q, e, hp⟩)
    rw [eo, s _ _ eo], fun a vf vn e => by
    obtain ⟨m, m0, h1, h2⟩ := h.fr a vf vn e
    exact ⟨m, m0, s _ _ h1, h2⟩, z.stay H H' (fun p o _ e => s p o e) h.inv, h.tb.ext s⟩
theorem Rel.sameS {Φ : Phi} {z : Z} {S0 : Addr → Prop} {H0 H H' : Hp} {K : PySem.W.Frag} {ps : List (Option Addr)} {env : DEnv} {σ : L2.St} (r : Rel Φ z S0 H0 K ps env σ H) (e : Same H H') : Rel Φ z S0 H0 K ps env σ H' := by
  have q := r.call (n := env.cr) (.of_same e) (r.sta.sameS e)
  exact q
def D.items : D → Option (List D)
  | .lst ds => some ds
  | .tup ds => some ds
  | _ => none
def pairD (p : D × D) : D := .tup [p.1, p.2]
def mZipL (n : MA) : ME := fun env k => n env fun ds e => match ds with
  | [a, b] => ∃ xs ys, a.items = some xs ∧ b.items = some ys ∧ k (.lst ((xs.zip ys).map pairD)) e
  | _ => False
theorem items_sq {z : Z} {K : PySem.W.Frag} {S : Addr → Prop} {H : Hp} {v : V} {d : D} {xs : List D} (h : Is z K (hide S H) v d) (e : d.items = some xs) : ∃ a vs, v = .ref a ∧ SqA K H a vs ∧ IsA z K (hide S H) vs xs := by
  cases h with
  | lst g i => cases e; exact ⟨_, _, rfl, .inr (SqL.of (hide_same _ _ g)), i⟩
  | tup g i => cases e; exact ⟨_, _, rfl, .inl (sqT_hide g), i⟩
  | _ => cases e
/-- new pairs, tracked: as data -/
theorem pairs_is {z : Z} {K : PySem.W.Frag} {S : Addr → Prop} {H' : Hp} : ∀ {ts : List Addr} {vs us : List V} {xs ys : List D}, Paired (fun (t : Addr) (q : V × V) => H' t = some (.tup [q.1, q.2])) ts (vs.zip us) → (∀ t ∈ ts, ¬ S t) → IsA z K (hide S H') vs xs → IsA z K (hide S H') us ys → IsA z K (hide S H') (ts.map V.ref) ((xs.zip ys).map pairD)
  | _, _, _, _, _, p, _, .nil, _ => by simp at p ⊢; cases p; exact .nil
  | _, _, _, _, _, p, _, .cons _ _, .nil => by simp at p ⊢; cases p; exact .nil
  | _, _, _, _, _, p, n, .cons h1 i1, .cons h2 i2 => by
    simp only [List.zip_cons_cons] at p ⊢
    cases p with
    | cons r t => exact .cons (.tup (.inl (hide_get.mpr ⟨n _ (by simp), r⟩)) (.cons h1 (.cons h2 .nil))) (pairs_is t (fun t ht => n t (List.mem_cons_of_mem _ ht)) i1 i2)
section
variable {X : Cx} {Φ : Phi} {e1 e2 : Expr} {n : MA} {p p2 cpos pos : Pos}
theorem de_listZip (ha : DA X Φ [e1, e2] n) (hm : X.mg "list" = none) (hm2 : X.mg "zip" = none) (hc : X.calm = true := by rfl) (hg : Gl X "list" := by rfl) (hg2 : Gl X "zip" := by rfl)
    (hs : starEach [.Call (.Name "zip" p2) [e1, e2] [] cpos] X.env = (false, eval (.Call (.Name "zip" p2) [e1, e2] [] cpos) X.env) :: starEach [] X.env := by rfl)
    (he : starEach [e1, e2] X.env = (false, eval e1 X.env) :: starEach [e2] X.env := by rfl) (hpl : (backTo cpos (starEach [e2] X.env)).any (·.1) = false := by rfl) :
    DE X Φ (.Call (.Name "list" p) [.Call (.Name "zip" p2) [e1, e2] [] cpos] [] pos) (mZipL n) := by
  refine ⟨fun env k k' h q => ha.mono env (fun ds e q => ?_) q, pe_imp (pe_listZip hc ha.pa hg hm bt_list hg2 hm2 bt_zip hs he hpl) fun σ H Q ⟨z, S0, H0, ps, env, r, q⟩ => ⟨z, S0, H0, ps, env, r, ha.mono env (fun ds e q => ?_) q⟩⟩
  · revert q
    split
    · exact fun ⟨xs, ys, a, b, q⟩ => ⟨xs, ys, a, b, h _ _ q⟩
    · exact fun q => q
  · intro vs H1 r1 x1 i1
    revert q
    split
    · intro ⟨xs, ys, ea, eb, q⟩
      cases i1 with
      | cons h1 t1 =>
        cases t1 with
        | cons h2 t2 =>
          cases t2
          obtain ⟨a, vs, rfl, s1, j1⟩ := items_sq h1 ea
          obtain ⟨b, us, rfl, s2, j2⟩ := items_sq h2 eb
          refine ⟨a, b, vs, us, rfl, s1, s2, fun H' p' ts sm hp hts npt hl hpr => ?_⟩
          have r2 := r1.sameS sm
          have ev : Evx (hide (Sx S0 ps) H1) (hide (Sx S0 ps) H') := .of_same (hide_keep sm)
          exact q _ H' r2 (x1.trans (.of_same sm)) (.lst (hide_get.mpr ⟨fun w => r1.dom _ w hp, hl⟩) (pairs_is hpr (fun t ht w => r1.dom t w (hts t ht)) (j1.evx ev) (j2.evx ev)))
    · exact fun q => q.elim
/-- dict(zip(ks, vs)) -/
def kD : Key → D
  | .inl i => .int i
  | .inr x => .str x
def mZipD (n : MA) : MF := fun env k => n env fun ds e => match ds with
  | [a, b] => ∃ ks ys, a.items = some (ks.map kD) ∧ b.items = some ys ∧ ks.Nodup ∧ ks.length = ys.length ∧ ks ≠ frKeys ∧ k (.dct ks ys) e
  | _ => False
theorem isA_keys {z : Z} {K : PySem.W.Frag} {G : Hp} : ∀ {ks : List Key} {vs : List V}, IsA z K G vs (ks.map kD) → vs = ks.map kV
  | [], _, .nil => rfl
  | .inl i :: ks, _, .cons h t => by cases h; rw [isA_keys t]; rfl
  | .inr x :: ks, _, .cons h t => by cases h; rw [isA_keys t]; rfl
theorem df_dictZip (ha : DA X Φ [e1, e2] n) (hm : X.mg "dict" = none) (hm2 : X.mg "zip" = none) (hc : X.calm = true := by rfl) (hg : Gl X "dict" := by rfl) (hg2 : Gl X "zip" := by rfl)
    (hs : starEach [.Call (.Name "zip" p2) [e1, e2] [] cpos] X.env = (false, eval (.Call (.Name "zip" p2) [e1, e2] [] cpos) X.env) :: starEach [] X.env := by rfl)
    (he : starEach [e1, e2] X.env = (false, eval e1 X.env) :: starEach [e2] X.env := by rfl) (hpl : (backTo cpos (starEach [e2] X.env)).any (·.1) = false := by rfl) :
    DF X Φ (.Call (.Name "dict" p) [.Call (.Name "zip" p2) [e1, e2] [] cpos] [] pos) (mZipD n) := by
  refine ⟨fun env k k' h q => ha.mono env (fun ds e q => ?_) q, pe_imp (pe_dictZip hc ha.pa hg hm bt_dict hg2 hm2 bt_zip hs he hpl) fun σ H Q ⟨z, S0, H0, ps, env, r, q⟩ => ⟨z, S0, H0, ps, env, r, ha.mono env (fun ds e q => ?_) q⟩⟩
  · revert q
    split
    · exact fun ⟨xs, ys, a, b, c, d, f, q⟩ => ⟨xs, ys, a, b, c, d, f, h _ _ q⟩
    · exact fun q => q
  · intro vs H1 r1 x1 i1
    revert q
    split
    · intro ⟨ks, ys, ea, eb, nd, hl, nf, q⟩
      cases i1 with
      | cons h1 t1 =>
        cases t1 with
        | cons h2 t2 =>
          cases t2
          obtain ⟨a, vs, rfl, s1, j1⟩ := items_sq h1 ea
          obtain ⟨b, us, rfl, s2, j2⟩ := items_sq h2 eb
          cases isA_keys j1
          refine ⟨a, b, ks, us, rfl, s1, s2, nd, by rw [hl, j2.length], fun p' hp => ?_⟩
          have hp0 : H p' = none := none_back r1 x1 hp
          refine q p' _ _ (r1.temp hp) (x1.trans (.of_same (same_upd hp))) hp0 upd_same ⟨us, rfl, by rw [hl, j2.length], nf, j2.evx (.of_same fun q o w => ?_)⟩
          obtain ⟨n, w⟩ := hide_get.mp w
          have ne : q ≠ p' := ne_of_none w hp
          refine hide_get.mpr ⟨fun w => w.elim (fun w => n (.inl w)) fun w => ?_, by rw [upd_ne ne]; exact w⟩
          rcases List.mem_append.mp w with w | w
          · exact n (.inr w)
          · cases List.mem_singleton.mp w; exact ne rfl
    · exact fun q => q.elim
/-- list(d.items()) -/
def mItems (m : ME) : ME := fun env k => m env fun d e => match d with
  | .dct ks ds => k (.lst (((ks.map kD).zip ds).map pairD)) e
  | _ => False
theorem keys_isA {z : Z} {K : PySem.W.Frag} {G : Hp} : ∀ (ks : List Key), IsA z K G (ks.map kV) (ks.map kD)
  | [] => .nil
  | .inl i :: ks => .cons (.int i) (keys_isA ks)
  | .inr x :: ks => .cons (.str x) (keys_isA ks)
theorem paired_keys {H' : Hp} : ∀ {ts : List Addr} {ks : List Key} {xs : List V}, Paired (fun (t : Addr) (q : Key × V) => H' t = some (.tup [kV q.1, q.2])) ts (ks.zip xs) → Paired (fun (t : Addr) (q : V × V) => H' t = some (.tup [q.1, q.2])) ts ((ks.map kV).zip xs)
  | _, [], xs, p => by simp at p ⊢; cases p; exact .nil
  | _, k :: ks, [], p => by simp at p ⊢; cases p; exact .nil
  | _, k :: ks, x :: xs, p => by
    simp only [List.zip_cons_cons, List.map_cons] at p ⊢
    cases p with
    | cons r t => exact .cons r (paired_keys t)
theorem de_items {e : Expr} {m : ME} {apos : Pos} (h : DE X Φ e m) (hm : X.mg "list" = none) (hc : X.calm = true := by rfl) (hg : Gl X "list" := by rfl) (hbase : attributeBase e "items" X.env (eval e X.env) = eval e X.env := by rfl) (hline : (apos.endLine == cpos.line) = true := by rfl)
    (hs : starEach [.Call (.Attribute e "items" apos) [] [] cpos] X.env = (false, eval (.Call (.Attribute e "items" apos) [] [] cpos) X.env) :: starEach [] X.env := by rfl) :
    DE X Φ (.Call (.Name "list" p) [.Call (.Attribute e "items" apos) [] [] cpos] [] pos) (mItems m) := by
  refine ⟨fun env k k' hk q => h.mono env (fun d e q => ?_) q, pe_imp (LiI.pe_listItems hc h.pe hg hm bt_list hbase hline hs) fun σ H Q ⟨z, S0, H0, ps, env, r, q⟩ => ⟨z, S0, H0, ps, env, r, h.mono env (fun d e q => ?_) q⟩⟩
  · revert q
    split
    · exact fun q => hk _ _ q
    · exact fun q => q
  · intro v H1 r1 x1 i1
    revert q
    split
    · intro q
      cases i1 with
      | dct g l nf i =>
        refine ⟨_, _, rfl, hide_same _ _ g, fun H' p' ts sm hp hts npt hl hpr => ?_⟩
        have ev : Evx (hide (Sx S0 ps) H1) (hide (Sx S0 ps) H') := .of_same (hide_keep sm)
        exact q _ H' (r1.sameS sm) (x1.trans (.of_same sm)) (.lst (hide_get.mpr ⟨fun w => r1.dom _ w hp, hl⟩) (pairs_is (paired_keys hpr) (fun t ht w => r1.dom t w (hts t ht)) (keys_isA _) (i.evx ev)))
    · exact fun q => q.elim
end
/-! ### d == e, dicts with the same ints -/
def eqDW : W2 := fun x y k => ∃ (ks : List Key) (ns : List Int), x = .dct ks (ns.map D.int) ∧ y = .dct ks (ns.map D.int) ∧ ks.Nodup ∧ k (.bl true)
theorem od_eqD {X : Cx} (hu : X.A.units + 64 < cLine) : OpD X (compareOp .Eq) eqDW := by
  refine ⟨fun x y k k' h ⟨ks, ns, a, b, c, q⟩ => ⟨ks, ns, a, b, c, h _ q⟩, fun pins s σ H x y v u Q I rx ry ⟨z, S, dx, dy, hS, hx, hy, ks, ns, e1, e2, nd, q⟩ => ?_⟩
  subst e1 e2
  cases hx with
  | dct g1 l1 _ i1 =>
    cases hy with
    | dct g2 l2 _ i2 =>
      cases i1.ints
      cases i2.ints
      refine op_eq_dict (by omega) pins s σ H _ _ v u Q I rx ry ⟨_, _, _, rfl, rfl, hide_same _ _ g1, hide_same _ _ g2, by rw [zip_keys l1]; exact nd, fun p hp => ?_, q _ H (Grow.refl H) (.bl _)⟩
      have := (List.of_mem_zip hp).2
      obtain ⟨i, _, e⟩ := List.mem_map.mp this
      rw [← e]; rfl
end DL
namespace DL
open PySem L2 PySem.Spec PyProof.Rows
/-! ### what is owned is lent for a test -/
def giveS : Sl → Sl
  | .ow o => .da o.toD
  | s => s
def allD (env : DEnv) : DEnv := { env with sl := env.sl.map giveS }
theorem allD_at {env : DEnv} {i : Nat} : (allD env).at i = giveS (env.at i) := by
  unfold allD DEnv.at
  rw [List.getD_eq_getElem?_getD, List.getElem?_map, List.getD_eq_getElem?_getD]
  cases env.sl[i]? <;> rfl
theorem OwIs.evo {z : Z} {K : PySem.W.Frag} {G : Hp} {ho o' : HO} : ∀ {o : OwK}, OwIs z K G ho o → Evo ho o' → o' = ho
  | .lst _, ⟨xs, a, b⟩, v => by subst a; exact v.lst
  | .dct _ _, ⟨xs, a, b, c, d⟩, v => by subst a; exact v.dK (by rw [zip_keys b]; exact c)
  | .dcT _ _, ⟨xs, a, b, d⟩, v => by subst a; exact v.dT
  | .ins _ _ _, ⟨dx, xs, a, b, d⟩, v => by subst a; exact v.ins
section
variable {Φ : Phi} {z : Z} {S0 : Addr → Prop} {H0 H H' : Hp} {K : PySem.W.Frag} {ps : List (Option Addr)} {env e' : DEnv} {σ : L2.St}
theorem Rel.lend (r : Rel Φ z S0 H0 K ps env σ H) : Rel Φ z S0 H0 K (List.replicate ps.length none) (allD env) σ H := by
  refine r.re (by simp [allD, r.lenp]) (by simp [allD, r.lens]) rfl rfl (fun i j p h1 _ => absurd (List.mem_of_getElem? h1) none_rep) (fun p h => absurd h none_rep) fun i => ?_
  have sub : Evx (hide (Sx S0 ps) H) (hide (Sx S0 (List.replicate ps.length none)) H) := sub_hide fun p h => absurd h none_rep
  have hr : (List.replicate ps.length (none : Option Addr)).getD i none = none := by
    rw [List.getD_eq_getElem?_getD, List.getElem?_replicate]
    split <;> rfl
  rw [allD_at, hr]
  have hi := r.sl i
  cases q : env.at i with
  | un => trivial
  | da d =>
    rw [q] at hi
    obtain ⟨_, x, h2, h3⟩ := hi
    exact ⟨rfl, x, h2, h3.evx sub⟩
  | ow o =>
    rw [q] at hi
    obtain ⟨p, ho, h1, h2, h3, h4⟩ := hi
    have mp := (mem_ps h1).1
    exact ⟨rfl, .ref p, h2, (h4.evx sub).is (hide_get.mpr ⟨fun w => w.elim (fun w => r.s0 p w (r.fresh p mp)) none_rep, h3⟩)⟩
theorem Rel.unlend (r : Rel Φ z S0 H0 K ps env σ H) (x : Ext (Mu z (List.replicate ps.length none)) S0 H H') {n : Nat} {mk : Option Int} (st : Sta z n mk H') : Rel Φ z S0 H0 K ps { env with cr := n, mr := mk } σ H' ∧ Ext (Mu z ps) S0 H H' := by
  have x0 : Ext (Zs z) S0 H H' := x.mono (fun p w => w.elim id fun w => absurd w none_rep) fun _ w => w
  have ev : Evx (hide (Sx S0 ps) H) (hide (Sx S0 ps) H') := x0.hide fun p q => .inl (r.zs p q)
  refine ⟨⟨r.lenp, r.lens, r.inj, r.fresh, r.s0, r.zs, r.zf, fun p hp => ?_, r.ext.trans x0, st, fun i => ?_, r.phi, r.zt⟩, x0.mono (fun _ w => .inl w) fun _ w => w⟩
  · by_cases hz : Zs z p
    · exact st.dom hz
    · cases q : H p with
      | none => exact absurd q (r.dom p hp)
      | some o =>
        obtain ⟨o', e', _⟩ := x0 p o hz q
        rw [e']; simp
  · have hi := r.sl i
    show SlOk z K _ _ _ _ (env.at i)
    cases q : env.at i with
    | un => trivial
    | da d =>
      rw [q] at hi
      obtain ⟨h1, y, h2, h3⟩ := hi
      exact ⟨h1, y, h2, h3.evx ev⟩
    | ow o =>
      rw [q] at hi
      obtain ⟨p, ho, h1, h2, h3, h4⟩ := hi
      obtain ⟨o', e', v, _⟩ := x0 p ho (r.noZ (mem_ps h1).1) h3
      rw [h4.evo v] at e'
      exact ⟨p, ho, h1, h2, e', h4.evx ev⟩
end
def mLoan (m : MT) : MT := fun env k => m (allD env) fun b e' => k b { env with cr := e'.cr, mr := e'.mr }
section
variable {X : Cx} {Φ : Phi} {pos : Pos}
theorem dt_loan {c : Expr} {m : MT} (h : DT X Φ c m) : DT X Φ c (mLoan m) := by
  refine ⟨fun env k k' hk q => h.mono _ (fun b e q => hk _ _ q) q, pt_imp h.pt fun σ H Q ⟨z, S0, H0, ps, env, r, q⟩ => ⟨z, S0, H0, _, _, r.lend, h.mono _ (fun b e q => ?_) q⟩⟩
  intro H' r' x'
  obtain ⟨r2, x2⟩ := r.unlend x' r'.sta
  exact q H' r2 x2
/-- x.clear(), x a dict of one's own -/
def mClear (i : Nat) : MS := fun env k => ∃ ks ds, env.at i = .ow (.dct ks ds) ∧ k.nx (env.put i (.ow (.dct [] [])))
theorem ds_clear {i : Nat} {x : Str} {p1 p2 p3 : Pos} (hv : PE X (.Name x p1) (tVar i)) (hbase : attributeBase (.Name x p1) "clear" X.env (eval (.Name x p1) X.env) = eval (.Name x p1) X.env := by rfl) (hline : (p2.endLine == p3.line) = true := by rfl)
    (hs : swapsWith (.Call (.Attribute (.Name x p1) "clear" p2) [] [] p3) none pos.line X.env = pure false := by rfl) : DS X Φ (.Expr (.Call (.Attribute (.Name x p1) "clear" p2) [] [] p3) pos) (mClear i) := by
  refine ⟨fun env k k' h ⟨ks, ds, e, q⟩ => ⟨ks, ds, e, h.nx _ q⟩, ps_imp (ps_expr (pe_dclear hv hbase hline) hs) fun E σ H ⟨z, S0, H0, ps, env, r, ks, ds, e0, q⟩ => ?_⟩
  obtain ⟨p, ho, h1, h2, h3, xs, rfl, h4⟩ := slot_ow r e0
  refine ⟨_, h2, ?_, p, _, rfl, rfl, h3, ?_⟩
  · exact .inr (.inr (.inl ⟨rfl, .inl ⟨_, h3⟩⟩))
  · obtain ⟨r2, s2⟩ := r.owUpd (k' := .dct [] []) (ho' := .dK []) e0 h1 ⟨[], rfl, rfl, by decide, .nil⟩
    exact q _ _ _ r2 s2
end
/-! ### a, b = new, .. -/
def hidE (e : DEnv) : DEnv := { e with sl := e.sl.map noOw }
theorem hidE_at {env : DEnv} {i : Nat} : (hidE env).at i = noOw (env.at i) := by
  unfold hidE DEnv.at
  rw [List.getD_eq_getElem?_getD, List.getElem?_map, List.getD_eq_getElem?_getD]
  cases env.sl[i]? <;> rfl
section
variable {Φ Φ' : Phi} {z : Z} {S0 : Addr → Prop} {H0 H H' : Hp} {K : PySem.W.Frag} {ps : List (Option Addr)} {env e' : DEnv} {σ : L2.St}
theorem Rel.hidden (r : Rel Φ z S0 H0 K ps env σ H) (hΦ : Φ' z (Sx S0 ps) H) : Rel Φ' z (Sx S0 ps) H K (List.replicate ps.length none) (hidE env) σ H := by
  refine ⟨by simp [hidE, r.lenp], by simp [hidE, r.lens], fun i j p h1 _ => absurd (List.mem_of_getElem? h1) none_rep, fun p h => absurd h none_rep, r.dom, fun p h => .inl (r.zs p h), fun p h => .inl (r.zf p h), fun p h => r.dom p (h.elim id fun w => absurd w none_rep), .refl, (show Sta z env.cr env.mr H from r.sta), fun i => ?_, hΦ, r.sta.zt⟩
  have sub : Evx (hide (Sx S0 ps) H) (hide (Sx (Sx S0 ps) (List.replicate ps.length none)) H) := .of_same (hide_mono fun p w => w.elim id fun w => absurd w none_rep)
  have hr : (List.replicate ps.length (none : Option Addr)).getD i none = none := by
    rw [List.getD_eq_getElem?_getD, List.getElem?_replicate]
    split <;> rfl
  rw [hidE_at, hr]
  have hi := r.sl i
  cases q : env.at i with
  | un => trivial
  | ow o => trivial
  | da d =>
    rw [q] at hi
    obtain ⟨_, x, h2, h3⟩ := hi
    exact ⟨rfl, x, h2, h3.evx sub⟩
theorem mu_rep {n : Nat} {S : Addr → Prop} (x : Ext (Mu z (List.replicate n none)) S H H') : Ext (Zs z) S H H' := x.mono (fun p w => w.elim id fun w => absurd w none_rep) fun _ w => w
theorem ow_keep (r : Rel Φ z S0 H0 K ps env σ H) (x : Ext (Zs z) (Sx S0 ps) H H') {p : Addr} {ho : HO} {o : OwK} (mp : some p ∈ ps) (hp : H p = some ho) (iw : OwIs z K (hide (Sx S0 ps) H) ho o) : H' p = some ho ∧ OwIs z K (hide (Sx S0 ps) H') ho o := by
  obtain ⟨o', e', v, s⟩ := x p ho (r.noZ mp) hp
  rw [iw.evo v] at e'
  exact ⟨e', iw.evx (x.hide fun p q => .inl (r.zs p q))⟩
end
def mParFD (i j : Nat) (ma : MF) (mb : ME) : MS := fun env k => ma env fun o e1 => mb (hidE e1) fun d e2 => i < e1.sl.length ∧ k.nx ((({ e1 with cr := e2.cr, mr := e2.mr } : DEnv).put i (.ow o)).put j (.da d))
def mParFF (i j : Nat) (ma mb : MF) : MS := fun env k => ma env fun o e1 => mb (hidE e1) fun o2 e2 => (i < e1.sl.length ∧ j < e1.sl.length) ∧ k.nx ((({ e1 with cr := e2.cr, mr := e2.mr } : DEnv).put i (.ow o)).put j (.ow o2))
section
variable {X : Cx} {Φ : Phi} {pos : Pos}
theorem ds_parFD {p : Z → Prop} {i j : Nat} {x y : Str} {a b : Expr} {ma : MF} {mb : ME} {px py pt : Pos} {kt k2 pt2} (hΦ : ∀ z S0 H0, Φ z S0 H0 → p z) (hc : X.calm = true) (hN : X.N.Nodup) (hi : X.N[i]? = some x) (hj : X.N[j]? = some y) (hij : i ≠ j)
    (hx : X.env.scope.names.lookup x = some .local) (hy : X.env.scope.names.lookup y = some .local) (ha : DF X Φ a ma) (hb : DE X (PhiZ p) b mb)
    (hw : swappedStores [.Tuple [.Name x px, .Name y py] kt pt] (.Tuple [a, b] k2 pt2) X.env = pure (some [x, y]))
    (hs : swapsWithSole [.Tuple [.Name x px, .Name y py] kt pt] (.Tuple [a, b] k2 pt2) pos.line X.env = pure false := by rfl) (s1 : starEach [a, b] X.env = (false, eval a X.env) :: starEach [b] X.env := by rfl) (s2 : starEach [b] X.env = (false, eval b X.env) :: starEach [] X.env := by rfl) :
    DS X Φ (.Assign [.Tuple [.Name x px, .Name y py] kt pt] (.Tuple [a, b] k2 pt2) pos) (mParFD i j ma mb) := by
  refine ⟨fun env k k' h q => ha.mono env (fun o e1 q => hb.mono _ (fun d e2 q => ⟨q.1, h.nx _ q.2⟩) q) q, ps_imp (ps_par hc hN hi hj hij hx hy (pa_cons ha.pe (pa_cons hb.pe pa_nil s2) s1) hw hs) fun E σ H ⟨z, S0, H0, ps, env, r, q⟩ => ⟨z, S0, H0, ps, env, r, ha.mono env (fun o e1 q => ?_) q⟩⟩
  intro p1 ho H1 r1 x1 hp hp1 iw
  refine ⟨z, Sx S0 (ps ++ [some p1]), H1, _, _, r1.hidden (Φ' := PhiZ _) (hΦ _ _ _ r1.phi), hb.mono _ (fun d e2 q => ?_) q⟩
  intro v H2 r2 x2 i2
  refine ⟨_, _, rfl, ?_⟩
  have ll : e1.sl.length ≤ ps.length := by rw [← r1.lens, r.lens]; exact r.lenp
  have x3 := mu_rep x2
  have r3 := r1.call x3 r2.sta
  obtain ⟨k1, k2⟩ := ow_keep r1 x3 (List.mem_append_right _ (by simp)) hp1 iw
  have r4 := r3.take (j := ps.length) (i := i) (get_app ps _) ll q.1 k1 k2
  have sub : ∀ q, some q ∈ ((ps ++ [some p1]).set ps.length none).set i (some p1) → some q ∈ ps ++ [some p1] := fun q w => by
    rcases mem_set_some w with w | rfl
    · exact mem_set_none w
    · exact List.mem_append_right _ (by simp)
  have i3 : Is z X.K (hide (Sx S0 (((ps ++ [some p1]).set ps.length none).set i (some p1))) H2) v d := i2.evx (.of_same (hide_mono fun q w => .inl (w.imp id (sub q))))
  have r5 := r4.put (i := j) i3
  refine q.2 _ _ _ r5 ⟨fun q o hq e => ?_, fun q w => ?_⟩
  · obtain ⟨o1, g1, v1, t1⟩ := x1 q o hq e
    obtain ⟨o2, g2, v2, t2⟩ := x3 q o1 (fun w => hq (.inl w)) g1
    exact ⟨o2, g2, v1.trans v2, fun sq no => by
      have h := t1 sq no
      rw [t2 (.inl sq) (by rw [h]; exact no), h]⟩
  · rcases List.mem_append.mp (sub q (mem_set_none w)) with w | w
    · exact .inl w
    · cases List.mem_singleton.mp w; exact .inr hp
theorem ds_parFF {p : Z → Prop} {i j : Nat} {x y : Str} {a b : Expr} {ma mb : MF} {px py pt : Pos} {kt k2 pt2} (hΦ : ∀ z S0 H0, Φ z S0 H0 → p z) (hc : X.calm = true) (hN : X.N.Nodup) (hi : X.N[i]? = some x) (hj : X.N[j]? = some y) (hij : i ≠ j)
    (hx : X.env.scope.names.lookup x = some .local) (hy : X.env.scope.names.lookup y = some .local) (ha : DF X Φ a ma) (hb : DF X (PhiZ p) b mb)
    (hw : swappedStores [.Tuple [.Name x px, .Name y py] kt pt] (.Tuple [a, b] k2 pt2) X.env = pure (some [x, y]))
    (hs : swapsWithSole [.Tuple [.Name x px, .Name y py] kt pt] (.Tuple [a, b] k2 pt2) pos.line X.env = pure false := by rfl) (s1 : starEach [a, b] X.env = (false, eval a X.env) :: starEach [b] X.env := by rfl) (s2 : starEach [b] X.env = (false, eval b X.env) :: starEach [] X.env := by rfl) :
    DS X Φ (.Assign [.Tuple [.Name x px, .Name y py] kt pt] (.Tuple [a, b] k2 pt2) pos) (mParFF i j ma mb) := by
  refine ⟨fun env k k' h q => ha.mono env (fun o e1 q => hb.mono _ (fun d e2 q => ⟨q.1, h.nx _ q.2⟩) q) q, ps_imp (ps_par hc hN hi hj hij hx hy (pa_cons ha.pe (pa_cons hb.pe pa_nil s2) s1) hw hs) fun E σ H ⟨z, S0, H0, ps, env, r, q⟩ => ⟨z, S0, H0, ps, env, r, ha.mono env (fun o e1 q => ?_) q⟩⟩
  intro p1 ho H1 r1 x1 hp hp1 iw
  refine ⟨z, Sx S0 (ps ++ [some p1]), H1, _, _, r1.hidden (Φ' := PhiZ _) (hΦ _ _ _ r1.phi), hb.mono _ (fun o2 e2 q => ?_) q⟩
  intro p2 ho2 H2 r2 x2 hn2 hp2 iw2
  refine ⟨_, _, rfl, ?_⟩
  have ll : e1.sl.length ≤ ps.length := by rw [← r1.lens, r.lens]; exact r.lenp
  have x3 := mu_rep x2
  have r3 := r1.tempX hn2 x3 r2.sta hp2
  have n12 : p1 ≠ p2 := fun w => by rw [w, hn2] at hp1; cases hp1
  have sx : ∀ q, Sx S0 ((ps ++ [some p1]) ++ [some p2]) q → Sx (Sx S0 (ps ++ [some p1])) (List.replicate (ps ++ [some p1]).length none ++ [some p2]) q := fun q w => by
    rcases w with w | w
    · exact .inl (.inl w)
    · rcases List.mem_append.mp w with w | w
      · exact .inl (.inr w)
      · exact .inr (List.mem_append_right _ w)
  obtain ⟨k1, k2⟩ := ow_keep r1 x3 (List.mem_append_right _ (by simp)) hp1 iw
  have ev1 : Evx (hide (Sx S0 (ps ++ [some p1])) H1) (hide (Sx S0 ((ps ++ [some p1]) ++ [some p2])) H2) := fun q o w => by
    obtain ⟨n, w⟩ := hide_get.mp w
    have ne : q ≠ p2 := ne_of_none w hn2
    obtain ⟨o', e', v, _⟩ := x3 q o (fun w => n (.inl (r1.zs q w))) w
    refine .inr ⟨o', hide_get.mpr ⟨fun w => w.elim (fun w => n (.inl w)) fun w => ?_, e'⟩, v⟩
    rcases List.mem_append.mp w with w | w
    · exact n (.inr w)
    · exact ne (Option.some.inj (List.mem_singleton.mp w))
  have g1 : ((ps ++ [some p1]) ++ [some p2])[ps.length]? = some (some p1) := by simp
  have r4 := r3.take (j := ps.length) (i := i) g1 ll q.1.1 k1 (iw.evx ev1)
  have hi' : i < ps.length := Nat.lt_of_lt_of_le q.1.1 ll
  have g2 : ((((ps ++ [some p1]) ++ [some p2]).set ps.length none).set i (some p1))[ps.length + 1]? = some (some p2) := by
    rw [List.getElem?_set_ne (by omega), List.getElem?_set_ne (by omega)]
    simp
  have sub : ∀ q, some q ∈ (((ps ++ [some p1]) ++ [some p2]).set ps.length none).set i (some p1) → some q ∈ (ps ++ [some p1]) ++ [some p2] := fun q w => by
    rcases mem_set_some w with w | rfl
    · exact mem_set_none w
    · simp
  have iw3 : OwIs z X.K (hide (Sx S0 ((((ps ++ [some p1]) ++ [some p2]).set ps.length none).set i (some p1))) H2) ho2 o2 := iw2.evx (.of_same (hide_mono fun q w => sx q (w.imp id (sub q))))
  have r5 := r4.take (j := ps.length + 1) (i := j) g2 (by simp [DEnv.put]; omega) (by simp [DEnv.put]; exact q.1.2) hp2 iw3
  refine q.2 _ _ _ r5 ⟨fun q o hq e => ?_, fun q w => ?_⟩
  · obtain ⟨o1, g1, v1, t1⟩ := x1 q o hq e
    obtain ⟨o2, g2, v2, t2⟩ := x3 q o1 (fun w => hq (.inl w)) g1
    exact ⟨o2, g2, v1.trans v2, fun sq no => by
      have h := t1 sq no
      rw [t2 (.inl sq) (by rw [h]; exact no), h]⟩
  · have w2 : some q ∈ (ps ++ [some p1]) ++ [some p2] := by
      rcases mem_set_some w with w | rfl
      · exact sub q (mem_set_none w)
      · simp
    rcases List.mem_append.mp w2 with w | w
    · rcases List.mem_append.mp w with w | w
      · exact .inl w
      · cases List.mem_singleton.mp w; exact .inr hp
    · cases List.mem_singleton.mp w
      exact .inr (none_back r1 (x1.mono (fun _ h => h.imp id fun h => List.mem_append_left _ h) fun _ h => h) hn2)
end
/-! ### [.. for a, b in ..] -/
def compWP (i j : Nat) (t : MT) (me : ME) : List D → DEnv → List D → (List D → DEnv → Prop) → Prop
  | [], env, acc, k => k acc env
  | d :: ds, env, acc, k => ∃ x y, d = .tup [x, y] ∧ t ((env.put i (.da x)).put j (.da y)) fun b e2 => if b = true then me e2 fun y e3 => acc.length < sizeLine ∧ compWP i j t me ds { env with cr := e3.cr, mr := e3.mr } (acc ++ [y]) k else compWP i j t me ds { env with cr := e2.cr, mr := e2.mr } acc k
def mLcP (i j : Nat) (mi : MI) (t : MT) (me : ME) : ME := fun env k => mi env fun ds e => compWP i j t me ds (unE i (compE j e)) [] fun acc e2 => k (.lst acc) { e with cr := e2.cr, mr := e2.mr }
theorem compWP_mono {i j : Nat} {t : MT} {me : ME} (ht : ∀ env {k k' : Bool → DEnv → Prop}, (∀ d e, k d e → k' d e) → t env k → t env k') (hm : ∀ env {k k' : D → DEnv → Prop}, (∀ d e, k d e → k' d e) → me env k → me env k') :
    ∀ (ds : List D) env acc {k k' : List D → DEnv → Prop}, (∀ a e, k a e → k' a e) → compWP i j t me ds env acc k → compWP i j t me ds env acc k'
  | [], env, acc, k, k', h, q => h _ _ q
  | d :: ds, env, acc, k, k', h, q => by
    unfold compWP at q ⊢
    obtain ⟨x, y, e, q⟩ := q
    refine ⟨x, y, e, ht _ (fun b e2 q => ?_) q⟩
    cases b with
    | true => exact hm e2 (fun y e3 q => ⟨q.1, compWP_mono ht hm ds _ _ h q.2⟩) q
    | false => exact compWP_mono ht hm ds _ _ h q
abbrev gPair (K : PySem.W.Frag) (i j : Nat) : TG := gTup K 2 (gCons (gName i) (gCons (gName j) gNil))
section
variable {X : Cx} {Φ : Phi}
theorem lcP_of {p : Z → Prop} (hw : ∀ z S0 H0, Φ z S0 H0 → p z) {i j : Nat} (hij : i ≠ j) {K : PySem.W.Frag} {mi : MI} {t : MT} {me : ME} (hmi : ∀ env {k k' : List D → DEnv → Prop}, (∀ d e, k d e → k' d e) → mi env k → mi env k')
    (ht : ∀ env {k k' : Bool → DEnv → Prop}, (∀ d e, k d e → k' d e) → t env k → t env k') (hm : ∀ env {k k' : D → DEnv → Prop}, (∀ d e, k d e → k' d e) → me env k → me env k') {σ : L2.St} {H : Hp} {Q : VK}
    (q : tD Φ K (mLcP i j mi t me) σ H Q) : tLc (tDI Φ K mi) (gPair K i j) (tDT (PhiZ p) K t) (tD (PhiZ p) K me) [i, j] σ H Q := by
  obtain ⟨z, S0, H0, ps, env, r, q⟩ := q
  refine ⟨z, S0, H0, ps, env, r, hmi env (fun ds e1 q => ?_) q⟩
  intro J H1 r1 x1 wl D' hD
  have hz := r1.sta.noneNe hD
  have nD : ¬ Sx S0 ps D' := fun w => r1.dom D' w hD
  let S1 := Sx S0 (ps ++ [some D'])
  let n := e1.sl.length
  have sub1 : ∀ p, Sx S0 ps p → S1 p := fun p w => w.imp id fun w => List.mem_append_left _ w
  refine ⟨fun l m H2 => ∃ env2 acc ys, Rel (PhiZ p) z S1 H2 K (List.replicate n none) env2 (wipe σ [i, j]) H2 ∧ Ext (Zs z) (Sx S0 ps) H1 H2 ∧ H2 D' = some (.lst ys) ∧ IsA z K (hide S1 H2) ys acc ∧ m = ds.length - l ∧ l ≤ ds.length ∧
      compWP i j t me (ds.drop l) env2 acc _,
    ⟨ds.length, _, [], [], (r1.block (i := j) (Φ' := PhiZ p) (hw _ _ _ r1.phi) hD).un i, .of_same (same_upd hD), upd_same, .nil, rfl, Nat.zero_le _, q⟩, ?_⟩
  rintro l m H2 ⟨env2, acc, ys, r2, x2, hD2, i2, rfl, hj, q2⟩
  have st2 : Step z S0 ps H1 (ps ++ [some D']) H2 := ⟨x2.loc, fun p w => by
    rcases List.mem_append.mp w with w | w
    · exact .inl w
    · simp at w; exact .inr (by rw [w]; exact hD)⟩
  by_cases hlt : l < ds.length
  · obtain ⟨g1, g2⟩ := wl.go _ H2 l ds[l] (st2.seen r1.zs) (fun p w => r2.dom p (.inl w)) (List.getElem?_eq_getElem hlt)
    rw [List.drop_eq_getElem_cons hlt] at q2
    unfold compWP at q2
    obtain ⟨dx, dy, ed, q2⟩ := q2
    refine .inr ⟨g1, fun H3 => ∃ env3 acc3 ys3, Rel (PhiZ p) z S1 H3 K (List.replicate n none) env3 (wipe σ [i, j]) H3 ∧ Ext (Zs z) (Sx S0 ps) H1 H3 ∧ H3 D' = some (.lst ys3) ∧ IsA z K (hide S1 H3) ys3 acc3 ∧
      compWP i j t me (ds.drop (l + 1)) env3 acc3 _,
      fun H3 ⟨env3, acc3, ys3, w1, w2, w3, w4, w5⟩ => ⟨ds.length - (l + 1), by omega, env3, acc3, ys3, w1, w2, w3, w4, rfl, hlt, w5⟩, fun x H3 y => ?_⟩
    obtain ⟨y1, y2⟩ := g2 x H3 y
    have r3 := (r2.same y1).rebase r2.phi
    have y3 : Is z K (hide (Sx S1 (List.replicate n none)) H3) x ds[l] := y2.evx (.of_same (hide_mono fun p w => w.elim id fun w => absurd w none_rep))
    rw [ed] at y3
    cases y3 with
    | tup gt it =>
      cases it with
      | cons a1 it =>
        cases it with
        | cons a2 it =>
          cases it
          have r4 := r3.put (i := i) a1
          rw [set_rep] at r4
          have r4' := r4.put (i := j) a2
          rw [set_rep] at r4'
          refine ⟨_, _, rfl, sqT_hide gt, rfl, _, _, rfl, _, _, rfl, rfl, ?_⟩
          refine ⟨?_, z, S1, H3, List.replicate n none, _, r4', ht _ (fun b e5 q5 => ?_) q2⟩
          · show List.set (List.set (List.set (List.set (List.set (List.set σ j none) i none) i _) j _) j none) i none = List.set (List.set σ j none) i none
            apply List.ext_getElem?
            intro k
            simp only [List.getElem?_set, List.length_set]
            split <;> split <;> (try rfl) <;> (try omega) <;> (repeat (first | rfl | split))
          intro H5 r5 x5
          have z5 : Ext (Zs z) S1 H3 H5 := x5.mono (fun p w => w.elim id fun w => absurd w none_rep) fun _ w => w
          have fin : ∀ {cr : Nat} {mk : Option Int} {H6 : Hp}, Ext (Zs z) S1 H3 H6 → Sta z cr mk H6 → Rel (PhiZ p) z S1 H6 K (List.replicate n none) { env2 with cr := cr, mr := mk } (wipe σ [i, j]) H6 ∧ Ext (Zs z) (Sx S0 ps) H1 H6 ∧ H6 D' = some (.lst ys) ∧ IsA z K (hide S1 H6) ys acc := by
            intro cr mk H6 e6 s6
            have hnz : ¬ Zs z D' := fun w => nD (.inl (r1.zs _ w))
            obtain ⟨o, h6, v6, _⟩ := e6 D' _ hnz (y1.same _ _ hD2)
            rw [v6.lst] at h6
            refine ⟨(r3.call (e6.mono (fun _ w => w) fun p w => w.elim id fun w => absurd w none_rep) s6).rebase r2.phi, x2.trans ((Ext.of_same y1.same).trans (e6.mono (fun _ w => w) sub1)), h6, i2.evx ?_⟩
            exact (Evx.of_same (hide_keep y1.same)).trans (e6.hide fun p w => .inl (r1.zs p w))
          cases b with
          | true =>
            refine ⟨z, S1, H3, List.replicate n none, e5, r5, hm e5 (fun y e6 q6 => ?_) q5⟩
            intro v H6 r6 x6 i6
            have z6 : Ext (Zs z) S1 H5 H6 := x6.mono (fun p w => w.elim id fun w => absurd w none_rep) fun _ w => w
            obtain ⟨f1, f2, f3, f4⟩ := fin (z5.trans z6) r6.sta
            have hS1 : S1 D' := .inr (by simp)
            have same : Evx (hide S1 H6) (hide S1 (upd H6 D' (.lst (ys ++ [v])))) := .of_same fun b u e => by
              obtain ⟨k, e⟩ := hide_get.mp e
              have ne : b ≠ D' := fun w => k (by rw [w]; exact hS1)
              exact hide_get.mpr ⟨k, by rw [upd_ne ne]; exact e⟩
            refine ⟨ys, f3, by rw [f4.length]; exact q6.1, _, _, _, f1.hid hS1 hz (nostab_at f3 nostab_lst) r2.phi, ?_, upd_same, ?_, q6.2⟩
            · intro p o hp e
              have ne : p ≠ D' := ne_of_none e hD
              rw [upd_ne ne]
              exact f2 p o hp e
            · refine (f4.append (.cons ?_ .nil)).evx same
              exact i6.evx (.of_same (hide_mono fun p w => .inl w))
          | false =>
            obtain ⟨f1, f2, f3, f4⟩ := fin z5 r5.sta
            exact ⟨_, _, _, f1, f2, f3, f4, q5⟩
  · have e : l = ds.length := by omega
    subst e
    rw [List.drop_length] at q2
    unfold compWP at q2
    refine .inl ⟨wl.stop _ H2 _ (st2.seen r1.zs) (Nat.le_refl _), q2 _ _ (r1.call x2 r2.sta) (x1.trans x2.loc) ?_⟩
    exact .lst (hide_get.mpr ⟨nD, hD2⟩) (i2.evx (.of_same (hide_mono fun p w => w.imp id fun w => List.mem_append_left _ w)))
theorem mLcP_mono {i j : Nat} {mi : MI} {t : MT} {me : ME} (hmi : ∀ env {k k' : List D → DEnv → Prop}, (∀ d e, k d e → k' d e) → mi env k → mi env k')
    (ht : ∀ env {k k' : Bool → DEnv → Prop}, (∀ d e, k d e → k' d e) → t env k → t env k') (hm : ∀ env {k k' : D → DEnv → Prop}, (∀ d e, k d e → k' d e) → me env k → me env k') :
    ∀ env {k k' : D → DEnv → Prop}, (∀ d e, k d e → k' d e) → mLcP i j mi t me env k → mLcP i j mi t me env k' := fun env k k' h q => hmi env (fun ds e q => compWP_mono ht hm ds _ _ (fun a e2 q => h _ _ q) q) q
theorem de_lcP {p : Z → Prop} {elt iter : Expr} {ifs : List Expr} {scope : Scope} {x y : Str} {px py tp : Pos} {kt : Nat} {i j : Nat} {pos : Pos} {mi : MI} {t : MT} {me : ME} (hw : ∀ z S0 H0, Φ z S0 H0 → p z) (hij : i ≠ j) (hc : X.calm = true) (hN : X.N.Nodup) (hi : DI X Φ (.Tuple [.Name x px, .Name y py] kt tp) iter mi) (ok : BlkOk X.N X.env.scope scope [(x, i), (y, j)])
    (hg : ∀ (s : Shared) (H : Hp) (C : Addr) (cl : List (Str × Addr)) (fp : List Addr), PG (X.blk s H scope (compEnvC scope cl C X.env) fp) (.Tuple [.Name x px, .Name y py] kt tp) (gPair X.K i j))
    (ht : ∀ (s : Shared) (H : Hp) (C : Addr) (cl : List (Str × Addr)) (fp : List Addr), DTs (X.blk s H scope (compEnvC scope cl C X.env) fp) (PhiZ p) ifs t)
    (he : ∀ (s : Shared) (H : Hp) (C : Addr) (cl : List (Str × Addr)) (fp : List Addr), DE (X.blk s H scope (compEnvC scope cl C X.env) fp) (PhiZ p) elt me) (hs : ∀ x, foldedSetIterable iter X.env x = pure x := by intro _; rfl) :
    DE X Φ (.ListComp elt [⟨.Tuple [.Name x px, .Name y py] kt tp, iter, ifs, 0⟩] scope pos) (mLcP i j mi t me) :=
  ⟨mLcP_mono hi.mono (ht X.s_0 (fun _ => none) 0 [] []).mono (he X.s_0 (fun _ => none) 0 [] []).mono,
   pe_imp (pe_lc hc hN hi.pi ok hg (fun s H C cl fp => (ht s H C cl fp).pts) (fun s H C cl fp => (he s H C cl fp).pe) hs) fun _ _ _ q => lcP_of hw hij hi.mono (ht X.s_0 (fun _ => none) 0 [] []).mono (he X.s_0 (fun _ => none) 0 [] []).mono q⟩
theorem pg_pair {i j : Nat} {x y : Str} {px py pos : Pos} {kt : Nat} (hc : X.calm = true) (hN : X.N.Nodup) (hi : X.N[i]? = some x) (hx : Loc X.env.scope x) (hj : X.N[j]? = some y) (hy : Loc X.env.scope y)
    (hf : X.fn x = true ∨ X.env.scope.names.lookup x = some .local := by first | exact .inl rfl | exact .inr rfl | assumption) (hf2 : X.fn y = true ∨ X.env.scope.names.lookup y = some .local := by first | exact .inl rfl | exact .inr rfl | assumption)
    (hn : (assignEach [.Name x px, .Name y py] X.env).length = 2 := by rfl) (hst : (assignEach [.Name x px, .Name y py] X.env).findIdx? (·.1) = none := by rfl)
    (h1 : (assignEach [.Name x px, .Name y py] X.env).map (·.2) = assign (.Name x px) X.env :: (assignEach [.Name y py] X.env).map (·.2) := by rfl) (h2 : (assignEach [.Name y py] X.env).map (·.2) = assign (.Name y py) X.env :: (assignEach [] X.env).map (·.2) := by rfl) :
    PG X (.Tuple [.Name x px, .Name y py] kt pos) (gPair X.K i j) := pg_tup hc (pgs_cons (pg_name (i := i) hN hi hx hf) (pgs_cons (pg_name (i := j) hN hj hy hf2) pgs_nil h2) h1) hn hst
end
end DL
namespace DL
open PySem L2 PySem.Spec PyProof.Rows
/-- a def in the module that gives data or new objects (errors too) -/
structure OkX (P : Program) (w : World) (K : PySem.W.Frag) (mg : Str → Option Value) (base : Heap) (x : Str) (st : Stmt) (k : Nat) (ps : List Str) (W : WFX) : Prop where
  ex : ∃ f fd, Fun K x x st f fd ∧ FnX P w K mg base k f fd ps W ∧ mg x = some (.ref f) ∧ Binds K fd ps []
theorem OkX.mk' {P : Program} {w : World} {K : PySem.W.Frag} {mg : Str → Option Value} {base : Heap} {x : Str} {st : Stmt} {k : Nat} {ps : List Str} {W : WFX} {f : Addr} {fd : FuncData} (a : At K mg x st f fd) (b : Binds K fd ps []) (F : FnX P w K mg base k f fd ps W) : OkX P w K mg base x st k ps W := ⟨f, fd, a.fn, F, a.mg, b⟩
theorem takesNo {X : Cx} : Takes X fun _ _ _ _ => False := fun u s' ⟨a, B, sI, pins, σ, H, cls, d, e, I, nb, up, sky, na, os, ag, w⟩ => w.elim
abbrev kNo : D → Nat → Prop := fun _ _ => False
section
variable {X : Cx} {Φ : Phi} {x : Str} {p pos : Pos}
theorem de_okX {st : Stmt} {k : Nat} {ps : List Str} {W : WFX} {e : Expr} {es : List Expr} {n : MA} (o : OkX X.prog X.w X.K X.mg X.base x st k ps W) (hr : Room k X.A) (hgd : X.A.guards = some []) (ha : DA X Φ (e :: es) n) (hw : PhiOk Φ X.w := by first | exact fun _ _ _ h => h | exact fun _ _ _ h => h.1) (hg : Gl X x := by rfl)
    (hdb : (x == ("__debug__" : Str)) = false := by decide) (he : starEach (e :: es) X.env = (false, eval e X.env) :: starEach es X.env := by rfl) (hpl : (backTo pos (starEach es X.env)).any (·.1) = false := by rfl) : DE X Φ (.Call (.Name x p) (e :: es) [] pos) (mCallX W kNo n) := by
  obtain ⟨f, fd, a, F, m, b⟩ := o.ex
  exact de_callX F hr hgd takesNo (phiE0 hw) hg m a.kp b ha hdb he hpl
theorem df_okX {st : Stmt} {k : Nat} {ps : List Str} {W : WFX} {e : Expr} {es : List Expr} {n : MA} (o : OkX X.prog X.w X.K X.mg X.base x st k ps W) (hr : Room k X.A) (hgd : X.A.guards = some []) (ha : DA X Φ (e :: es) n) (hw : PhiOk Φ X.w := by first | exact fun _ _ _ h => h | exact fun _ _ _ h => h.1) (hg : Gl X x := by rfl)
    (hdb : (x == ("__debug__" : Str)) = false := by decide) (he : starEach (e :: es) X.env = (false, eval e X.env) :: starEach es X.env := by rfl) (hpl : (backTo pos (starEach es X.env)).any (·.1) = false := by rfl) : DF X Φ (.Call (.Name x p) (e :: es) [] pos) (mCallXF W kNo n) := by
  obtain ⟨f, fd, a, F, m, b⟩ := o.ex
  exact df_callX F hr hgd takesNo (phiE0 hw) hg m a.kp b ha hdb he hpl
theorem de_okKX {st : Stmt} {k : Nat} {ps : List Str} {W : WFX} {kws : List Keyword} {ks : List Str} {js : List Nat} {n : MA} (o : OkX X.prog X.w X.K X.mg X.base x st k ps W) (hr : Room k X.A) (hgd : X.A.guards = some [])
    (h : ∀ (kV doc pm : Value) (an : Option Addr) (cdv ct : Value) (us : List Value), us.length = ks.length → bindArgs (PySem.W.fnOf x x (defArgs st) (defBody st) (defScope st) .none kV doc pm an cdv ct) ⟨[], ks.zip us⟩ = pure (ps.zip (perm js us)))
    (hkw : DK X Φ kws n) (hw : PhiOk Φ X.w := by first | exact fun _ _ _ h => h | exact fun _ _ _ h => h.1) (hg : Gl X x := by rfl) (hall : (backToKw pos (keywordEach kws X.env)).all (·.1.isSome) = true := by rfl) (hks : (backToKw pos (keywordEach kws X.env)).filterMap (·.1) = ks := by rfl)
    (hdb : (x == ("__debug__" : Str)) = false := by decide) (hpl : ((backTo pos (starEach [] X.env)).any (·.1) || (backToKw pos (keywordEach kws X.env)).any (·.1.isNone)) = false := by rfl) :
    DE X Φ (.Call (.Name x p) [] kws pos) (mCallKX W kNo ks.length js n) := by
  obtain ⟨f, fd, a, F, m, b⟩ := o.ex
  exact de_callKX F hr hgd takesNo (phiE0 hw) hg m a.kp (kwB (mg := X.mg) a h) hkw hall hks hdb hpl
end
section
variable {P : Program} {w : World} {K : PySem.W.Frag} {mg : Str → Option Value} {base : Heap}
/-- a def that raises nothing and may give a new object -/
theorem fnXP_of {x qual : Str} {st : Stmt} {f : Addr} {fd : FuncData} {N ps : List Str} {k : Nat} {W : WFX} (F : Fun K x qual st f fd) (S : FnScope N ps (defScope st)) (gd : GoodX W ps.length)
    (hbody : ∀ (cdv : Value) (A : Around) (outer : List Env) (s : Shared) (H : Hp), Room k (cxD P w K mg base N qual (defScope st) f cdv A outer s H).A → (cxD P w K mg base N qual (defScope st) f cdv A outer s H).A.guards = some [] →
      ∃ m, DSs (cxD P w K mg base N qual (defScope st) f cdv A outer s H) (PhiW w) (defBody st) m ∧ ∀ ds n kk kx, W ds n kk kx → m (startE N.length ds n) { nx := fun e => kk (.da .non) e.cr, rt := fun d e => kk (.da d) e.cr, rf := fun o e => kk (.ow o) e.cr }) : FnX P w K mg base (k + 1) f fd ps W := by
  obtain ⟨oc, od, kV, doc, pm, an, cdv, ct, osl, rfl, lk, hcd⟩ := F.ex
  refine ⟨gd, fun A outer s H args us vs Q E hr hgd e0 hb r hsp => ?_⟩
  obtain ⟨z, S0, ds, n, h0, h1, h2, h3, h4, h5⟩ := hsp
  have hl : vs.length = ps.length := by rw [h4.length]; exact gd.2 _ _ _ _ h5
  have keep := fun b o e => (e0.bs b o e).1
  have KX : K.In s.heap := e0.mod.kin.keeps keep
  have lim : s.heap.NoLimit := e0.mod.nolimit.keeps keep
  obtain ⟨m, hm, hq⟩ := hbody cdv A outer s H (hr.deeper _) (deeper_guards hgd)
  refine codeAny_call_function hr.depth (KX _ _ lk) rfl S.co S.gen rfl (PySem.W.codeRec_of KX hcd) (hb _ _ _ _ ?_)
  refine wpAny_newFunctionEnv_cells S.kind (fun y hy => ?_) fun env he s1 x => ?_
  · rcases S.par y.1 (List.of_mem_zip hy).1 with q | q
    · exact .inl q
    · exact .inr ⟨q, PySem.W.cellsFrom_some _ _ _ (.inl q)⟩
  · subst he
    refine ⟨lim.keeps x.toInCall.keep, codeAny_func ?_⟩
    have I0 : Inv (cxOf CX0 P w K mg base N qual (defScope st) f cdv A outer s H E0) [] (L2.start N vs) H s1 := inv_start S hr.hd e0 hl r x
    have I : Inv (cxD P w K mg base N qual (defScope st) f cdv A outer s H) [] (L2.start N vs) H s1 := I0.wish _
    have rl := rel_start (Φ := PhiW w) (N := N) h0.1 h1 h2 h3 h4
    have done : ∀ {H' : Hp} {σ' : L2.St} {v : V} {u : Value} {s' : Shared}, Inv (cxD P w K mg base N qual (defScope st) f cdv A outer s H) [] σ' H' s' → RelV v u → Q v H' → CE outer P w H s Q u s' := fun J rv q => ⟨_, _, J.os, J.bare, J.base, J.hok, rv, q⟩
    have hrun := hm.ps.run [] s1 (L2.start N vs) H { nx := fun _ H' => Q .non H', rt := Q } I ⟨z, S0, H, _, _, rl, hm.mono _ ?_ (hq ds n _ _ h5)⟩
    · refine wpAny_mono hrun (fun fl s' hs => ?_) fun e s' hs => hs.elim
      match fl, hs with
      | .ret u, ⟨v, σ', H', J, rv, q⟩ => exact done J rv q
      | .next, ⟨σ', H', J, q⟩ => exact done (v := V.non) (u := Value.none) J rfl q
      | .brk, ⟨_, _, _, q⟩ => exact q.elim
      | .cont, ⟨_, _, _, q⟩ => exact q.elim
    · refine ⟨fun e q ps' σ' H' r' st' => ?_, fun d e q ps' v σ' H' r' i' => ?_, fun e q => q.elim, fun e q => q.elim, fun o e q p ho H' h0 hp iw x st => q p ho H' h0 hp iw x st.wk⟩
      · exact q .non H' r'.ext r'.sta.wk .non
      · exact q v H' r'.ext r'.sta.wk (i'.evx (.of_same (hide_mono fun p w => .inl w)))
end
/-- x is True -/
def isBW (neg : Bool) : W2 := fun x y k => match x, y with
  | .bl a, .bl b => k (.bl (if neg then !decide (a = b) else decide (a = b)))
  | _, _ => False
theorem od_isB {X : Cx} : OpD X (compareOp .Is) (isBW false) := by
  refine ⟨fun x y k k' h q => ?_, fun pins s σ H x y v u Q I rx ry ⟨z, S, dx, dy, hS, hx, hy, q⟩ => ?_⟩
  · unfold isBW at q ⊢
    split <;> simp_all
  · unfold isBW at q
    split at q
    · cases hy; cases hx
      exact op_is_bl pins s σ H _ _ v u Q I rx ry ⟨_, _, rfl, rfl, q _ H (Grow.refl H) (.bl _)⟩
    · exact q.elim
theorem od_notB {X : Cx} : OpD X (compareOp .IsNot) (isBW true) := by
  refine ⟨fun x y k k' h q => ?_, fun pins s σ H x y v u Q I rx ry ⟨z, S, dx, dy, hS, hx, hy, q⟩ => ?_⟩
  · unfold isBW at q ⊢
    split <;> simp_all
  · unfold isBW at q
    split at q
    · cases hy; cases hx
      exact op_isnot_bl pins s σ H _ _ v u Q I rx ry ⟨_, _, rfl, rfl, q _ H (Grow.refl H) (.bl _)⟩
    · exact q.elim
end DL
namespace DL
open PySem L2 PySem.Spec PyProof.Rows
/-! ### an error that is caught is kept -/
section
variable {X : Cx} {pins : List (Addr × Obj)} {σ : L2.St} {H : Hp} {s : Shared}
/-- an object that is new since the def began is known from now on -/
theorem inv_track {a : Addr} {oe : Obj} {vs : Array Value} (I : Inv X pins σ H s) (ha : s.heap.get? a = some oe) (hd : oe.data = .fields vs) (na : H a = none) (n0 : X.s_0.heap.get? a = none) (np : ∀ p ∈ X.pn ++ pins, p.1 ≠ a) (nL : a ≠ X.env.locals) :
    Inv X pins σ (L2.upd H a (.frz oe (exU a))) s := by
  have ne : ∀ b u, H b = some u → b ≠ a := fun b u e => ne_of_none e na
  have at_ : ∀ b u, H b = some u → (L2.upd H a (.frz oe (exU a))) b = some u := fun b u e => by rw [upd_ne (ne b u e)]; exact e
  have z0 : ∀ b o, X.s_0.heap.get? b = some o → b ≠ a := fun b o e w => by rw [w, n0] at e; cases e
  refine ⟨I.ok, I.os, I.bare, ⟨I.base.keep, I.base.slot, fun b o e n hx => ?_, I.base.there, fun b xs e => at_ b _ (I.base.tups b xs e), fun b o u e => at_ b _ (I.base.frzs b o u e), fun b ps e => ?_⟩, I.loc, I.cell, ?_, fun x c e => ?_, fun p hp => ?_, fun b u e => ?_, I.len⟩
  · rw [upd_ne (z0 b o e)]; exact I.base.free b o e n hx
  · obtain ⟨m, q⟩ := I.base.tbls b ps e
    exact ⟨m, at_ b _ q⟩
  · rw [upd_ne nL.symm]; exact I.free
  · have hc : c ≠ a := fun w => by
      obtain ⟨v, o, ho, hdc⟩ := I.cell x c e
      rw [w, ha] at ho; cases ho
      rw [hd] at hdc; cases hdc
    rw [upd_ne hc]; exact I.freeC x c e
  · obtain ⟨h1, h2, h3, h4, h5⟩ := I.pin p hp
    exact ⟨h1, by rw [upd_ne (np p hp)]; exact h2, h3, h4, h5⟩
  · by_cases hb : b = a
    · subst hb
      rw [upd_same] at e; cases e
      exact ⟨ha, ⟨oe, ha⟩, ⟨oe, ha⟩, fun h1 h2 ⟨o, q⟩ k => ⟨o, k o q⟩⟩
    · rw [upd_ne hb] at e
      exact (I.hok b u e).stay (fun _ _ _ q => q) (fun c q => at_ c _ q) fun c xs q => at_ c _ q
theorem inv_suiteT (I : Inv X pins σ H s) (a : Addr) : Inv (X.suite a (X.pn ++ pins)) [] σ H s :=
  ⟨I.ok.suite _ _, I.os, I.bare, I.base, I.loc, I.cell, I.free, I.freeC, fun p hp => I.pin p (by rw [List.append_nil] at hp; exact hp), I.hok, I.len⟩
theorem inv_unsuiteT {a : Addr} {pn' : List (Addr × Obj)} (I : Inv (X.suite a (X.pn ++ pins)) pn' σ H s) (ok : X.Ok) : Inv X pins σ H s :=
  ⟨ok, I.os, I.bare, I.base, I.loc, I.cell, I.free, I.freeC, fun p hp => I.pin p (List.mem_append_left _ hp), I.hok, I.len⟩
end
/-- what the clause 'except x as n' wishes of an error of the body, which is kept -/
def wKept (K : PySem.W.Frag) (c : Value) (i : Nat) (ts : Addr → TS) (Wout : WX) (D : Ends) : WX := fun cls d σ H =>
  ∃ b, PySem.W.exmOne K cls c = some b ∧ (b = true → ∀ a oe, H a = none → Zc cls d oe → (∃ vs, oe.data = .fields vs) → ts a { nx := fun σ' H' => D.nx (σ'.set i none) H', rt := D.rt, bk := fun σ' H' => D.bk (σ'.set i none) H', ct := fun σ' H' => D.ct (σ'.set i none) H' } (σ.set i (some (.ref a))) (L2.upd H a (.frz oe (exU a)))) ∧
    (b = false → Wout cls d σ H)
section
variable {X : Cx} {x n : Str} {c : Value} {i : Nat} {body suite : List Stmt} {b₀ : Stmt} {np pos pos' : Pos} {tb : WX → TS} {ts : Addr → TS} {Wout : WX}
theorem ps_try_kept (hs : X.stack = X.env :: X.outer) (hf : X.env.frame = some X.env.locals) (hx0 : X.ex = []) (hN : X.N.Nodup) (hi : X.N[i]? = some n) (hln : X.env.kindOf n = some .local) (hc : Names X x c) (tk : Takes X Wout)
    (hb : ∀ (W : WX) (pn : List (Addr × Obj)) (xe : Value → Shared → Prop), Takes (X.tr pn xe) W → PassesOwn (model X.prog X.w) X.A X.env xe → PSs (X.tr pn xe) body (tb W))
    (hsu : ∀ (a : Addr) (pn : List (Addr × Obj)), PSs (X.suite a pn) (b₀ :: suite) (ts a)) :
    PS X (.Try body [.ExceptHandler (some (.Name x np)) (some n) (b₀ :: suite) pos'] [] [] pos) (fun D σ H => tb (wKept X.K c i ts Wout D) D σ H) := by
  refine ⟨fun pins s σ H D I h => ?_⟩
  have ok := I.ok
  have hfr : X.A.frames = some (X.env :: X.outer) := by rw [ok.frames, hs]
  have hloc : Loc X.env.scope n := .inl hln
  refine wpAny_Try_except ?_
  refine wpAny_mono ((hb (wKept X.K c i ts Wout D) (X.pn ++ pins) (fun e s₁ => wpAny (model X.prog X.w) X.A (noteFrame e X.env) (fun _ s₂ => wpAny (model X.prog X.w) X.A (setFlight e none) (fun _ s₃ =>
    wpAny (model X.prog X.w) X.A (handleBy e X.env [.ExceptHandler (some (.Name x np)) (some n) (b₀ :: suite) pos']) (SP X pins D) X.xe s₃) X.xe s₂) X.xe s₁) (fun u s' xx => ?_) PassesOwn.looking).run [] s σ H D (I.toTry _) h) (fun f s1 hsp => ?_) (fun e s1 he => he)
  · obtain ⟨a, B, sI, pins', σ', H', cls, d, rfl, J', nb, up, sky, na, os, ag, b, hb1, hyes, hno⟩ := xx
    have J : Inv X pins σ' H' sI := J'.ofTry ok
    have sky' : Sky B (X.env :: X.outer) a (Zc cls d) X.env.locals s'.heap := by rw [← hs]; exact sky
    show wpAny (model X.prog X.w) X.A (noteFrame (.ref a) X.env) _ _ _
    refine Sky.land Zc.steady hfr hf sky' fun h3 fl3 up3 => ?_
    have J3 : Inv X pins σ' H' { s' with heap := h3 } := J.landed nb fl3.1 (up.trans up3) os ag
    obtain ⟨oe3, vs3, he3, hz3, hd3⟩ := fl3.there
    have notFr : ∀ {h : Heap} {o : Obj} {vs : Array Value}, h.FunFrames B (X.env :: X.outer) → h.get? a = some o → o.data = .fields vs → a ∉ frs (X.env :: X.outer) := fun {h o vs} ff e dd hm => by
      obtain ⟨_, o', e', hnf⟩ := ff.mem hm
      rw [e] at e'; cases e'
      exact hnf _ dd
    have nfr := notFr fl3.2.2.1 he3 hd3
    have nL : a ≠ X.env.locals := fun z => nfr (List.mem_filterMap.mpr ⟨X.env, List.mem_cons_self, by rw [hf, z]⟩)
    have nF : a ∉ X.fs := fun hm => by
      obtain ⟨e, he, q⟩ := List.mem_filterMap.mp hm
      exact nfr (List.mem_filterMap.mpr ⟨e, List.mem_cons_of_mem _ he, q⟩)
    have nI : sI.heap.get? a = none := by
      cases q : sI.heap.get? a with
      | none => rfl
      | some o =>
        have w := nb a o q (by rw [hs]; exact nfr)
        rw [fl3.2.1] at w; cases w
    have n0 : X.s_0.heap.get? a = none := by
      cases q : X.s_0.heap.get? a with
      | none => rfl
      | some o =>
        obtain ⟨o', w⟩ := J.base.there a o q (by rw [hx0]; exact fun z => nomatch z)
        rw [nI] at w; cases w
    have npn : ∀ p ∈ X.pn ++ pins, p.1 ≠ a := fun p hp w => by
      have q := (J.pin p hp).1
      rw [w, nI] at q; cases q
    have S3 := J3.suite he3 hd3 na nL nF
    refine wpAny_handleBy_cons (codeAny_handlers_test ?_) (by intro q; cases q)
    have LT : PySem.W.Looks (model X.prog X.w) h3 (typeOf (.ref a)) cls := fun A Q E s k q => wpAny_typeOf_ref (k _ _ he3) (by rw [hz3.1]; exact q)
    have LM := PySem.W.exm_one (M := model X.prog X.w) (J3.kIn) LT hb1
    have test : ∀ {Q : Value → Shared → Prop} {E : Value → Shared → Prop}, Q c { s' with heap := h3 } → wpAny (model X.prog X.w) (X.A.mark (some (.ref a))) (eval (.Name x np) X.env) Q E { s' with heap := h3 } := fun {Q E} q => by
      obtain ⟨hg, hdbg, hm | ⟨hm, hv, hnn⟩⟩ := hc
      · exact ld_glob (X := X.suite a ((a, oe3) :: (X.pn ++ pins))) S3 hg hm q hdbg
      · exact ld_blt (X := X.suite a ((a, oe3) :: (X.pn ++ pins))) S3 hg hm hv q hnn hdbg
    refine test (LM.here ?_)
    cases b with
    | true =>
      refine codeAny_handlers_suite_as ?_
      refine HandSPX.lands_againZ fl3 fun h4 fl4 up4 => ?_
      have J4 : Inv X pins σ' H' { s' with heap := h4 } := J.landed nb fl4.1 ((up.trans up3).trans up4) os ag
      obtain ⟨oe4, vs4, he4, hz4, hd4⟩ := fl4.there
      have J5 := inv_track J4 he4 hd4 na n0 npn nL
      have S4 := inv_suiteT J5 a
      refine store_ok (X := X.suite a (X.pn ++ pins)) (v := .ref a) S4 hN hi hloc rfl (fun s5 S5 => ?_) (.inr hln)
      refine wpAny_mono ((hsu a (X.pn ++ pins)).run [] s5 _ _ _ S5 (hyes rfl a oe4 na hz4 ⟨vs4, hd4⟩)) (fun f s6 hsp => ?_) (fun _ _ z => False.elim z)
      have end_ : ∀ {σ6 : L2.St} {H6 : Hp} {Q : Shared → Prop}, Inv (X.suite a (X.pn ++ pins)) [] σ6 H6 s6 → (∀ s7, Inv X pins (σ6.set i none) H6 s7 → Q s7) →
          wpAny (model X.prog X.w) X.A (do bindName X.env n .none; unbindBehindTheSuite X.env n pos') (fun _ s7 => Q s7) X.xe s6 := fun {σ6 H6 Q} S6 hq => gone_ok (inv_unsuiteT S6 ok) hN hi hln hq
      cases f with
      | next =>
        obtain ⟨σ6, H6, S6, q6⟩ := hsp
        exact end_ S6 fun s7 J7 => ⟨_, _, J7, q6⟩
      | brk =>
        obtain ⟨σ6, H6, S6, q6⟩ := hsp
        exact end_ S6 fun s7 J7 => ⟨_, _, J7, q6⟩
      | cont =>
        obtain ⟨σ6, H6, S6, q6⟩ := hsp
        exact end_ S6 fun s7 J7 => ⟨_, _, J7, q6⟩
      | ret u =>
        obtain ⟨v6, σ6, H6, S6, r6, q6⟩ := hsp
        exact end_ S6 fun s7 J7 => ⟨_, _, _, J7, r6, q6⟩
    | false =>
      show wpAny _ X.A (handleBy (.ref a) X.env []) _ _ _
      refine wpAny_handleBy_nil ?_
      obtain ⟨k1, k2, k3, oe, vs, T, oT, ts', he, hz, hd, h1, hr⟩ := id fl3
      unfold PySem.passOn
      refine wpAny_bind (wpAny_field he hd h1 ?_)
      rw [if_neg (show ¬ ((Value.ref T == Value.none) = true) from by simp)]
      have fin : wpAny (model X.prog X.w) X.A (setFlight (.ref a) X.env.frame) (fun _ s4 => wpAny (model X.prog X.w) X.A (throw (.ref a) : Sem Flow) (SP X pins D) X.xe s4) X.xe { s' with heap := h3 } := by
        rw [hf]
        refine HandSPX.setFlight_upZ fl3 fun h4 hh4 up4 => wpAny_throw (tk _ _ ?_)
        exact ⟨a, B, sI, pins, σ', H', cls, d, rfl, J, nb, (up.trans up3).trans up4, .inr (.inr (by rw [hs]; exact hh4)), na, os, ag, hno rfl⟩
      first
        | exact wpAny_bind (wpAny_pure (wpAny_bind fin))
        | exact wpAny_bind fin
  · cases f with
    | next =>
      obtain ⟨σ', H', J', q⟩ := hsp
      exact wpAny_execs_nil ⟨σ', H', J'.ofTry ok, q⟩
    | brk =>
      obtain ⟨σ', H', J', q⟩ := hsp
      exact ⟨σ', H', J'.ofTry ok, q⟩
    | cont =>
      obtain ⟨σ', H', J', q⟩ := hsp
      exact ⟨σ', H', J'.ofTry ok, q⟩
    | ret u =>
      obtain ⟨v, σ', H', J', r, q⟩ := hsp
      exact ⟨v, σ', H', J'.ofTry ok, r, q⟩
end
end DL
namespace DL
open PySem L2 PySem.Spec PyProof.Rows
/-! ### lambdas -/
/-- the heap without the cells -/
def dropC (cs : List Addr) (H : Hp) : Hp := fun a => if a ∈ cs then none else H a
/-- the cells put back as they are in G -/
def putC (G : Hp) (cs : List Addr) (H : Hp) : Hp := fun a => if a ∈ cs then G a else H a
section
variable {P : Program} {w : World} {cs : List Addr} {H G H' : Hp} {h : Heap} {K : PySem.W.Frag} {mg : Str → Option Value} {base : Heap} {A : Around} {outer : List Env} {s : Shared}
theorem drop_in {a : Addr} (h : a ∈ cs) : dropC cs H a = none := if_pos h
theorem drop_out {a : Addr} (h : a ∉ cs) : dropC cs H a = H a := if_neg h
theorem put_in {a : Addr} (h : a ∈ cs) : putC G cs H a = G a := if_pos h
theorem put_out {a : Addr} (h : a ∉ cs) : putC G cs H a = H a := if_neg h
/-- what is known to the object -/
def FrzAt (cs : List Addr) (H : Hp) : Prop := ∀ c ∈ cs, ∃ ob φ, H c = some (.frz ob (.ext φ))
theorem FrzAt.off (f : FrzAt cs H) {a : Addr} {o : HO} (e : H a = some o) (n : ∀ ob φ, o ≠ .frz ob (.ext φ)) : a ∉ cs := fun w => by
  obtain ⟨ob, φ, e2⟩ := f a w
  rw [e] at e2; cases e2; exact n _ _ rfl
theorem hok_drop (f : FrzAt cs H) (x : HOk P w H h) : HOk P w (dropC cs H) h := fun a o e => by
  have na : a ∉ cs := fun w => by rw [drop_in w] at e; cases e
  rw [drop_out na] at e
  refine (x a o e).stay (fun _ _ _ q => q) (fun b q => ?_) fun b xs q => ?_
  · rw [drop_out (f.off q (fun _ _ w => by cases w))]; exact q
  · rw [drop_out (f.off q (fun _ _ w => by cases w))]; exact q
theorem env0_drop (f : FrzAt cs H) (e : Env0 P w K mg base A outer s H) : Env0 P w K mg base A outer s (dropC cs H) :=
  ⟨e.frames, e.mod, fun b o q => ⟨(e.bs b o q).1, by
    by_cases hb : b ∈ cs
    · exact drop_in hb
    · rw [drop_out hb]; exact (e.bs b o q).2⟩, e.bsz, e.funs, fun b hb => by
    by_cases hc : b ∈ cs
    · exact drop_in hc
    · rw [drop_out hc]; exact e.frf b hb, hok_drop f e.hok, e.bare⟩
theorem hok_put (f : FrzAt cs G) (hG : ∀ c ∈ cs, ∀ ob u, G c = some (.frz ob u) → h.get? c = some ob) (hx : ∀ c ∈ cs, ∀ ob φ, G c = some (.frz ob (.ext φ)) → φ h ∧ ∀ h1 h2 : Heap, φ h1 → (∀ o, h1.get? c = some o → h2.get? c = some o) → φ h2)
    (n : ∀ c ∈ cs, H' c = none) (x : HOk P w H' h) : HOk P w (putC G cs H') h := fun a o e => by
  by_cases ha : a ∈ cs
  · rw [put_in ha] at e
    obtain ⟨ob, φ, e2⟩ := f a ha
    rw [e2] at e; cases e
    have g := hG a ha _ _ e2
    obtain ⟨q1, q2⟩ := hx a ha _ _ e2
    exact ⟨g, q1, ⟨ob, g⟩, q2⟩
  · rw [put_out ha] at e
    have off : ∀ b u, H' b = some u → putC G cs H' b = some u := fun b u q => by
      have nb : b ∉ cs := fun w => by rw [n b w] at q; cases q
      rw [put_out nb]; exact q
    exact (x a o e).stay (fun _ _ _ q => q) (fun b q => off _ _ q) fun b xs q => off _ _ q
theorem frz_obj {h' : Heap} (hok : HOk P w H h) {c : Addr} {ob : Obj} {u : HO} (e : H c = some (.frz ob u)) : h.get? c = some ob := (hok c _ e).1
theorem frz_ext {h' : Heap} (hok : HOk P w H h) {c : Addr} {ob : Obj} {φ : Heap → Prop} (e : H c = some (.frz ob (.ext φ))) (k : ∀ o, h.get? c = some o → h'.get? c = some o) : φ h' ∧ ∀ h1 h2 : Heap, φ h1 → (∀ o, h1.get? c = some o → h2.get? c = some o) → φ h2 := by
  obtain ⟨_, q1, _, q2⟩ := hok c _ e
  exact ⟨q2 _ _ q1 k, q2⟩
theorem FrzAt.in_of (f : FrzAt cs H) {b : Addr} (n : H b = none) : b ∉ cs := fun w => by
  obtain ⟨ob, φ, e⟩ := f b w
  rw [n] at e; cases e
theorem ce_put {Q : VK} {u : Value} {s' : Shared} (f : FrzAt cs H) (hok : HOk P w H s.heap) (nfr : ∀ c ∈ cs, c ∉ frs outer) (h : CE outer P w (dropC cs H) s (fun v H' => (∀ c ∈ cs, H' c = none) → Q v (putC H cs H')) u s') : CE outer P w H s Q u s' := by
  obtain ⟨v, H', os, bare, un, hok', r, q⟩ := h
  have kc : ∀ c ∈ cs, ∀ o, s.heap.get? c = some o → s'.heap.get? c = some o := fun c hc o e => un.keep c o e (drop_in hc) (nfr c hc) (by simp)
  have nn : ∀ c ∈ cs, H' c = none := fun c hc => by
    obtain ⟨ob, φ, e⟩ := f c hc
    exact un.free c ob (frz_obj (h' := s.heap) hok e) (drop_in hc) (by simp)
  refine ⟨v, putC H cs H', os, bare, ⟨fun b o e n nf nx => ?_, fun b o e n nf nx => ?_, fun b o e n nx => ?_, un.there, fun b xs e => ?_, fun b o t e => ?_, fun b ts e => ?_⟩, ?_, r, q nn⟩
  · exact un.keep b o e (by rw [drop_out (f.in_of n)]; exact n) nf nx
  · exact un.slot b o e (by rw [drop_out (f.in_of n)]; exact n) nf nx
  · rw [put_out (f.in_of n)]
    exact un.free b o e (by rw [drop_out (f.in_of n)]; exact n) nx
  · have nb := f.off e (fun _ _ w => by cases w)
    rw [put_out nb]
    exact un.tups b xs (by rw [drop_out nb]; exact e)
  · by_cases hb : b ∈ cs
    · rw [put_in hb]; exact e
    · rw [put_out hb]; exact un.frzs b o t (by rw [drop_out hb]; exact e)
  · have nb := f.off e (fun _ _ w => by cases w)
    rw [put_out nb]
    exact un.tbls b ts (by rw [drop_out nb]; exact e)
  · refine hok_put f (fun c hc ob t e => kc c hc _ (frz_obj (h' := s.heap) hok e)) (fun c hc ob φ e => frz_ext hok e (kc c hc)) nn hok'
theorem cx_put {E : XK} {u : Value} {s' : Shared} (f : FrzAt cs H) (hok : HOk P w H s.heap) (nfr : ∀ c ∈ cs, c ∉ frs outer) (h : L2.CX P w outer (dropC cs H) s (fun cls d H' => (∀ c ∈ cs, H' c = none) → E cls d (putC H cs H')) u s') : L2.CX P w outer H s E u s' := by
  obtain ⟨a, B, H', cls, d, rfl, fl, hok', ub, na, os, ag, hE⟩ := h
  have kc : ∀ c ∈ cs, ∀ o, s.heap.get? c = some o → B.get? c = some o := fun c hc o e => ub.keep c o e (drop_in hc) (nfr c hc)
  have nn : ∀ c ∈ cs, H' c = none := fun c hc => by
    obtain ⟨ob, φ, e⟩ := f c hc
    exact ub.free c ob (frz_obj (h' := s.heap) hok e) (drop_in hc)
  refine ⟨a, B, putC H cs H', cls, d, rfl, fl, ?_, ⟨fun b o e n nf => ?_, ub.slot, fun b o e n => ?_, ub.there, fun b xs e => ?_, fun b o t e => ?_, fun b ts e => ?_⟩, ?_, os, ag, hE nn⟩
  · exact hok_put f (fun c hc ob t e => kc c hc _ (frz_obj (h' := s.heap) hok e)) (fun c hc ob φ e => frz_ext hok e (kc c hc)) nn hok'
  · exact ub.keep b o e (by rw [drop_out (f.in_of n)]; exact n) nf
  · rw [put_out (f.in_of n)]
    exact ub.free b o e (by rw [drop_out (f.in_of n)]; exact n)
  · have nb := f.off e (fun _ _ w => by cases w)
    rw [put_out nb]
    exact ub.tups b xs (by rw [drop_out nb]; exact e)
  · by_cases hb : b ∈ cs
    · rw [put_in hb]; exact e
    · rw [put_out hb]; exact ub.frzs b o t (by rw [drop_out hb]; exact e)
  · have nb := f.off e (fun _ _ w => by cases w)
    rw [put_out nb]
    exact ub.tbls b ts (by rw [drop_out nb]; exact e)
  · by_cases ha : a ∈ cs
    · obtain ⟨ob, φ, e⟩ := f a ha
      have := kc a ha _ (frz_obj (h' := s.heap) hok e)
      rw [fl.2.1] at this; cases this
    · rw [put_out ha]; exact na
end
/-! ### data without lambdas -/
mutual
def D.nolam : D → Bool
  | .tup ds => D.nolamA ds
  | .lst ds => D.nolamA ds
  | .dct _ ds => D.nolamA ds
  | .dcT _ ds => D.nolamA ds
  | .ins _ _ ds => D.nolamA ds
  | .frm f n => f.nolam && n.nolam
  | .fra f n => f.nolam && n.nolam
  | .exn _ _ ds => D.nolamA ds
  | .lam _ _ => false
  | _ => true
def D.nolamA : List D → Bool
  | [] => true
  | d :: ds => d.nolam && D.nolamA ds
end
section
variable {z z' : Z} {K : PySem.W.Frag} {G : Hp}
mutual
theorem Is.lm (h1 : z.q = z'.q) (h2 : z.fr = z'.fr) : ∀ {v : V} {d : D}, ((∀ l ∈ z.lm, l ∈ z'.lm) ∨ d.nolam = true) → Is z K G v d → Is z' K G v d
  | _, _, _, .non => .non
  | _, _, _, .bl b => .bl b
  | _, _, _, .int i => .int i
  | _, _, _, .str x => .str x
  | _, _, _, .ty n => .ty n
  | _, _, h, .tup e t => .tup e (IsA.lm h1 h2 (h.imp id fun w => by simpa [D.nolam] using w) t)
  | _, _, h, .lst e t => .lst e (IsA.lm h1 h2 (h.imp id fun w => by simpa [D.nolam] using w) t)
  | _, _, h, .dct e l k t => .dct e l k (IsA.lm h1 h2 (h.imp id fun w => by simpa [D.nolam] using w) t)
  | _, _, h, .dcT e l t => .dcT e l (IsA.lm h1 h2 (h.imp id fun w => by simpa [D.nolam] using w) t)
  | _, _, h, .ins e l t => .ins e l (IsA.lm h1 h2 (h.imp id fun w => by simpa [D.nolam] using w) t)
  | _, _, h, .frm e m f n => .frm e m (Is.lm h1 h2 (h.imp id fun w => by simp [D.nolam] at w; exact w.1) f) (Is.lm h1 h2 (h.imp id fun w => by simp [D.nolam] at w; exact w.2) n)
  | _, _, h, .fra e f n => .fra (h2 ▸ e) (Is.lm h1 h2 (h.imp id fun w => by simp [D.nolam] at w; exact w.1) f) (Is.lm h1 h2 (h.imp id fun w => by simp [D.nolam] at w; exact w.2) n)
  | _, _, _, .exn0 e n c d => .exn0 e n c d
  | _, _, _, .exnM e n c d x l => .exnM e n c d x l
  | _, _, h, .exn1 e n c d x l nn t => .exn1 e n c d x l nn (IsA.lm h1 h2 (h.imp id fun w => by simpa [D.nolam] using w) t)
  | _, _, h, .lam m t => by
    rcases h with h | h
    · exact .lam (h _ m) (IsA.lm h1 h2 (.inl h) t)
    · simp [D.nolam] at h
  | _, _, _, .scr e => .scr e
  | _, _, _, .sta e => .sta (h1 ▸ e)
  | _, _, _, .cls C => .cls C
theorem IsA.lm (h1 : z.q = z'.q) (h2 : z.fr = z'.fr) : ∀ {vs : List V} {ds : List D}, ((∀ l ∈ z.lm, l ∈ z'.lm) ∨ D.nolamA ds = true) → IsA z K G vs ds → IsA z' K G vs ds
  | _, _, _, .nil => .nil
  | _, _, h, .cons i t => .cons (Is.lm h1 h2 (h.imp id fun w => by simp [D.nolamA] at w; exact w.1) i) (IsA.lm h1 h2 (h.imp id fun w => by simp [D.nolamA] at w; exact w.2) t)
end
theorem IsX.lm (h1 : z.q = z'.q) (h2 : z.fr = z'.fr) {cls : Value} {d : Option Addr} {dx : D} (hl : ∀ l ∈ z.lm, l ∈ z'.lm) (h : IsX z K G cls d dx) : IsX z' K G cls d dx := by
  cases dx with
  | exn C ns ds =>
    obtain ⟨a, b⟩ := h
    refine ⟨a, b.imp id ?_⟩
    rintro ⟨p, xs, a, b, c, nn, i⟩
    exact ⟨p, xs, a, b, c, nn, i.lm h1 h2 (.inl hl)⟩
  | _ => exact h.elim
end
end DL
namespace DL
open PySem L2 PySem.Spec PyProof.Rows
theorem nodup_ix {α : Type} {l : List α} (h : l.Nodup) {i j : Nat} (hi : i < l.length) (hj : j < l.length) (e : l[i] = l[j]) : i = j := by
  have h := List.pairwise_iff_getElem.mp h
  rcases Nat.lt_trichotomy i j with w | w | w
  · exact absurd e (h i j hi hj w)
  · exact w
  · exact absurd e.symm (h j i hj hi w)
structure LamD.Ok (L : LamD) : Prop where
  kind : L.scope.kind = .function
  co : L.scope.isCoroutine = false
  gen : L.scope.isGenerator = false
  own : ∀ y ∈ L.scope.names, y.2 ≠ .local ∧ y.2 ≠ .cell
  bind : ∀ (cl : List (Str × Addr)) (pm cv ctv : Value), bindArgs (PySem.W.kla_fn "<lambda>" L.qual L.params L.body L.scope cl pm cv ctv) ⟨[], []⟩ = pure []
theorem LamIn.frz {f : Addr} {L : LamD} {vs : List V} {H : Hp} {clo : List (Str × Addr)} {pm : Value} {c' : Addr} {ctv : Value} {us : List Value} {cs : List Addr} (l : LamIn f L vs H clo pm c' ctv us cs) : FrzAt cs H := fun c hc => by
  obtain ⟨i, hi⟩ := List.getElem?_of_mem hc
  have hl : i < us.length := by rw [l.len]; exact (List.getElem?_eq_some_iff.mp hi).1
  obtain ⟨ob, φ, e, _⟩ := l.cell i c us[i] hi (List.getElem?_eq_getElem hl)
  exact ⟨ob, φ, e⟩
theorem LamAt.stay {f : Addr} {L : LamD} {vs : List V} {H H' : Hp} (k : ∀ p o, Stab o → H p = some o → H' p = some o) : LamAt f L vs H → LamAt f L vs H' := fun ⟨clo, pm, c', ctv, us, cs, l⟩ =>
  ⟨clo, pm, c', ctv, us, cs, k _ _ trivial l.fn, k _ _ trivial l.code, l.vals, l.clo, l.len, fun i c u h1 h2 => by
    obtain ⟨ob, φ, e, d⟩ := l.cell i c u h1 h2
    exact ⟨ob, φ, k _ _ trivial e, d⟩⟩
section
variable {P : Program} {w : World} {K : PySem.W.Frag} {mg : Str → Option Value} {base : Heap}
abbrev lamEnvN (L : LamD) (loc f c' : Addr) (clo : List (Str × Addr)) : Env := PySem.W.envX L.qual L.scope loc f (.ref c') clo
/-- the context of a lambda's body, its names those that it takes from around -/
def lamCxN (P : Program) (w : World) (K : PySem.W.Frag) (mg : Str → Option Value) (base : Heap) (L : LamD) (A : Around) (outer : List Env) (s : Shared) (H : Hp) (E : XK) (f c' : Addr) (clo : List (Str × Addr)) : Cx where
  prog := P
  w := w
  K := K
  mg := mg
  base := base
  A := A.deeper (lamEnvN L s.heap.objs.size f c' clo)
  N := L.free
  s_0 := s
  H_0 := H
  env := lamEnvN L s.heap.objs.size f c' clo
  outer := outer
  stack := lamEnvN L s.heap.objs.size f c' clo :: outer
  ex := []
  fn := fun _ => false
  calm := true
  pn := []
  xe := fun e s' => wpAny (model P w) (A.deeper (lamEnvN L s.heap.objs.size f c' clo)) (leaving (lamEnvN L s.heap.objs.size f c' clo) e) (fun _ s'' => L2.CX P w outer H s E e s'') (fun e' s'' => L2.CX P w outer H s E e' s'') s'
theorem mem_free {L : LamD} {n : Str} (h : L.scope.names.lookup n = some .free) : ∃ i : Nat, L.free[i]? = some n := by
  have hm := PySem.mem_of_lookup h
  have : n ∈ L.free := List.mem_map.mpr ⟨(n, .free), List.mem_filter.mpr ⟨hm, by simp⟩, rfl⟩
  exact List.getElem?_of_mem this
theorem lam_start3 {L : LamD} {A : Around} {outer : List Env} {s : Shared} {H : Hp} {E : XK} {f c' : Addr} {clo : List (Str × Addr)} {cs : List Addr} {us : List Value} {vs : List V} {h₁ : Heap} {tk : Nat} (ok : L.Ok) (e0 : Env0 P w K mg base A outer s (dropC cs H)) (hd : A.handled = none)
    (hc : CloAt L clo cs) (hv : Vals vs us) (hl : us.length = cs.length) (cell : ∀ (i : Nat) c u, cs[i]? = some c → us[i]? = some u → s.heap.IsCell c (some u)) (hns : h₁.Ns s.heap.objs.size fun y => ([] : List (Str × Value)).reverse.lookup y) (kp : ∀ b o, s.heap.get? b = some o → h₁.get? b = some o) :
    Inv (lamCxN P w K mg base L A outer s (dropC cs H) E f c' clo) [] (vs.map some) (dropC cs H) { s with heap := h₁, toks := tk } := by
  have noA : ∀ b : Addr, b ∉ (lamCxN P w K mg base L A outer s (dropC cs H) E f c' clo).ex := fun b z => absurd (show b ∈ ([] : List Addr) from z) (by simp)
  have ck : ∀ (i : Nat) c, cs[i]? = some c → ∃ u, us[i]? = some u ∧ h₁.IsCell c (some u) := fun i c e => by
    have hl : i < us.length := by rw [hl]; exact (List.getElem?_eq_some_iff.mp e).1
    obtain ⟨o, ho, hd⟩ := cell i c us[i] e (List.getElem?_eq_getElem hl)
    exact ⟨_, List.getElem?_eq_getElem hl, o, kp _ _ ho, hd⟩
  have at_ : ∀ {y : Str}, L.scope.names.lookup y = some .free → ∃ (i : Nat) (c : Addr), L.free[i]? = some y ∧ cs[i]? = some c ∧ clo.lookup y = some c := fun {y} h => by
    obtain ⟨i, hi⟩ := mem_free h
    have hl : i < cs.length := by rw [← hc.len]; exact (List.getElem?_eq_some_iff.mp hi).1
    exact ⟨i, cs[i], hi, List.getElem?_eq_getElem hl, hc.get i y _ hi (List.getElem?_eq_getElem hl)⟩
  have inj : ∀ x y c, clo.lookup x = some c → clo.lookup y = some c → x = y := fun x y c h1 h2 => by
    obtain ⟨i, a1, a2⟩ := hc.has x c h1
    obtain ⟨j, b1, b2⟩ := hc.has y c h2
    have : i = j := by
      obtain ⟨hi, ei⟩ := List.getElem?_eq_some_iff.mp a2
      obtain ⟨hj, ej⟩ := List.getElem?_eq_some_iff.mp b2
      exact nodup_ix hc.nd hi hj (ei.trans ej.symm)
    subst this
    rw [a1] at b1; exact Option.some.inj b1
  refine ⟨⟨e0.mod, ok.kind, rfl, rfl, Nat.le_refl _, inj, fun y hy => ?_, fun y c z _ => ?_, fun _ => hd, Around.frames_deeper e0.frames, .inr ⟨rfl, rfl⟩, fun b z => absurd z (noA b), e0.bs, e0.bsz, fun b _ _ => noA b,
      fun b z => absurd z (noA b), e0.funs, e0.frf⟩,
    rfl, e0.bare, Un.kept kp, ⟨_, hns, fun i y v e1 e2 e3 => ?_⟩, fun y c e => ?_, e0.hok.fresh (Nat.le_refl _), fun y c e => ?_, fun q hq => absurd (show q ∈ ([] : List (Addr × Obj)) ++ [] from hq) (by simp), e0.hok.kept kp, ?_⟩
  · have hy : L.scope.names.lookup y = some .cell ∨ L.scope.names.lookup y = some .free := hy
    rcases hy with hy | hy
    · exact absurd rfl (ok.own _ (PySem.mem_of_lookup hy)).2
    · obtain ⟨i, c, _, _, h3⟩ := at_ hy
      exact ⟨c, h3⟩
  · have z : false = true := z
    cases z
  · have e3 : Vis L.scope y := e3
    have e1 : L.free[i]? = some y := e1
    rcases e3 with k | k | k
    · exact absurd rfl (ok.own _ (PySem.mem_of_lookup k)).1
    · exact absurd rfl (ok.own _ (PySem.mem_of_lookup k)).2
    · have hl2 : i < cs.length := by rw [← hc.len]; exact (List.getElem?_eq_some_iff.mp e1).1
      obtain ⟨u, h1, h2⟩ := ck i cs[i] (List.getElem?_eq_getElem hl2)
      have e4 : vs[i]? = some v := by
        rw [List.getElem?_map] at e2
        cases e5 : vs[i]? with
        | none => rw [e5] at e2; cases e2
        | some x => rw [e5] at e2; simpa using e2
      obtain ⟨u', h3, h4⟩ := Vals.get hv e4
      rw [h1] at h3; cases h3
      exact ⟨u, h4, .inr ⟨.inr k, cs[i], hc.get i y _ e1 (List.getElem?_eq_getElem hl2), h2⟩⟩
  · obtain ⟨i, h1, h2⟩ := hc.has y c e
    obtain ⟨u, _, h3⟩ := ck i c h2
    exact ⟨_, h3⟩
  · obtain ⟨i, h1, h2⟩ := hc.has y c e
    exact drop_in (List.mem_of_getElem? h2)
  · show (vs.map some).length = L.free.length
    rw [List.length_map, hv.length, hl, hc.len]
end
end DL
namespace DL
open PySem L2 PySem.Spec PyProof.Rows
section
variable {P : Program} {w : World} {K : PySem.W.Frag} {mg : Str → Option Value} {base : Heap}
/-- what a lambda promises, of what it takes from around -/
structure FnL (P : Program) (w : World) (K : PySem.W.Frag) (mg : Str → Option Value) (base : Heap) (k : Nat) (L : LamD) (W : WFX) : Prop where
  good : GoodX W L.free.length
  nl : ∀ ds n q e, W ds n q e → D.nolamA ds = true
  run : ∀ (A : Around) (outer : List Env) (s : Shared) (H : Hp) (f : Addr) (vs : List V) (Q : VK) (E : XK), Room k A → A.guards = some [] → Env0 P w K mg base A outer s H → LamAt f L vs H → spX K w W vs H Q E →
    codeAny (model P w) A (.call (.ref f) ⟨[], []⟩) (CR (L2.CX P w) outer P w H s Q E) s
theorem FnL.up {j k : Nat} {L : LamD} {W : WFX} (F : FnL P w K mg base j L W) (h : j ≤ k) : FnL P w K mg base k L W :=
  ⟨F.good, F.nl, fun A outer s H f vs Q E hr => F.run A outer s H f vs Q E (hr.mono h)⟩
/-- z without the lambdas -/
abbrev Z.bare (z : Z) : Z := { z with lm := [], inv := fun _ => True, stay := by intros; trivial, lmi := fun _ _ _ _ h => by cases h }
theorem Zs.bare {z : Z} {p : Addr} : Zs z.bare p ↔ Zs z p := Iff.rfl
section
variable {z : Z} {cs : List Addr} {H H' : Hp} {S0 : Addr → Prop}
/-- hidden, but for the cells -/
def offC (cs : List Addr) (S0 : Addr → Prop) : Addr → Prop := fun p => S0 p ∧ p ∉ cs
theorem FrzAt.noZt {n : Nat} {mk : Option Int} (f : FrzAt cs H) (st : Sta z n mk H) {p : Addr} (h : Zt z p) : p ∉ cs := fun w => by
  obtain ⟨ob, φ, e⟩ := f p w
  obtain ⟨o, e2, ns⟩ := st.at h
  rw [e] at e2; cases e2
  exact ns trivial
theorem tabs_put (n : ∀ c ∈ cs, H' c = none) {T : List (Addr × Str)} (h : LamX.Tabs T H') : LamX.Tabs T (putC H cs H') := h.ext fun b o e => by
  have nb : b ∉ cs := fun w => by rw [n b w] at e; cases e
  rw [put_out nb]; exact e
theorem sta_drop {n : Nat} {mk : Option Int} (f : FrzAt cs H) (fn : LamX.Tabs z.tb (dropC cs H)) (st : Sta z n mk H) : Sta z.bare n mk (dropC cs H) :=
  ⟨fun q e => (st.dr q e).same fun p hp => drop_out (f.noZt st (.inl ⟨q, e, hp⟩)), fun a vf vn e => by
    obtain ⟨m, m0, h1, h2⟩ := st.fr a vf vn e
    exact ⟨m, m0, by rw [drop_out (f.noZt st (.inr (.inl ⟨vf, vn, e⟩)))]; exact h1, h2⟩, trivial, fn⟩
theorem tabs_drop {T : List (Addr × Str)} (f : ∀ c ∈ cs, ∃ ob u, H c = some (.frz ob u)) (h : LamX.Tabs T H) : LamX.Tabs T (dropC cs H) := fun q hq => by
  have off : ∀ b o, H b = some o → (∀ ob u, o ≠ .frz ob u) → dropC cs H b = some o := fun b o e n => by
    rw [drop_out]; exact e
    intro w
    obtain ⟨ob, u, e2⟩ := f b w
    rw [e] at e2; cases e2; exact n _ _ rfl
  obtain ⟨ts, h1, h2, h3⟩ := h q hq
  refine ⟨ts, off _ _ h1 (fun _ _ w => by cases w), h2, fun pos cv hc => ?_⟩
  obtain ⟨c, e1, e2⟩ := h3 pos cv hc
  exact ⟨c, e1, off _ _ e2 (fun _ _ w => by cases w)⟩
theorem ext_put (f : FrzAt cs H) (n : ∀ c ∈ cs, H' c = none) (e : Ext (Zs z.bare) (offC cs S0) (dropC cs H) H') : Ext (Zs z) S0 H (putC H cs H') := fun p o hp e1 => by
  by_cases hc : p ∈ cs
  · exact ⟨o, by rw [put_in hc]; exact e1, .same o, fun _ _ => rfl⟩
  · obtain ⟨o', e', v, s⟩ := e p o hp (by rw [drop_out hc]; exact e1)
    exact ⟨o', by rw [put_out hc]; exact e', v, fun w => s ⟨w, hc⟩⟩
theorem stab_evo {o o' : HO} (h : Stab o) (e : Evo o o') : o' = o := by
  cases e with
  | same => rfl
  | frm => exact (show False from h).elim
theorem sta_put {n m : Nat} {mk mk' : Option Int} (f : FrzAt cs H) (nn : ∀ c ∈ cs, H' c = none) (st : Sta z n mk H) (e : Ext (Zs z.bare) (offC cs S0) (dropC cs H) H') (st' : Sta z.bare m mk' H') : Sta z m mk' (putC H cs H') := by
  have off : ∀ b o, H' b = some o → putC H cs H' b = H' b := fun b o e => put_out fun w => by rw [nn b w] at e; cases e
  refine ⟨fun q eq => (st'.dr q eq).same fun p hp => ?_, fun a vf vn eq => ?_, z.stay H _ (fun p o so eo => ?_) st.inv, tabs_put nn st'.tb⟩
  · obtain ⟨o, eo, _⟩ := st'.at (.inl ⟨q, eq, hp⟩)
    exact off _ _ eo
  · obtain ⟨m1, m0, h1, h2⟩ := st'.fr a vf vn eq
    exact ⟨m1, m0, by rw [off _ _ h1]; exact h1, h2⟩
  · by_cases hc : p ∈ cs
    · rw [put_in hc]; exact eo
    · rw [put_out hc]
      have nz : ¬ Zs z p := fun w => by
        obtain ⟨o2, e2, ns⟩ := st.at w.t
        rw [eo] at e2; cases e2; exact ns so
      obtain ⟨o', e', v, _⟩ := e p o nz (by rw [drop_out hc]; exact eo)
      rw [stab_evo so v] at e'
      exact e'
theorem see_put (nn : ∀ c ∈ cs, H' c = none) : Evx (hide (offC cs S0) H') (hide S0 (putC H cs H')) := .of_same fun p o e => by
  obtain ⟨n, e⟩ := hide_get.mp e
  have hc : p ∉ cs := fun w => by rw [nn p w] at e; cases e
  exact hide_get.mpr ⟨fun w => n ⟨w, hc⟩, by rw [put_out hc]; exact e⟩
theorem see_drop (hc : ∀ c ∈ cs, ∃ ob φ v, H c = some (.frz ob (.ext φ)) ∧ ob.data = .cell v) : Evx (hide S0 H) (hide (offC cs S0) (dropC cs H)) := fun p o e => by
  obtain ⟨n, e⟩ := hide_get.mp e
  by_cases hp : p ∈ cs
  · obtain ⟨ob, φ, v, e2, d⟩ := hc p hp
    rw [e] at e2; cases e2
    exact .inl ⟨ob, φ, v, rfl, d⟩
  · exact .inr ⟨o, hide_get.mpr ⟨fun w => n w.1, by rw [drop_out hp]; exact e⟩, .same o⟩
end
theorem fnL_of {k : Nat} {L : LamD} {W : WFX} (ok : L.Ok) (gd : GoodX W L.free.length) (nl : ∀ ds n q e, W ds n q e → D.nolamA ds = true)
    (hbody : ∀ (A : Around) (outer : List Env) (s : Shared) (H : Hp) (E : XK) (kx : D → Nat → Prop) (f c' : Addr) (clo : List (Str × Addr)), Room k (lamCxN P w K mg base L A outer s H E f c' clo).A → (lamCxN P w K mg base L A outer s H E f c' clo).A.guards = some [] →
      ∃ m : ME, DE (lamCxN P w K mg base L A outer s H E f c' clo) (PhiE K w E kx) L.body m ∧ ∀ ds n kk, W ds n kk kx → m (startE L.free.length ds n) fun d e => kk (.da d) e.cr) : FnL P w K mg base (k + 1) L W := by
  refine ⟨gd, nl, fun A outer s H f vs Q E hr hgd e0 ⟨clo, pm, c', ctv, us, cs, l⟩ hsp => ?_⟩
  obtain ⟨z, S0, ds, n, h0, h1, h2, h3, h4, h5⟩ := hsp
  have fz := l.frz
  have nfr : ∀ c ∈ cs, c ∉ frs outer := fun c hc hf => fz.in_of (e0.frf c hf) hc
  have of1 := frz_obj (h' := s.heap) e0.hok l.fn
  obtain ⟨⟨oc, vc, t, hoc, hdc, hvc⟩, _, _⟩ := e0.hok c' _ l.code
  have e1 := env0_drop fz e0
  have lim : s.heap.NoLimit := e0.mod.nolimit.keeps fun b o e => (e0.bs b o e).1
  let Q' : VK := fun v H' => (∀ c ∈ cs, H' c = none) → Q v (putC H cs H')
  let E' : XK := fun cls d H' => (∀ c ∈ cs, H' c = none) → E cls d (putC H cs H')
  suffices hrun : codeAny (model P w) A (.call (.ref f) ⟨[], []⟩) (CR (L2.CX P w) outer P w (dropC cs H) s Q' E') s by
    refine codeAny_mono hrun fun r s' hq => ?_
    match r, hq with
    | .error e, hq => exact cx_put fz e0.hok nfr hq
    | .ok (.ret u), hq => exact ce_put fz e0.hok nfr hq
    | .ok .next, hq => exact hq.elim
    | .ok .brk, hq => exact hq.elim
    | .ok .cont, hq => exact hq.elim
  refine PySem.W.kla_callFunE hr.depth of1 rfl ok.co ok.gen rfl ⟨c', oc, vc, t, rfl, hoc, hdc, hvc⟩ ?_
  rw [ok.bind]
  refine wpAny_pure (wpAny_newFunctionEnv (fun y hy => (ok.own y hy).2) (fun y hy => absurd hy (by simp)) (fun h₁ hns hsb => ⟨lim.fresh _ hsb, ?_⟩) ok.kind)
  show codeAny _ _ (.expr L.body (lamEnvN L s.heap.objs.size f c' clo)) _ _
  have kp : ∀ b o, s.heap.get? b = some o → h₁.get? b = some o := fun b o e => hsb.extBut b o (Nat.ne_of_lt (Heap.lt_size e)) (Heap.get?_push_of_some _ e)
  have cellH : ∀ (i : Nat) c u, cs[i]? = some c → us[i]? = some u → s.heap.IsCell c (some u) := fun i c u a b => by
    obtain ⟨ob, φ, e, d⟩ := l.cell i c u a b
    exact ⟨ob, frz_obj (h' := s.heap) e0.hok e, d⟩
  have celC : ∀ c ∈ cs, ∃ ob φ v, H c = some (.frz ob (.ext φ)) ∧ ob.data = .cell v := fun c hc => by
    obtain ⟨i, hi⟩ := List.getElem?_of_mem hc
    have hl : i < us.length := by rw [l.len]; exact (List.getElem?_eq_some_iff.mp hi).1
    obtain ⟨ob, φ, e, d⟩ := l.cell i c us[i] hi (List.getElem?_eq_getElem hl)
    exact ⟨ob, φ, _, e, d⟩
  have J : Inv (lamCxN P w K mg base L A outer s (dropC cs H) E' f c' clo) [] (vs.map some) (dropC cs H) { s with heap := h₁, toks := s.toks + ([] : List (Str × Value)).length } := lam_start3 ok e1 hr.hd l.clo l.vals l.len cellH hns kp
  obtain ⟨m, hm, hq⟩ := hbody A outer s (dropC cs H) E' (fun dx n' => ∀ cls d H', Ext (Zs z) S0 H H' → Sta z n' none H' → IsX z K (hide S0 H') cls d dx → E cls d H') f c' clo (hr.deeper _) (deeper_guards hgd)
  have iv : IsA z.bare K (hide (offC cs S0) (dropC cs H)) vs ds := IsA.lm (z := z) (z' := z.bare) rfl rfl (.inr (nl _ _ _ _ h5)) (h4.evx (see_drop celC))
  have st1 : Sta z.bare n none (dropC cs H) := sta_drop fz (tabs_drop (fun c hc => by obtain ⟨ob, φ, e⟩ := fz c hc; exact ⟨ob, _, e⟩) h1.tb) h1
  have zt : ∀ p, Zs z.bare p → p ∉ cs := fun p h => fz.noZt h1 (Zs.t (z := z) h)
  have ph : PhiE K w E' (fun dx n' => ∀ cls d H', Ext (Zs z) S0 H H' → Sta z n' none H' → IsX z K (hide S0 H') cls d dx → E cls d H') z.bare (offC cs S0) (dropC cs H) :=
    ⟨h0.1, fun ps env σ H' cls d dx r i q nn => q cls d _ (ext_put fz nn r.ext) (sta_put fz nn h1 r.ext r.sta.wk) (IsX.lm (z := z.bare) (z' := z) rfl rfl (fun _ w => by cases w) ((i.evx (.of_same (hide_mono fun p w => .inl w))).evx (see_put nn)))⟩
  have rl := rel_start (Φ := PhiE K w E' _) (N := L.free) ph st1 (fun p hp => by rw [drop_out hp.2]; exact h2 p hp.1) ⟨fun p hp => ⟨h3.1 p hp, zt p hp⟩, fun p hp => ⟨h3.2 p hp, fz.noZt h1 (.inr (.inl hp))⟩⟩ iv
  have es : L2.start L.free vs = vs.map some := by
    have : vs.length = L.free.length := by rw [l.vals.length, l.len, l.clo.len]
    simp [L2.start, this]
  rw [es] at rl
  refine PySem.W.kla_codeExpr (wpAny_mono (hm.pe.run [] _ _ (dropC cs H) Q' J ⟨z.bare, offC cs S0, dropC cs H, _, _, rl, hm.mono _ (fun d e q => ?_) (hq ds n _ h5)⟩) (fun v s' hs => ?_) fun e s' hs => hs)
  · intro v H' r' x' i' nn
    exact q v _ (ext_put fz nn r'.ext) (sta_put fz nn h1 r'.ext r'.sta.wk) (Is.lm (z := z.bare) (z' := z) rfl rfl (.inl fun _ w => by cases w) ((i'.evx (.of_same (hide_mono fun p w => .inl w))).evx (see_put nn)))
  · obtain ⟨v', H', J', rv, q⟩ := hs
    exact ⟨v', H', J'.os, J'.bare, J'.base, J'.hok, rv, q⟩
end
end DL
namespace DL
open PySem L2 PySem.Spec PyProof.Rows
section
variable {X : Cx} {Φ : Phi} {k : Nat} {E : XK} {kx : D → Nat → Prop}
/-- x(), x a lambda -/
def mAct (LT : LamD → WFX) (kx : D → Nat → Prop) (i : Nat) : ME := fun env k => ∃ L ds, env.at i = .da (.lam L ds) ∧ LT L ds env.cr (rzD k env) kx
theorem spX_at {W : WFX} (gW : ∀ ds n {k k' : Sl → Nat → Prop} {q q' : D → Nat → Prop}, (∀ d n, k d n → k' d n) → (∀ d n, q d n → q' d n) → W ds n k q → W ds n k' q') {w : World} {K : PySem.W.Frag} (hΦ : ∀ z S0 H0, Φ z S0 H0 → PhiE K w E kx z S0 H0) {z : Z} {S0 : Addr → Prop} {H0 H H1 : Hp} {ps : List (Option Addr)} {e : DEnv} {σ : L2.St} {vs : List V} {ds : List D} {Q : VK}
    (r1 : Rel Φ z S0 H0 K ps e σ H1) (x1 : Ext (Mu z ps) S0 H H1) (i1 : IsA z K (hide (Sx S0 ps) H1) vs ds) (q : W ds e.cr (rzD (fun d env' => ∀ v H', Rel Φ z S0 H0 K ps env' σ H' → Ext (Mu z ps) S0 H H' → Is z K (hide (Sx S0 ps) H') v d → Q v H') e) kx) : spX K w W vs H1 Q E := by
  refine ⟨z.off, Sx S0 ps, ds, e.cr, ⟨show z.w = _ from (hΦ _ _ _ r1.phi).1, rfl⟩, ⟨r1.sta.dr, r1.sta.wk.fr, r1.sta.inv, r1.sta.tb⟩, r1.dom, ⟨fun p h => .inl (r1.zs p h.on), fun p h => .inl (r1.zf p h)⟩, i1.off, gW ds e.cr (rz_data r1 x1) (fun dx cr q => ?_) q⟩
  intro cls d H2 x2 s2 i2
  exact (hΦ _ _ _ r1.phi).2 ps _ σ H2 cls d dx (r1.callP x2 s2).free (IsX.cg (z := z.off) (z' := z) rfl rfl rfl rfl i2) q
theorem de_act {LT : LamD → WFX} {i : Nat} {a : Str} {p1 p2 : Pos} (hL : ∀ L, FnL X.prog X.w X.K X.mg X.base k L (LT L)) (hr : Room k X.A) (hgd : X.A.guards = some []) (tk : Takes X fun cls d _ H => E cls d H) (hΦ : ∀ z S0 H0, Φ z S0 H0 → PhiE X.K X.w E kx z S0 H0) (hv : PE X (.Name a p1) (tVar i)) :
    DE X Φ (.Call (.Name a p1) [] [] p2) (mAct LT kx i) := by
  refine ⟨fun env k k' h ⟨L, ds, e, q⟩ => ⟨L, ds, e, (hL L).good.1 _ _ (rzD_mono h) (fun _ _ q => q) q⟩, ⟨fun pins s σ H Q I ⟨z, S0, H0, ps, env, r, L, ds, e, q⟩ => ?_⟩⟩
  obtain ⟨v, hs, iv⟩ := slot_da r e
  cases iv with
  | @lam f _ xs _ hm ix =>
    have la := z.lmi f L xs H hm r.sta.inv
    refine wpAny_Call_Name_kw (thn (hv.run pins s σ H (fun v H1 => v = .ref f ∧ H1 = H) I ⟨.ref f, hs, rfl, rfl⟩) fun u s1 ⟨v, H1, I1, r1, q1⟩ => ?_)
    obtain ⟨ev, eH⟩ := q1
    subst ev
    rw [eH] at I1
    obtain rfl : u = Value.ref f := r1
    have of1 : ∃ clo pm c' ctv, s1.heap.get? f = some (PySem.W.kla_obj "<lambda>" L.qual L.params L.body L.scope clo pm c' ctv) := by
      obtain ⟨clo, pm, c', ctv, us, cs, l⟩ := la
      exact ⟨clo, pm, c', ctv, frz_obj (h' := s1.heap) I1.hok l.fn⟩
    obtain ⟨clo, pm, c', ctv, of1⟩ := of1
    refine PySem.W.callWith_F0 ⟨_, _, _, _, of1⟩ ?_
    refine wpAny_call (codeAny_mono ((hL L).run X.A X.stack s1 H f xs Q E hr hgd I1.env0 la (spX_at (hL L).good.1 hΦ r .refl ix q)) fun rr s' hq => ?_)
    match rr, hq with
    | .error e, hq => exact passes_call tk (fun _ _ _ _ h => h) pins σ H s1 e s' I1 hq
    | .ok (.ret u), hq => exact I1.after hq
    | .ok .next, hq => exact False.elim hq
    | .ok .brk, hq => exact False.elim hq
    | .ok .cont, hq => exact False.elim hq
end
end DL
namespace DL
open PySem L2 PySem.Spec PyProof.Rows LamX
section
variable {X : Cx} {pins : List (Addr × Obj)} {σ : L2.St} {H : Hp} {s : Shared}
/-- the lambda is made; the heap told exactly -/
theorem lam_make3 {T : List (Addr × Str)} {c P : Addr} {params : Arguments} {body : Expr} {scope : Scope} {pos : Pos} {E : Value → Shared → Prop} {Q : Value → Shared → Prop} (I : Inv X pins σ H s) (TB : TabB X.base X.mg c P) (hcode : X.env.code = .ref c)
    (hm : (P, X.env.qual ++ "<lambda>") ∈ T) (hu : ∀ p ∈ T, p.1 = P → p.2 = X.env.qual ++ "<lambda>") (hT : Tabs T H) (hdef : defaultsOf params X.env = ([], [])) (hfree : ∀ y ∈ scope.names, y.2 = .free → ∃ c, X.env.cells.lookup y.1 = some c)
    (h : ∀ (f c' : Addr) (pm ctv : Value) (H1 : Hp) (s' : Shared), Inv X pins σ H1 s' → (∀ b o, b ≠ P → H b = some o → H1 b = some o) → Tabs T H1 →
      s'.heap.get? f = some (PySem.W.kla_obj "<lambda>" (X.env.qual ++ "<lambda>") params body scope (cloFrom X.env.cells scope.names []) pm c' ctv) → H1 f = none → s.heap.objs.size ≤ f → f ∉ frs X.stack → H1 c' = some (CodeO c' (X.env.qual ++ "<lambda>")) → Q (.ref f) s') :
    wpAny (model X.prog X.w) X.A (eval (.Lambda params body scope pos) X.env) Q E s := by
  obtain ⟨ps, hP, ht, ha⟩ := hT _ hm
  refine PySem.W.kla_eval hdef ?_
  have bP : s.heap.BuiltinsAt X.mg P := TB.bm.keeps I.bk
  have hP' : s.heap.get? P = some { cls := .none, data := .fields ps } := I.hok P _ hP
  have nofr : ∀ f, s.heap.objs.size ≤ f → f ∉ frs X.stack := fun f hf z => by
    rcases List.mem_cons.mp (I.stkSub _ z) with e | e
    · have h1 := I.lt
      rw [← e] at h1
      exact Nat.lt_irrefl _ (Nat.lt_of_lt_of_le h1 hf)
    · exact I.nofs hf e
  cases hc : codeAmong pos ps.toList with
  | none =>
    refine PySem.W.kla_makeFunction (mg := X.mg) (c := c) (P := P) (ps := ps) (closure_ok hfree) I.ok.glob (I.mod.glob.keeps I.bk) hcode (TB.code.keeps I.bk) hP' ht hc TB.gP bP fun c' ctv h' tk hx hge hlt hrec htb => ?_
    obtain ⟨c2, oc, vs, t, e2, hoc, hd, hv⟩ := hrec
    cases e2
    have hsz : s.heap.objs.size ≤ h'.objs.size := Nat.le_trans hge (Nat.le_of_lt hlt)
    have nC : H c' = none := I.hok.fresh hge
    have I1 := inv_table (t' := tk) (more := #[rawInt pos.line, rawInt pos.col, .ref c']) (h' := h'.push (PySem.W.kla_obj "<lambda>" (X.env.qual ++ "<lambda>") params body scope (cloFrom X.env.cells scope.names []) ((X.mg "__name__").getD .none) c' ctv)) I hP
      (fun b o hb e => Heap.get?_push_of_some _ (hx b o hb e)) (Heap.get?_push_of_some _ htb) hge ⟨oc, vs, t, Heap.get?_push_of_some _ hoc, hd, hv⟩
    have hE : ∀ b o, b ≠ P → H b = some o → (upd (upd H P (.tbl (ps ++ #[rawInt pos.line, rawInt pos.col, .ref c']))) c' (CodeO c' (X.env.qual ++ "<lambda>"))) b = some o := fun b o n e => by
      rw [upd_ne (ne_of_none e nC), upd_ne n]
      exact e
    have nPc : ∀ {c0 : Addr} {q0 : Str}, H c0 = some (CodeO c0 q0) → c0 ≠ P := fun {c0 q0} e w => by
      rw [w, hP] at e
      exact codeO_ne _ (Option.some.inj e).symm
    have eL : (ps ++ #[rawInt pos.line, rawInt pos.col, .ref c']).toList = ps.toList ++ [rawInt pos.line, rawInt pos.col, .ref c'] := by simp
    refine h h'.objs.size c' ((X.mg "__name__").getD .none) ctv _ _ I1 hE (fun p hp => ?_) (Heap.get?_push_size _ rfl) ?_ hsz (nofr _ hsz) upd_same
    · by_cases hb : p.1 = P
      · rw [hu p hp hb, hb]
        refine ⟨_, by rw [upd_ne (ne_of_none hP nC), upd_same], by rw [eL]; exact PySem.TriplesOk_snoc _ _ _ _ ht, fun p' cv hcv => ?_⟩
        rw [eL] at hcv
        rcases among_app _ ht hcv with z | z
        · obtain ⟨c0, e1, e2⟩ := ha p' cv z
          exact ⟨c0, e1, hE _ _ (nPc e2) e2⟩
        · exact ⟨c', z, upd_same⟩
      · obtain ⟨ps', a1, a2, a3⟩ := hT p hp
        refine ⟨ps', by rw [upd_ne (ne_of_none a1 nC), upd_ne hb]; exact a1, a2, fun p' cv hcv => ?_⟩
        obtain ⟨c0, e1, e2⟩ := a3 p' cv hcv
        exact ⟨c0, e1, hE _ _ (nPc e2) e2⟩
    · have n1 : h'.objs.size ≠ c' := Nat.ne_of_gt hlt
      have n2 : h'.objs.size ≠ P := Nat.ne_of_gt (Nat.lt_of_lt_of_le (Heap.lt_size hP') hsz)
      rw [upd_ne n1, upd_ne n2]
      exact I.hok.fresh hsz
  | some cv =>
    obtain ⟨c', e, hco⟩ := ha pos cv hc
    subst e
    refine PySem.W.kla_makeFunctionHit (mg := X.mg) (c := c) (P := P) (ps := ps) (closure_ok hfree) I.ok.glob (I.mod.glob.keeps I.bk) hcode (TB.code.keeps I.bk) hP' ht hc bP fun ctv h' tk hx hsz => ?_
    have I1 : Inv X pins σ H { s with heap := h'.push (PySem.W.kla_obj "<lambda>" (X.env.qual ++ "<lambda>") params body scope (cloFrom X.env.cells scope.names []) ((X.mg "__name__").getD .none) c' ctv), toks := tk } := I.kept fun b o e => Heap.get?_push_of_some _ (hx b o e)
    exact h h'.objs.size c' ((X.mg "__name__").getD .none) ctv H _ I1 (fun _ _ _ e => e) hT (Heap.get?_push_size _ rfl) (I.hok.fresh hsz) hsz (nofr _ hsz) hco
end
section
variable {P : Program} {w : World} {cs : List Addr} {H1 H2 : Hp} {outer : List Env} {s s' : Shared} {Q : VK} {u : Value}
/-- what was known to the object for a call is known no more -/
theorem ce_drop (h2 : ∀ b, b ∉ cs → H2 b = H1 b) (n1 : ∀ c ∈ cs, H1 c = none) (fz : ∀ c ∈ cs, ∃ ob φ, H2 c = some (.frz ob (.ext φ)) ∧ s.heap.get? c = some ob) (nfr : ∀ c ∈ cs, c ∉ frs outer)
    (h : CE outer P w H2 s (fun v H' => (∀ c ∈ cs, ∃ ob φ, H2 c = some (.frz ob (.ext φ)) ∧ H' c = some (.frz ob (.ext φ))) → Q v (dropC cs H')) u s') : CE outer P w H1 s Q u s' := by
  obtain ⟨v, H', os, bare, un, hok', r, q⟩ := h
  have fz' : ∀ c ∈ cs, ∃ ob φ, H2 c = some (.frz ob (.ext φ)) ∧ H' c = some (.frz ob (.ext φ)) := fun c hc => by
    obtain ⟨ob, φ, e, _⟩ := fz c hc
    exact ⟨ob, φ, e, un.frzs c ob _ e⟩
  have off : ∀ b o, H1 b = some o → b ∉ cs := fun b o e w => by rw [n1 b w] at e; cases e
  refine ⟨v, dropC cs H', os, bare, ⟨fun b o e n nf nx => ?_, fun b o e n nf nx => ?_, fun b o e n nx => ?_, un.there, fun b xs e => ?_, fun b o t e => ?_, fun b ts e => ?_⟩, hok_drop (fun c hc => by obtain ⟨ob, φ, _, e⟩ := fz' c hc; exact ⟨ob, φ, e⟩) hok', r, q fz'⟩
  · by_cases hb : b ∈ cs
    · obtain ⟨ob, φ, e1, e2⟩ := fz b hb
      rw [e] at e2; cases e2
      exact (hok' b _ (un.frzs b _ _ e1)).1
    · exact un.keep b o e (by rw [h2 b hb]; exact n) nf nx
  · have hb : b ∉ cs := fun w => nfr b w nf
    exact un.slot b o e (by rw [h2 b hb]; exact n) nf nx
  · by_cases hb : b ∈ cs
    · exact drop_in hb
    · rw [drop_out hb]; exact un.free b o e (by rw [h2 b hb]; exact n) nx
  · have hb := off b _ e
    rw [drop_out hb]; exact un.tups b xs (by rw [h2 b hb]; exact e)
  · have hb := off b _ e
    rw [drop_out hb]; exact un.frzs b o t (by rw [h2 b hb]; exact e)
  · have hb := off b _ e
    rw [drop_out hb]; exact un.tbls b ts (by rw [h2 b hb]; exact e)
end
/-- z with one more lambda -/
def zLam (z : Z) (f : Addr) (L : LamD) (vs : List V) : Z := { z with
  lm := (f, L, vs) :: z.lm
  inv := fun H => z.inv H ∧ LamAt f L vs H
  stay := fun H H' k h => ⟨z.stay H H' k h.1, LamAt.stay k h.2⟩
  lmi := fun f' L' vs' H h i => by
    rcases List.mem_cons.mp h with e | e
    · cases e; exact i.2
    · exact z.lmi f' L' vs' H e i.1 }
/-- the slots' data -/
def slotsD (env : DEnv) : List Nat → Option (List D)
  | [] => some []
  | i :: is => match env.at i, slotsD env is with
    | .da d, some ds => some (d :: ds)
    | _, _ => none
def rzN (k : D → DEnv → Prop) (e : DEnv) : Sl → Nat → Prop
  | .da d, cr => d.nolam = true ∧ k d { e with cr := cr }
  | _, _ => False
def mLam (W : WFX) (L : LamD) (is : List Nat) : ME := fun env k => ∃ ds, slotsD env is = some ds ∧ W [.lam L ds] env.cr (rzN k env) kNo
/-- how a lambda lies in the running def: its captured names are the slots is -/
structure LamHere (X : Cx) (L : LamD) (is : List Nat) : Prop where
  qual : L.qual = X.env.qual ++ "<lambda>"
  sc : LamS X.env.scope L.scope
  nd : L.free.Nodup
  len : is.length = L.free.length
  ix : ∀ (j i : Nat) (y : Str), is[j]? = some i → L.free[j]? = some y → X.N[i]? = some y
  fn : ∀ y ∈ L.free, X.fn y = true
theorem pick2 {α β : Type} {R : Nat → α → β → Prop} : ∀ (n : Nat), (∀ j, j < n → ∃ a b, R j a b) → ∃ (as : List α) (bs : List β), as.length = n ∧ bs.length = n ∧ ∀ (j : Nat) a b, as[j]? = some a → bs[j]? = some b → R j a b
  | 0, _ => ⟨[], [], rfl, rfl, fun j a b h => by simp at h⟩
  | n + 1, h => by
    obtain ⟨as, bs, l1, l2, q⟩ := pick2 n fun j hj => h j (by omega)
    obtain ⟨a, b, r⟩ := h n (by omega)
    refine ⟨as ++ [a], bs ++ [b], by simp [l1], by simp [l2], fun j a' b' e1 e2 => ?_⟩
    by_cases hj : j < n
    · rw [List.getElem?_append_left (by omega)] at e1 e2
      exact q j a' b' e1 e2
    · have : j = n := by
        have := (List.getElem?_eq_some_iff.mp e1).1
        simp [l1] at this; omega
      subst this
      rw [List.getElem?_append_right (by omega), l1] at e1
      rw [List.getElem?_append_right (by omega), l2] at e2
      simp at e1 e2
      subst e1 e2
      exact r
theorem vals_of : ∀ {vs : List V} {us : List Value}, vs.length = us.length → (∀ (j : Nat) v u, vs[j]? = some v → us[j]? = some u → RelV v u) → Vals vs us
  | [], [], _, _ => .nil
  | [], _ :: _, h, _ => by simp at h
  | _ :: _, [], h, _ => by simp at h
  | v :: vs, u :: us, h, q => .cons (q 0 v u rfl rfl) (vals_of (by simpa using h) fun j v u e1 e2 => q (j + 1) v u (by simpa using e1) (by simpa using e2))
theorem free_mem {L : LamD} {y : Str} (h : y ∈ L.free) : (y, NameKind.free) ∈ L.scope.names := by
  obtain ⟨⟨n, k⟩, hm, rfl⟩ := List.mem_map.mp h
  obtain ⟨h1, h2⟩ := List.mem_filter.mp hm
  have : k = .free := by simpa using h2
  subst this
  exact h1
theorem mem_free' {L : LamD} {y : Str} (h : (y, NameKind.free) ∈ L.scope.names) : y ∈ L.free := List.mem_map.mpr ⟨_, List.mem_filter.mpr ⟨h, by simp⟩, rfl⟩
section
variable {X : Cx} {pins : List (Addr × Obj)} {σ : L2.St} {H : Hp} {s : Shared} {L : LamD} {is : List Nat}
/-- the cells of a lambda's captured names -/
theorem cells_of (I : Inv X pins σ H s) (h : LamHere X L is) {vs : List V} (hl : vs.length = is.length) (hv : ∀ (j i : Nat), is[j]? = some i → ∃ v, σ[i]? = some (some v) ∧ vs[j]? = some v) :
    ∃ us cs, Vals vs us ∧ us.length = cs.length ∧ CloAt L (cloFrom X.env.cells L.scope.names []) cs ∧ (∀ (j : Nat) c u, cs[j]? = some c → us[j]? = some u → s.heap.IsCell c (some u)) ∧ ∀ c ∈ cs, ∃ y, y ∈ L.free ∧ X.env.cells.lookup y = some c := by
  obtain ⟨m, hns, hloc⟩ := I.loc
  have hfree := h.sc.has I.ok
  have one : ∀ j, j < L.free.length → ∃ (u : Value) (c : Addr), (∀ v, vs[j]? = some v → RelV v u) ∧ (∀ y, L.free[j]? = some y → X.env.cells.lookup y = some c) ∧ s.heap.IsCell c (some u) := fun j hj => by
    have hj' : j < is.length := by rw [h.len]; exact hj
    have e1 := List.getElem?_eq_getElem hj'
    have e2 := List.getElem?_eq_getElem hj
    obtain ⟨v, hs, hv1⟩ := hv j _ e1
    have hk : X.env.scope.names.lookup L.free[j] = some .cell ∨ X.env.scope.names.lookup L.free[j] = some .free := h.sc.free _ (free_mem (List.getElem_mem hj)) rfl
    obtain ⟨u, ru, lk⟩ := hloc _ _ v (h.ix j _ _ e1 e2) hs (.inr hk)
    have hnl : X.env.kindOf L.free[j] ≠ some .local := fun w => by
      have w : X.env.scope.names.lookup L.free[j] = some .local := w
      rcases hk with q | q <;> (rw [w] at q; cases q)
    rcases lk with ⟨w, _⟩ | ⟨_, c, hc, hcell⟩
    · exact absurd w hnl
    · refine ⟨u, c, fun v' e => ?_, fun y e => ?_, hcell⟩
      · rw [hv1] at e; cases e; exact ru
      · rw [e2] at e; cases e; exact hc
  obtain ⟨us, cs, l1, l2, q⟩ := pick2 _ one
  have look : ∀ (j : Nat) y c, L.free[j]? = some y → cs[j]? = some c → X.env.cells.lookup y = some c := fun j y c e1 e2 => by
    have hj : j < us.length := by rw [l1]; exact (List.getElem?_eq_some_iff.mp e1).1
    exact (q j _ c (List.getElem?_eq_getElem hj) e2).2.1 y e1
  refine ⟨us, cs, vals_of (by rw [hl, h.len, l1]) (fun j v u e1 e2 => ?_), by rw [l1, l2], ⟨l2.symm, ?_, fun j y c e1 e2 => NdefX.clo_has hfree (free_mem (List.mem_of_getElem? e1)) (look j y c e1 e2), fun y c e => ?_⟩, fun j c u e1 e2 => ?_, fun c hc => ?_⟩
  · have hj : j < cs.length := by rw [l2, ← l1]; exact (List.getElem?_eq_some_iff.mp e2).1
    exact (q j u _ e2 (List.getElem?_eq_getElem hj)).1 v e1
  · rw [List.nodup_iff_pairwise_ne, List.pairwise_iff_getElem]
    intro i j hi hj hij e
    have f1 : i < L.free.length := by omega
    have f2 : j < L.free.length := by omega
    have a := look i _ _ (List.getElem?_eq_getElem f1) (List.getElem?_eq_getElem hi)
    have b := look j _ _ (List.getElem?_eq_getElem f2) (List.getElem?_eq_getElem hj)
    rw [e] at a
    have := I.ok.inj _ _ _ a b
    exact absurd (nodup_ix h.nd f1 f2 this) (by omega)
  · have e1 := NdefX.clo_cm hfree e
    rcases cloFrom_mem (PySem.mem_of_lookup e) with hm | ⟨hm, _⟩
    · cases hm
    · obtain ⟨j, hj⟩ := List.getElem?_of_mem (mem_free' hm)
      have hj' : j < cs.length := by rw [l2]; exact (List.getElem?_eq_some_iff.mp hj).1
      have := look j y _ hj (List.getElem?_eq_getElem hj')
      rw [e1] at this
      exact ⟨j, hj, by rw [List.getElem?_eq_getElem hj']; exact this.symm⟩
  · exact (q j u c e2 e1).2.2
  · obtain ⟨j, hj⟩ := List.getElem?_of_mem hc
    have hj' : j < L.free.length := by rw [← l2]; exact (List.getElem?_eq_some_iff.mp hj).1
    exact ⟨_, List.getElem_mem hj', look j _ c (List.getElem?_eq_getElem hj') hj⟩
end
section
variable {Φ : Phi} {z : Z} {S0 : Addr → Prop} {H0 H : Hp} {K : PySem.W.Frag} {ps : List (Option Addr)} {env : DEnv} {σ : L2.St}
theorem slots_vals (r : Rel Φ z S0 H0 K ps env σ H) : ∀ {is : List Nat} {ds : List D}, slotsD env is = some ds → ∃ vs : List V, vs.length = is.length ∧ (∀ (j i : Nat), is[j]? = some i → ∃ v, σ[i]? = some (some v) ∧ vs[j]? = some v) ∧ IsA z K (hide (Sx S0 ps) H) vs ds
  | [], ds, e => by simp [slotsD] at e; subst e; exact ⟨[], rfl, fun j i h => by simp at h, .nil⟩
  | i :: is, ds, e => by
    unfold slotsD at e
    cases e1 : env.at i with
    | un => rw [e1] at e; simp at e
    | ow o => rw [e1] at e; simp at e
    | da d =>
      cases e2 : slotsD env is with
      | none => rw [e1, e2] at e; simp at e
      | some ds' =>
        rw [e1, e2] at e; simp at e; subst e
        obtain ⟨vs, l, h, ia⟩ := slots_vals r e2
        obtain ⟨v, hs, iv⟩ := slot_da r e1
        refine ⟨v :: vs, by simp [l], fun j i' hj => ?_, .cons iv ia⟩
        cases j with
        | zero => simp at hj; subst hj; exact ⟨v, hs, rfl⟩
        | succ j => obtain ⟨v', a, b⟩ := h j i' (by simpa using hj); exact ⟨v', a, by simpa using b⟩
end
end DL
namespace DL
open PySem L2 PySem.Spec PyProof.Rows LamX
/-- some objects known as they are -/
def knowC (h : Heap) (cs : List Addr) (H : Hp) : Hp := fun b => if b ∈ cs then (h.get? b).map (fun o => .frz o (exU b)) else H b
section
variable {P : Program} {w : World} {cs : List Addr} {H : Hp} {h : Heap}
theorem know_out {b : Addr} (n : b ∉ cs) : knowC h cs H b = H b := if_neg n
theorem know_in {b : Addr} {o : Obj} (m : b ∈ cs) (e : h.get? b = some o) : knowC h cs H b = some (.frz o (exU b)) := by
  unfold knowC
  rw [if_pos m, e]; rfl
theorem hok_know (n : ∀ c ∈ cs, H c = none) (x : HOk P w H h) : HOk P w (knowC h cs H) h := fun a o e => by
  by_cases ha : a ∈ cs
  · unfold knowC at e
    rw [if_pos ha] at e
    obtain ⟨ob, g, rfl⟩ := Option.map_eq_some_iff.mp e
    exact ⟨g, ⟨ob, g⟩, ⟨ob, g⟩, fun h1 h2 ⟨o, q⟩ k => ⟨o, k o q⟩⟩
  · rw [know_out ha] at e
    have off : ∀ b u, H b = some u → knowC h cs H b = some u := fun b u q => by
      have nb : b ∉ cs := fun w => by rw [n b w] at q; cases q
      rw [know_out nb]; exact q
    exact (x a o e).stay (fun _ _ _ q => q) (fun b q => off _ _ q) fun b xs q => off _ _ q
end
theorem cx_no {P : Program} {w : World} {outer : List Env} {H : Hp} {s s' : Shared} {u : Value} (h : L2.CX P w outer H s (fun _ _ _ => False) u s') : False := by
  obtain ⟨a, B, H', cls, d, rfl, fl, hok', ub, na, os, ag, hE⟩ := h
  exact hE
section
variable {X : Cx} {Φ : Phi} {k : Nat} {g : Addr} {fd : FuncData} {a : Str} {W : WFX}
theorem rzN_mono {k k' : D → DEnv → Prop} {e : DEnv} (h : ∀ d e, k d e → k' d e) : ∀ s n, rzN k e s n → rzN k' e s n
  | .da _, _, q => ⟨q.1, h _ _ q.2⟩
  | .ow _, _, q => q
  | .un, _, q => q
/-- x(lambda: body) -/
theorem de_lam {x : Str} {c P : Addr} {params : Arguments} {body : Expr} {scope : Scope} {p lpos pos : Pos} {is : List Nat} (F : FnX X.prog X.w X.K X.mg X.base k g fd [a] W) (hr : Room k X.A) (hgd : X.A.guards = some []) (hm : X.mg x = some (.ref g)) (hk : PySem.W.keepIn X.K (.ref g) = true) (hb : Binds X.K fd [a] [])
    (TB : TabB X.base X.mg c P) (hcode : X.env.code = .ref c) (hΦ : ∀ z S0 H0, Φ z S0 H0 → z.w = X.w ∧ (P, X.env.qual ++ "<lambda>") ∈ z.tb ∧ ∀ p ∈ z.tb, p.1 = P → p.2 = X.env.qual ++ "<lambda>")
    (hL : LamHere X ⟨X.env.qual ++ "<lambda>", params, body, scope⟩ is) (hdef : defaultsOf params X.env = ([], [])) (hg : Gl X x := by rfl) (hdb : (x == ("__debug__" : Str)) = false := by decide) :
    DE X Φ (.Call (.Name x p) [.Lambda params body scope lpos] [] pos) (mLam W ⟨X.env.qual ++ "<lambda>", params, body, scope⟩ is) := by
  refine ⟨fun env k k' h ⟨ds, e, q⟩ => ⟨ds, e, F.good.1 _ _ (rzN_mono h) (fun _ _ q => q) q⟩, ⟨fun pins s σ H Q I ⟨z, S0, H0, ps, env, r, ds, hds, q⟩ => ?_⟩⟩
  obtain ⟨hzw, hzm, hzu⟩ := hΦ _ _ _ r.phi
  refine wpAny_Call_Name_kw (ld_glob I hg hm ?_ hdb)
  refine PySem.W.callWith_K (h₀ := X.base) I.ok.mod.kin hk ?_ (by rfl) (by rfl)
  show wpAny _ _ (spliced ((false, eval (.Lambda params body scope lpos) X.env) :: backTo pos (starEach [] X.env))) _ _ s
  refine Calls.spliced_cons (lam_make3 I TB hcode hzm hzu r.sta.tb hdef (hL.sc.has I.ok) fun f c' pm' ctv H1 s' I1 kH T1 hf hfn hsz hfr hco => ?_)
  refine Calls.spliced_nil ⟨I1.kIn, ?_⟩
  let L : LamD := ⟨X.env.qual ++ "<lambda>", params, body, scope⟩
  obtain ⟨vs, vl, hv, iv⟩ := slots_vals r hds
  obtain ⟨us, cs, v1, l1, clo, hcell, hcs⟩ := cells_of I1 hL vl hv
  let C := f :: cs
  have hP : Zs z.off P := .inr (.inr ⟨_, hzm⟩)
  have nC : ∀ b ∈ C, H1 b = none := fun b hb => by
    rcases List.mem_cons.mp hb with e | e
    · rw [e]; exact hfn
    · obtain ⟨y, _, hy⟩ := hcs b e
      exact I1.freeC y b hy
  have objC : ∀ b ∈ C, ∃ o, s'.heap.get? b = some o := fun b hb => by
    rcases List.mem_cons.mp hb with e | e
    · rw [e]; exact ⟨_, hf⟩
    · obtain ⟨j, hj⟩ := List.getElem?_of_mem e
      have hj' : j < us.length := by rw [l1]; exact (List.getElem?_eq_some_iff.mp hj).1
      obtain ⟨o, ho, _⟩ := hcell j b _ hj (List.getElem?_eq_getElem hj')
      exact ⟨o, ho⟩
  have nfr : ∀ b ∈ C, b ∉ frs X.stack := fun b hb w => by
    rcases List.mem_cons.mp hb with e | e
    · rw [e] at w; exact hfr w
    · obtain ⟨y, hyf, hy⟩ := hcs b e
      rcases List.mem_cons.mp (I1.stkSub _ w) with e2 | e2
      · exact I1.cne y b hy e2
      · obtain ⟨_, o, ho, _⟩ := I1.ok.funs.mem e2
        exact absurd (Heap.lt_size ho) (Nat.not_lt.mpr (I1.ok.cab y b (hL.fn y hyf) hy))
  have nbase : ∀ b ∈ C, X.base.get? b = none := fun b hb => by
    have hge : X.base.objs.size ≤ b := by
      rcases List.mem_cons.mp hb with e | e
      · rw [e]; exact Nat.le_trans (Nat.le_trans I.ok.bsz I.sz) hsz
      · obtain ⟨y, hyf, hy⟩ := hcs b e
        exact Nat.le_trans I1.ok.bsz (I1.ok.cab y b (hL.fn y hyf) hy)
    exact Heap.get?_none_of_le hge
  let H2 : Hp := knowC s'.heap C H1
  have off1 : ∀ b o, H1 b = some o → b ∉ C := fun b o e w => by rw [nC b w] at e; cases e
  have k2 : ∀ b o, H1 b = some o → H2 b = some o := fun b o e => by
    show knowC s'.heap C H1 b = some o
    rw [know_out (off1 b o e)]; exact e
  have kk : ∀ b o, b ≠ P → H b = some o → H2 b = some o ∧ b ∉ C := fun b o n e => ⟨k2 b o (kH b o n e), off1 b o (kH b o n e)⟩
  have nP : ∀ {b o}, H b = some o → (∀ ts, o ≠ .tbl ts) → b ≠ P := fun {b o} e n w => by
    obtain ⟨ts, t1, _⟩ := r.sta.tb _ hzm
    have t1 : H P = some (.tbl ts) := t1
    rw [w, t1] at e; cases e; exact n _ rfl
  have E2 : Env0 X.prog X.w X.K X.mg X.base X.A X.stack s' H2 := by
    have e1 := I1.env0
    refine ⟨e1.frames, e1.mod, fun b o e => ⟨(e1.bs b o e).1, ?_⟩, e1.bsz, e1.funs, fun b hb => ?_, hok_know nC e1.hok, e1.bare⟩
    · have nb : b ∉ C := fun w => by rw [nbase b w] at e; cases e
      show knowC s'.heap C H1 b = none
      rw [know_out nb]; exact (e1.bs b o e).2
    · have nb : b ∉ C := fun w => nfr b w hb
      show knowC s'.heap C H1 b = none
      rw [know_out nb]; exact e1.frf b hb
  have lam : LamAt f L vs H2 := by
    refine ⟨_, pm', c', ctv, us, cs, know_in (List.mem_cons_self ..) hf, k2 _ _ hco, v1, clo, l1, fun i c u e1 e2 => ?_⟩
    obtain ⟨o, ho, hd⟩ := hcell i c u e1 e2
    exact ⟨o, _, know_in (List.mem_cons_of_mem _ (List.mem_of_getElem? e1)) ho, hd⟩
  let z1 : Z := zLam z.off f L vs
  let S1 : Addr → Prop := fun b => Sx S0 ps b ∨ b ∈ C
  have st1 : Sta z1 env.cr none H2 := by
    refine ⟨fun q e => (r.sta.dr q e).same fun b hb => ?_, fun b vf vn e => ?_, ⟨z.stay H H2 (fun b o so e => ?_) r.sta.inv, lam⟩, T1.ext k2⟩
    · obtain ⟨r', t, ws, cs', g1, g2, g3, _⟩ := (r.sta.dr q e).ex
      have : ∃ o, H b = some o ∧ ∀ ts, o ≠ .tbl ts := by
        rcases hb with rfl | rfl | rfl
        · exact ⟨_, g1, fun _ w => by cases w⟩
        · exact ⟨_, g2, fun _ w => by cases w⟩
        · exact ⟨_, g3, fun _ w => by cases w⟩
      obtain ⟨o, eo, no⟩ := this
      rw [eo, (kk b o (nP eo no) eo).1]
    · obtain ⟨m, m0, h1, h2⟩ := r.sta.fr b vf vn e
      exact ⟨m, m0, (kk b _ (nP h1 (fun _ w => by unfold frO at w; cases w)) h1).1, fun _ w => by cases w⟩
    · exact (kk b o (nP e (fun _ w => by rw [w] at so; exact so)) e).1
  have ext2 : Ext (Zs z.off) (Sx S0 ps) H H2 := fun b o hb e => ⟨o, (kk b o (fun w => hb (w ▸ hP)) e).1, .same o, fun _ _ => rfl⟩
  have zs1 : ∀ b, Zs z1 b → Zs z.off b := fun b w => w
  have dom1 : ∀ b, S1 b → H2 b ≠ none := fun b hb => by
    rcases hb with hb | hb
    · cases e : H b with
      | none => exact absurd e (r.dom b hb)
      | some o =>
        by_cases w : b = P
        · obtain ⟨ts, t1, _⟩ := T1 _ hzm
          have t1 : H1 P = some (.tbl ts) := t1
          rw [w, k2 _ _ t1]; simp
        · rw [(kk b o w e).1]; simp
    · obtain ⟨o, ho⟩ := objC b hb
      show knowC s'.heap C H1 b ≠ none
      rw [know_in hb ho]; simp
  have seen : Evx (hide (Sx S0 ps) H) (hide S1 H2) := .of_same fun b o e => by
    obtain ⟨n, e⟩ := hide_get.mp e
    have np : b ≠ P := fun w => n (.inl (r.zs b (Zs.on (w ▸ hP))))
    obtain ⟨e1, e2⟩ := kk b o np e
    exact hide_get.mpr ⟨fun w => w.elim n e2, e1⟩
  have iv1 : IsA z1 X.K (hide S1 H2) vs ds := IsA.lm (z := z.off) (z' := z1) rfl rfl (.inl fun l hl => List.mem_cons_of_mem _ hl) ((iv.evx seen).off)
  let Q' : VK := fun v H' => (∀ b ∈ C, ∃ ob φ, H2 b = some (.frz ob (.ext φ)) ∧ H' b = some (.frz ob (.ext φ))) → Q v (dropC C H')
  have sp : spX X.K X.w W [.ref f] H2 Q' (fun _ _ _ => False) := by
    refine ⟨z1, S1, [.lam L ds], env.cr, ⟨hzw, rfl⟩, st1, dom1, ⟨fun b w => .inl (.inl (r.zs b (zs1 b w).on)), fun b w => .inl (.inl (r.zf b w))⟩, .cons (.lam (List.mem_cons_self ..) iv1) .nil, F.good.1 _ _ (fun sl n' q => ?_) (fun _ _ q => q.elim) q⟩
    match sl, q with
    | .da d, ⟨hn, q⟩ =>
      intro v H' x' st' i' fz
      have offF : ∀ b o, H' b = some o → (∀ ob u, o ≠ .frz ob u) → b ∉ C := fun b o e n w => by
        obtain ⟨ob, φ, _, e2⟩ := fz b w
        rw [e] at e2; cases e2; exact n _ _ rfl
      have st3 : Sta z.off n' none (dropC C H') := by
        refine ⟨fun q e => (st'.dr q e).same fun b hb => ?_, fun b vf vn e => ?_, z.stay H _ (fun b o so e => ?_) r.sta.inv, tabs_drop (fun b hb => by obtain ⟨ob, φ, _, e⟩ := fz b hb; exact ⟨ob, _, e⟩) st'.tb⟩
        · obtain ⟨r', t, ws, cs', g1, g2, g3, _⟩ := (st'.dr q e).ex
          have : b ∉ C := by
            rcases hb with rfl | rfl | rfl
            · exact offF _ _ g1 (fun _ _ w => by cases w)
            · exact offF _ _ g2 (fun _ _ w => by cases w)
            · exact offF _ _ g3 (fun _ _ w => by cases w)
          exact drop_out this
        · obtain ⟨m, m0, h1, h2⟩ := st'.fr b vf vn e
          exact ⟨m, m0, by rw [drop_out (offF _ _ h1 (fun _ _ w => by unfold frO at w; cases w))]; exact h1, h2⟩
        · have np : b ≠ P := nP e (fun _ w => by rw [w] at so; exact so)
          obtain ⟨e1, e2⟩ := kk b o np e
          have nz : ¬ Zs z1 b := fun w => by
            obtain ⟨o2, g, ns⟩ := r.sta.at (zs1 b w).on.t
            rw [e] at g; cases g; exact ns so
          obtain ⟨o', e', v', _⟩ := x' b o nz e1
          rw [stab_evo so v'] at e'
          rw [drop_out e2]; exact e'
      have x3 : Ext (Zs z.off) (Sx S0 ps) H (dropC C H') := fun b o hb e => by
        obtain ⟨e1, e2⟩ := kk b o (fun w => hb (w ▸ hP)) e
        obtain ⟨o', e', v', s'⟩ := x' b o hb e1
        exact ⟨o', by rw [drop_out e2]; exact e', v', fun w => s' (.inl w)⟩
      have i3 : Is z X.K (hide (Sx S0 ps) (dropC C H')) v d := by
        have ev : Evx (hide S1 H') (hide (Sx S0 ps) (dropC C H')) := .of_same fun b o e => by
          obtain ⟨n, e⟩ := hide_get.mp e
          exact hide_get.mpr ⟨fun w => n (.inl w), by rw [drop_out fun w => n (.inr w)]; exact e⟩
        exact (Is.lm (z := z1) (z' := z.off) rfl rfl (.inr hn) (i'.evx ev)).on
      exact q v _ (r.callP x3 st3) x3.locP i3
    | .ow o, q => exact q.elim
    | .un, q => exact q.elim
  refine wpAny_call (codeAny_mono (F.run X.A X.stack s' H2 ⟨[.ref f], []⟩ [.ref f] [.ref f] Q' (fun _ _ _ => False) hr hgd E2 ?_ (.cons rfl .nil) sp) fun rr s2 hq => ?_)
  · have bt := hb s' [.ref f] I1.kIn rfl
    simpa using bt
  · match rr, hq with
    | .error e, hq => exact (cx_no hq).elim
    | .ok (.ret u), hq =>
      refine I1.after (ce_drop (cs := C) (H2 := H2) (fun b hb => know_out hb) nC (fun b hb => ?_) nfr hq)
      obtain ⟨o, ho⟩ := objC b hb
      exact ⟨o, _, know_in hb ho, ho⟩
    | .ok .next, hq => exact hq.elim
    | .ok .brk, hq => exact hq.elim
    | .ok .cont, hq => exact hq.elim
end
end DL
namespace DL
open PySem L2 PySem.Spec PyProof.Rows
section
variable {Φ : Phi} {z : Z} {S0 : Addr → Prop} {H0 H H' : Hp} {K : PySem.W.Frag} {ps : List (Option Addr)} {env : DEnv} {σ : L2.St}
/-- a name is unbound -/
theorem Rel.unset (r : Rel Φ z S0 H0 K ps env σ H) (i : Nat) : Rel Φ z S0 H0 K (ps.set i none) (unE i env) (σ.set i none) H := by
  have get : ∀ (j : Nat) p, (ps.set i none)[j]? = some (some p) → ps[j]? = some (some p) := fun j p q => by
    rw [List.getElem?_set] at q
    split at q
    · split at q <;> cases q
    · exact q
  refine r.re (by simp [unE, r.lenp]) (by simp [unE, r.lens]) rfl rfl (fun a b p h1 h2 => r.inj a b p (get a p h1) (get b p h2)) (fun p w => mem_set_none w) fun j => ?_
  by_cases hij : i = j
  · subst hij
    have e1 : (unE i env).at i = .un := by
      unfold unE DEnv.at
      by_cases hl : i < env.sl.length <;> simp [hl]
    rw [e1]; trivial
  · have e1 : (unE i env).at j = env.at j := by simp [unE, DEnv.at, List.getD_eq_getElem?_getD, List.getElem?_set, hij]
    have e2 : (ps.set i none).getD j none = ps.getD j none := by simp [List.getD_eq_getElem?_getD, List.getElem?_set, hij]
    have e3 : (σ.set i none).getD j none = σ.getD j none := by simp [List.getD_eq_getElem?_getD, List.getElem?_set, hij]
    rw [e1, e2, e3]
    exact (r.sl j).evx (sub_hide fun p w => mem_set_none w)
end
def kAny (k : DEnv → Prop) (env : DEnv) : Sl → Nat → Prop
  | .un, _ => False
  | _, n => k { env with cr := n }
theorem kAny_mono {k k' : DEnv → Prop} {env : DEnv} (h : ∀ e, k e → k' e) : ∀ s n, kAny k env s n → kAny k' env s n
  | .un, _, q => q
  | .da _, _, q => h _ q
  | .ow _, _, q => h _ q
section
variable {X : Cx} {Φ : Phi} {k : Nat}
/-- a(), a lambda; an error goes to the wish of the place -/
def tActW (Φ : Phi) (K : PySem.W.Frag) (w : World) (LT : LamD → WFX) (i : Nat) (W : WX) : TS := fun D σ H => ∃ z S0 H0 ps env L ds, Rel Φ z S0 H0 K ps env σ H ∧ z.w = w ∧ env.at i = .da (.lam L ds) ∧
  LT L ds env.cr (kAny (fun e => ∀ H', Rel Φ z S0 H0 K ps e σ H' → Ext (Mu z ps) S0 H H' → D.nx σ H') env) fun dx n' => ∀ cls d H', Rel Φ z S0 H0 K ps { env with cr := n' } σ H' → Ext (Mu z ps) S0 H H' → IsX z K (hide (Sx S0 ps) H') cls d dx → W cls d σ H'
theorem ps_actW {LT : LamD → WFX} {W : WX} {i : Nat} {a : Str} {p1 p2 pos : Pos} (hL : ∀ L, FnL X.prog X.w X.K X.mg X.base k L (LT L)) (hr : Room k X.A) (hgd : X.A.guards = some []) (tk : Takes X W) (hv : PE X (.Name a p1) (tVar i))
    (hs : swapsWith (.Call (.Name a p1) [] [] p2) none pos.line X.env = pure false := by rfl) : PS X (.Expr (.Call (.Name a p1) [] [] p2) pos) (tActW Φ X.K X.w LT i W) := by
  have pe : PE X (.Call (.Name a p1) [] [] p2) (fun σ H Q => tActW Φ X.K X.w LT i W { nx := fun _ H' => ∀ v, Q v H', rt := fun _ _ => False } σ H) := by
    refine ⟨fun pins s σ H Q I ⟨z, S0, H0, ps, env, L, ds, r, hw, e, q⟩ => ?_⟩
    obtain ⟨v, hs, iv⟩ := slot_da r e
    cases iv with
    | @lam f _ xs _ hm ix =>
      have la := z.lmi f L xs H hm r.sta.inv
      refine wpAny_Call_Name_kw (thn (hv.run pins s σ H (fun v H1 => v = .ref f ∧ H1 = H) I ⟨.ref f, hs, rfl, rfl⟩) fun u s1 ⟨v, H1, I1, r1, q1⟩ => ?_)
      obtain ⟨ev, eH⟩ := q1
      subst ev
      rw [eH] at I1
      obtain rfl : u = Value.ref f := r1
      have of1 : ∃ clo pm c' ctv, s1.heap.get? f = some (PySem.W.kla_obj "<lambda>" L.qual L.params L.body L.scope clo pm c' ctv) := by
        obtain ⟨clo, pm, c', ctv, us, cs, l⟩ := la
        exact ⟨clo, pm, c', ctv, frz_obj (h' := s1.heap) I1.hok l.fn⟩
      obtain ⟨clo, pm, c', ctv, of1⟩ := of1
      refine PySem.W.callWith_F0 ⟨_, _, _, _, of1⟩ ?_
      have sp : spX X.K X.w (LT L) xs H Q (fun cls d H' => W cls d σ H') := by
        refine ⟨z.off, Sx S0 ps, ds, env.cr, ⟨hw, rfl⟩, ⟨r.sta.dr, r.sta.wk.fr, r.sta.inv, r.sta.tb⟩, r.dom, ⟨fun p h => .inl (r.zs p h.on), fun p h => .inl (r.zf p h)⟩, ix.off, (hL L).good.1 ds env.cr (fun sl n' q => ?_) (fun dx n' q => ?_) q⟩
        · match sl, q with
          | .da d, q => exact fun v H2 x2 s2 i2 => q H2 (r.callP x2 s2) x2.locP v
          | .ow o, q => exact fun p ho H2 _ _ _ x2 s2 => q H2 (r.callP x2 s2) x2.locP (.ref p)
          | .un, q => exact q.elim
        · intro cls d H2 x2 s2 i2
          exact q cls d H2 (r.callP x2 s2) x2.locP (IsX.cg (z := z.off) (z' := z) rfl rfl rfl rfl i2)
      refine wpAny_call (codeAny_mono ((hL L).run X.A X.stack s1 H f xs Q (fun cls d H' => W cls d σ H') hr hgd I1.env0 la sp) fun rr s' hq => ?_)
      match rr, hq with
      | .error e, hq => exact tk _ _ (XE.of_call I1 (fun cls d H' h => h) hq)
      | .ok (.ret u), hq => exact I1.after hq
      | .ok .next, hq => exact False.elim hq
      | .ok .brk, hq => exact False.elim hq
      | .ok .cont, hq => exact False.elim hq
  refine ps_imp (ps_expr pe hs) fun D σ H ⟨z, S0, H0, ps, env, L, ds, r, hw, e, q⟩ => ⟨z, S0, H0, ps, env, L, ds, r, hw, e, (hL L).good.1 ds env.cr (kAny_mono fun e q H' r' x' v => q H' r' x') (fun _ _ q => q) q⟩
/-- try: a() except x as n: suite -/
def mTry (LT : LamD → WFX) (okC : Addr → Prop) (i j : Nat) (ms : MS) : MS := fun env k => ∃ L ds, env.at i = .da (.lam L ds) ∧ LT L ds env.cr (kAny k.nx env) fun dx n' => ∃ Ce ns fs, dx = .exn Ce ns fs ∧ okC Ce ∧
  ms (DEnv.put { env with cr := n' } j (.da dx)) { nx := fun e => k.nx (unE j e), rt := k.rt, bk := fun e => k.bk (unE j e), ct := fun e => k.ct (unE j e), rf := k.rf }
theorem ds_try {LT : LamD → WFX} {okC : Addr → Prop} {C : Addr} {i j : Nat} {a x n : Str} {b₀ : Stmt} {suite : List Stmt} {p1 p2 p3 np pos pos' : Pos} {ms : MS} (hL : ∀ L, FnL X.prog X.w X.K X.mg X.base k L (LT L)) (hr : Room k X.A) (hgd : X.A.guards = some []) (hw : PhiOk Φ X.w)
    (hs : X.stack = X.env :: X.outer) (hf : X.env.frame = some X.env.locals) (hx0 : X.ex = []) (hN : X.N.Nodup) (hj : X.N[j]? = some n) (hln : X.env.kindOf n = some .local) (hc : Names X x (.ref C)) (hok : ∀ Ce, okC Ce → PySem.W.exmOne X.K (.ref Ce) (.ref C) = some true)
    (hv : ∀ (pn : List (Addr × Obj)) (xe : Value → Shared → Prop), PE (X.tr pn xe) (.Name a p1) (tVar i)) (hsu : ∀ (b : Addr) (pn : List (Addr × Obj)), DSs (X.suite b pn) Φ (b₀ :: suite) ms)
    (hsw : ∀ (pn : List (Addr × Obj)) (xe : Value → Shared → Prop), swapsWith (.Call (.Name a p1) [] [] p2) none p3.line (X.tr pn xe).env = pure false := by intro _ _; rfl) :
    DS X Φ (.Try [.Expr (.Call (.Name a p1) [] [] p2) p3] [.ExceptHandler (some (.Name x np)) (some n) (b₀ :: suite) pos'] [] [] pos) (mTry LT okC i j ms) := by
  have msm := (hsu 0 []).mono
  refine ⟨fun env k k' h ⟨L, ds, e, q⟩ => ⟨L, ds, e, (hL L).good.1 _ _ (kAny_mono h.nx) (fun dx n' ⟨Ce, ns, fs, e1, e2, q⟩ => ⟨Ce, ns, fs, e1, e2, by
      refine msm _ ?_ q
      exact ⟨fun e q => h.nx _ q, h.rt, fun e q => h.bk _ q, fun e q => h.ct _ q, h.rf⟩⟩) q⟩,
    ps_imp (ps_try_kept (c := .ref C) (tb := fun W => tActW Φ X.K X.w LT i W) (ts := fun _ => tDS Φ X.K ms) (Wout := fun _ _ _ _ => False) hs hf hx0 hN hj hln hc takesNo
      (fun W pn xe tk hp => pss_one (ps_actW (X := X.tr pn xe) hL hr hgd tk (hv pn xe) (hsw pn xe))) (fun b pn => (hsu b pn).ps)) fun D σ H ⟨z, S0, H0, ps, env, r, L, ds, e, q⟩ => ?_⟩
  refine ⟨z, S0, H0, ps, env, L, ds, r, hw _ _ _ r.phi, e, (hL L).good.1 _ _ (kAny_mono fun e q H' r' x' => q ps σ H' r' (.of_ext x')) (fun dx n' ⟨Ce, ns, fs, e1, e2, q⟩ => ?_) q⟩
  intro cls d H' r' x' i'
  subst e1
  obtain ⟨ec, i'⟩ := i'
  subst ec
  refine ⟨true, hok Ce e2, fun _ a' oe na hz hd => ?_, fun w => by cases w⟩
  have sm : Same H' (L2.upd H' a' (.frz oe (exU a'))) := same_upd na
  have r2 := r'.sameS sm
  have at_ : hide (Sx S0 ps) (L2.upd H' a' (.frz oe (exU a'))) a' = some (.frz oe (exU a')) := hide_get.mpr ⟨fun w => r'.dom a' w na, upd_same⟩
  have ie : Is z X.K (hide (Sx S0 ps) (L2.upd H' a' (.frz oe (exU a')))) (.ref a') (.exn Ce ns fs) := by
    rcases i' with ⟨d0, rfl, rfl⟩ | ⟨p, xs, d1, g, hl, nn, ix⟩
    · exact .exn0 at_ hd hz.1 (by rw [hz.2, d0])
    · exact .exn1 at_ hd hz.1 (by rw [hz.2, d1]) (hide_keep sm _ _ g) hl nn (ix.evx (.of_same (hide_keep sm)))
  have r3 := r2.put (i := j) ie
  refine ⟨z, S0, H0, _, _, r3, msm _ ?_ q⟩
  have st : Step z S0 ps H (ps.set j none) (L2.upd H' a' (.frz oe (exU a'))) := ⟨x'.trans (.of_same sm), fun p w => .inl (mem_set_none w)⟩
  have go : ∀ {kk : DEnv → Prop} {F : L2.St → Hp → Prop}, (∀ e, kk e → ∀ ps' σ' H2, Rel Φ z S0 H0 X.K ps' e σ' H2 → Step z S0 ps H ps' H2 → F σ' H2) → ∀ e, kk (unE j e) → ∀ ps' σ' H2, Rel Φ z S0 H0 X.K ps' e σ' H2 → Step z S0 (ps.set j none) (L2.upd H' a' (.frz oe (exU a'))) ps' H2 → F (σ'.set j none) H2 := fun {kk F} h e q ps' σ' H2 r' s' => by
    have r4 := r'.unset j
    have s4 : Step z S0 ps H ps' H2 := st.trans s' fun _ hp => r'.noZ hp
    exact h _ q _ _ _ r4 ⟨s4.ext, fun p w => s4.new p (mem_set_none w)⟩
  exact ⟨go fun e q => q, fun _ _ q => q, go fun e q => q, go fun e q => q, fun _ _ q => q⟩
end
end DL
namespace DL
open PySem L2 PySem.Spec PyProof.Rows
/-! ### isinstance(e, C), e an error that was caught -/
def isEW (R : Addr → Addr → Bool → Prop) : WL := fun xs k => ∃ C C' b, xs = [.exn C [] [], .cls C'] ∧ R C C' b ∧ k (.bl b)
theorem cd_isE {X : Cx} {R : Addr → Addr → Bool → Prop} (h : ∀ C C' b, R C C' b → ExcC X.K C ∧ PySem.W.kitOne X.K (.ref C) (.ref C') = some b) : CallD X (.builtin "isinstance") (isEW R) := by
  refine ⟨fun x k k' hk ⟨C, C', b, e, r, q⟩ => ⟨C, C', b, e, r, hk _ q⟩, fun pins s σ H xs us Q I r ⟨z, S, ds, hS, hx, C, C', b, e, hR, q⟩ => ?_⟩
  subst e
  obtain ⟨hC, hk⟩ := h _ _ _ hR
  cases hx with
  | cons h1 t =>
    cases t with
    | cons h2 t =>
      cases t
      cases h2
      cases h1 with
      | exn1 _ _ _ _ _ _ nn _ => exact absurd rfl nn
      | @exn0 a _ oe u g hd hc hdi =>
        cases r with
        | cons rx rr =>
          cases rr with
          | cons rt rr =>
            cases rr
            cases rx
            cases rt
            have hget := (I.hok a _ (hide_same _ _ g)).1
            obtain ⟨vs, hv⟩ := hd
            have J : PySem.W.InstAt s.heap a oe C none := by
              obtain ⟨oc, od, oda, osl⟩ := oe
              dsimp only at hc hdi hv
              subst hc hdi hv
              exact ⟨hget, rfl, rfl, trivial⟩
            exact PySem.W.kia_one (PySem.W.handS_kitx_exc hC.hg hC.hk hC.hs hC.hd hC.ha hC.hn hC.ht hC.hm) I.kIn J hk (fun z => nomatch z) fun tk => ⟨.bl b, H, I.kept (t' := tk) fun _ _ z => z, rfl, q _ H (Grow.refl H) (.bl b)⟩
/-! ### l.index(x), l.count(x), truth values -/
def idxB (b : Bool) : List Bool → Option Nat
  | [] => none
  | c :: r => if c = b then some 0 else (idxB b r).map (· + 1)
theorem idxB_some {b : Bool} : ∀ {l : List Bool} {j : Nat}, idxB b l = some j → l[j]? = some b ∧ ∀ m c, m < j → l[m]? = some c → c ≠ b
  | [], _, h => by cases h
  | c :: r, j, h => by
    unfold idxB at h
    split at h
    · rename_i e
      cases h
      exact ⟨by simp [e], fun m c' hm => by omega⟩
    · rename_i e
      obtain ⟨j', h', rfl⟩ := Option.map_eq_some_iff.mp h
      obtain ⟨h1, h2⟩ := idxB_some h'
      refine ⟨by simpa using h1, fun m c' hm hc => ?_⟩
      cases m with
      | zero => simp at hc; subst hc; exact e
      | succ m => exact h2 m c' (by omega) (by simpa using hc)
theorem vals_bls : ∀ {bs : List Bool} {us : List Value}, Vals (bs.map V.bl) us → us = bs.map Value.bool
  | [], _, .nil => rfl
  | b :: bs, _, .cons r t => by cases r; rw [vals_bls t]; rfl
section
variable {X : Cx} {Φ : Phi}
theorem mt_countB : MtR X "list.count" (fun x xs H Q => ∃ (p : Addr) (bs : List Bool) (b : Bool), x = .ref p ∧ xs = [.bl b] ∧ SqL X.K H p (bs.map V.bl) ∧ Q (.int (bs.count b : Nat)) H) := by
  intro pins s σ H x xs v us Q I rx rxs h
  obtain ⟨p, bs, b, rfl, rfl, hs, q⟩ := h
  cases rx
  obtain ⟨u, rfl, ru⟩ := rxs.one
  cases ru
  obtain ⟨its, rv, ⟨⟨cls, dd, data, sl⟩, n, ho, hc, hdn, hd⟩, hlen⟩ := I.list hs
  simp only at hc hd
  subst hc hd
  have ei : its = bs.map Value.bool := vals_bls rv
  subst ei
  refine call_meets PySem.F.slot_list_count ⟨_, ho, rfl⟩ PySem.F.entry_list_count (PySem.F.args_list_count_2 _ _)
    (SeqAt.list_countAt p (bs.map Value.bool).toArray n dd sl (.bool b) (fun y => y == .bool b)) ⟨ho, fun y hy => ?_, ?_⟩
  · have hy' : y ∈ bs.map Value.bool := by simpa using hy
    obtain ⟨c, _, rfl⟩ := List.mem_map.mp hy'
    have e : ((Value.bool c : Value) == .bool b) = (c == b) := by cases c <;> cases b <;> rfl
    show SeqAt.EqAt _ _ _ _ ((Value.bool c : Value) == .bool b)
    rw [e]
    exact SeqAt.EqAt.bool_bool c b
  · have ec : (bs.map Value.bool).countP (fun y => y == .bool b) = bs.count b := by
      rw [List.countP_map, List.count_eq_countP]
      congr 1
      funext c
      cases c <;> cases b <;> rfl
    refine ⟨.int (bs.count b : Nat), H, I.tok _, ⟨s.toks, ?_⟩, q⟩
    show Value.int (((bs.map Value.bool).toArray.toList.countP (fun y => y == .bool b) : Nat) : Int) s.toks = Value.int ((bs.count b : Nat) : Int) s.toks
    rw [show (bs.map Value.bool).toArray.toList = bs.map Value.bool from rfl, ec]
/-- o.name(e), o a list -/
def mMeth (w : W2) (mo me : ME) : ME := fun env k => mo env fun x e1 => (∃ ds, x = .lst ds) ∧ me e1 fun y e2 => w x y fun d => k d e2
theorem de_meth {o e : Expr} {name : Str} {mo me : ME} {w : W2} {r : V → List V → Hp → VK → Prop} {p2 p3 : Pos} (ho : DE X Φ o mo) (he : DE X Φ e me) (hw : ∀ x y {k k' : KD}, (∀ d, k d → k' d) → w x y k → w x y k')
    (hr : ∀ {z : Z} {S : Addr → Prop} {H : Hp} {x y : V} {dx dy : D} {Q : VK}, Is z X.K (hide S H) x dx → Is z X.K (hide S H) y dy → w dx dy (fun d => ∀ v H', Grow H H' → Is z X.K (hide S H') v d → Q v H') → r x [y] H Q)
    (hq : ∀ to t, PE X o to → PA X [e] t → PE X (.Call (.Attribute o name p2) [e] [] p3) (tBM X.K "list" r to t)) (na : starEach [e] X.env = (false, eval e X.env) :: starEach [] X.env := by rfl) :
    DE X Φ (.Call (.Attribute o name p2) [e] [] p3) (mMeth w mo me) := by
  refine ⟨fun env k k' h q => ho.mono env (fun x e1 ⟨w1, q⟩ => ⟨w1, he.mono e1 (fun y e2 q => hw x y (fun d q => h d e2 q) q) q⟩) q, pe_imp (hq _ _ ho.pe (pa_cons he.pe pa_nil na)) fun σ H Q ⟨z, S0, H0, ps, env, rl, q⟩ => ⟨z, S0, H0, ps, env, rl, ho.mono env (fun x e1 q => ?_) q⟩⟩
  obtain ⟨⟨ds, rfl⟩, q⟩ := q
  intro v H1 r1 x1 i1
  cases i1 with
  | @lst a xs _ g i =>
    refine ⟨.inl ⟨rfl, _, SqL.of (hide_same _ _ g)⟩, z, S0, H0, ps, e1, r1, he.mono e1 (fun y e2 q => ?_) q⟩
    intro u H2 r2 x2 i2
    have j1 := r1.isK (.lst g i) x2
    refine hr j1 i2 (hw _ _ (fun d q => ?_) q)
    intro v' H' s' i'
    exact q v' H' (r2.same s') (x1.trans (x2.trans (.of_same s'.same))) i'
def idxW : W2 := fun x y k => ∃ (bs : List Bool) (b : Bool) (j : Nat), x = .lst (bs.map D.bl) ∧ y = .bl b ∧ idxB b bs = some j ∧ k (.int j)
def cntW : W2 := fun x y k => ∃ (bs : List Bool) (b : Bool), x = .lst (bs.map D.bl) ∧ y = .bl b ∧ k (.int (bs.count b : Nat))
theorem isA_bls {z : Z} {K : PySem.W.Frag} {G : Hp} {bs : List Bool} {v : V} (h : Is z K G v (.lst (bs.map D.bl))) : ∃ a, v = .ref a ∧ G a = some (.lst (bs.map V.bl)) := by
  cases h with
  | lst g i => exact ⟨_, rfl, by rw [← i.bls]; exact g⟩
theorem de_index {o e : Expr} {mo me : ME} {p2 p3 : Pos} (ho : DE X Φ o mo) (he : DE X Φ e me) (hq : ∀ to t, PE X o to → PA X [e] t → PE X (.Call (.Attribute o "index" p2) [e] [] p3) (tBM X.K "list" (rIndex X.K) to t)) (na : starEach [e] X.env = (false, eval e X.env) :: starEach [] X.env := by rfl) :
    DE X Φ (.Call (.Attribute o "index" p2) [e] [] p3) (mMeth idxW mo me) := by
  refine de_meth ho he (fun x y k k' h ⟨bs, b, j, e1, e2, e3, q⟩ => ⟨bs, b, j, e1, e2, e3, h _ q⟩) (fun {z S H x y dx dy Q} i1 i2 ⟨bs, b, j, e1, e2, e3, q⟩ => ?_) hq na
  subst e1 e2
  cases i2
  obtain ⟨a, rfl, g⟩ := isA_bls i1
  obtain ⟨h1, h2⟩ := idxB_some e3
  refine ⟨a, bs.map V.bl, .bl b, j, .bl b, rfl, rfl, SqL.of (hide_same _ _ g), rfl, ?_, by rw [List.getElem?_map, h1]; rfl, by cases b <;> rfl, fun m z' hm hz => ?_, q _ H (Grow.refl H) (.int _)⟩
  · rw [List.all_map]; exact List.all_eq_true.mpr fun _ _ => rfl
  · rw [List.getElem?_map] at hz
    obtain ⟨c, hc, rfl⟩ := Option.map_eq_some_iff.mp hz
    have := h2 m c hm hc
    cases c <;> cases b <;> first | rfl | exact absurd rfl this
theorem de_count {o e : Expr} {mo me : ME} {p2 p3 : Pos} (ho : DE X Φ o mo) (he : DE X Φ e me) (hq : ∀ to t, PE X o to → PA X [e] t → PE X (.Call (.Attribute o "count" p2) [e] [] p3) (tBM X.K "list" (fun x xs H Q => ∃ (p : Addr) (bs : List Bool) (b : Bool), x = .ref p ∧ xs = [.bl b] ∧ SqL X.K H p (bs.map V.bl) ∧ Q (.int (bs.count b : Nat)) H) to t)) (na : starEach [e] X.env = (false, eval e X.env) :: starEach [] X.env := by rfl) :
    DE X Φ (.Call (.Attribute o "count" p2) [e] [] p3) (mMeth cntW mo me) := by
  refine de_meth ho he (fun x y k k' h ⟨bs, b, e1, e2, q⟩ => ⟨bs, b, e1, e2, h _ q⟩) (fun {z S H x y dx dy Q} i1 i2 ⟨bs, b, e1, e2, q⟩ => ?_) hq na
  subst e1 e2
  cases i2
  obtain ⟨a, rfl, g⟩ := isA_bls i1
  exact ⟨a, bs, b, rfl, rfl, SqL.of (hide_same _ _ g), q _ H (Grow.refl H) (.int _)⟩
end
/-! ### promises of lambdas together -/
section
variable {P : Program} {w : World} {K : PySem.W.Frag} {mg : Str → Option Value} {base : Heap} {k : Nat}
def LTor (L0 : LamD) (W0 : WFX) (LT : LamD → WFX) : LamD → WFX := fun L ds n q e => (L = L0 ∧ W0 ds n q e) ∨ LT L ds n q e
def LTno : LamD → WFX := fun _ _ _ _ _ => False
theorem fnL_no : ∀ L, FnL P w K mg base k L (LTno L) := fun L => ⟨⟨fun _ _ {_ _ _ _} _ _ q => q, fun _ _ _ _ q => q.elim⟩, fun _ _ _ _ q => q.elim, fun A outer s H f vs Q E _ _ _ _ ⟨_, _, _, _, _, _, _, _, _, q⟩ => q.elim⟩
theorem fnL_or {L0 : LamD} {W0 : WFX} {LT : LamD → WFX} (h0 : FnL P w K mg base k L0 W0) (h : ∀ L, FnL P w K mg base k L (LT L)) : ∀ L, FnL P w K mg base k L (LTor L0 W0 LT L) := fun L =>
  ⟨⟨fun ds n {q q' e e'} a b w => w.imp (fun ⟨l, w⟩ => ⟨l, h0.good.1 ds n a b w⟩) fun w => (h L).good.1 ds n a b w, fun ds n q e w => w.elim (fun ⟨l, w⟩ => l ▸ h0.good.2 _ _ _ _ w) fun w => (h L).good.2 _ _ _ _ w⟩,
   fun ds n q e w => w.elim (fun ⟨l, w⟩ => h0.nl _ _ _ _ w) fun w => (h L).nl _ _ _ _ w,
   fun A outer s H f vs Q E a b c d ⟨z, S0, ds, n, e1, e2, e3, e4, e5, q⟩ => by
    rcases q with ⟨l, q⟩ | q
    · subst l; exact h0.run A outer s H f vs Q E a b c d ⟨z, S0, ds, n, e1, e2, e3, e4, e5, q⟩
    · exact (h L).run A outer s H f vs Q E a b c d ⟨z, S0, ds, n, e1, e2, e3, e4, e5, q⟩⟩
end
end DL
namespace DL
open PySem L2 PySem.Spec PyProof.Rows LamX
section
variable {P : Program} {w : World} {K : PySem.W.Frag} {mg : Str → Option Value} {base : Heap}
/-- what is known of z in a law that makes lambdas -/
abbrev PhiT (w : World) (T : Addr) (q : Str) : Phi := PhiZ fun z => z.w = w ∧ z.tb = [(T, q)]
/-- what the law's def promises, its table of code objects empty at the start -/
def LawOkT (P : Program) (w : World) (K : PySem.W.Frag) (mg : Str → Option Value) (base : Heap) (k : Nat) (f : Addr) (fd : FuncData) (T : Addr) : Prop :=
  ∀ (A : Around) (outer : List Env) (s : Shared) (H : Hp) (args : Args) (u : Value) (a : Addr) (ns : List Int), Room k A → A.guards = some [] → Env0 P w K mg base A outer s H → BindsTo s fd args [("script", u)] → RelV (.ref a) u → SqL K H a (ns.map V.int) → H T = some (.tbl #[]) → ns.length ≤ 63 →
    codeAny (model P w) A (.call (.ref f) args) (CR CX0 outer P w H s (fun v _ => v = .bl true) E0) s
theorem law_ofT {st : Stmt} {f fb c T : Addr} {fd fdb : FuncData} {N : List Str} {k si : Nat} {m : MS} {px pc pn pa ps' : Pos} {rest : List Stmt} {ql : Str} (F : Fun K "law" "law" st f fd) (hcode : fd.code = .ref c) (S : FnScope N ["script"] (defScope st))
    (hbo : defBody st = .Assign [.Name "state" px] (.Call (.Name "_law_begun" pn) [.Name "script" pa] [] pc) ps' :: rest) {sb : Stmt} (Fb : Fun K "_law_begun" "_law_begun" sb fb fdb) (hm : mg "_law_begun" = some (.ref fb)) (bb : Binds K fdb ["script"] []) (G : FnOk P w K mg base CX0 1 fb fdb ["script"] (spBegun K)) (k1 : 1 ≤ k)
    (h0 : N[0]? = some ("script" : Str)) (hsi : N[si]? = some ("state" : Str)) (hl0 : Vis (defScope st) "script") (hlo : Loc (defScope st) "state") (hgl : (defScope st).names.lookup ("_law_begun" : Str) = some NameKind.globalImplicit)
    (hrest : ∀ (A : Around) (outer : List Env) (s : Shared) (H : Hp), Room k (cxD P w K mg base N "law" (defScope st) f (.ref c) A outer s H).A → (cxD P w K mg base N "law" (defScope st) f (.ref c) A outer s H).A.guards = some [] →
      DSs (cxD P w K mg base N "law" (defScope st) f (.ref c) A outer s H) (PhiT w T ql) rest m)
    (hq : ∀ ns : List Int, ns.length ≤ 63 → m (lawE N.length si ns) { nx := fun _ => False, rt := fun d _ => d = .bl true }) : LawOkT P w K mg base (k + 1) f fd T := by
  obtain ⟨oc, od, kV, doc, pm, an, cdv, ct, osl, rfl, lk, hcd⟩ := F.ex
  have ecd : cdv = .ref c := hcode
  subst ecd
  intro A outer s H args u a ns hr hgd e0 hb ru hS hT hl
  have keep := fun b o e => (e0.bs b o e).1
  have KX : K.In s.heap := e0.mod.kin.keeps keep
  have lim : s.heap.NoLimit := e0.mod.nolimit.keeps keep
  have hm' := hrest A outer s H (hr.deeper _) (deeper_guards hgd)
  refine codeAny_call_function hr.depth (KX _ _ lk) rfl S.co S.gen rfl (PySem.W.codeRec_of KX hcd) (hb _ _ _ _ ?_)
  have hpar := S.par "script" (by simp)
  refine wpAny_newFunctionEnv_cells S.kind (fun y hy => ?_) fun env he s1 x => ?_
  · rw [List.mem_singleton.mp hy]
    rcases hpar with q | q
    · exact .inl q
    · exact .inr ⟨q, PySem.W.cellsFrom_some _ _ _ (.inl q)⟩
  · subst he
    refine ⟨lim.keeps x.toInCall.keep, codeAny_func ?_⟩
    have I0 : Inv (cxOf CX0 P w K mg base N "law" (defScope st) f (.ref c) A outer s H E0) [] (L2.start N [.ref a]) H s1 := inv_start (ps := ["script"]) (us := [u]) S hr.hd e0 rfl (.cons ru .nil) x
    have I : Inv (cxD P w K mg base N "law" (defScope st) f (.ref c) A outer s H) [] (L2.start N [.ref a]) H s1 := I0.wish _
    have hN0 : 0 < N.length := (List.getElem?_eq_some_iff.mp h0).1
    have hbody : PSs (cxD P w K mg base N "law" (defScope st) f (.ref c) A outer s H) (defBody st) (tSeq (tAsg (tCall (spBegun K) [] E0 (tCons (tVar 0) tNil)) (gName si)) (tDS (PhiT w T ql) K m)) := by
      rw [hbo]
      exact pss_cons (ps_set (i := si) S.nd hsi hlo (pe_call G ((hr.deeper _).mono k1) hgl hm Fb.kp bb .nil pass0 (pa_cons (pe_var h0 hl0) pa_nil))) hm'.ps
    have hrun := hbody.run [] s1 (L2.start N [.ref a]) H { nx := fun _ H' => False, rt := fun v _ => v = .bl true } I ?_
    · refine wpAny_mono hrun (fun fl s' hs => ?_) fun e s' hs => hs.elim
      match fl, hs with
      | .ret u, ⟨v, σ', H', J, rv, q⟩ => exact ⟨v, H', J.os, J.bare, J.base, J.hok, rv, q⟩
      | .next, ⟨σ', H', J, q⟩ => exact q.elim
      | .brk, ⟨_, _, _, q⟩ => exact q.elim
      | .cont, ⟨_, _, _, q⟩ => exact q.elim
    · refine ⟨.ref a, rfl, a, ns, rfl, hS, hl, fun q H' na nb nc st' sm => ?_⟩
      let z : Z := { w := w, q := some q, tb := [(T, ql)] }
      have stz : Sta z (2 ^ 40) none H' := ⟨fun q1 e1 => by cases e1; exact st', fun _ _ _ e1 => (by cases e1), trivial, fun p hp => by
        rw [List.mem_singleton.mp hp]; exact TabS.nil (sm.same _ _ hT)⟩
      have hz : ∀ p, Zs z p → H' p ≠ none := fun p w => stz.dom w
      have hf : ∀ p, Zf z p → Zs z p := fun p ⟨_, _, w⟩ => (by cases w)
      have hS' : SqL K (hide (Zs z) H') a (ns.map V.int) := by
        have ne : ∀ {o}, H a = some o → (∀ ts, o ≠ .tbl ts) → ¬ Zs z a := fun {o} e nt w => by
          rcases w with ⟨q1, e1, w | w⟩ | ⟨w, _⟩ | ⟨q1, w⟩
          · cases e1; rw [w, na] at e; cases e
          · cases e1; rw [w, nb] at e; cases e
          · cases w
          · have := List.mem_singleton.mp w
            cases this
            rw [hT] at e; cases e; exact nt _ rfl
        rcases hS with (e | ⟨o, e⟩) | e
        · exact .inl (.inl (hide_get.mpr ⟨ne e (fun _ w => by cases w), sm.same _ _ e⟩))
        · exact .inl (.inr ⟨o, hide_get.mpr ⟨ne e (fun _ w => by cases w), sm.same _ _ e⟩⟩)
        · exact .inr e
      have r1 := rel_start (Φ := PhiT w T ql) (z := z) (N := N) (n := 2 ^ 40) (K := K) ⟨rfl, rfl⟩ stz hz ⟨fun p w => w, hf⟩ (.cons (.scr hS') .nil)
      have r2 := r1.put (i := si) (v := .ref q.a) (d := .sta) (.sta rfl)
      refine ⟨z, Zs z, H', _, _, r2, hm'.mono _ ?_ (hq ns hl)⟩
      refine ⟨fun e q => q.elim, fun d e q ps' v σ' H'' r' i' => ?_, fun e q => q.elim, fun e q => q.elim, fun _ _ q => q.elim⟩
      subst q
      cases i'
      rfl
end
/-- the goal that k_head leaves, from the law's promise; the law makes lambdas -/
theorem walk_lawT {l : PySem.W.OpenLaw} {k : Nat} {q : Program} {loose : List Str} {XP : (Str → Option Value) → Heap → Prop} {YP : World → Heap → Prop} {d : DefRec} {K : Params → PySem.W.Frag}
    (hi : importsNone q = true) (hn : l.most = some 63) (hdf : d.params.defaults = []) (hr : Room k callerA) (hrec : ((recsOf q).any fun e => e.name == d.name) = true) (hY : ∀ (w : World) (h : Heap), YP w h → (K w.params).In h)
    (F : ∀ (w : World) (mg : Str → Option Value) (fa : Addr) (h : Heap), (K w.params).In h → h.Ns mainGlobals mg → mg d.name = some (.ref fa) → ∃ (fd : FuncData) (c T : Addr) (o : Obj) (e : Value) (dd : Option Addr) (vs : Array Value) (sl : Array (Option Value)), (∀ (s : Shared) (u : Value), BindsTo s fd ⟨[u], []⟩ [("script", u)]) ∧
        (K w.params).lookup fa = some o ∧ o.data = .func fd ∧ fd.code = .ref c ∧ (K w.params).lookup c = some ⟨e, dd, .fields vs, sl⟩ ∧ vs[11]? = some (.ref T) ∧ (K w.params).lookup T = none ∧ PySem.W.CodeHd h c T ∧
        ∀ base : Heap, (K w.params).In base → base.Ns mainGlobals mg → (∃ o, base.get? sysModules = some o) → TabB base mg c T → LawOkT l.prog w (K w.params) mg base k fa fd T) : PySem.W.WalkO q loose XP YP l.row.toRowW d [] (fun f vs => PySem.call f vs) := by
  intro w s₀ s₁ mg mb G Y fa o pm cd doc dV kV ho hd hcd hD hmg hg args vals as hpre hlay hrd hwl hlo
  obtain rfl : dV = .none := PySem.W.Dflts.none hD hdf
  obtain rfl : kV = .none := PySem.W.Dflts.noKw hD
  obtain ⟨a, vs, ns, rfl, rfl, hobj, hints, hlen⟩ := Att.script_of hn hpre hwl
  have nlow : a ≠ sysModules := by
    cases hrd with
    | cons h1 h2 =>
      cases h2
      cases h1 with
      | list e1 e2 e3 e4 =>
        have := hlo a (by simp)
        simpa using this
  have KX := hY w _ Y
  obtain ⟨fd, c, T, o1, ev, dd, vs1, sl, hb, k1, k2, k3, k4, k5, nT, CH, hF⟩ := F w mg fa _ KX G.T.g hmg
  have hTab : s₁.heap.get? T = some { cls := .none, data := .fields #[] } := by
    obtain ⟨dL, hm, hn1⟩ := List.any_eq_true.mp hrec
    have hn2 : dL.name = d.name := beq_iff_eq.mp hn1
    obtain ⟨a', o', fd', c', P', h1, h2, h3, h4, h5, h6⟩ := G.T.tab dL hm
    rw [hn2, hmg] at h1
    cases h1
    have g1 := KX _ _ k1
    rw [g1] at h2
    cases h2
    rw [k2] at h3
    cases h3
    rw [k3] at h4
    cases h4
    obtain ⟨⟨oc, vc, e1, _, e3, e4⟩, hP⟩ := h6
    have g2 := KX _ _ k4
    rw [g2] at e1
    cases e1
    cases e3
    rw [k5] at e4
    cases e4
    exact hP
  have rv := vals_ints hints
  have lenV := hints.length
  have low : ∃ o, s₁.heap.get? sysModules = some o := by
    obtain ⟨mm, ⟨o, es, ep, e, _⟩, _⟩ := (G.T.seer hi).mods
    exact ⟨o, e⟩
  have lowD : ∀ o, s₁.heap.get? sysModules = some o → o.data ≠ .fields #[] := fun o e w => by
    obtain ⟨mm, ⟨o', es, ep, e', dd', _⟩, _⟩ := (G.T.seer hi).mods
    rw [e] at e'; cases e'
    rw [dd'] at w; cases w
  have aT : a ≠ T := fun w => by
    rw [← w, hobj] at hTab
    have z' : Data.seq vs.toArray _ = Data.fields #[] := congrArg Obj.data (Option.some.inj hTab)
    cases z'
  have core : ∀ H : Hp, H T = some (.tbl #[]) → (∀ b, H b = none ∨ b = T ∨ ∃ o xs, H b = some (.frz o (.lst xs))) → SqL (K w.params) H a (ns.map V.int) → HOk l.prog w H s₁.heap → (∀ b, H b ≠ none → b = a ∨ b = T) → (H a ≠ none → (K w.params).lookup a = none) →
      codeAny (model l.prog w) callerA (.call (.ref fa) ⟨[.ref a], []⟩) (fun r s' => r = .ok (.ret (.bool true)) ∧ OldK s₁.heap s'.heap ∧ s'.os = s₁.os ∧ AllBare s'.gens) s₁ := by
    intro H hH hO hS hok hA hK
    have hide0 : ∀ {b : Addr} {o : Obj}, s₁.heap.get? b = some o → H b = none → (hidT s₁.heap H).get? b = some o := fun e n => hidT_get e n
    have noD : ∀ {b : Addr} {o : Obj}, s₁.heap.get? b = some o → (∀ vs n, o.data ≠ .seq vs n) → o.data ≠ .fields #[] → H b = none := fun {b o} e h1 h2 => by
      cases q : H b with
      | none => rfl
      | some u =>
        rcases hA b (by rw [q]; simp) with e' | e'
        · rw [e', hobj] at e
          cases e
          exact (h1 _ _ rfl).elim
        · rw [e', hTab] at e
          cases e
          exact (h2 rfl).elim
    have nsK : ∀ {b : Addr} {mm : Str → Option Value}, s₁.heap.Ns b mm → (hidT s₁.heap H).Ns b mm := fun {b mm} ⟨o, es, ep, e, dd, r⟩ => ⟨o, es, ep, hide0 e (noD e (fun vs n z => by rw [dd] at z; cases z) fun z => by rw [dd] at z; cases z), dd, r⟩
    have kb : (K w.params).In (hidT s₁.heap H) := fun b o e => by
      refine hide0 (KX b o e) ?_
      cases e2 : H b with
      | none => rfl
      | some u =>
        rcases hA b (by rw [e2]; simp) with eb | eb
        · subst eb
          rw [hK (by rw [e2]; simp)] at e; cases e
        · subst eb
          rw [nT] at e; cases e
    have hM : Mod (K w.params) mg (hidT s₁.heap H) := ⟨kb, nsK G.T.g, ⟨mb, nsK G.T.b, G.T.builtins⟩, by obtain ⟨mc, h1, h2⟩ := G.T.nolimit; exact ⟨mc, nsK h1, h2⟩⟩
    have TB : TabB (hidT s₁.heap H) mg c T := by
      refine ⟨?_, ?_, fun z => ?_⟩
      · obtain ⟨o, us, file, tf, flags, tg, inF, text, tt, e1, r1, r2, r3, r4, r5, r6, r7, r8, hne⟩ := CH
        refine ⟨o, us, file, tf, flags, tg, inF, text, tt, hide0 e1 (noD e1 (fun vs n z => ?_) fun z => ?_), r1, r2, r3, r4, r5, r6, r7, r8, hne⟩
        · rw [r2] at z
          cases z
        · rw [r2] at z
          cases z
          simp at r3
      · obtain ⟨bm, ob, b1, b2, b3, b4, b5, b6⟩ := G.T.bmain
        have nG : bm ≠ mainGlobals := fun q => by
          obtain ⟨o, es, ep, e, hd, _⟩ := G.T.g
          rw [q, e] at b3
          cases b3
          rw [hd] at b6
          cases b6
        have nP : bm ≠ T := fun q => by
          rw [q, hTab] at b3
          cases b3
          cases b6
        refine ⟨bm, ob, b1, b2, nG, nP, hide0 b3 (noD b3 (fun vs n z => ?_) fun z => ?_), b4, b5, b6⟩
        · rw [b6] at z
          cases z
        · rw [b6] at z
          cases z
      · obtain ⟨o, es, ep, e, hd, _⟩ := G.T.g
        rw [z, hTab] at e
        cases e
        cases hd
    have e0 : Env0 l.prog w (K w.params) mg (hidT s₁.heap H) callerA [] s₁ H := ⟨rfl, hM, fun b o e => of_hidT e, Nat.le_of_eq (hidT_size _ _), trivial, fun b hb => absurd hb (by simp [frs]), hok, .of_eq hg⟩
    have hlow : ∃ o, (hidT s₁.heap H).get? sysModules = some o := by
      obtain ⟨o, e⟩ := low
      refine ⟨o, hide0 e ?_⟩
      cases q : H sysModules with
      | none => rfl
      | some u =>
        rcases hA _ (by rw [q]; simp) with e' | e'
        · exact absurd e'.symm nlow
        · exfalso
          rw [e', hTab] at e
          cases e
          exact lowD _ (by rw [e']; exact hTab) rfl
    refine codeAny_mono (hF _ kb (nsK G.T.g) hlow TB callerA [] s₁ H ⟨[.ref a], []⟩ (.ref a) a ns hr rfl e0 (hb s₁ (.ref a)) rfl hS hH hlen) fun r s' h => ?_
    match r, h with
    | .error e, h => exact h.elim
    | .ok .next, h => exact h.elim
    | .ok .brk, h => exact h.elim
    | .ok .cont, h => exact h.elim
    | .ok (.ret u), ⟨v, H', os, bare, un, hok', r', q⟩ =>
      cases (show v = .bl true from q)
      cases (show u = Value.bool true from r')
      have key : ∀ b o, b ≠ T → s₁.heap.get? b = some o → s'.heap.get? b = some o := fun b o nb e => by
        cases q : H b with
        | none => exact un.keep b o e q (by simp [frs]) (by simp)
        | some u =>
          rcases hO b with z | z | ⟨ob, xs, z⟩
          · rw [q] at z; cases z
          · exact absurd z nb
          · have z2 := un.frzs b ob _ z
            have e1 := (hok b _ z).1
            have e2 := (hok' b _ z2).1
            rw [e] at e1; cases e1
            exact e2
      obtain ⟨more, z⟩ := un.tbls T #[] hH
      have hm : s'.heap.get? T = some { cls := .none, data := .fields (#[] ++ more) } := hok' T _ z
      refine ⟨rfl, ⟨fun b o e => ?_, fun b o e => ?_⟩, os, bare⟩
      · by_cases hb : b = T
        · subst hb
          rw [hTab] at e
          cases e
          exact .inr (.inl ⟨(CH.tab hTab).isCodeTable, rfl, #[], more, rfl, hm⟩)
        · exact .inl (key b o hb e)
      · by_cases hb : b = T
        · subst hb
          exact ⟨_, hm⟩
        · exact ⟨o, key b o hb e⟩
  have main : codeAny (model l.prog w) callerA (.call (.ref fa) ⟨[.ref a], []⟩) (fun r s' => r = .ok (.ret (.bool true)) ∧ OldK s₁.heap s'.heap ∧ s'.os = s₁.os ∧ AllBare s'.gens) s₁ := by
    have hl : ns.length ≤ sizeLine := Nat.le_trans hlen (by decide)
    cases hk : (K w.params).lookup a with
    | some o =>
      have e := KX a o hk
      rw [hobj] at e
      cases e
      refine core (fun b => if b = T then some (.tbl #[]) else none) (if_pos rfl) (fun b => ?_) (.inr ⟨_, vs.toArray, _, hk, rfl, rfl, rfl, by rw [List.size_toArray, lenV]; exact hl, by simpa using rv⟩) (fun b u z => ?_) (fun b z => ?_) fun z => absurd (if_neg aT) z
      · by_cases hb : b = T
        · exact .inr (.inl hb)
        · exact .inl (if_neg hb)
      · by_cases hb : b = T
        · have z' := (if_pos hb).symm.trans z
          cases z'
          rw [hb]; exact hTab
        · have z' := (if_neg hb).symm.trans z
          cases z'
      · by_cases hb : b = T
        · exact .inr hb
        · exact absurd (if_neg hb) z
    | none =>
      let o0 : Obj := { cls := .type "list", data := .seq vs.toArray }
      refine core (fun b => if b = a then some (.frz o0 (.lst (ns.map V.int))) else if b = T then some (.tbl #[]) else none) ((if_neg (show ¬ T = a from fun z => aT z.symm)).trans (if_pos rfl)) (fun b => ?_) (.inl (.inr ⟨o0, if_pos rfl⟩)) (fun b u z => ?_) (fun b z => ?_) fun _ => hk
      · by_cases hb : b = a
        · exact .inr (.inr ⟨_, _, if_pos hb⟩)
        · by_cases hb2 : b = T
          · exact .inr (.inl hb2)
          · exact .inl ((if_neg hb).trans (if_neg hb2))
      · by_cases hb : b = a
        · have z' := (if_pos hb).symm.trans z
          cases z'
          subst hb
          exact ⟨hobj, by rw [List.length_map]; exact hl, vs, _, rv, hobj⟩
        · have z1 := (if_neg hb).symm.trans z
          by_cases hb2 : b = T
          · have z' := (if_pos hb2).symm.trans z1
            cases z'
            rw [hb2]; exact hTab
          · have z' := (if_neg hb2).symm.trans z1
            cases z'
      · by_cases hb : b = a
        · exact .inl hb
        · by_cases hb2 : b = T
          · exact .inr hb2
          · exact absurd ((if_neg hb).trans (if_neg hb2)) z
  refine PySem.W.enter_call (codeAny_mono main fun r s' hq => ?_)
  obtain ⟨rfl, h2, h3, h4⟩ := hq
  exact ⟨.inl ⟨.bool true, .bool true, [], rfl, fun _ => rfl, .bool true, Att.post_true l _, fun _ => ⟨List.Pairwise.nil, fun _ hm => (nomatch hm)⟩⟩, h2, h3, h4⟩
end DL
namespace DL
open PySem L2 PySem.Spec PyProof.Rows
/-- the base of the package's errors, as the model has it -/
abbrev veB : List Value := [.type "ValueError", .type "Exception", .type "BaseException", .type "object"]
/-- a class of errors of the module -/
structure ClsE (K : PySem.W.Frag) (mg : Str → Option Value) (x : Str) (C : Addr) : Prop where
  mg : mg x = some (.ref C)
  kp : PySem.W.keepIn K (.ref C) = true
  sub : PySem.W.subIn K (.ref C) (.type "BaseException") = some true
  ty : PySem.W.typeIn K (.ref C) = some (.type "type")
  is : ExcC K C
theorem ClsE.glob {K : PySem.W.Frag} {mg : Str → Option Value} {x : Str} {C : Addr} (h : ClsE K mg x C) : Glob K mg x (.cls C) := ⟨.ref C, _, h.mg, rfl, fun _ _ => .cls C⟩
section
variable {X : Cx} {Φ : Phi} {x : Str} {p pos : Pos} {E : XK} {kx : D → Nat → Prop}
theorem de_okE {st : Stmt} {k : Nat} {ps : List Str} {W : WFX} {e : Expr} {es : List Expr} {n : MA} (o : OkX X.prog X.w X.K X.mg X.base x st k ps W) (hr : Room k X.A) (hgd : X.A.guards = some []) (tk : Takes X fun cls d _ H => E cls d H) (ha : DA X (PhiE X.K X.w E kx) (e :: es) n) (hg : Gl X x := by rfl)
    (hdb : (x == ("__debug__" : Str)) = false := by decide) (he : starEach (e :: es) X.env = (false, eval e X.env) :: starEach es X.env := by rfl) (hpl : (backTo pos (starEach es X.env)).any (·.1) = false := by rfl) : DE X (PhiE X.K X.w E kx) (.Call (.Name x p) (e :: es) [] pos) (mCallX W kx n) := by
  obtain ⟨f, fd, a, F, m, b⟩ := o.ex
  exact de_callX F hr hgd tk (fun _ _ _ h => h) hg m a.kp b ha hdb he hpl
theorem df_okE {st : Stmt} {k : Nat} {ps : List Str} {W : WFX} {e : Expr} {es : List Expr} {n : MA} (o : OkX X.prog X.w X.K X.mg X.base x st k ps W) (hr : Room k X.A) (hgd : X.A.guards = some []) (tk : Takes X fun cls d _ H => E cls d H) (ha : DA X (PhiE X.K X.w E kx) (e :: es) n) (hg : Gl X x := by rfl)
    (hdb : (x == ("__debug__" : Str)) = false := by decide) (he : starEach (e :: es) X.env = (false, eval e X.env) :: starEach es X.env := by rfl) (hpl : (backTo pos (starEach es X.env)).any (·.1) = false := by rfl) : DF X (PhiE X.K X.w E kx) (.Call (.Name x p) (e :: es) [] pos) (mCallXF W kx n) := by
  obtain ⟨f, fd, a, F, m, b⟩ := o.ex
  exact df_callX F hr hgd tk (fun _ _ _ h => h) hg m a.kp b ha hdb he hpl
theorem de_okKE {st : Stmt} {k : Nat} {ps : List Str} {W : WFX} {kws : List Keyword} {ks : List Str} {js : List Nat} {n : MA} (o : OkX X.prog X.w X.K X.mg X.base x st k ps W) (hr : Room k X.A) (hgd : X.A.guards = some []) (tk : Takes X fun cls d _ H => E cls d H)
    (h : ∀ (kV doc pm : Value) (an : Option Addr) (cdv ct : Value) (us : List Value), us.length = ks.length → bindArgs (PySem.W.fnOf x x (defArgs st) (defBody st) (defScope st) .none kV doc pm an cdv ct) ⟨[], ks.zip us⟩ = pure (ps.zip (perm js us)))
    (hkw : DK X (PhiE X.K X.w E kx) kws n) (hg : Gl X x := by rfl) (hall : (backToKw pos (keywordEach kws X.env)).all (·.1.isSome) = true := by rfl) (hks : (backToKw pos (keywordEach kws X.env)).filterMap (·.1) = ks := by rfl)
    (hdb : (x == ("__debug__" : Str)) = false := by decide) (hpl : ((backTo pos (starEach [] X.env)).any (·.1) || (backToKw pos (keywordEach kws X.env)).any (·.1.isNone)) = false := by rfl) :
    DE X (PhiE X.K X.w E kx) (.Call (.Name x p) [] kws pos) (mCallKX W kx ks.length js n) := by
  obtain ⟨f, fd, a, F, m, b⟩ := o.ex
  exact de_callKX F hr hgd tk (fun _ _ _ h => h) hg m a.kp (kwB (mg := X.mg) a h) hkw hall hks hdb hpl
/-- raise C('..') -/
theorem ds_raiseE {C : Addr} {m : Str} {j : Nat} {p2 rp : Pos} (c : ClsE X.K X.mg x C) (ex : PySem.W.excIn X.K C veB "ValueError.__new__" = true) (tk : Takes X fun cls d _ H => E cls d H) (hc : X.calm = true := by rfl) (hg : Gl X x := by rfl) (hdb : (x == ("__debug__" : Str)) = false := by decide) :
    DS X (PhiE X.K X.w E kx) (.Raise (some (.Call (.Name x p) [.Constant (.str m) j p2] [] pos)) none rp) (mRaise0 C kx) :=
  ds_raise0 hc tk (fun _ _ _ h => h) PySem.F.excBase_ValueError ex c.mg c.kp (raises_own c.sub c.ty) hg hdb
/-- target = e, the target any -/
def mAsgG (g : MG) (me : ME) : MS := fun env k => me env fun d e => g d e k.nx
theorem ds_asgG {tg e : Expr} {me : ME} {g : MG} (hg : DG X Φ tg g) (he : DE X Φ e me) (hs : swapsWithSole [tg] e pos.line X.env = pure false := by rfl) (hw : swappedStores [tg] e X.env = pure none := by rfl)
    (h1 : (assignEach [tg] X.env).map (·.2) = [assign tg X.env] := by rfl) : DS X Φ (.Assign [tg] e pos) (mAsgG g me) := by
  refine ⟨fun env k k' h q => he.mono env (fun d e q => hg.mono d e (fun e q => h.nx e q) q) q, ps_imp (ps_asg he.pe hg.pg hs hw h1) fun D σ H ⟨z, S0, H0, ps, env, r, q⟩ => ⟨z, S0, H0, ps, env, r, he.mono env (fun d e q => ?_) q⟩⟩
  intro v H1 r1 x1 i1
  refine ⟨z, S0, H0, ps, e, d, r1, i1, hg.mono d e (fun e' q ps' σ' H' r' st' => q ps' σ' H' r' ((Step.of_ext x1).trans st' fun _ hp => r'.noZ hp)) q⟩
end
section
variable {X : Cx} {x : Str} {p pos : Pos}
/-- x(lambda: body), x a def of the module -/
theorem de_lamO {st : Stmt} {k : Nat} {a : Str} {W : WFX} {c T : Addr} {params : Arguments} {body : Expr} {scope : Scope} {lpos : Pos} {is : List Nat} (o : OkX X.prog X.w X.K X.mg X.base x st k [a] W) (hr : Room k X.A) (hgd : X.A.guards = some []) (TB : LamX.TabB X.base X.mg c T) (hcode : X.env.code = .ref c)
    (hL : LamHere X ⟨X.env.qual ++ "<lambda>", params, body, scope⟩ is) (hdef : defaultsOf params X.env = ([], []) := by rfl) (hg : Gl X x := by rfl) (hdb : (x == ("__debug__" : Str)) = false := by decide) :
    DE X (PhiT X.w T (X.env.qual ++ "<lambda>")) (.Call (.Name x p) [.Lambda params body scope lpos] [] pos) (mLam W ⟨X.env.qual ++ "<lambda>", params, body, scope⟩ is) := by
  obtain ⟨f, fd, b, F, m, bb⟩ := o.ex
  refine de_lam F hr hgd m b.kp bb TB hcode (fun z S0 H0 h => ?_) hL hdef hg hdb
  obtain ⟨h1, h2⟩ := h
  refine ⟨h1, by rw [h2]; exact List.mem_cons_self, fun q hq _ => ?_⟩
  rw [h2] at hq
  rw [List.mem_singleton.mp hq]
end
/-! ### the way to a lambda's text -/
def sAt (i : Nat) (l : List Stmt) : Stmt := l.getD i (.Pass ⟨0, 0, 0, 0⟩)
def eAt (i : Nat) (l : List Expr) : Expr := l.getD i (.Constant .none 0 ⟨0, 0, 0, 0⟩)
def sBody : Stmt → List Stmt
  | .For _ _ b _ _ => b
  | .While _ b _ _ => b
  | .If _ b _ _ => b
  | _ => []
def sElse : Stmt → List Stmt
  | .If _ _ b _ => b
  | _ => []
def sVal : Stmt → Expr
  | .Assign _ e _ => e
  | .Expr e _ => e
  | .Return (some e) _ => e
  | .If e _ _ _ => e
  | _ => .Constant .none 0 ⟨0, 0, 0, 0⟩
def eArgs : Expr → List Expr
  | .Call _ a _ _ => a
  | .List a _ => a
  | .Tuple a _ _ => a
  | .BoolOp _ a _ => a
  | .Compare a _ b _ => a :: b
  | .BinOp a _ b _ => [a, b]
  | .UnaryOp _ a _ => [a]
  | _ => []
def lamD (q : Str) : Expr → LamD
  | .Lambda p b s _ => ⟨q, p, b, s⟩
  | e => ⟨q, ⟨[], [], none, [], [], none, []⟩, e, default⟩
/-- the addresses of the package's classes -/
structure Ad where
  (WayError BadFields BadNumbers BadTree TooMany BadProgram OtherFields BadTest BadPacket BadMost NoPlace BadWord BadTests NoPart BadLot BadNet BadRule BadDeed NothingLeft BadJournal BadText BadName : Addr := 0)
  (Program Walk Net LiveNet Desk Joint Mark Lot Order Dodges : Addr := 0)
def ixB (N : List Str) : List Nat → List Str → Bool
  | [], [] => true
  | i :: is, y :: ys => decide (N[i]? = some y) && ixB N is ys
  | _, _ => false
theorem ixB_len {N : List Str} : ∀ {is : List Nat} {ys : List Str}, ixB N is ys = true → is.length = ys.length
  | [], [], _ => rfl
  | [], _ :: _, h => by simp [ixB] at h
  | _ :: _, [], h => by simp [ixB] at h
  | i :: is, y :: ys, h => by
    simp only [ixB, Bool.and_eq_true] at h
    simp [ixB_len h.2]
theorem ixB_at {N : List Str} : ∀ {is : List Nat} {ys : List Str}, ixB N is ys = true → ∀ (j i : Nat) (y : Str), is[j]? = some i → ys[j]? = some y → N[i]? = some y
  | [], _, _, j, i, y, h1, _ => by simp at h1
  | _ :: _, [], h, j, i, y, _, h2 => by simp at h2
  | i0 :: is, y0 :: ys, h, j, i, y, h1, h2 => by
    simp only [ixB, Bool.and_eq_true, decide_eq_true_eq] at h
    cases j with
    | zero => simp at h1 h2; subst h1 h2; exact h.1
    | succ j => exact ixB_at h.2 j i y (by simpa using h1) (by simpa using h2)
theorem lamHere_by {X : Cx} {q : Str} {p : Arguments} {b : Expr} {sc : Scope} {is : List Nat} (hq : q = X.env.qual ++ "<lambda>") (hf : ∀ y, X.fn y = true) (h1 : LamX.lamSB X.env.scope sc = true) (h2 : (LamD.free ⟨q, p, b, sc⟩).Nodup) (h3 : ixB X.N is (LamD.free ⟨q, p, b, sc⟩) = true) : LamHere X ⟨q, p, b, sc⟩ is :=
  ⟨hq, LamX.lamS_by h1, h2, ixB_len h3, ixB_at h3, fun y _ => hf y⟩
/-! ### classes at the row -/
section
variable {K : PySem.W.Frag} {h : Heap} {mg : Str → Option Value}
theorem clsE_of {x : Str} {C : Addr} (X : K.In h) (G : h.Ns mainGlobals mg) (a : PySem.W.nsIn K mainGlobals x = some (some (.ref C))) (k : PySem.W.keepIn K (.ref C) = true) (s : PySem.W.subIn K (.ref C) (.type "BaseException") = some true) (t : PySem.W.typeIn K (.ref C) = some (.type "type"))
    (e1 : PySem.W.findIn K (.ref C) "__getattribute__" = some (some (.builtin "BaseException.__getattribute__"))) (e2 : PySem.W.findIn K (.ref C) "__getattr__" = some none) (e3 : PySem.W.hasDictIn K C = true) (e4 : PySem.W.findIn K (.ref C) "__class__" = some (some (.builtin "object.__class__")))
    (e5 : PySem.W.specialIn K (.builtin "object.__class__") "__get__" = some (some (.builtin "getset_descriptor.__get__"))) (e6 : PySem.W.takesIn K (.builtin "object.__class__") = some true) (e7 : PySem.W.mroIn K C (.type "object") = some true) : ClsE K mg x C :=
  ⟨PySem.W.mg_of X G a, k, s, t, ⟨e1, e2, s, e3, e4, e5, e6, e7⟩⟩
theorem law_at {st : Stmt} {f c T : Addr} {oc e : Value} {od an dd : Option Addr} {osl sl : Array (Option Value)} {kV doc pm ct : Value} {vs : Array Value} (X : K.In h) (G : h.Ns mainGlobals mg) (a : PySem.W.nsIn K mainGlobals "law" = some (some (.ref f)))
    (l : K.lookup f = some ⟨oc, od, .func (PySem.W.fnOf "law" "law" (defArgs st) (defBody st) (defScope st) .none kV doc pm an (.ref c) ct), osl⟩) (ci : PySem.W.codeIn K (.ref c) "law" = true) (k : PySem.W.keepIn K (.ref f) = true)
    (lc : K.lookup c = some ⟨e, dd, .fields vs, sl⟩) (t : vs[11]? = some (.ref T)) (n : K.lookup T = none) (hd : PySem.W.codeHdIn K c T = true) :
    ∃ f fd c T o e dd vs sl, At K mg "law" st f fd ∧ K.lookup f = some o ∧ o.data = .func fd ∧ fd.code = .ref c ∧ K.lookup c = some ⟨e, dd, .fields vs, sl⟩ ∧ vs[11]? = some (.ref T) ∧ K.lookup T = none ∧ PySem.W.CodeHd h c T :=
  ⟨f, _, c, T, _, e, dd, vs, sl, ⟨fun_mk l ci k, PySem.W.mg_of X G a⟩, l, rfl, rfl, lc, t, n, PySem.W.codeHd_of_K X hd⟩
/-- isinstance among the classes -/
theorem kit_of {C C' : Addr} {b : Bool} (s : PySem.W.subIn K (.ref C) (.ref C') = some b) (s0 : PySem.W.subIn K (.ref C) (.ref C) = some true) (hd : PySem.W.hasDictIn K C' = true) (ht : PySem.W.typeIn K (.ref C') = some (.type "type")) : PySem.W.kitOne K (.ref C) (.ref C') = some b := by
  unfold PySem.W.kitOne
  split
  · rename_i e
    have e : C = C' := by simpa using e
    subst e
    rw [s] at s0
    exact s0.symm
  · obtain ⟨cd, hc, _⟩ := PySem.W.any_some hd
    unfold PySem.W.kitCls
    have e2 : ((PySem.W.clsIn K C').isSome && PySem.W.typeIn K (.ref C') == some (.type "type")) = true := by rw [hc, ht]; rfl
    simp only [e2, if_true]
    exact s
theorem exm_of' {C C' : Addr} {x : Str} {b : Bool} (c : ClsE K mg x C') (s : PySem.W.subIn K (.ref C) (.ref C') = some b) : PySem.W.exmOne K (.ref C) (.ref C') = some b := PySem.W.exm_ref c.sub c.is.hd c.ty s
end
end DL
/-! errors of one's own whose __init__ says super().__init__('..') and keeps its parameters -/
namespace ZE
open PySem PySem.W PySem.Spec PySem.Calls PyProof.Rows L2
/-- self.f = f, for each of some names -/
inductive Asgs : List Str → List Stmt → Prop
  | nil : Asgs [] []
  | cons {f : Str} {fs : List Str} {ss : List Stmt} {q0 q1 q2 q3 : Pos} : Asgs fs ss → Asgs (f :: fs) (.Assign [.Attribute (.Name "self" q0) f q1] (.Name f q2) q3 :: ss)
/-- the body of such an __init__ -/
def InitBody (fs : List Str) (body : List Stmt) : Prop := ∃ (m : Str) (j : Nat) (p0 p1 p2 p3 p4 p5 : Pos) (ss : List Stmt), body = .Expr (.Call (.Attribute (.Call (.Name "super" p0) [] [] p1) "__init__" p2) [.Constant (.str m) j p3] [] p4) p5 :: ss ∧ (p2.endLine == p4.line) = true ∧ Asgs fs ss
/-- what the written part says of the class and its __init__ -/
structure ErrC (P : Program) (K : Frag) (C : Addr) (fs : List Str) (fI : Addr) (fd : FuncData) : Prop where
  cls : ∃ nm q N bs bm sn sub ab col dd k0 k1 k2 k3 k5, K.lookup C = some (excClassObj nm q C N bs bm true sn sub ab col dd k0 k1 k2 k3 k5 "ValueError.__new__") ∧ PySem.HandSPX.refsVE bm = true
  sa : findIn K (.ref C) "__setattr__" = some (some (.builtin "object.__setattr__"))
  no : ∀ f ∈ fs, findIn K (.ref C) f = some none
  init : findIn K (.ref C) "__init__" = some (some (.ref fI))
  tI : typeIn K (.ref fI) = some (.type "function")
  sup : subIn K (.ref C) (.type "ValueError") = some true
  mro : mroIn K C (.ref C) = some true
  opq : nsIn K cStatics "thirdparty.any" = some none
  along : ks_superIn K C C "__init__" = some (some (.builtin "ValueError.__init__"))
  fn : ∃ oc od osl nm qual params body scope dV kV doc pm an cda ct cc, fd = ksFn nm qual params body scope dV kV doc pm an (.ref cda) ct cc ∧ K.lookup fI = some ⟨oc, od, .func fd, osl⟩ ∧ codeIn K (.ref cda) qual = true ∧
    (∃ ccl cdd vs ccs file tf, K.lookup cda = some ⟨ccl, cdd, .fields vs, ccs⟩ ∧ vs[2]? = some (.str file tf) ∧ ((P.main.file : Str) == file) = true) ∧ (∃ cl cld csl, K.lookup cc = some ⟨cl, cld, .cell (some (.ref C)), csl⟩) ∧
    InitBody fs body ∧ (∃ ar, (params.posonlyargs ++ params.args).head? = some ar ∧ ar.arg = "self") ∧ scope.names.lookup ("super" : Str) = some .globalImplicit ∧ scope.names.lookup ("__class__" : Str) = some .free ∧ (∀ y ∈ (("self" : Str) :: fs), scope.names.lookup y = some .local) ∧
    (∀ x ∈ scope.names, x.2 ≠ .cell) ∧ scope.isCoroutine = false ∧ scope.isGenerator = false ∧ scope.kind = .function
  top : (P.main.scope.names.lookup ("super" : Str)).isSome = false
/-- how the error stands: its fields so far; h0 the heap ahead of it -/
def ErrAt (h0 h : Heap) (e C : Addr) (dv : Option Addr) (fs : List (Str × Value)) : Prop := (∃ t1 : Addr, h.get? e = some ({ cls := .ref C, dict := dv, data := .fields #[.ref t1, .none, .none, .none, .bool false, .none] } : Obj)) ∧
  match dv with
  | none => fs = []
  | some dx => h0.get? dx = none ∧ dx ≠ e ∧ h.Ns1 dx fun y => fs.lookup y
theorem lookup_put' (f g : Str) (y : Value) (fs : List (Str × Value)) : ((f, y) :: fs).lookup g = if g = f then some y else fs.lookup g := by
  by_cases h : g = f
  · subst h
    simp [List.lookup]
  · have e : (g == f) = false := by simpa using h
    rw [if_neg h]
    simp [List.lookup, e]
theorem within_keys (fs : List (Str × Value)) : Within (fun y => fs.lookup y) (fs.map (·.1)) := fun y hy => by
  induction fs with
  | nil => exact absurd rfl hy
  | cons p l ih =>
    obtain ⟨f, z⟩ := p
    by_cases e : y = f
    · rw [e]; exact List.mem_cons_self ..
    · refine List.mem_cons_of_mem _ (ih fun q => hy ?_)
      show ((f, z) :: l).lookup y = none
      rw [lookup_put', if_neg e]; exact q
theorem look_mem : ∀ {l : List (Str × Value)}, (l.map (·.1)).Nodup → ∀ {p : Str × Value}, p ∈ l → l.lookup p.1 = some p.2
  | [], _, p, h => by cases h
  | (a, b) :: l, hn, p, h => by
    rw [lookup_put']
    rcases List.mem_cons.mp h with e | e
    · subst e; exact if_pos rfl
    · have hn' := List.nodup_cons.mp hn
      have : p.1 ≠ a := fun w => hn'.1 (List.mem_map.mpr ⟨p, e, w⟩)
      rw [if_neg this]
      exact look_mem hn'.2 e
theorem zip_fst : ∀ {ks : List Str} {vs : List Value}, ks.length = vs.length → (ks.zip vs).map (·.1) = ks
  | [], [], _ => rfl
  | [], _ :: _, h => by simp at h
  | _ :: _, [], h => by simp at h
  | k :: ks, v :: vs, h => by simp [zip_fst (show ks.length = vs.length by simpa using h)]
theorem rev_look {ks : List Str} {vs : List Value} (hn : ks.Nodup) (hl : ks.length = vs.length) {p : Str × Value} (hp : p ∈ ks.zip vs) : (ks.zip vs).reverse.lookup p.1 = some p.2 := by
  refine look_mem ?_ (List.mem_reverse.mpr hp)
  rw [List.map_reverse, zip_fst hl]
  exact (List.reverse_perm ks).nodup_iff.mpr hn
section
variable {P : Program} {w : World} {A : Around} {E : Value → Shared → Prop} {K : Frag} {C e L fI : Addr} {fs : List Str} {fd : FuncData} {h0 : Heap}
/-- self.f = u -/
theorem err_store {s : Shared} {dv : Option Addr} {f : Str} {u : Value} {old : List (Str × Value)} {Q : Unit → Shared → Prop} (T : ErrC P K C fs fI fd) (X : K.In s.heap) (hl : old.length ≤ 900) (hk : ∀ b o, h0.get? b = some o → s.heap.get? b = some o) (hf : f ∈ fs) (h1 : ErrAt h0 s.heap e C dv old)
    (q : ∀ h' tk' dx, (∀ b o, b ≠ e → dv ≠ some b → s.heap.get? b = some o → h'.get? b = some o) → ErrAt h0 h' e C (some dx) ((f, u) :: old) → (∀ b o, s.heap.get? b = some o → dv ≠ some b → b ≠ dx) → Q () { s with heap := h', toks := tk' }) :
    wpAny (model P w) A (setAttr (.ref e) f u) Q E s := by
  obtain ⟨nm, qn, N, bs, bm, sn, sub, ab, col, dd, k0, k1, k2, k3, k5, hC, hbm⟩ := T.cls
  have hcl : clsIn K C = some { name := nm, bases := bs, mro := .ref C :: bm, ns := N, qualname := qn, hasDict := true, slotNames := sn, subclasses := sub, abstract := ab, collection := col, hasDel := false } := by unfold clsIn; rw [hC] <;> rfl
  obtain ⟨⟨t1, ho⟩, hd⟩ := h1
  obtain ⟨hp, g, d, t, os⟩ := s
  have fin : ∀ (h' : Heap) (dx : Addr), h'.Ns1 dx (fun y => if y = f then some u else old.lookup y) → h'.Ns1 dx fun y => ((f, u) :: old).lookup y := fun h' dx hn => by
    have e : (fun y => ((f, u) :: old).lookup y) = fun y => if y = f then some u else old.lookup y := funext fun y => lookup_put' f y u old
    rw [e]; exact hn
  cases dv with
  | none =>
    have hd : old = [] := hd
    subst hd
    refine set_plain X (ox := { cls := .ref C, dict := none, data := .fields #[.ref t1, .none, .none, .none, .bool false, .none] }) (od := none) ⟨ho, rfl, rfl, trivial⟩ T.sa ?_
    refine PySem.HandSPX.exc_osa X ho hcl (show PySem.HandSPX.refsVE (.ref C :: bm) = true from hbm) rfl (T.no f hf) (fun h' tk' dx k dn dne hx hn => ?_)
    refine q h' tk' dx (fun b o hb _ z => k b o hb z) ⟨⟨t1, hx⟩, ?_, dne, fin h' dx hn⟩ fun b o z _ => Nat.ne_of_lt (Nat.lt_of_lt_of_le (Heap.lt_size z) dn)
    cases z : h0.get? dx with
    | none => rfl
    | some o => exact absurd (Heap.lt_size (hk dx o z)) (Nat.not_lt.mpr dn)
  | some dx =>
    obtain ⟨d1, d2, hns⟩ := hd
    have hw := within_keys old
    obtain ⟨oD, _, _, hoD, _, _⟩ := hns.count hw
    refine set_plain X (ox := { cls := .ref C, dict := some dx, data := .fields #[.ref t1, .none, .none, .none, .bool false, .none] }) (od := some oD) ⟨ho, rfl, rfl, hoD⟩ T.sa ?_
    refine PySem.OEX.osa_old X ho hns hw (by rw [List.length_map]; omega) hcl (show PySem.HandSPX.refsVE (.ref C :: bm) = true from hbm) rfl (T.no f hf) (fun h' tk' k hn => ?_)
    exact q h' tk' dx (fun b o _ hb z => k b o (fun w => hb (by rw [w])) z) ⟨⟨t1, k _ _ (Ne.symm d2) ho⟩, d1, d2, fin h' dx hn⟩ fun b o _ hb w => hb (by rw [w])
/-- all the stores -/
theorem err_asgs {env : Env} {m : Str → Option Value} {Q : Flow → Shared → Prop} (T : ErrC P K C fs fI fd) (hk : env.scope.kind = .function) (hself : env.scope.names.lookup ("self" : Str) = some .local) (hLe : env.locals ≠ e) (h0L : h0.get? env.locals = none) (hms : m "self" = some (.ref e)) : ∀ {gs : List Str} {ss : List Stmt}, Asgs gs ss → (∀ f ∈ gs, f ∈ fs ∧ env.scope.names.lookup f = some .local ∧ (f == ("__debug__" : Str)) = false) →
    ∀ (s : Shared) (dv : Option Addr) (old : List (Str × Value)) (us : List Value), gs.length = us.length → old.length + gs.length ≤ 900 → (∀ p ∈ gs.zip us, m p.1 = some p.2) → K.In h0 → (∀ b o, h0.get? b = some o → s.heap.get? b = some o) → h0.get? e = none → s.heap.Ns env.locals m → ErrAt h0 s.heap e C dv old → (dv ≠ some env.locals) →
    (∀ h' tk' dv', (∀ b o, h0.get? b = some o → h'.get? b = some o) → ErrAt h0 h' e C dv' ((gs.zip us).reverse ++ old) → Q .next { s with heap := h', toks := tk' }) → wpAny (model P w) A (execs ss env) Q E s
  | _, _, .nil, _, s, dv, old, us, hl, _, _, _, hk0, _, _, h1, _, q => by
    refine wpAny_execs_nil ?_
    exact q s.heap s.toks dv hk0 (by simpa using h1)
  | _, _, .cons (f := f) (fs := gs) (ss := ss) (q0 := q0) (q1 := q1) (q2 := q2) (q3 := q3) t, hg, s, dv, old, [], hl, _, _, _, _, _, _, _, _, _ => by simp at hl
  | _, _, .cons (f := f) (fs := gs) (ss := ss) (q0 := q0) (q1 := q1) (q2 := q2) (q3 := q3) t, hg, s, dv, old, u :: us, hl, ho, hm, X0, hk0, he0, hns, h1, hdL, q => by
    obtain ⟨hf1, hf2, hf3⟩ := hg f List.mem_cons_self
    have ld : ∀ {x : Str} {v : Value} {p : Pos} {Q : Value → Shared → Prop}, env.scope.names.lookup x = some .local → (x == ("__debug__" : Str)) = false → m x = some v → Q v s → wpAny (model P w) A (eval (.Name x p) env) Q E s := fun {x v p Q} a b c h => wpAny_Name (wpAny_loadName_local hk a hns c h) b
    refine wpAny_execs_cons (plainObj_wpAny_Assign_Attribute (ld hf2 hf3 (hm (f, u) (by simp)) (ld hself (by decide) hms ?_)) (by rfl))
    refine err_store T (X0.keeps hk0) (by simp at ho; omega) hk0 hf1 h1 fun h' tk' dx k h2 nd => ?_
    have hk1 : ∀ b o, h0.get? b = some o → h'.get? b = some o := fun b o z => by
      refine k b o (fun w => by rw [w, he0] at z; cases z) (fun w => ?_) (hk0 b o z)
      subst w
      have := h1.2.1
      rw [z] at this; cases this
    have hns' : h'.Ns env.locals m := by
      obtain ⟨oL, es, ep, hL, r⟩ := hns
      exact ⟨oL, es, ep, k _ _ hLe hdL hL, r⟩
    refine err_asgs T hk hself hLe h0L hms t (fun f hf => hg f (List.mem_cons_of_mem _ hf)) { s with heap := h', toks := tk' } (some dx) ((f, u) :: old) us (by simpa using hl) (by simp at ho ⊢; omega) (fun p hp => hm p (by simp [hp])) X0 hk1 he0 hns' h2 (fun w => ?_) fun h2 tk2 dv2 k2 e2 => ?_
    · obtain ⟨oL, es, ep, hL, r⟩ := hns
      exact nd _ _ hL hdL (Option.some.inj w).symm
    · exact q h2 tk2 dv2 k2 (by simpa using e2)
/-- a method's call on one line -/
theorem eval_method {o : Expr} {name : Str} {apos pos : Pos} {c : Const} {j : Nat} {p3 : Pos} {env : Env} (h : (apos.endLine == pos.line) = true) : eval (.Call (.Attribute o name apos) [.Constant c j p3] [] pos) env = (do
      let ov ← attributeBase o name env (eval o env)
      standAt apos.atName
      let (f, first) ← holding [ov] (getMethod ov name (do return (← importBound o env).getD true))
      callWith pos f first (backTo pos (starEach [.Constant c j p3] env)) []) := by
  show (attributeBase o name env (eval o env) >>= fun ov => standAt apos.atName >>= fun _ => methodCall o name apos pos env ov 1 (backTo pos (starEach [.Constant c j p3] env)) []) = _
  congr 1
  funext ov
  congr 1
  funext _
  have e1 : methodCallForm 1 (backTo pos (starEach [.Constant c j p3] env)) [] = true := rfl
  have e2 : methodCallPos true o env apos pos = pure pos := by
    unfold methodCallPos
    rw [h]
    rfl
  unfold methodCall
  rw [e1, e2]
  unfold calleeOf
  rw [if_pos rfl]
  congr 1
/-- the whole __init__ -/
theorem err_init {s : Shared} {mg mb : Str → Option Value} {us : List Value} {args : Args} {R : Result → Shared → Prop} {t0 : Addr} (T : ErrC P K C fs fI fd) (X0 : K.In h0) (hk0 : ∀ b o, h0.get? b = some o → s.heap.get? b = some o) (he0 : h0.get? e = none) (he : s.heap.get? e = some (PySem.HandSPX.excO C t0))
    (gm : h0.Ns mainGlobals mg) (gb : h0.Ns builtinsNs mb) (hbb : ∀ x : Str, x ≠ "__name__" → mb x = bootBuiltins x) (hsup : mg "super" = none) (nl : h0.NoLimit) (hroom : A.depth < recursionLimit) (hl : fs.length = us.length) (hl9 : fs.length ≤ 900) (hnd : (("self" : Str) :: fs).Nodup) (hdb : ∀ f ∈ fs, (f == ("__debug__" : Str)) = false)
    (hb : BindsTo s fd args ((("self" : Str) :: fs).zip (.ref e :: us)))
    (q : ∀ h' tk' dv, (∀ b o, h0.get? b = some o → h'.get? b = some o) → ErrAt h0 h' e C dv (fs.zip us).reverse → R (.ok (.ret .none)) { s with heap := h', toks := tk' }) : codeAny (model P w) A (.call (.ref fI) args) R s := by
  obtain ⟨oc, od, osl, nm, qual, params, body, scope, dV, kV, doc, pm, an, cda, ct, cc, rfl, lk, hcd, ⟨ccl, cdd, vs, ccs, file, tf, hcode, hvs, hfile⟩, ⟨cl, cld, csl, hcell⟩, ⟨m, j, p0, p1, p2, p3, p4, p5, ss, hbody, hpos, hss⟩, ⟨ar, har, har2⟩, hsg, hcf, hloc, hnc, hco, hgen, hkd⟩ := T.fn
  subst hbody
  have Xs : K.In s.heap := X0.keeps hk0
  refine ks_codeAny_call_defAt (fd := ksFn nm qual params _ scope dV kV doc pm an (.ref cda) ct cc) (binds := (("self" : Str) :: fs).zip (.ref e :: us)) hroom (Xs _ _ lk) rfl (nl.keeps hk0) (codeRec_of Xs hcd) rfl hb hnc (fun x hx => hloc x.1 (List.of_mem_zip hx).1) (fun h₁ hns hk₁ => ?_) hco hgen hkd
  have k1 : ∀ b o, h0.get? b = some o → h₁.get? b = some o := fun b o z => hk₁ b o (hk0 b o z)
  have X1 : K.In h₁ := X0.keeps k1
  have he1 : h₁.get? e = some (PySem.HandSPX.excO C t0) := hk₁ _ _ he
  obtain ⟨cnm, cqn, N, bs, bm, sn, sub, ab, col, dd, k0, k1', k2, k3, k5, hC, hbm⟩ := T.cls
  have hcl : clsIn K C = some { name := cnm, bases := bs, mro := .ref C :: bm, ns := N, qualname := cqn, hasDict := true, slotNames := sn, subclasses := sub, abstract := ab, collection := col, hasDel := false } := by unfold clsIn; rw [hC] <;> rfl
  have hC1 := X1 _ _ hC
  have I1 : InstAt h₁ e (PySem.HandSPX.excO C t0) C none := ⟨he1, rfl, rfl, trivial⟩
  have eC : e ≠ C := ks_ne X1 I1 hcl
  have hint : interactive (ksEnv qual scope s.heap.objs.size fI (.ref cda) cc) = false := by
    unfold interactive
    show (scope.kind == .module && _) = false
    rw [hkd]; rfl
  refine ks_wpAt_execs_cons (ks_wpAt_Expr_any (ks_wpAt_MethodCall (ks_wpAt_super_base (f := fI) (cc := cda) (ar := ar) hsg hcf (by decide) rfl (X1 _ _ lk) rfl har rfl (X1 _ _ hcode) rfl hvs hfile T.top ?_) (eval_method hpos)) hint rfl)
  refine ks_loadName_global hkd hsg (loadGlobal_builtin (gm.keeps k1) hsup (gb.keeps k1) ((hbb "super" (by decide +kernel)).trans Boot.«super») ⟨rfl, ?_⟩)
  refine wpAny_loadName_free hkd hcf rfl ⟨_, X1 _ _ hcell, rfl⟩ ?_
  have hself : ((("self" : Str) :: fs).zip (Value.ref e :: us)).reverse.lookup ("self" : Str) = some (Value.ref e) := rev_look (p := (("self" : Str), Value.ref e)) hnd (by simpa using hl) (by simp)
  refine wpAny_loadName_local hkd (by rw [har2]; exact hloc "self" List.mem_cons_self) hns (by rw [har2]; exact hself) ?_
  refine ks_wpAny_isType_cls hC1 rfl ⟨rfl, ?_⟩
  refine ks_wpAny_call_super hC1 rfl he1 rfl (fun c z => by cases z) (looks_mroIn X1 T.mro) (fun h2 e2 kk2 => ?_)
  have X2 : K.In h2 := X1.keeps kk2
  have he2 := kk2 _ _ he1
  have I2 : InstAt h2 e (PySem.HandSPX.excO C t0) C none := ⟨he2, rfl, rfl, trivial⟩
  have hm : alongIn K "__init__" (((Value.ref C :: bm).dropWhile (· != .ref C)).drop 1) = some (some (.builtin "ValueError.__init__")) := by
    have := T.along
    unfold ks_superIn at this
    rw [hcl] at this
    exact this
  refine kxs_getMethod kxs_ValueError e2 (looks_opaque X2 T.opq) (l₀ := .ref C :: bm) (fun A Q E s k q => wpAny_bind ((looks_clsIn X2 hcl) A _ E s k (wpAny_pure q))) rfl X2 hm (I2.type.andThen (looks_subIn X2 T.sup)) eC (by decide) ?_
  have u3 : (h2.push (kxs_mw "ValueError.__init__" e)).get? h2.objs.size = some (kxs_mw "ValueError.__init__" e) := Heap.get?_push_size _ rfl
  refine kxs_callWith (i := "ValueError.__init__") (x := e) (u := h2.objs.size) rfl (evalArgs_plain ?_)
  refine Calls.spliced_cons (Calls.Constant_str (k := j) (pos := p3) (Calls.spliced_nil ⟨u3, ?_⟩))
  have kk3 : ∀ b o, h₁.get? b = some o → (h2.push (kxs_mw "ValueError.__init__" e)).get? b = some o := fun b o z => Heap.get?_push_of_some _ (kk2 b o z)
  have he3 := kk3 _ _ he1
  have hC3 := kk3 _ _ hC1
  generalize h2.push (kxs_mw "ValueError.__init__" e) = h3 at u3 kk3 he3 hC3
  refine wpAny_call (codeAny_of_tree ?_)
  show wpAny _ _ (callAny (.ref h2.objs.size) ⟨_, []⟩) _ _ _
  simp only [callAny]
  refine wpAny_bind (wpAny_load u3 ?_)
  simp only [kxs_mw, show (Value.type "method-wrapper" == Value.type "method" || Value.type "method-wrapper" == Value.type "builtin_function_or_method" || Value.type "method-wrapper" == Value.type "method-wrapper") = true by decide, if_true]
  refine KFB.if_so (by decide) ?_
  refine wpAny_bind (check_bound_init PySem.F.excBase_ValueError.toExcCallFacts hC3 he3 rfl ?_)
  refine wpAny_bind (wpAny_pure (wpAny_pure ?_))
  refine ⟨plainId_quiet PySem.F.excBase_ValueError.init.plain _, codeAny_builtin PySem.F.excBase_ValueError.initEntry ?_⟩
  refine exc_init_tree (cls := .ref C) (t0 := t0) (dv := none) (c2 := .none) (c3 := .none) (b4 := .bool false) he3 (by show 1 ≤ sizeLine; decide) fun h4 kk4 he4 ht4 => ?_
  have hLe : s.heap.objs.size ≠ e := Nat.ne_of_gt (Heap.lt_size he)
  have h0L : h0.get? s.heap.objs.size = none := by
    cases z : h0.get? s.heap.objs.size with
    | none => rfl
    | some o => exact absurd (Heap.lt_size (hk0 _ o z)) (Nat.lt_irrefl _)
  have k4 : ∀ b o, h0.get? b = some o → h4.get? b = some o := fun b o z => kk4 b o (fun w => by rw [w, he0] at z; cases z) (kk3 b o (k1 b o z))
  have hns4 : h4.Ns s.heap.objs.size fun x => ((("self" : Str) :: fs).zip (Value.ref e :: us)).reverse.lookup x := by
    obtain ⟨oL, es, ep, hL, r⟩ := hns
    exact ⟨oL, es, ep, kk4 _ _ hLe (kk3 _ _ hL), r⟩
  refine wpAt_of_wpAny (err_asgs (env := ksEnv qual scope s.heap.objs.size fI (.ref cda) cc) (m := fun x => ((("self" : Str) :: fs).zip (Value.ref e :: us)).reverse.lookup x) T hkd (hloc "self" List.mem_cons_self) hLe h0L hself hss (fun f hf => ⟨hf, hloc f (List.mem_cons_of_mem _ hf), hdb f hf⟩) _ none [] us hl (by simp; omega) (fun p hp => rev_look hnd (by simpa using hl) (by simp [hp])) X0 k4 he0 hns4 ⟨⟨_, he4⟩, rfl⟩ (by simp) fun h' tk' dv' k' e' => ?_)
  exact q h' tk' dv' k' (by simpa using e')
end
end ZE
/-! such a class called, by position or by name -/
namespace ZE
open PySem PySem.W PySem.Calls PySem.HandSPX
section
variable {prog : Program} {w : World} {M : Model} {A : Around} {E : Value → Shared → Prop} {R : Result → Shared → Prop} {h : Heap} {g : Array GenState} {d : Drawn} {t : Nat} {os : OsState}
variable {nm q : Str} {C N : Addr} {bs bm bmB : List Value} {hdct : Bool} {sn : List Str} {sub : List Value} {ab : Bool} {col : Option Bool} {dd : Option Addr} {k0 k1 k2 k3 k5 : Option Value} {B newId initId : String}
theorem check_newK (F : ExcBaseFacts B newId initId bmB) (hT : ∀ X : String, bm.contains (.type X) = bmB.contains (.type X)) {rest : List Value} {kw : List (Str × Value)} {Q : Unit → Shared → Prop}
    (hC : h.get? C = some (excClassObj nm q C N bs bm hdct sn sub ab col dd k0 k1 k2 k3 k5 newId)) (hq : Q () ⟨h, g, d, t, os⟩) : wpAny M A (checkBuiltinCall newId ⟨.ref C :: rest, kw⟩) Q E ⟨h, g, d, t, os⟩ := by
  have hcont : (Value.ref C :: bm).contains (.type B) = true := by rw [List.contains_cons, hT, F.hasB, Bool.or_true]
  have hstar := F.noStar
  simp only [checkBuiltinCall, F.newKind, F.newSplit, F.newRow]
  repeat (first | refine wpAny_loadPart_at hC ?_ | (refine wpAny_isSubtype_exc hC ?_; rw [hcont]) | refine wpAny_staticBase_exc hC ?_ | refine wpAny_madeBy_exc hC ?_ | simp only [bne_self_eq_false, Bool.false_eq_true, if_false] | wp_step)
  exact hq
theorem new_K (F : ExcBaseFacts B newId initId bmB) (hT : ∀ X : String, bm.contains (.type X) = bmB.contains (.type X)) {rest : List Value} {kw : List (Str × Value)}
    (hC : h.get? C = some (excClassObj nm q C N bs bm hdct sn sub ab col dd k0 k1 k2 k3 k5 newId))
    (hq : R (.ok (.ret (.ref (h.objs.size + 1)))) ⟨(h.push { cls := .type "tuple", data := .seq rest.toArray }).push
      { cls := .ref C, data := .fields #[.ref h.objs.size, .none, .none, .none, .bool false, .none] }, g, d, t, os⟩) (hrest : rest.length ≤ sizeLine) :
    codeAny (model prog w) A (.builtin newId ⟨.ref C :: rest, kw⟩) R ⟨h, g, d, t, os⟩ := by
  have hends := F.ends
  have hcB : (Value.ref C :: bm).contains (.type B) = true := by rw [List.contains_cons, hT, F.hasB, Bool.or_true]
  have hcA : (Value.ref C :: bm).contains (.type "AttributeError") = false := by rw [List.contains_cons, hT, F.noAttr]; rfl
  have hcN : (Value.ref C :: bm).contains (.type "NameError") = false := by rw [List.contains_cons, hT, F.noName]; rfl
  refine codeAny_builtinAt F.entry ?_
  unfold Builtin.«BaseException.__new__»
  refine wpAt_bind ?_
  show wpAt _ _ _ (stack >>= _) _ _ _
  refine wpAt_bind (wpAt_stack fun p below => wpAt_of_wpAny ?_)
  wp_walk
  refine wpAt_of_wpAny ?_
  rw [F.owner]
  repeat (first | with_reducible refine wpAny_madeHere_exc F.canon hC ?_ | with_reducible refine wpAny_loadPart_at hC ?_ | (with_reducible refine wpAny_isSubtype_exc hC ?_; first | rw [hcB] | rw [hcA] | rw [hcN]) | wp_step)
  show R _ _
  rw [Heap.size_push]
  exact hq
theorem type_callK (F : ExcBaseFacts B newId initId bmB) (hT : ∀ X : String, bm.contains (.type X) = bmB.contains (.type X)) {rest : List Value} {kw : List (Str × Value)} {fI : Addr} {Q : Fin → Shared → Prop}
    (hC : h.get? C = some (excClassObj nm q C N bs bm hdct sn sub ab col dd k0 k1 k2 k3 k5 newId))
    (hi : W.Looks (model prog w) h (typeLookup (.ref C) "__init__") (some (.ref fI))) (hb : ∀ self, W.Looks (model prog w) h (bindSpecial (.ref fI) self) (.ref fI, [self])) (hrest : rest.length ≤ sizeLine)
    (hq : codeAny (model prog w) A (.call (.ref fI) ⟨.ref (h.objs.size + 1) :: rest, kw⟩)
      (fun r s' => match r with | .ok (.ret v) => v = .none ∧ Q (.done (.ret (.ref (h.objs.size + 1)))) s' | .ok _ => False | .error e => E e s')
      ⟨(h.push (W.kdv_tup rest)).push (excO C h.objs.size), g, d, t, os⟩) :
    wpAny (model prog w) A (Builtin.«type.__call__» ⟨.ref C :: rest, kw⟩) Q E ⟨h, g, d, t, os⟩ := by
  repeat (first | with_reducible refine wpAny_loadPart_at hC ?_ | with_reducible refine wpAny_madeBy_exc hC ?_ | wp_step)
  refine codeAny_call_builtin_code (Code.quiet_builtin _ F.quiet) (check_newK F hT hC ?_)
  refine new_K F hT hC ?_ hrest
  show wpAny _ _ _ _ _ _
  have k : ∀ b o, h.get? b = some o → ((h.push (W.kdv_tup rest)).push (excO C h.objs.size)).get? b = some o := fun b o e => Heap.get?_push_of_some _ (Heap.get?_push_of_some _ e)
  have hC₁ := k _ _ hC
  have hget : ((h.push (W.kdv_tup rest)).push (excO C h.objs.size)).get? (h.objs.size + 1) = some (excO C h.objs.size) := by heap_get
  have hcC : (Value.ref C :: bm).contains (.ref C) = true := by simp
  have i1 := hi.keeps k
  have b1 := (hb (.ref (h.objs.size + 1))).keeps k
  unfold isInstance
  repeat (first | with_reducible refine wpAny_loadPart_at hget ?_ | (with_reducible refine wpAny_isSubtype_exc hC₁ ?_; rw [hcC]) | wp_step)
  show wpAny _ _ (typeLookup (.ref C) _) _ _ _
  refine i1.at ?_
  refine wpAny_holding (wpAny_bind (b1.at ?_))
  refine wpAny_bind (wpAny_call (codeAny_mono hq fun r s' z => ?_))
  rcases r with e | (v | _ | _ | _) <;> first | exact z | exact z.elim | skip
  obtain ⟨rfl, z⟩ := z
  first
    | exact wpAny_pure (wpAny_pure z)
    | (wp_walk; exact z)
theorem check_typeK {rest : List Value} {kw : List (Str × Value)} {Q : Unit → Shared → Prop} (hC : h.get? C = some (excClassObj nm q C N bs bm hdct sn sub ab col dd k0 k1 k2 k3 k5 newId))
    (hq : Q () ⟨h, g, d, t, os⟩) : wpAny M A (checkBuiltinCall "type.__call__" ⟨.ref C :: rest, kw⟩) Q E ⟨h, g, d, t, os⟩ := by
  have f3 := tc_sub
  have hT : (⟨h, g, d, t, os⟩ : Shared).TypeIs (.ref C) "type" := ⟨_, hC, rfl⟩
  simp only [checkBuiltinCall, tc_kind, tc_split]
  repeat (any_goals (first | assumption | with_reducible refine wpAny_loadPart_at hC ?_ | with_reducible refine wpAny_onRaise ?_ | with_reducible refine wpAny_map ?_ | wp_step))
theorem call_K (F : ExcBaseFacts B newId initId bmB) (hT : ∀ X : String, bm.contains (.type X) = bmB.contains (.type X)) {rest : List Value} {kw : List (Str × Value)} {fI : Addr}
    (hC : h.get? C = some (excClassObj nm q C N bs bm hdct sn sub ab col dd k0 k1 k2 k3 k5 newId))
    (hi : W.Looks (model prog w) h (typeLookup (.ref C) "__init__") (some (.ref fI))) (hb : ∀ self, W.Looks (model prog w) h (bindSpecial (.ref fI) self) (.ref fI, [self])) (hrest : rest.length ≤ sizeLine)
    (hq : codeAny (model prog w) (A.under (.builtin "type.__call__" ⟨.ref C :: rest, kw⟩)) (.call (.ref fI) ⟨.ref (h.objs.size + 1) :: rest, kw⟩) (W.InitBack (h.objs.size + 1) R)
      ⟨(h.push (W.kdv_tup rest)).push (excO C h.objs.size), g, d, t, os⟩) :
    codeAny (model prog w) A (.call (.ref C) ⟨rest, kw⟩) R ⟨h, g, d, t, os⟩ := by
  have f1 := tc_lookup
  have f2 := tc_bind (.ref C)
  have hTy : (⟨h, g, d, t, os⟩ : Shared).TypeIs (.ref C) "type" := ⟨_, hC, rfl⟩
  refine codeAny_of_tree ?_
  show wpAny _ _ (callAny (.ref C) _) _ _ _
  repeat (any_goals (first | assumption | with_reducible refine wpAny_loadPart_at hC ?_ | wp_step))
  refine ⟨rfl, ?_⟩
  refine codeAny_call_builtin_at (Code.quiet_builtin _ (by decide +kernel)) entry_typeCall (check_typeK hC (type_callK F hT hC hi hb hrest ?_))
  refine codeAny_mono hq fun r s' z => ?_
  rcases r with e | (v | _ | _ | _) <;> exact z
end
end ZE
namespace ZE
open PySem PySem.W PySem.Spec PyProof.Rows L2
section
variable {X : Cx} {pins : List (Addr × Obj)} {σ : L2.St} {H : Hp} {s : Shared} {C fI : Addr} {fs : List Str} {fd : FuncData}
/-- such a class is called: the error is new, so is its dict -/
theorem err_made {us ws : List Value} {kw : List (Str × Value)} {Q : Value → Shared → Prop} {E : Value → Shared → Prop} (T : ErrC X.prog X.K C fs fI fd) (I : Inv X pins σ H s) (hr : Room 2 X.A) (hsup : X.mg "super" = none) (hus : us.length ≤ sizeLine) (hl : fs.length = ws.length) (hf0 : fs ≠ []) (hl9 : fs.length ≤ 900)
    (hnd : (("self" : Str) :: fs).Nodup) (hdb : ∀ f ∈ fs, (f == ("__debug__" : Str)) = false) (hb : ∀ (s' : Shared) (e : Addr), X.K.In s'.heap → BindsTo s' fd ⟨.ref e :: us, kw⟩ ((("self" : Str) :: fs).zip (.ref e :: ws)))
    (h : ∀ e dx t0 h' tk', s.heap.get? e = none → (∀ b o, s.heap.get? b = some o → h'.get? b = some o) → h'.get? e = some ({ cls := .ref C, dict := some dx, data := .fields #[.ref t0, .none, .none, .none, .bool false, .none] } : Obj) → s.heap.get? dx = none → dx ≠ e → h'.Ns1 dx (fun y => ((fs.zip ws).reverse).lookup y) → Q (.ref e) { s with heap := h', toks := tk' }) :
    wpAny (model X.prog X.w) X.A (call (.ref C) us kw) Q E s := by
  obtain ⟨nm, q, N, bs, bm, sn, sub, ab, col, dd, k0, k1, k2, k3, k5, hC, hbm⟩ := T.cls
  obtain ⟨hp, g, dr, tk, os⟩ := s
  have kk : ∀ b o, hp.get? b = some o → ((hp.push (kdv_tup us)).push (PySem.HandSPX.excO C hp.objs.size)).get? b = some o := fun b o e => Heap.get?_push_of_some _ (Heap.get?_push_of_some _ e)
  have hget : ((hp.push (kdv_tup us)).push (PySem.HandSPX.excO C hp.objs.size)).get? (hp.objs.size + 1) = some (PySem.HandSPX.excO C hp.objs.size) := by heap_get
  have he0 : hp.get? (hp.objs.size + 1) = none := Heap.get?_none_of_le (Nat.le_succ _)
  have hk := I.kIn
  obtain ⟨mb, gb, hbb⟩ := I.mod.blt
  refine wpAny_call (call_K PySem.F.excBase_ValueError (fun Y => PySem.HandSPX.refsVE_contains Y bm hbm) (hk _ _ hC) (looks_findIn hk T.init) (fun self => bind_fn hk self T.tI) hus ?_)
  refine err_init (h0 := hp) (mg := X.mg) (mb := mb) (us := ws) T hk kk he0 hget (I.mod.glob.keeps I.bk) (gb.keeps I.bk) hbb hsup (I.mod.nolimit.keeps I.bk) (hr.make C us kw).depth hl hl9 hnd hdb (hb _ _ (hk.keeps kk)) fun h' tk' dv k' e' => ?_
  cases dv with
  | none =>
    have : (fs.zip ws).reverse = [] := e'.2
    have : (fs.zip ws).length = 0 := by rw [← List.length_reverse, this]; rfl
    rw [List.length_zip, ← hl, Nat.min_self] at this
    exact absurd (List.length_eq_zero_iff.mp this) hf0
  | some dx =>
    obtain ⟨⟨t1, h1⟩, h2, h3, h4⟩ := e'
    exact ⟨rfl, h _ dx t1 h' tk' he0 k' h1 h2 h3 h4⟩
end
end ZE
namespace DL
open PySem L2 PySem.Spec PyProof.Rows
section
variable {X : Cx} {pins : List (Addr × Obj)} {σ : L2.St} {H H' : Hp} {s : Shared} {h' : Heap} {t' : Nat}
/-- new objects, known from now on -/
theorem inv_grow (I : Inv X pins σ H s) (k : ∀ b o, s.heap.get? b = some o → h'.get? b = some o) (ext : ∀ b u, H b = some u → H' b = some u) (new : ∀ b u, H b = none → H' b = some u → s.heap.get? b = none) (ok : HOk X.prog X.w H' h') : Inv X pins σ H' { s with heap := h', toks := t' } := by
  have J := I.kept (t' := t') k
  have no : ∀ b o, s.heap.get? b = some o → H b = none → H' b = none := fun b o e n => by
    cases q : H' b with
    | none => rfl
    | some u => rw [new b u n q] at e; cases e
  refine ⟨J.ok, J.os, J.bare, ⟨J.base.keep, J.base.slot, fun b o e n hx => ?_, J.base.there, fun b xs e => ext _ _ (J.base.tups b xs e), fun b o u e => ext _ _ (J.base.frzs b o u e), fun b ps e => ?_⟩, J.loc, J.cell, ?_, fun x c e => ?_, fun p hp => ?_, ok, J.len⟩
  · obtain ⟨o', e'⟩ := I.base.there b o e hx
    exact no b o' e' (I.base.free b o e n hx)
  · obtain ⟨m, q⟩ := J.base.tbls b ps e
    exact ⟨m, ext _ _ q⟩
  · obtain ⟨m, ⟨o, es, ep, e, _⟩, _⟩ := I.loc
    exact no _ o e I.free
  · obtain ⟨v, o, ho, _⟩ := I.cell x c e
    exact no _ o ho (I.freeC x c e)
  · obtain ⟨h1, h2, h3, h4, h5⟩ := J.pin p hp
    obtain ⟨g1, g2, _⟩ := I.pin p hp
    exact ⟨h1, no _ _ g1 g2, h3, h4, h5⟩
end
/-! ### errors as values -/
/-- a class of errors with an __init__ of its own; st: the text of that __init__ -/
structure ErrK (P : Program) (K : PySem.W.Frag) (C : Addr) (fs : List Str) (st : Stmt) : Prop where
  ec : ∃ fI qual kV doc pm an cda ct cc, ZE.ErrC P K C fs fI (PySem.W.ksFn "__init__" qual (defArgs st) (defBody st) (defScope st) .none kV doc pm an (.ref cda) ct cc)
/-- how the __init__ takes its arguments: by position | by name -/
def ErrB (fs : List Str) (st : Stmt) : Prop := ∀ (qual : Str) (kV doc pm : Value) (an : Option Addr) (cdv ct : Value) (cc e : Addr) (us : List Value), us.length = fs.length → bindArgs (PySem.W.ksFn "__init__" qual (defArgs st) (defBody st) (defScope st) .none kV doc pm an cdv ct cc) ⟨.ref e :: us, []⟩ = pure ((("self" : Str) :: fs).zip (.ref e :: us))
def ErrBK (fs ks : List Str) (js : List Nat) (st : Stmt) : Prop := ∀ (qual : Str) (kV doc pm : Value) (an : Option Addr) (cdv ct : Value) (cc e : Addr) (us : List Value), us.length = ks.length → bindArgs (PySem.W.ksFn "__init__" qual (defArgs st) (defBody st) (defScope st) .none kV doc pm an cdv ct cc) ⟨[.ref e], ks.zip us⟩ = pure ((("self" : Str) :: fs).zip (.ref e :: perm js us))
/-- names that the fields may have -/
structure ErrN (fs : List Str) : Prop where
  ne : fs ≠ []
  len : fs.length ≤ 900
  nd : (("self" : Str) :: fs).Nodup
  db : ∀ f ∈ fs, (f == ("__debug__" : Str)) = false
def errW0 (C : Addr) : WL := fun xs k => ∃ m, xs = [.str m] ∧ k (.exn C [] [.str m])
def errW1 (C : Addr) (fs : List Str) : WL := fun xs k => xs.length = fs.length ∧ k (.exn C fs xs)
theorem look_zip : ∀ {fs : List Str} {xs : List V} {ws : List Value}, fs.length = xs.length → Vals xs ws → ∀ f, RelO ((fs.zip xs).lookup f) ((fs.zip ws).lookup f)
  | [], [], _, _, .nil, f => trivial
  | [], _ :: _, _, h, _, f => by simp at h
  | _ :: _, [], _, h, _, f => by simp at h
  | a :: fs, x :: xs, _, h, .cons (b := w) (l₂ := ws) r t, f => by
    simp only [List.zip_cons_cons]
    rw [L2.lookup_put, ZE.lookup_put']
    by_cases e : f = a
    · rw [if_pos e, if_pos e]; exact r
    · rw [if_neg e, if_neg e]; exact look_zip (by simpa using h) t f
theorem look_rev {ks : List Str} {vs : List Value} (hn : ks.Nodup) (hl : ks.length = vs.length) (f : Str) : (ks.zip vs).reverse.lookup f = (ks.zip vs).lookup f := by
  have key : ∀ (l : List (Str × Value)), (l.map (·.1)).Nodup → ∀ v, l.lookup f = some v → (f, v) ∈ l := fun l _ v h => by
    induction l with
    | nil => cases h
    | cons p l ih =>
      obtain ⟨a, b⟩ := p
      rw [ZE.lookup_put'] at h
      by_cases e : f = a
      · rw [if_pos e] at h; cases h; subst e; exact List.mem_cons_self
      · rw [if_neg e] at h
        exact List.mem_cons_of_mem _ (ih (by rename_i hh; exact (List.nodup_cons.mp hh).2) h)
  have n1 : ((ks.zip vs).map (·.1)).Nodup := by rw [ZE.zip_fst hl]; exact hn
  have n2 : ((ks.zip vs).reverse.map (·.1)).Nodup := by rw [List.map_reverse]; exact (List.reverse_perm _).nodup_iff.mpr n1
  cases h1 : (ks.zip vs).lookup f with
  | some v => exact ZE.look_mem n2 (List.mem_reverse.mpr (key _ n1 v h1))
  | none =>
    cases h2 : (ks.zip vs).reverse.lookup f with
    | none => rfl
    | some v =>
      have := ZE.look_mem n1 (List.mem_reverse.mp (key _ n2 v h2))
      rw [h1] at this; cases this
section
variable {X : Cx} {C : Addr} {fs : List Str} {st : Stmt}
/-- what is left behind when an error with fields was made -/
theorem err_end {pins : List (Addr × Obj)} {σ : L2.St} {H : Hp} {s : Shared} {z : Z} {S : Addr → Prop} {xs : List V} {ds : List D} {ws : List Value} {Q : VK} (I : Inv X pins σ H s) (hN : ErrN fs) (hS : ∀ p, S p → H p ≠ none) (hx : IsA z X.K (hide S H) xs ds) (r : Vals xs ws) (hl : fs.length = xs.length)
    (q : ∀ v H', Grow H H' → Is z X.K (hide S H') v (.exn C fs ds) → Q v H') {e dx t0 : Addr} {h' : Heap} {tk' : Nat} (h1 : s.heap.get? e = none) (h2 : ∀ b o, s.heap.get? b = some o → h'.get? b = some o) (h3 : h'.get? e = some ({ cls := .ref C, dict := some dx, data := .fields #[.ref t0, .none, .none, .none, .bool false, .none] } : Obj))
    (h4 : s.heap.get? dx = none) (h5 : dx ≠ e) (h6 : h'.Ns1 dx (fun y => ((fs.zip ws).reverse).lookup y)) : EP X pins σ Q (.ref e) { s with heap := h', toks := tk' } := by
  have no : ∀ b, s.heap.get? b = none → H b = none := fun b hb => by
    cases q : H b with
    | none => rfl
    | some u =>
      obtain ⟨o, e⟩ := objOk_get (I.hok b u q)
      rw [hb] at e; cases e
  have ne := no e h1
  have nd := no dx h4
  have nd1 : (L2.upd H dx (.xd (fs.zip xs))) e = none := by rw [upd_ne (Ne.symm h5)]; exact ne
  let oe : Obj := { cls := .ref C, dict := some dx, data := .fields #[.ref t0, .none, .none, .none, .bool false, .none] }
  have g1 : Grow H (L2.upd H dx (.xd (fs.zip xs))) := grow_upd nd
  have g2 : Grow (L2.upd H dx (.xd (fs.zip xs))) (L2.upd (L2.upd H dx (.xd (fs.zip xs))) e (.frz oe (exU e))) := grow_upd nd1
  have g := g1.trans g2
  have hlw : fs.length = ws.length := by rw [hl]; exact r.length
  have hns : h'.Ns1 dx (fun y => (fs.zip ws).lookup y) := by
    have e : (fun y => (fs.zip ws).lookup y) = fun y => ((fs.zip ws).reverse).lookup y := funext fun y => (look_rev (List.nodup_cons.mp hN.nd).2 hlw y).symm
    rw [e]; exact h6
  have ed : (L2.upd (L2.upd H dx (.xd (fs.zip xs))) e (.frz oe (exU e))) dx = some (.xd (fs.zip xs)) := by rw [upd_ne h5, upd_same]
  have J : Inv X pins σ (L2.upd (L2.upd H dx (.xd (fs.zip xs))) e (.frz oe (exU e))) { s with heap := h', toks := tk' } := by
    refine inv_grow I h2 (fun b u w => g.same b u w) (fun b u n w => ?_) fun b u w => ?_
    · by_cases hb : b = e
      · rw [hb]; exact h1
      · rw [upd_ne hb] at w
        by_cases hd : b = dx
        · rw [hd]; exact h4
        · rw [upd_ne hd, n] at w; cases w
    · by_cases hb : b = e
      · subst hb
        rw [upd_same] at w; cases w
        exact ⟨h3, ⟨oe, h3⟩, ⟨oe, h3⟩, fun h1 h2 ⟨o, q⟩ k => ⟨o, k o q⟩⟩
      · rw [upd_ne hb] at w
        by_cases hd : b = dx
        · subst hd
          rw [upd_same] at w; cases w
          exact ⟨_, hns, look_zip hl r⟩
        · rw [upd_ne hd] at w
          exact (I.hok b u w).stay (fun c v _ z => h2 c v z) (fun c z => g.same _ _ z) fun c xs z => g.same _ _ z
  refine ⟨.ref e, _, J, rfl, q _ _ g ?_⟩
  have hSe : ¬ S e := fun w => hS e w ne
  have hSd : ¬ S dx := fun w => hS dx w nd
  exact .exn1 (oe := oe) (hide_get.mpr ⟨hSe, upd_same⟩) ⟨_, rfl⟩ rfl rfl (hide_get.mpr ⟨hSd, ed⟩) hl hN.ne (hx.evx (.of_same fun p o w => by
    obtain ⟨n, w⟩ := hide_get.mp w
    exact hide_get.mpr ⟨n, g.same p o w⟩))
theorem cd_err1 (T : ErrK X.prog X.K C fs st) (hN : ErrN fs) (hB : ErrB fs st) (hr : Room 2 X.A) (hsup : X.mg "super" = none) : CallD X (.ref C) (errW1 C fs) := by
  refine ⟨fun x k k' h q => ⟨q.1, h _ q.2⟩, fun pins s σ H xs us Q I r ⟨z, S, ds, hS, hx, hl, q⟩ => ?_⟩
  obtain ⟨fI, qual, kV, doc, pm, an, cda, ct, cc, E⟩ := T.ec
  have hl1 : fs.length = xs.length := by rw [hx.length]; exact hl.symm
  have hl2 : fs.length = us.length := by rw [hl1]; exact r.length
  refine ZE.err_made (ws := us) E I hr hsup (by rw [← hl2]; have := hN.len; unfold sizeLine; omega) hl2 hN.ne hN.len hN.nd hN.db (fun s' e _ => .of_eq (hB _ _ _ _ _ _ _ _ e us hl2.symm)) fun e dx t0 h' tk' h1 h2 h3 h4 h5 h6 => ?_
  exact err_end I hN hS hx r hl1 q h1 h2 h3 h4 h5 h6
end
end DL
namespace DL
open PySem L2 PySem.Spec PyProof.Rows
section
variable {X : Cx} {C : Addr} {fs : List Str} {st : Stmt}
/-- C('..'), C without an __init__ of its own -/
theorem cd_err0 (ex : PySem.W.excIn X.K C veB "ValueError.__new__" = true) : CallD X (.ref C) (errW0 C) := by
  refine ⟨fun x k k' h ⟨m, e, q⟩ => ⟨m, e, h _ q⟩, fun pins s σ H xs us Q I r ⟨z, S, ds, hS, hx, m, ed, q⟩ => ?_⟩
  subst ed
  cases hx with
  | cons h1 t =>
    cases t
    cases h1
    obtain ⟨u, rfl, ru⟩ := r.one
    obtain ⟨tk, rfl⟩ := ru
    obtain ⟨bm, N, nm, qn, bs, hdct, sn, sub, ab, col, dd, k0, k1, k2, k3, k5, mN, hC, hN, hni, T⟩ := exc_obj I.kIn ex
    obtain ⟨hp, g0, d, t, os⟩ := s
    refine wpAny_call_exc_subT PySem.F.excBase_ValueError T hC hN hni (fun h' e hm => ?_) (by show 1 ≤ sizeLine; decide)
    obtain ⟨t0, he, htn, ht⟩ := hm.there
    have hk := hm.keeps
    have hen := hm.new
    have no : ∀ b, hp.get? b = none → H b = none := fun b hb => by
      cases q : H b with
      | none => rfl
      | some u =>
        obtain ⟨o, e⟩ := objOk_get (I.hok b u q)
        rw [hb] at e; cases e
    have et : t0 ≠ e := fun w => by rw [w, he] at ht; cases ht
    have ne := no e hen
    have nt := no t0 htn
    have nd1 : (L2.upd H t0 (.tup [.str m])) e = none := by rw [upd_ne (Ne.symm et)]; exact ne
    have g1 : Grow H (L2.upd H t0 (.tup [.str m])) := grow_upd nt
    let oe : Obj := { cls := .ref C, data := .fields #[.ref t0, .none, .none, .none, .bool false, .none] }
    have g2 : Grow (L2.upd H t0 (.tup [.str m])) (L2.upd (L2.upd H t0 (.tup [.str m])) e (.frz oe (exU e))) := grow_upd nd1
    have g := g1.trans g2
    have ed : (L2.upd (L2.upd H t0 (.tup [.str m])) e (.frz oe (exU e))) t0 = some (.tup [.str m]) := by rw [upd_ne et, upd_same]
    have J : Inv X pins σ (L2.upd (L2.upd H t0 (.tup [.str m])) e (.frz oe (exU e))) ⟨h', g0, d, t, os⟩ := by
      refine inv_grow (t' := t) I hk (fun b u w => g.same b u w) (fun b u n w => ?_) fun b u w => ?_
      · by_cases hb : b = e
        · rw [hb]; exact hen
        · rw [upd_ne hb] at w
          by_cases hd : b = t0
          · rw [hd]; exact htn
          · rw [upd_ne hd, n] at w; cases w
      · by_cases hb : b = e
        · subst hb
          rw [upd_same] at w; cases w
          exact ⟨he, ⟨oe, he⟩, ⟨oe, he⟩, fun h1 h2 ⟨o, q⟩ k => ⟨o, k o q⟩⟩
        · rw [upd_ne hb] at w
          by_cases hd : b = t0
          · subst hd
            rw [upd_same] at w; cases w
            exact ⟨by show 1 ≤ sizeLine; decide, [.str m tk], .cons ⟨tk, rfl⟩ .nil, ⟨_, ht, rfl, _, rfl⟩⟩
          · rw [upd_ne hd] at w
            exact (I.hok b u w).stay (fun c v _ z => hk c v z) (fun c z => g.same _ _ z) fun c xs z => g.same _ _ z
    refine ⟨.ref e, _, J, rfl, q _ _ g ?_⟩
    have hSe : ¬ S e := fun w => hS e w ne
    have hSd : ¬ S t0 := fun w => hS t0 w nt
    exact .exnM (oe := oe) (hide_get.mpr ⟨hSe, upd_same⟩) ⟨_, rfl⟩ rfl rfl (fun fs w => by cases w; rfl) (hide_get.mpr ⟨hSd, ed⟩)
/-- C(e, ..), C a class of the module -/
theorem de_callC {Φ : Phi} {x : Str} {p pos : Pos} {e : Expr} {es : List Expr} {w : WL} {n : MA} (hc : CallD X (.ref C) w) (hm : X.mg x = some (.ref C)) (hk : PySem.W.keepIn X.K (.ref C) = true) (ha : DA X Φ (e :: es) n) (hg : Gl X x := by rfl) (hdb : (x == ("__debug__" : Str)) = false := by decide)
    (he : starEach (e :: es) X.env = (false, eval e X.env) :: starEach es X.env := by rfl) (hpl : (backTo pos (starEach es X.env)).any (·.1) = false := by rfl) : DE X Φ (.Call (.Name x p) (e :: es) [] pos) (mCB w n) := by
  refine ⟨mCB_mono ha.mono hc.mono, ⟨fun pins s σ H Q I h => wpAny_Call_Name_kw (ld_glob I hg hm ?_ hdb)⟩⟩
  have h' := runL ha.mono hc.mono h
  refine PySem.W.callWith_K (h₀ := X.base) I.ok.mod.kin hk (thn (ha.pa.run pos pins s σ H _ I h') fun us s1 ⟨vs, H1, I1, r, q⟩ => ⟨I1.kIn, ?_⟩) he hpl
  exact hc.run pins s1 σ H1 vs us Q I1 r q
def mCBK (w : WL) (ks : Nat) (js : List Nat) (n : MA) : ME := fun env k => n env fun ds e => ds.length = ks ∧ w (perm js ds) fun d => k d e
/-- C(a=e, ..), C a class of errors with an __init__ of its own -/
theorem de_errK {Φ : Phi} {x : Str} {p pos : Pos} {kws : List Keyword} {ks : List Str} {js : List Nat} {n : MA} (T : ErrK X.prog X.K C fs st) (hN : ErrN fs) (hB : ErrBK fs ks js st) (hr : Room 2 X.A) (hsup : X.mg "super" = none) (hm : X.mg x = some (.ref C)) (hk : PySem.W.keepIn X.K (.ref C) = true) (hkw : DK X Φ kws n)
    (hg : Gl X x := by rfl) (hall : (backToKw pos (keywordEach kws X.env)).all (·.1.isSome) = true := by rfl) (hks : (backToKw pos (keywordEach kws X.env)).filterMap (·.1) = ks := by rfl)
    (hdb : (x == ("__debug__" : Str)) = false := by decide) (hpl : ((backTo pos (starEach [] X.env)).any (·.1) || (backToKw pos (keywordEach kws X.env)).any (·.1.isNone)) = false := by rfl) :
    DE X Φ (.Call (.Name x p) [] kws pos) (mCBK (errW1 C fs) ks.length js n) := by
  refine ⟨fun env k k' h q => hkw.mono env (fun ds e q => ⟨q.1, q.2.1, h _ _ q.2.2⟩) q, ⟨fun pins s σ H Q I ⟨z, S0, H0, ps', env, r, q⟩ => wpAny_Call_Name_kw (ld_glob I hg hm ?_ hdb)⟩⟩
  have h' : tDA Φ X.K n σ H fun vs H1 => vs.length = ks.length ∧ ∃ (z : Z) (S : Addr → Prop) (ds : List D), (∀ p, S p → H1 p ≠ none) ∧ IsA z X.K (hide S H1) (perm js vs) ds ∧ ds.length = fs.length ∧ ∀ v H', Grow H1 H' → Is z X.K (hide S H') v (.exn C fs ds) → Q v H' := by
    refine ⟨z, S0, H0, ps', env, r, hkw.mono env (fun ds e q => ?_) q⟩
    intro vs H1 r1 x1 i1
    refine ⟨by rw [i1.length]; exact q.1, z, Sx S0 ps', perm js ds, r1.dom, perm_is i1, q.2.1, fun v H' g i => ?_⟩
    exact q.2.2 v H' (r1.same g) (x1.trans (.of_same g.same)) i
  refine PySem.W.callWith_KW0 (h₀ := X.base) I.ok.mod.kin hk hall (thn (hkw.pk.run pos pins s σ H _ I h') fun ws s2 ⟨zs, H2, I2, rz, hl, q2⟩ => ⟨I2.kIn, ?_⟩) hpl
  rw [hks]
  obtain ⟨z2, S2, ds2, hS2, hx2, hl2, q2⟩ := q2
  obtain ⟨fI, qual, kV, doc, pm, an, cda, ct, cc, E⟩ := T.ec
  have pv : Vals (perm js zs) (perm js ws) := perm_vals rz
  have hl1 : fs.length = (perm js zs).length := by rw [hx2.length]; exact hl2.symm
  refine ZE.err_made (us := []) (ws := perm js ws) E I2 hr hsup (by show 0 ≤ sizeLine; decide) (by rw [hl1]; exact pv.length) hN.ne hN.len hN.nd hN.db (fun s' e _ => .of_eq (hB _ _ _ _ _ _ _ _ e ws (by rw [← rz.length]; exact hl))) fun e dx t0 h' tk' h1 h2 h3 h4 h5 h6 => ?_
  exact err_end I2 hN hS2 hx2 pv hl1 q2 h1 h2 h3 h4 h5 h6
/-! ### isinstance of an error, its fields, its text -/
def clsV : D → Option Value
  | .cls C => some (.ref C)
  | .ty n => some (.type n)
  | _ => none
def isXW (R : Addr → Value → Bool → Prop) : WL := fun xs k => ∃ C ns ds c cv b, xs = [.exn C ns ds, c] ∧ clsV c = some cv ∧ R C cv b ∧ k (.bl b)
theorem cd_isX {R : Addr → Value → Bool → Prop} (h : ∀ C c b, R C c b → ExcC X.K C ∧ PySem.W.kitOne X.K (.ref C) c = some b) : CallD X (.builtin "isinstance") (isXW R) := by
  refine ⟨fun x k k' hk ⟨C, ns, ds, c, cv, b, e, e2, r, q⟩ => ⟨C, ns, ds, c, cv, b, e, e2, r, hk _ q⟩, fun pins s σ H xs us Q I r ⟨z, S, ds, hS, hx, C, ns, fd, c, cv, b, e, ec, hR, q⟩ => ?_⟩
  subst e
  obtain ⟨hC, hk⟩ := h _ _ _ hR
  cases hx with
  | cons h1 t =>
    cases t with
    | cons h2 t =>
      cases t
      cases r with
      | @cons _ u1 _ _ rx rr =>
        cases rr with
        | @cons _ u2 _ _ rt rr =>
          cases rr
          have e2 : u2 = cv := by
            cases h2 <;> first | (cases ec; exact rt) | (cases ec)
          subst e2
          have hcl : (PySem.W.clsIn X.K C).isSome = true := by obtain ⟨cd, hc, _⟩ := PySem.W.any_some hC.hd; rw [hc]; rfl
          have go : ∀ {a : Addr} {oe : Obj} {od : Option Obj}, u1 = .ref a → PySem.W.InstAt s.heap a oe C od → wpAny (model X.prog X.w) X.A (call (.builtin "isinstance") [u1, u2]) (EP X pins σ Q) X.xe s := fun {a oe od} e J => by
            subst e
            exact PySem.W.kia_one (PySem.W.kitx_exc hcl hC.hg hC.hk hC.hs hC.ha hC.hn hC.ht hC.hm) I.kIn J hk (fun z => nomatch z) fun tk => ⟨.bl b, H, I.kept (t' := tk) fun _ _ z => z, rfl, q _ H (Grow.refl H) (.bl b)⟩
          have inst : ∀ {a : Addr} {oe : Obj} {u : HO} {od : Option Obj}, hide S H a = some (.frz oe u) → (∃ fs, oe.data = .fields fs) → oe.cls = .ref C → (match oe.dict with | none => od = none | some dx => ∃ o, od = some o ∧ s.heap.get? dx = some o) → PySem.W.InstAt s.heap a oe C od := fun {a oe u od} g hd hc hdi => by
            have hget := (I.hok a _ (hide_same _ _ g)).1
            obtain ⟨vs, hv⟩ := hd
            obtain ⟨oc, odd, oda, osl⟩ := oe
            dsimp only at hc hdi hv
            subst hc hv
            cases odd with
            | none => subst hdi; exact ⟨hget, rfl, rfl, trivial⟩
            | some dx => obtain ⟨o, rfl, e⟩ := hdi; exact ⟨hget, rfl, rfl, e⟩
          cases h1 with
          | exn0 g hd hc hdi => exact go rx (inst (od := none) g hd hc (by rw [hdi]))
          | exnM g hd hc hdi _ _ => exact go rx (inst (od := none) g hd hc (by rw [hdi]))
          | @exn1 _ _ dx _ _ _ _ _ g hd hc hdi gx _ _ _ =>
            obtain ⟨mA, ⟨o, es, ep, e, _⟩, _⟩ := I.hok dx _ (hide_same _ _ gx)
            exact go rx (inst (od := some o) g hd hc (by rw [hdi]; exact ⟨o, rfl, e⟩))
end
end DL
namespace DL
open PySem L2 PySem.Spec PyProof.Rows
section
variable {X : Cx} {C : Addr} {fs : List Str} {st : Stmt} {Φ : Phi}
/-! ### e.f, e an error that keeps f -/
def mAttrE (F : Addr → Str → Prop) (f : Str) (m : ME) : ME := fun env k => m env fun x e => ∃ C ns ds d, x = .exn C ns ds ∧ F C f ∧ ns.length = ds.length ∧ (ns.zip ds).lookup f = some d ∧ k d e
theorem look_data {z : Z} {K : PySem.W.Frag} {G : Hp} {f : Str} {d : D} : ∀ {ns : List Str} {xs : List V} {ds : List D}, IsA z K G xs ds → (ns.zip ds).lookup f = some d → ∃ v, (ns.zip xs).lookup f = some v ∧ Is z K G v d
  | [], _, _, _, e => by simp at e
  | _ :: _, _, _, .nil, e => by simp at e
  | a :: ns, _, _, .cons (v := v) (vs := vs) (d := d0) (ds := ds) i t, e => by
    simp only [List.zip_cons_cons, List.lookup_cons] at e ⊢
    cases h : f == a with
    | true => rw [h] at e; simp at e; subst e; exact ⟨v, by simp, i⟩
    | false => rw [h] at e; simp only at e ⊢; exact look_data t e
theorem de_attrE {F : Addr → Str → Prop} {e : Expr} {f : Str} {m : ME} {pos : Pos} (h : ∀ C, F C f → ExcC X.K C ∧ PySem.W.findIn X.K (.ref C) f = some none) (he : DE X Φ e m) (hb : attributeBase e f X.env (eval e X.env) = eval e X.env := by rfl) : DE X Φ (.Attribute e f pos) (mAttrE F f m) := by
  refine ⟨fun env k k' hk q => he.mono env (fun x e ⟨C, ns, ds, d, a, b, l, c, q⟩ => ⟨C, ns, ds, d, a, b, l, c, hk _ _ q⟩) q, ⟨fun pins s σ H Q I ⟨z, S0, H0, ps, env, r, q⟩ => ?_⟩⟩
  refine attr_of hb (thn (he.pe.run pins s σ H (fun v H1 => ∃ (z : Z) (S : Addr → Prop) (C : Addr) (ns : List Str) (ds : List D) (d : D), Is z X.K (hide S H1) v (.exn C ns ds) ∧ F C f ∧ ns.length = ds.length ∧ (ns.zip ds).lookup f = some d ∧ ∀ v, Is z X.K (hide S H1) v d → Q v H1) I ⟨z, S0, H0, ps, env, r, he.mono env ?_ q⟩) fun u s1 hh => ?_)
  · rintro x e ⟨C, ns, ds, d, a, b, l, c, q⟩
    subst a
    intro v H1 r1 x1 i1
    exact ⟨z, Sx S0 ps, C, ns, ds, d, i1, b, l, c, fun v i => q v H1 r1 x1 i⟩
  · obtain ⟨v, H1, I1, rv, z, S, C, ns, ds, d, i, hF, hl, hd, q⟩ := hh
    obtain ⟨hC, hno⟩ := h C hF
    have ne : ns ≠ [] := fun w => by subst w; simp at hd
    cases i with
    | exn0 => exact absurd rfl ne
    | exnM => exact absurd rfl ne
    | @exn1 a _ dx oe _ _ xs _ g hdat hc hdi gx l _ ix =>
      obtain rfl : u = Value.ref a := rv
      obtain ⟨v', hv', iv⟩ := look_data ix hd
      have ha := (I1.hok a _ (hide_same _ _ g)).1
      obtain ⟨vs, hd⟩ := hdat
      have hx : ObjOk X.prog X.w H1 s1.heap dx (.xd (ns.zip xs)) := I1.hok dx _ (hide_same _ _ gx)
      obtain ⟨mA, hns, hr⟩ := hx
      obtain ⟨od, ho, hlk⟩ := lookIn_ns hns
      obtain ⟨u, hu, ru⟩ := RelO.some_of (v := v') (o := mA f) (by rw [← hv']; exact hr f)
      have J : PySem.W.InstAt s1.heap a oe C (some od) := ⟨ha, hc, by unfold PySem.W.notCls; rw [hd] <;> rfl, by rw [hdi]; exact ho⟩
      exact HandSPX.exc_get I1.kIn J hC.hg hC.hk hC.hs (PySem.W.findObj_own hC.hd hno rfl (by rw [hlk, hu])) (handed_of ru) ⟨v', H1, I1.tok _, ru, q v' iv⟩
/-! ### str(e) -/
def strEW (S : Addr → Prop) : WL := fun xs k => ∃ C m, xs = [.exn C [] [.str m]] ∧ S C ∧ k (.str m)
theorem cd_strE {S : Addr → Prop} (hu : X.A.units + 64 < cLine) (h : ∀ C, S C → PySem.W.findIn X.K (.ref C) "__str__" = some (some (.builtin "BaseException.__str__")) ∧ PySem.W.subIn X.K (.ref C) (.type "BaseException") = some true) : CallD X (.type "str") (strEW S) := by
  refine ⟨fun x k k' hk ⟨C, m, e, a, q⟩ => ⟨C, m, e, a, hk _ q⟩, fun pins s σ H xs us Q I r ⟨z, S', ds, hS, hx, C, m, e, a, q⟩ => ?_⟩
  subst e
  obtain ⟨h1, h2⟩ := h C a
  cases hx with
  | cons i t =>
    cases t
    obtain ⟨u, rfl, ru⟩ := r.one
    cases i with
    | exn1 _ _ _ _ _ _ nn _ => exact absurd rfl nn
    | @exnM a _ t0 oe _ _ g hd hc hdi h0 gt =>
      obtain rfl : u = Value.ref a := ru
      have ha := (I.hok a _ (hide_same _ _ g)).1
      obtain ⟨_, its, rv, ⟨ot, hto, htc, nt, htd⟩⟩ := I.hok t0 _ (hide_same _ _ gt)
      obtain ⟨w, rfl, rw'⟩ := rv.one
      obtain ⟨tk, rfl⟩ := rw'
      obtain ⟨vs, hv⟩ := hd
      exact PySem.P.str_of_C_one (by omega) ⟨I.kIn, oe, vs, ha, hc, hv, h0 vs hv⟩ ⟨ot, nt, hto, htc, htd⟩ h1 h2 ⟨.str m, H, I, ⟨tk, rfl⟩, q _ H (Grow.refl H) (.str m)⟩
/-! ### enumerate -/
def enumD : Nat → List D → List D
  | _, [] => []
  | i, d :: ds => .tup [.int (i : Nat), d] :: enumD (i + 1) ds
theorem enumD_get : ∀ (ds : List D) (j i : Nat), (enumD j ds)[i]? = (ds[i]?).map fun d => D.tup [.int ((j + i : Nat) : Int), d]
  | [], _, _ => by simp [enumD]
  | d :: ds, j, 0 => by simp [enumD]
  | d :: ds, j, i + 1 => by
    have := enumD_get ds (j + 1) i
    simp only [enumD, List.getElem?_cons_succ, this]
    have e : j + 1 + i = j + (i + 1) := by omega
    rw [e]
theorem enumD_len : ∀ (ds : List D) (j : Nat), (enumD j ds).length = ds.length
  | [], _ => rfl
  | d :: ds, j => by simp [enumD, enumD_len ds]
def mEnum (n : MA) : MI := fun env k => n env fun ds e => ∃ es, ds = [.lst es] ∧ k (enumD 0 es) e
theorem wlk_enum {z : Z} {S0 : Addr → Prop} {K : PySem.W.Frag} {ps : List (Option Addr)} {H : Hp} {a : Addr} {xs : List V} {ds : List D} (h : hide (Sx S0 ps) H a = some (.lst xs)) (i : IsA z K (hide (Sx S0 ps) H) xs ds) : Wlk z K S0 ps (Ite K a) (enumD 0 ds) H := by
  have key : ∀ ps2 H2, Evx (hide (Sx S0 ps) H) (hide (Sx S0 ps2) H2) → SqL K H2 a xs ∧ IsA z K (hide (Sx S0 ps2) H2) xs ds := fun ps2 H2 ev => by
    obtain ⟨o', e', v⟩ := ev.get h (fun ⟨_, _, _, w, _⟩ => by cases w)
    rw [v.lst] at e'
    exact ⟨SqL.of (hide_same _ _ e'), i.evx ev⟩
  refine ⟨fun ps2 H2 j d st dom e => ?_, fun ps2 H2 j st e => ?_⟩
  · obtain ⟨k1, k2⟩ := key ps2 H2 st
    rw [enumD_get] at e
    obtain ⟨d0, e0, rfl⟩ := Option.map_eq_some_iff.mp e
    obtain ⟨v, ev, iv⟩ := k2.getD e0
    refine ⟨⟨xs, v, k1, ev⟩, fun x H3 ⟨T, y, ex, hT, eH, ey⟩ => ?_⟩
    subst ex eH
    cases (ev.symm.trans (ey xs k1))
    have g : Grow H2 (L2.upd H2 T (.tup [.int (j : Nat), v])) := grow_upd hT
    have nT : ¬ Sx S0 ps2 T := fun w => dom T w hT
    refine ⟨g, ?_⟩
    have e2 : ((0 + j : Nat) : Int) = (j : Nat) := by omega
    rw [e2]
    exact .tup (.inl (hide_get.mpr ⟨nT, upd_same⟩)) (.cons (.int _) (.cons (iv.evx (.of_same fun p o w => by
      obtain ⟨n, w⟩ := hide_get.mp w
      exact hide_get.mpr ⟨n, g.same p o w⟩)) .nil))
  · obtain ⟨k1, k2⟩ := key ps2 H2 st
    exact ⟨xs, k1, by rw [k2.length]; rw [enumD_len] at e; exact e⟩
theorem di_enum {a : Expr} {n : MA} {p pos tpos : Pos} {elts : List Expr} {kk : Nat} (hm : X.mg "enumerate" = none) (ha : DA X Φ [a] n) (hg : Gl X "enumerate" := by rfl) (hs : starEach [a] X.env = [(false, eval a X.env)] := by rfl) : DI X Φ (.Tuple elts kk tpos) (.Call (.Name "enumerate" p) [a] [] pos) (mEnum n) := by
  refine ⟨fun env k k' hk q => ha.mono env (fun ds e ⟨es, a, q⟩ => ⟨es, a, hk _ _ q⟩) q, pi_imp (pi_enum hg hm ha.pa hs) fun σ H R ⟨z, S0, H0, ps, env, r, q⟩ => ⟨z, S0, H0, ps, env, r, ha.mono env (fun ds e q => ?_) q⟩⟩
  obtain ⟨es, rfl, q⟩ := q
  intro vs H1 r1 x1 i1
  cases i1 with
  | cons h1 t1 =>
    cases t1
    cases h1 with
    | lst g i => exact ⟨_, _, rfl, SqL.of (hide_same _ _ g), q _ H1 r1 x1 (wlk_enum g i)⟩
/-! ### raise C(e, ..), C with an __init__ of its own -/
def mRaise1 (C : Addr) (fs : List Str) (kx : D → Nat → Prop) (n : MA) : MS := fun env _ => n env fun ds e => ds.length = fs.length ∧ kx (.exn C fs ds) e.cr
theorem ds_raise1 {E : XK} {kx : D → Nat → Prop} {x : Str} {e : Expr} {es : List Expr} {n : MA} {p pos rp : Pos} (T : ErrK X.prog X.K C fs st) (hN : ErrN fs) (hB : ErrB fs st) (hr : Room 2 X.A) (hsup : X.mg "super" = none) (c : ClsE X.K X.mg x C) (tk : Takes X fun cls d _ H => E cls d H) (ha : DA X (PhiE X.K X.w E kx) (e :: es) n) (hc : X.calm = true := by rfl) (hg : Gl X x := by rfl)
    (hdb : (x == ("__debug__" : Str)) = false := by decide) (he : starEach (e :: es) X.env = (false, eval e X.env) :: starEach es X.env := by rfl) (hpl : (backTo pos (starEach es X.env)).any (·.1) = false := by rfl) :
    DS X (PhiE X.K X.w E kx) (.Raise (some (.Call (.Name x p) (e :: es) [] pos)) none rp) (mRaise1 C fs kx n) := by
  have pmk : PMk X (.Call (.Name x p) (e :: es) [] pos) (fun σ H Q => tDA (PhiE X.K X.w E kx) X.K n σ H fun vs H1 => vs.length = fs.length ∧ ∀ dx, H1 dx = none → Q (.ref C) (some dx) (L2.upd H1 dx (.xd (fs.zip vs)))) := by
    intro pins s σ H Q I h
    refine wpAny_Call_Name_kw (ld_glob I hg c.mg ?_ hdb)
    refine PySem.W.callWith_K (h₀ := X.base) I.ok.mod.kin c.kp (thn (ha.pa.run pos pins s σ H _ I h) fun us s1 ⟨vs, H1, I1, r1, hl, q1⟩ => ⟨I1.kIn, ?_⟩) he hpl
    obtain ⟨fI, qual, kV, doc, pm, an, cda, ct, cc, EC⟩ := T.ec
    have hl2 : fs.length = us.length := by rw [← hl]; exact r1.length
    show wpAny _ _ (call (.ref C) us) _ _ _
    refine ZE.err_made (ws := us) EC I1 hr hsup (by rw [← hl2]; have := hN.len; unfold sizeLine; omega) hl2 hN.ne hN.len hN.nd hN.db (fun s' e _ => .of_eq (hB _ _ _ _ _ _ _ _ e us hl2.symm)) fun e dx t0 h' tk' h1 h2 h3 h4 h5 h6 => ?_
    have no : ∀ b, s1.heap.get? b = none → H1 b = none := fun b hb => by
      cases q : H1 b with
      | none => rfl
      | some u =>
        obtain ⟨o, e⟩ := objOk_get (I1.hok b u q)
        rw [hb] at e; cases e
    obtain ⟨G, g1', g2'⟩ := restrict h' fun b => decide (b ≠ e)
    have gk : ∀ b, b ≠ e → G.get? b = h'.get? b := fun b hb => g1' b (decide_eq_true hb)
    have ge : G.get? e = none := g2' e (by simp)
    have kG : ∀ b o, s1.heap.get? b = some o → G.get? b = some o := fun b o z => by
      rw [gk b (fun w => by rw [w, h1] at z; cases z)]; exact h2 b o z
    have g : Grow H1 (L2.upd H1 dx (.xd (fs.zip vs))) := grow_upd (no dx h4)
    have hns : G.Ns1 dx (fun y => (fs.zip us).lookup y) := by
      have e1 : (fun y => (fs.zip us).lookup y) = fun y => ((fs.zip us).reverse).lookup y := funext fun y => (look_rev (List.nodup_cons.mp hN.nd).2 hl2 y).symm
      rw [e1]
      exact h6.at fun o y => (gk dx h5).trans y
    have J : Inv X pins σ (L2.upd H1 dx (.xd (fs.zip vs))) { s1 with heap := G, toks := tk' } := by
      refine inv_grow I1 kG (fun b u w => g.same b u w) (fun b u n w => ?_) fun b u w => ?_
      · by_cases hd : b = dx
        · rw [hd]; exact h4
        · rw [upd_ne hd, n] at w; cases w
      · by_cases hd : b = dx
        · subst hd
          rw [upd_same] at w; cases w
          exact ⟨_, hns, look_zip hl.symm r1⟩
        · rw [upd_ne hd] at w
          exact (I1.hok b u w).stay (fun c v _ z => kG c v z) (fun c z => g.same _ _ z) fun c xs z => g.same _ _ z
    refine ⟨e, _, _, { s1 with heap := G, toks := tk' }, _, .ref C, some dx, rfl, J, fun b o z => ?_, ge, h3, ⟨rfl, rfl⟩, rfl, rfl, ?_, rfl, I1.bare, raises_own c.sub c.ty, q1 dx (no dx h4)⟩
    · by_cases hb : b = e
      · rw [hb, ge] at z; cases z
      · exact (gk b hb).symm.trans z
    · rw [upd_ne (Ne.symm h5)]; exact no e h1
  refine ⟨fun env k k' h q => q, ps_imp (ps_raise hc tk pmk) fun D σ H ⟨z, S0, H0, ps, env, r, q⟩ => ⟨z, S0, H0, ps, env, r, ha.mono env (fun ds e q => ?_) q⟩⟩
  intro vs H1 r1 x1 i1
  refine ⟨by rw [i1.length]; exact q.1, fun dx nd => ?_⟩
  have g : Grow H1 (L2.upd H1 dx (.xd (fs.zip vs))) := grow_upd nd
  have r2 := r1.same g
  have hSd : ¬ Sx S0 ps dx := fun w => r1.dom dx w nd
  refine r2.phi.2 ps e σ _ (.ref C) (some dx) (.exn C fs ds) r2.free ⟨rfl, .inr ⟨dx, vs, rfl, hide_get.mpr ⟨hSd, upd_same⟩, by rw [i1.length]; exact q.1.symm, hN.ne, i1.evx (.of_same fun p o w => ?_)⟩⟩ q.2
  obtain ⟨n, w⟩ := hide_get.mp w
  exact hide_get.mpr ⟨n, g.same p o w⟩
end
end DL
namespace DL
open PySem L2 PySem.Spec PyProof.Rows
theorem bt_ValueError : bootBuiltins "ValueError" = some (.type "ValueError") := by decide +kernel
/-- the __init__ of a class's text -/
def clsInit : Stmt → Stmt
  | .ClassDef _ _ _ body _ _ _ _ _ _ _ => body.getD 0 (.Pass ⟨0, 0, 0, 0⟩)
  | s => s
/-- what is seen of the text of such an __init__ alone -/
structure InitOk (fs : List Str) (st : Stmt) : Prop where
  body : ZE.InitBody fs (defBody st)
  ar : ∃ ar, ((defArgs st).posonlyargs ++ (defArgs st).args).head? = some ar ∧ ar.arg = "self"
  sup : (defScope st).names.lookup ("super" : Str) = some .globalImplicit
  cls : (defScope st).names.lookup ("__class__" : Str) = some .free
  loc : ∀ y ∈ (("self" : Str) :: fs), (defScope st).names.lookup y = some .local
  nc : ∀ x ∈ (defScope st).names, x.2 ≠ .cell
  co : (defScope st).isCoroutine = false
  gen : (defScope st).isGenerator = false
  kind : (defScope st).kind = .function
section
variable {K : PySem.W.Frag}
theorem errK_of {P : Program} {C : Addr} {fs : List Str} {st : Stmt} {nm q : Str} {N : Addr} {bs bm : List Value} {sn : List Str} {sub : List Value} {ab : Bool} {col : Option Bool} {dd : Option Addr} {k0 k1 k2 k3 k5 : Option Value} {fI cda cc : Addr} {oc ccl cl : Value} {od an cdd cld : Option Addr} {osl ccs csl : Array (Option Value)} {qual : Str} {kV doc pm ct : Value} {vs : Array Value} {file : Str} {tf : Tok}
    (hi : InitOk fs st) (h1 : K.lookup C = some (excClassObj nm q C N bs bm true sn sub ab col dd k0 k1 k2 k3 k5 "ValueError.__new__")) (h2 : PySem.HandSPX.refsVE bm = true) (sa : PySem.W.findIn K (.ref C) "__setattr__" = some (some (.builtin "object.__setattr__"))) (no : ∀ f ∈ fs, PySem.W.findIn K (.ref C) f = some none)
    (init : PySem.W.findIn K (.ref C) "__init__" = some (some (.ref fI))) (tI : PySem.W.typeIn K (.ref fI) = some (.type "function")) (sup : PySem.W.subIn K (.ref C) (.type "ValueError") = some true) (mro : PySem.W.mroIn K C (.ref C) = some true) (opq : PySem.W.nsIn K cStatics "thirdparty.any" = some none) (along : PySem.W.ks_superIn K C C "__init__" = some (some (.builtin "ValueError.__init__")))
    (l : K.lookup fI = some ⟨oc, od, .func (PySem.W.ksFn "__init__" qual (defArgs st) (defBody st) (defScope st) .none kV doc pm an (.ref cda) ct cc), osl⟩) (cd : PySem.W.codeIn K (.ref cda) qual = true) (lc : K.lookup cda = some ⟨ccl, cdd, .fields vs, ccs⟩) (v2 : vs[2]? = some (.str file tf)) (hf : ((P.main.file : Str) == file) = true) (cell : K.lookup cc = some ⟨cl, cld, .cell (some (.ref C)), csl⟩)
    (top : (P.main.scope.names.lookup ("super" : Str)).isSome = false) : ErrK P K C fs st :=
  ⟨fI, qual, kV, doc, pm, an, cda, ct, cc, ⟨_, _, _, _, _, _, _, _, _, _, _, _, _, _, _, h1, h2⟩, sa, no, init, tI, sup, mro, opq, along, ⟨oc, od, osl, _, _, _, _, _, _, kV, doc, pm, an, cda, ct, cc, rfl, l, cd, ⟨ccl, cdd, vs, ccs, file, tf, lc, v2, hf⟩, ⟨cl, cld, csl, cell⟩, hi.body, hi.ar, hi.sup, hi.cls, hi.loc, hi.nc, hi.co, hi.gen, hi.kind⟩, top⟩
theorem no1 {C : Addr} {f : Str} (h : PySem.W.findIn K (.ref C) f = some none) : ∀ g ∈ [f], PySem.W.findIn K (.ref C) g = some none := fun g hg => by rw [List.mem_singleton.mp hg]; exact h
theorem no2 {C : Addr} {f f2 : Str} (h : PySem.W.findIn K (.ref C) f = some none) (h2 : PySem.W.findIn K (.ref C) f2 = some none) : ∀ g ∈ [f, f2], PySem.W.findIn K (.ref C) g = some none := fun g hg => by
  rcases List.mem_cons.mp hg with rfl | hg
  · exact h
  · rw [List.mem_singleton.mp hg]; exact h2
/-- what the class's row of bases says -/
theorem kit_mro {C : Addr} {cd : ClassData} {c : Value} (hc : PySem.W.clsIn K C = some cd) (ne : cd.mro.isEmpty = false) (hcc : ∀ C', c = .ref C' → (PySem.W.clsIn K C').isSome = true ∧ PySem.W.typeIn K (.ref C') = some (.type "type")) (hct : ∀ T, c = .type T → PySem.W.kitMeta T = true) (hv : (∃ C', c = .ref C') ∨ ∃ T, c = .type T) (hs : cd.mro.contains (.ref C) = true) :
    PySem.W.kitOne K (.ref C) c = some (cd.mro.contains c) := by
  unfold PySem.W.kitOne
  have sb : PySem.W.subIn K (.ref C) c = some (cd.mro.contains c) := by
    show PySem.W.mroIn K C c = _
    unfold PySem.W.mroIn
    rw [hc, Option.bind_some, ne]
    rfl
  split
  · rename_i e
    have e : Value.ref C = c := by simpa using e
    subst e
    rw [hs]
  · rcases hv with ⟨C', rfl⟩ | ⟨T, rfl⟩
    · obtain ⟨a, b⟩ := hcc C' rfl
      unfold PySem.W.kitCls
      have e2 : ((PySem.W.clsIn K C').isSome && PySem.W.typeIn K (.ref C') == some (.type "type")) = true := by rw [a, b]; rfl
      simp only [e2, if_true]
      exact sb
    · unfold PySem.W.kitCls
      simp only [hct T rfl, if_true]
      exact sb
theorem mro_of {a : Addr} {l : List Value} {cd : ClassData} (h : PySem.W.clsIn K a = some cd) (h2 : cd.mro = l) : ∃ cd, PySem.W.clsIn K a = some cd ∧ cd.mro = l := ⟨cd, h, h2⟩
/-- the classes L of errors stand all directly below W -/
structure AllC (K : PySem.W.Frag) (W : Addr) (L : List Addr) : Prop where
  nd : (W :: L).Nodup
  is : ∀ c ∈ W :: L, ExcC K c ∧ PySem.W.typeIn K (.ref c) = some (.type "type")
  mw : ∃ cd, PySem.W.clsIn K W = some cd ∧ cd.mro = .ref W :: veB
  ml : ∀ c ∈ L, ∃ cd, PySem.W.clsIn K c = some cd ∧ cd.mro = .ref c :: .ref W :: veB
/-- isinstance(e, cv), e of class c -/
def relX (W : Addr) (L : List Addr) (c : Addr) (cv : Value) (b : Bool) : Prop :=
  (∃ i : Nat, L[i]? = some c ∧ ((∃ (j : Nat) (c1 : Addr), L[j]? = some c1 ∧ cv = .ref c1 ∧ b = decide (i = j)) ∨ (cv = .ref W ∧ b = true) ∨ (cv = .type "ValueError" ∧ b = true))) ∨
  (c = W ∧ ((∃ (j : Nat) (c1 : Addr), L[j]? = some c1 ∧ cv = .ref c1 ∧ b = false) ∨ (cv = .type "ValueError" ∧ b = true)))
theorem veB_ref (c : Addr) : veB.contains (.ref c) = false := rfl
theorem relX_ok {W : Addr} {L : List Addr} (A : AllC K W L) : ∀ c cv b, relX W L c cv b → ExcC K c ∧ PySem.W.kitOne K (.ref c) cv = some b := by
  intro c cv b h
  have clsS : ∀ c1 ∈ W :: L, (PySem.W.clsIn K c1).isSome = true ∧ PySem.W.typeIn K (.ref c1) = some (.type "type") := fun c1 h1 => by
    obtain ⟨a1, a2⟩ := A.is c1 h1
    refine ⟨?_, a2⟩
    obtain ⟨cd, hc, _⟩ := PySem.W.any_some a1.hd
    rw [hc]; rfl
  have kw : PySem.W.kitMeta "ValueError" = true := by decide +kernel
  have hn := List.nodup_cons.mp A.nd
  have atr : ∀ {c1 : Addr} {cd : ClassData}, PySem.W.clsIn K c = some cd → cd.mro.isEmpty = false → cd.mro.contains (.ref c) = true → c1 ∈ W :: L → PySem.W.kitOne K (.ref c) (.ref c1) = some (cd.mro.contains (.ref c1)) := fun {c1 cd} a1 a2 a3 hm =>
    kit_mro a1 a2 (fun C' e => by cases e; exact clsS c1 hm) (fun T e => by cases e) (.inl ⟨_, rfl⟩) a3
  have atv : ∀ {cd : ClassData}, PySem.W.clsIn K c = some cd → cd.mro.isEmpty = false → cd.mro.contains (.ref c) = true → PySem.W.kitOne K (.ref c) (.type "ValueError") = some (cd.mro.contains (.type "ValueError")) := fun {cd} a1 a2 a3 =>
    kit_mro a1 a2 (fun C' e => by cases e) (fun T e => by cases e; exact kw) (.inr ⟨_, rfl⟩) a3
  rcases h with ⟨i, hi, h⟩ | ⟨rfl, h⟩
  · have hm : c ∈ L := List.mem_of_getElem? hi
    obtain ⟨cd, a1, a2⟩ := A.ml c hm
    have e1 : cd.mro.isEmpty = false := by rw [a2]; rfl
    have e2 : cd.mro.contains (.ref c) = true := by rw [a2]; simp
    refine ⟨(A.is c (List.mem_cons_of_mem _ hm)).1, ?_⟩
    rcases h with ⟨j, c1, hj, rfl, rfl⟩ | ⟨rfl, rfl⟩ | ⟨rfl, rfl⟩
    · have hm1 := List.mem_of_getElem? hj
      rw [atr a1 e1 e2 (List.mem_cons_of_mem _ hm1), a2]
      have ne : c1 ≠ W := fun w => hn.1 (w ▸ hm1)
      have e3 : (Value.ref c1 == Value.ref W) = false := by simpa using ne
      congr 1
      rw [List.contains_cons, List.contains_cons, e3, veB_ref, Bool.or_false, Bool.or_false]
      by_cases e : i = j
      · subst e
        rw [hi] at hj; cases hj
        simp
      · have : c1 ≠ c := fun w => by
          subst w
          obtain ⟨h1, e1'⟩ := List.getElem?_eq_some_iff.mp hi
          obtain ⟨h2, e2'⟩ := List.getElem?_eq_some_iff.mp hj
          exact e (nodup_ix hn.2 h1 h2 (e1'.trans e2'.symm))
        simp [e, this]
    · rw [atr a1 e1 e2 List.mem_cons_self, a2]; simp
    · rw [atv a1 e1 e2, a2]; simp
  · obtain ⟨cd, a1, a2⟩ := A.mw
    have e1 : cd.mro.isEmpty = false := by rw [a2]; rfl
    have e2 : cd.mro.contains (.ref c) = true := by rw [a2]; simp
    refine ⟨(A.is c List.mem_cons_self).1, ?_⟩
    rcases h with ⟨j, c1, hj, rfl, rfl⟩ | ⟨rfl, rfl⟩
    · have hm1 := List.mem_of_getElem? hj
      rw [atr a1 e1 e2 (List.mem_cons_of_mem _ hm1), a2]
      have ne : c1 ≠ c := fun w => hn.1 (w ▸ hm1)
      have e3 : (Value.ref c1 == Value.ref c) = false := by simpa using ne
      rw [List.contains_cons, e3, veB_ref]; rfl
    · rw [atv a1 e1 e2, a2]; simp
theorem okL_ok {W : Addr} {L : List Addr} (A : AllC K W L) : ∀ c, c ∈ L → PySem.W.exmOne K (.ref c) (.ref W) = some true := by
  intro c hm
  obtain ⟨a1, a2⟩ := A.is W List.mem_cons_self
  obtain ⟨cd, b1, b2⟩ := A.ml c hm
  refine PySem.W.exm_ref a1.hs a1.hd a2 ?_
  show PySem.W.mroIn K c (.ref W) = _
  unfold PySem.W.mroIn
  rw [b1, Option.bind_some, b2]
  simp
/-- which fields errors of which classes keep -/
def attX (F : List (Addr × List Str)) (c : Addr) (f : Str) : Prop := ∃ fs, (c, fs) ∈ F ∧ f ∈ fs
def AttC (K : PySem.W.Frag) (F : List (Addr × List Str)) : Prop := ∀ p ∈ F, ExcC K p.1 ∧ ∀ f ∈ p.2, PySem.W.findIn K (.ref p.1) f = some none
theorem attX_ok {F : List (Addr × List Str)} (A : AttC K F) {f : Str} : ∀ c, attX F c f → ExcC K c ∧ PySem.W.findIn K (.ref c) f = some none := fun c ⟨fs, hm, hf⟩ => ⟨(A _ hm).1, (A _ hm).2 f hf⟩
theorem ErrK.no {P : Program} {C : Addr} {fs : List Str} {st : Stmt} (T : ErrK P K C fs st) : ∀ f ∈ fs, PySem.W.findIn K (.ref C) f = some none := by
  obtain ⟨_, _, _, _, _, _, _, _, _, E⟩ := T.ec
  exact E.no
end
end DL
namespace Fn
open PySem L2 PySem.Spec PyProof.Rows DL
def g_LETTERS : D := .str "abcdefghijklmnopqrstuvwxyz"
def g_KEPT_WORDS : D := .tup [.str "drop", .str "mark", .str "not", .str "pass"]
def g_MOST_LETTERS : D := .int 6
def g_MOST_FIELDS : D := .int 3
def keptL : List Str := ["drop", "mark", "not", "pass"]
def small (c : Nat) : Bool := decide (97 ≤ c) && decide (c ≤ 122)
def isField : D → Bool
  | .str x => decide (1 ≤ x.length) && decide (x.length ≤ 6) && !keptL.contains x && x.cps.toList.all small
  | _ => false
def okS (d : D) : Prop := okD d ∧ ∀ x, d = .str x → x.length ≤ sizeLine ∧ PyData.strOk x = true
def isPacket (m : Int) : D → Bool
  | .tup ds => decide ((ds.length : Int) = m) && ds.all isCnt
  | _ => false
def W_is_number : WF := fW1 okD fun d => .bl (isNum d)
def W_is_count : WF := fW1 okD fun d => .bl (isCnt d)
def W_is_list : WF := fW1 okD fun d => .bl (d.isa "list" || d.isa "tuple")
def W_is_field : WF := fW1 okS fun d => .bl (isField d)
def W_are_different : WF := fun ds n k => ∃ (x : D) (xs : List D) (ks : List Key), ds = [x] ∧ (x = .lst xs ∨ x = .tup xs) ∧ keysOf xs = some ks ∧ ks.length = xs.length ∧ xs.length ≤ 100 ∧ k (.bl (decide ks.Nodup)) n
def W_need_fields : WF := fun ds n k => ∃ (x : D) (xs : List Str), ds = [x] ∧ (x = .lst (xs.map D.str) ∨ x = .tup (xs.map D.str)) ∧ 1 ≤ xs.length ∧ xs.length ≤ 3 ∧ (∀ y ∈ xs, isField (.str y) = true) ∧ xs.Nodup ∧ k .non n
def W_is_packet_of : WF := fun ds n k => ∃ m x, ds = [.int m, x] ∧ okD x ∧ (∀ es, x = .tup es → ∀ e ∈ es, okD e) ∧ (∀ es, x = .tup es → es.length ≤ sizeLine) ∧ k (.bl (isPacket m x)) n
def W_is_packet : WF := fun ds n k => ∃ (f : D) (xs : List Str) (x : D), ds = [f, x] ∧ (f = .lst (xs.map D.str) ∨ f = .tup (xs.map D.str)) ∧ 1 ≤ xs.length ∧ xs.length ≤ 3 ∧ (∀ y ∈ xs, isField (.str y) = true) ∧ xs.Nodup ∧ okD x ∧ (∀ es, x = .tup es → ∀ e ∈ es, okD e) ∧ (∀ es, x = .tup es → es.length ≤ sizeLine) ∧ k (.bl (isPacket xs.length x)) n
theorem in_kept (x : Str) : inD (.str x) [.str "drop", .str "mark", .str "not", .str "pass"] = keptL.contains x := by
  unfold inD keptL
  simp only [List.any_cons, List.any_nil, D.eqF, List.contains_cons, List.contains_nil, Bool.or_false]
  have e : ∀ a b : Str, (a == b) = (b == a) := fun a b => by
    by_cases h : a = b
    · subst h; rfl
    · rw [beq_eq_false_iff_ne.mpr h, beq_eq_false_iff_ne.mpr (Ne.symm h)]
  rw [e x "drop", e x "mark", e x "not", e x "pass"]
theorem letters_iff (c : Nat) : decide (c ∈ (("abcdefghijklmnopqrstuvwxyz" : String) : Str).cps.toList) = small c := by
  have e : (("abcdefghijklmnopqrstuvwxyz" : String) : Str).cps.toList = [97,98,99,100,101,102,103,104,105,106,107,108,109,110,111,112,113,114,115,116,117,118,119,120,121,122] := by decide +kernel
  rw [e]
  unfold small
  rw [← Bool.decide_and]
  refine decide_eq_decide.mpr ?_
  simp only [List.mem_cons, List.not_mem_nil, or_false]
  omega
theorem bools_signs (f : Nat → Bool) (l : List Nat) : boolsOf ((l.map fun c => D.str ⟨#[c]⟩).map fun d => match d with | .str x => D.bl (match x.cps.toList with | [c] => f c | _ => false) | _ => .non) = some (l.map f) := by
  induction l with
  | nil => rfl
  | cons c l ih => simp only [List.map_cons, boolsOf, ih]; rfl
theorem keysOf_strs (xs : List Str) : keysOf (xs.map D.str) = some (xs.map Sum.inr) := by
  induction xs with
  | nil => rfl
  | cons x xs ih => simp [keysOf, ih, keyD]
theorem nodup_inr {xs : List Str} : (xs.map (Sum.inr : Str → Key)).Nodup ↔ xs.Nodup := by
  induction xs with
  | nil => simp
  | cons x xs ih => simp [ih]
theorem field_ok {y : Str} (h : isField (.str y) = true) : PyData.strOk y = true := by
  simp only [isField, Bool.and_eq_true, decide_eq_true_eq] at h
  unfold PyData.strOk
  rw [← Array.all_toList]
  refine List.all_eq_true.mpr fun c hc => ?_
  have := List.all_eq_true.mp h.2 c hc
  simp only [small, Bool.and_eq_true, decide_eq_true_eq] at this
  simp; omega
theorem field_len {y : Str} (h : isField (.str y) = true) : 1 ≤ y.length ∧ y.length ≤ 6 := by
  simp only [isField, Bool.and_eq_true, decide_eq_true_eq] at h
  exact ⟨h.1.1.1, h.1.1.2⟩
def elems : D → Option (List D)
  | .lst ds => some ds
  | .tup ds => some ds
  | .str z => some (DL.signs z)
  | _ => none
def W__law_pick : WF := fun ds n k => ∃ x es, ds = [.sta, x] ∧ elems x = some es ∧ es ≠ [] ∧ es.length ≤ 1000 ∧ 1 ≤ n ∧ ∀ d ∈ es, k d (n - 1)
theorem w__law_pick : Good W__law_pick 2 := ⟨fun ds n k k' h ⟨x, es, e, a, b, c, d, q⟩ => ⟨x, es, e, a, b, c, d, fun u m => h _ _ (q u m)⟩, fun ds n k ⟨x, es, e, _⟩ => by rw [e]; rfl⟩
theorem atI_mem {α : Type} {xs : List α} {i : Int} (h0 : 0 ≤ i) (h1 : i < xs.length) : ∃ d, atI xs i = some d ∧ d ∈ xs := by
  have hl : i.toNat < xs.length := by omega
  refine ⟨xs[i.toNat], ?_, List.getElem_mem hl⟩
  unfold atI ixN
  rw [if_pos h0, if_pos h1]
  simp [List.getElem?_eq_getElem hl]
def oddL : List D := [.non, .bl true, .int (-1), .str "pass", .str "", .str "mark", .tup [], .tup [.non], .tup [.str "pas"], .tup [.str "is", .str "a"], .tup [.str "mark", .int 1], .lst [], .dct [] [],
  .tup [.str "row", .tup [.str "pass"]], .tup [.str "not", .tup [.str "mark"]], .tup [.str "set", .str "A", .int 1], .tup [.str "take", .str "a", .str "a"], .lst [.str "pass"], .dct [.inr "a"] [.int 1],
  .tup [.str "loop"], .tup [.int (-1), .int 0], .tup [.bl true, .int 1], .int (10 ^ 40 + 7), .str "a=1", .tup [.str "is", .str "pass", .int 1]]
def W__law_odd : WF := fun ds n k => ds = [.sta] ∧ 1 ≤ n ∧ ∀ d ∈ oddL, k d (n - 1)
def frameL : List Str := ["a", "at", "ab", "b", "dst", "note", "marks", "zz", "zzzzzz", "zzzzzy", "drops", "passes"]
def numsL : List Int := [0, 1, 2, 3, 7, 10 ^ 12]
def W__law_frame : WF := fun ds n k => ∃ u : Int, ds = [.sta, .int u] ∧ 0 < u ∧ u ≤ 3 ∧ 20 ≤ n ∧ ∀ (fs : List Str) (ns : List Int) n', fs.Nodup → (∀ y ∈ fs, y ∈ frameL) → 1 ≤ fs.length → (fs.length : Int) ≤ u → sortedS fs = true → ns.Nodup → (∀ y ∈ ns, y ∈ numsL) → (1 ≤ ns.length ∧ ns.length ≤ 3) → n ≤ n' + 20 →
  k (.frm (.tup (fs.map D.str)) (.lst (ns.map D.int))) n'
theorem perm_map' {α β : Type} {f : α → β} {es ms : List β} (h : es.Perm ms) : ∀ l : List α, ms = l.map f → ∃ l' : List α, es = l'.map f ∧ l'.Perm l := by
  induction h with
  | nil => intro l e; cases l with
    | nil => exact ⟨[], rfl, .nil⟩
    | cons a l => simp at e
  | cons x p ih => intro l e; cases l with
    | nil => simp at e
    | cons a l =>
      simp at e
      obtain ⟨l', e1, p1⟩ := ih l e.2
      exact ⟨a :: l', by simp [e.1, e1], p1.cons a⟩
  | swap x y t => intro l e; match l, e with
    | a :: b :: l, e =>
      simp at e
      exact ⟨b :: a :: l, by simp [e.1, e.2.1, e.2.2], .swap a b l⟩
  | trans p q ih1 ih2 =>
    intro l e
    obtain ⟨l1, e1, p1⟩ := ih2 l e
    obtain ⟨l2, e2, p2⟩ := ih1 l1 e1
    exact ⟨l2, e2, p2.trans p1⟩
theorem perm_map {α β : Type} {f : α → β} {l : List α} {es : List β} (h : es.Perm (l.map f)) : ∃ l' : List α, es = l'.map f ∧ l'.Perm l := perm_map' h l rfl
theorem cut_take0 {α : Type} (xs : List α) {i : Int} (h : 0 ≤ i) : cut xs none (some i) = xs.take i.toNat := by
  unfold cut
  rw [HT.sIx_none]
  obtain ⟨k, rfl⟩ := Int.eq_ofNat_of_zero_le h
  have := HT.sIx_nat xs.length xs.length k
  rw [this, List.drop_zero, Nat.sub_zero]
  simp only [Int.toNat_natCast]
  rw [List.take_eq_take_iff]
  omega
theorem cut_take {α β : Type} {f : α → β} (xs : List α) {i : Int} (h : 0 ≤ i) : cut (xs.map f) none (some i) = (xs.take i.toNat).map f := by
  rw [cut_take0 _ h, List.map_take]
abbrev W__law_is_field_due : WF := W_is_field
theorem in_kept2 (x : Str) : inD (.str x) [.str "pass", .str "drop", .str "mark", .str "not"] = keptL.contains x := by
  rw [← in_kept]
  unfold inD
  simp only [List.any_cons, List.any_nil, D.eqF, Bool.or_false]
  generalize (Str.ofString "pass" == x) = a
  generalize (Str.ofString "drop" == x) = b
  generalize (Str.ofString "mark" == x) = c
  generalize (Str.ofString "not" == x) = d
  cases a <;> cases b <;> cases c <;> cases d <;> rfl
def nearL : List D := [.str "a", .str "z", .str "ab", .str "zzzzzz", .str "zzzzzzz", .str "pass", .str "drop", .str "mark", .str "not", .str "passe", .str "marks", .str "no", .str "nott", .str "", .str "A",
  .str "aA", .str "a1", .str "1", .str "a b", .str " a", .str "a\n", .str "`", .str "{", .str "a=", .non, .bl true, .int 5, .tup [.str "a"], .lst [.str "a"], .dct [.inr "a"] [.int 1]]
def nearName (d : D) : Prop := d ∈ nearL ∨ ∃ x, d = .str x ∧ x.length ≤ 8 ∧ ∀ c ∈ x.cps.toList, c < 200
def W__law_near_name : WF := fun ds n k => ds = [.sta] ∧ 20 ≤ n ∧ ∀ d n', nearName d → n ≤ n' + 20 → k d n'
theorem signs_of : ∀ {ys : List D}, (∀ y ∈ ys, y ∈ DL.signs "abmnopqrstz{`") → ∃ cs : List Nat, ys = cs.map (fun c => D.str ⟨#[c]⟩) ∧ ∀ c ∈ cs, c < 200
  | [], _ => ⟨[], rfl, fun _ h => nomatch h⟩
  | y :: ys, h => by
    obtain ⟨cs, rfl, hc⟩ := signs_of (ys := ys) fun y hy => h y (List.mem_cons_of_mem _ hy)
    obtain ⟨c, hm, rfl⟩ := List.mem_map.mp (h y List.mem_cons_self)
    refine ⟨c :: cs, rfl, fun x hx => ?_⟩
    rcases List.mem_cons.mp hx with rfl | hx
    · have : ∀ c ∈ (("abmnopqrstz{`" : String) : Str).cps.toList, c < 200 := by decide +kernel
      exact this _ hm
    · exact hc x hx
theorem joinL_one : ∀ cs : List Nat, TL.joinL [] (cs.map fun c => [c]) = cs
  | [] => rfl
  | [c] => rfl
  | c :: d :: r => by
    have := joinL_one (d :: r)
    simp only [List.map_cons] at this ⊢
    unfold TL.joinL
    rw [this]; rfl
theorem join_one (cs : List Nat) : (PySem.Txt.join "" (cs.map fun c => (⟨#[c]⟩ : Str))).cps.toList = cs := by
  rw [TL.join_eq]
  have := TL.tl_join "" (cs.map fun c => (⟨#[c]⟩ : Str))
  have e : (Str.ofString "").cps.toList = [] := by decide +kernel
  simp [TL.tl, Function.comp_def, e] at this
  rw [this]
  exact joinL_one cs
abbrev W__law_is_packet_due : WF := W_is_packet_of
theorem sum_ones : ∀ cs : List Nat, (cs.map fun _ => 1).sum = cs.length
  | [] => rfl
  | c :: cs => by simp [sum_ones cs]; omega
def elemOk (d : D) : Prop := d.sm 2000 2 = true ∧ okD d
theorem elem_int {i : Int} (h0 : -(2 ^ 200) < i) (h1 : i < 2 ^ 200) : elemOk (.int i) := by
  have p : (2 : Int) ^ 200 ≤ 2 ^ 1900 := by decide +kernel
  exact ⟨D.sm_mono (sm_int' (by omega) (by omega)) (by decide) (by decide), rfl⟩
def nearPacket (d : D) : Prop := (∃ es : List D, (d = .tup es ∨ d = .lst es) ∧ es.length ≤ 5 ∧ ∀ e ∈ es, elemOk e) ∨ d ∈ oddL
def W__law_near_packet : WF := fun ds n k => ∃ m : Int, ds = [.sta, .int m] ∧ 1 ≤ m ∧ m ≤ 3 ∧ 20 ≤ n ∧ ∀ d n', nearPacket d → n ≤ n' + 20 → k d n'
theorem mem_cut {α : Type} {xs : List α} {lo hi : Option Int} {x : α} (h : x ∈ cut xs lo hi) : x ∈ xs := List.mem_of_mem_drop (List.mem_of_mem_take h)
theorem len_cut_lo {α : Type} (xs : List α) {i : Int} (h : 0 ≤ i) : ((cut xs none (some i)).length : Int) ≤ i ∧ (cut xs none (some i)).length ≤ xs.length := by
  rw [cut_take0 _ h, List.length_take]; omega
theorem len_cut_hi {α : Type} (xs : List α) {i : Int} (h : 0 ≤ i) (h1 : i ≤ xs.length) : ((cut xs (some i) none).length : Int) = xs.length - i := by
  unfold cut
  rw [HT.sIx_none]
  obtain ⟨k, rfl⟩ := Int.eq_ofNat_of_zero_le h
  have := HT.sIx_nat xs.length 0 k
  rw [this, List.length_take, List.length_drop]
  omega
theorem len_cut_hi' {α : Type} (xs : List α) {i : Int} (h : 0 ≤ i) : (cut xs (some i) none).length ≤ xs.length := by
  unfold cut
  rw [List.length_take, List.length_drop]
  omega
abbrev n_is_number : List Str := ["thing"]
def m_is_number : MS := (mRet (mAndV (mCB isiW (mCons (mVar 0) (mCons (mC (.ty "int")) mNil))) (mNotV (mCB isiW (mCons (mVar 0) (mCons (mC (.ty "bool")) mNil))))))
theorem w_is_number : Good W_is_number 1 := fW1_good
theorem r_is_number : ∀ ds n kk, W_is_number ds n kk → m_is_number (startE n_is_number.length ds n) { nx := fun e => kk .non e.cr, rt := fun d e => kk d e.cr } := by
  rintro ds n kk ⟨a, rfl, h1, h2⟩
  cases a <;> first | (exact absurd h1 (by decide)) | (simp [m_is_number, mRet, mSeq, mNext, mIfS, mSet, mPar, mDrop, mAndV, mOrV, mNotV, mAnd, mOr, mNot, mB, mIf, mCB, mCons, mNil, mVar, mC, mBin, mUn, mTup, mLst, mCall, mCallK, mChain, isiW, startE, DEnv.at, DEnv.put, D.isa, tyN, sixNames, isNum, isCnt, okD, ordW, intW, sizeLine, tyNames, lenW, mNever] at h1 h2 ⊢; try assumption)
abbrev n_is_count : List Str := ["thing"]
def m_is_count : MS := (mRet (mAndV (mCall W_is_number (mCons (mVar 0) mNil)) (mBin geW (mVar 0) (mC (.int 0)))))
theorem w_is_count : Good W_is_count 1 := fW1_good
theorem r_is_count : ∀ ds n kk, W_is_count ds n kk → m_is_count (startE n_is_count.length ds n) { nx := fun e => kk .non e.cr, rt := fun d e => kk d e.cr } := by
  rintro ds n kk ⟨a, rfl, h1, h2⟩
  cases a <;> first | (exact absurd h1 (by decide)) | (simp [m_is_count, W_is_number, fW1, mRet, mSeq, mNext, mIfS, mSet, mPar, mDrop, mAndV, mOrV, mNotV, mAnd, mOr, mNot, mB, mIf, mCB, mCons, mNil, mVar, mC, mBin, mUn, mTup, mLst, mCall, mCallK, mChain, isiW, startE, DEnv.at, DEnv.put, D.isa, tyN, sixNames, isNum, isCnt, okD, ordW, intW, sizeLine, tyNames, lenW, mNever] at h1 h2 ⊢; try assumption)
abbrev n_is_list : List Str := ["thing"]
def m_is_list : MS := (mRet (mCB isiW (mCons (mVar 0) (mCons (mTup (mCons (mC (.ty "list")) (mCons (mC (.ty "tuple")) mNil))) mNil))))
theorem w_is_list : Good W_is_list 1 := fW1_good
theorem r_is_list : ∀ ds n kk, W_is_list ds n kk → m_is_list (startE n_is_list.length ds n) { nx := fun e => kk .non e.cr, rt := fun d e => kk d e.cr } := by
  rintro ds n kk ⟨a, rfl, h1, h2⟩
  cases a <;> first | (exact absurd h1 (by decide)) | (simp [m_is_list, mRet, mSeq, mNext, mIfS, mSet, mPar, mDrop, mAndV, mOrV, mNotV, mAnd, mOr, mNot, mB, mIf, mCB, mCons, mNil, mVar, mC, mBin, mUn, mTup, mLst, mCall, mCallK, mChain, isiW, startE, DEnv.at, DEnv.put, D.isa, tyN, sixNames, isNum, isCnt, okD, ordW, intW, sizeLine, tyNames, lenW, mNever] at h1 h2 ⊢; try assumption)
abbrev n_is_field : List Str := ["thing", "sign"]
def m_is_field : MS := (mSeq (mIfS (mOr (mNot (mB (mCB isiW (mCons (mVar 0) (mCons (mC (.ty "str")) mNil))))) (mOr (mNot (mB (mChain leW leW (mC (.int 1)) (mCB lenW (mCons (mVar 0) mNil)) (mC g_MOST_LETTERS)))) (mB (mBin (inW false) (mVar 0) (mC g_KEPT_WORDS))))) (mRet (mC (.bl false))) mNext)
  (mRet (mCB (allW fun bs => bs.all id) (mCons (mLc 1 (mIter (mVar 0)) mYes (mBin (inW false) (mVar 1) (mC g_LETTERS))) mNil))))
theorem w_is_field : Good W_is_field 1 := fW1_good
theorem r_is_field : ∀ ds n kk, W_is_field ds n kk → m_is_field (startE n_is_field.length ds n) { nx := fun e => kk .non e.cr, rt := fun d e => kk d e.cr } := by
  rintro ds n kk ⟨a, rfl, ⟨h1, h3⟩, h2⟩
  cases a with
  | str x =>
    obtain ⟨hl, hso⟩ := h3 x rfl
    clear h3
    show m_is_field ⟨[.da (.str x), .un], n, none⟩ _
    refine seq_gen fun N hN => ?_
    simp [g_MOST_LETTERS, g_KEPT_WORDS, inW, D.flat, in_kept, mRet, mSeq, mNext, mIfS, mSet, mPar, mDrop, mAndV, mOrV, mNotV, mAnd, mOr, mNot, mB, mIf, mCB, mCons, mNil, mVar, mC, mBin, mUn, mTup, mLst, mCall, mCallK, mChain, isiW, startE, DEnv.at, DEnv.put, D.isa, tyN, sixNames, isNum, isCnt, okD, ordW, intW, sizeLine, tyNames, lenW, mNever]
    refine ⟨hl, ?_⟩
    have e : isField (.str x) = (decide (1 ≤ x.length) && decide (x.length ≤ 6) && !keptL.contains x && x.cps.toList.all small) := rfl
    have h2' : kk (.bl (isField (.str x))) n := h2
    rw [e] at h2'
    split
    · split
      · split
        · rename_i a b c
          simpa [c] using h2'
        · rename_i a b c
          rw [hN]
          simp only [mRet, mCB, mCons, mLc, mIter]
          simp only [mVar, DEnv.at, List.getD_cons_zero]
          refine compW_pure (f := fun d => match d with | .str x => D.bl (match x.cps.toList with | [c] => small c | _ => false) | _ => .non) _ _ _ (fun d hd k' q => ?_) (by simp [DL.signs]; exact hl) ?_
          · obtain ⟨c, hc, rfl⟩ := List.mem_map.mp hd
            have : strIn ⟨#[c]⟩ "abcdefghijklmnopqrstuvwxyz" = small c := letters_iff c
            simp [g_LETTERS, inW, compE, noOw, this, mRet, mSeq, mNext, mIfS, mSet, mPar, mDrop, mAndV, mOrV, mNotV, mAnd, mOr, mNot, mB, mIf, mCB, mCons, mNil, mVar, mC, mBin, mUn, mTup, mLst, mCall, mCallK, mChain, isiW, startE, DEnv.at, DEnv.put, D.isa, tyN, sixNames, isNum, isCnt, okD, ordW, intW, sizeLine, tyNames, lenW, mNever] at q ⊢
            exact q
          · have := bools_signs small x.cps.toList
            have e2 : decide (1 ≤ x.length) = true := by simp; omega
            have e3 : decide (x.length ≤ 6) = true := by simp; omega
            rw [e2, e3] at h2'
            simp only [mNil, List.nil_append, DL.signs, allW, this, compE]
            simpa [c] using h2'
      · rename_i a b
        have e3 : decide (x.length ≤ 6) = false := by simp; omega
        rw [e3] at h2'
        simpa using h2'
    · rename_i a
      have e3 : decide (1 ≤ x.length) = false := by simp; omega
      rw [e3] at h2'
      simpa using h2'
  | _ => first | (exact absurd h1 (by decide)) | (simp [m_is_field, mRet, mSeq, mNext, mIfS, mSet, mPar, mDrop, mAndV, mOrV, mNotV, mAnd, mOr, mNot, mB, mIf, mCB, mCons, mNil, mVar, mC, mBin, mUn, mTup, mLst, mCall, mCallK, mChain, isiW, startE, DEnv.at, DEnv.put, D.isa, tyN, sixNames, isNum, isCnt, okD, ordW, intW, sizeLine, tyNames, lenW, mNever] at h1 h2 ⊢; try assumption)
abbrev n_are_different : List Str := ["things"]
def m_are_different : MS := (mRet (mBin eqX (mUn lsW (mVar 0)) (mCB lenW (mCons (mVar 0) mNil))))
theorem w_are_different : Good W_are_different 1 := ⟨fun ds n k k' h ⟨x, xs, ks, e, a, b, c, d, q⟩ => ⟨x, xs, ks, e, a, b, c, d, h _ _ q⟩, fun ds n k ⟨x, xs, ks, e, _⟩ => by rw [e]; rfl⟩
theorem r_are_different : ∀ ds n kk, W_are_different ds n kk → m_are_different (startE n_are_different.length ds n) { nx := fun e => kk .non e.cr, rt := fun d e => kk d e.cr } := by
  rintro ds n kk ⟨x, xs, ks, rfl, h1, e1, el, h2, h3⟩
  have e2 : nDiff ks = ks.length ↔ ks.Nodup := nDiff_iff _
  rw [el] at e2
  have e3 : decide ks.Nodup = ((nDiff ks : Int) == (xs.length : Int)) := by
    by_cases h : nDiff ks = xs.length
    · have h' := e2.mp h
      simp [h, h']
    · have h' : ¬ ks.Nodup := fun q => h (e2.mpr q)
      have : ¬ ((nDiff ks : Int) = xs.length) := by omega
      simp [h', this]
  rw [e3] at h3
  have e4 : xs.length + 1 < scanBound := by unfold scanBound; omega
  rcases h1 with rfl | rfl <;>
  · simp [m_are_different, lsW, e1, eqX, eqv_int, shaped_int, mRet, mSeq, mNext, mIfS, mSet, mPar, mDrop, mAndV, mOrV, mNotV, mAnd, mOr, mNot, mB, mIf, mCB, mCons, mNil, mVar, mC, mBin, mUn, mTup, mLst, mCall, mCallK, mChain, isiW, startE, DEnv.at, DEnv.put, D.isa, tyN, sixNames, isNum, isCnt, okD, ordW, intW, sizeLine, tyNames, lenW, mNever]
    exact ⟨by rw [el]; exact e4, h3⟩
abbrev n_need_fields : List Str := ["fields", "name"]
def m_need_fields : MS := (mSeq (mIfS (mOr (mNot (mB (mCall W_is_list (mCons (mVar 0) mNil)))) (mOr (mNot (mB (mChain leW leW (mC (.int 1)) (mCB lenW (mCons (mVar 0) mNil)) (mC g_MOST_FIELDS)))) (mNot (mB (mCB (allW fun bs => bs.all id) (mCons (mLc 1 (mIter (mVar 0)) mYes (mCall W_is_field (mCons (mVar 1) mNil))) mNil)))))) mNever mNext)
  (mIfS (mNot (mB (mCall W_are_different (mCons (mVar 0) mNil)))) mNever mNext))
theorem w_need_fields : Good W_need_fields 1 := ⟨fun ds n k k' h ⟨x, xs, e, a, b, c, d, f, q⟩ => ⟨x, xs, e, a, b, c, d, f, h _ _ q⟩, fun ds n k ⟨x, xs, e, _⟩ => by rw [e]; rfl⟩
theorem r_need_fields : ∀ ds n kk, W_need_fields ds n kk → m_need_fields (startE n_need_fields.length ds n) { nx := fun e => kk .non e.cr, rt := fun d e => kk d e.cr } := by
  rintro ds n kk ⟨x, xs, rfl, h1, h2, h3, h4, h5, h6⟩
  have hdif : ∀ n k, k (.bl true) n → W_are_different [x] n k := fun n k q => ⟨x, _, _, rfl, h1, keysOf_strs xs, by simp, by simp; omega, by simpa [nodup_inr, h5] using q⟩
  have hb : boolsOf (xs.map fun y => D.bl true) = some (xs.map fun _ => true) := by simpa [Function.comp_def] using bools_map (xs.map fun _ => true)
  have i1 : ((1 : Int) ≤ xs.length) := by omega
  have i2 : ((xs.length : Int) ≤ 3) := by omega
  have hcp : ∀ (env : DEnv) (k : List D → DEnv → Prop), env.sl.length = 2 → k (xs.map fun y => D.bl true) env → compW 1 mYes (mCall W_is_field (mCons (mVar 1) mNil)) (xs.map D.str) env [] k := by
    rintro ⟨sl, cr⟩ k hl q
    obtain ⟨a, b, rfl⟩ : ∃ a b, sl = [a, b] := by
      match sl, hl with
      | [a, b], _ => exact ⟨a, b, rfl⟩
    refine compW_pure (f := fun d => D.bl true) _ _ _ (fun d hd k' q => ?_) (by simp; unfold sizeLine; omega) (by simpa [Function.comp_def] using q)
    obtain ⟨y, hy, rfl⟩ := List.mem_map.mp hd
    have := field_len (h4 y hy)
    have hso := field_ok (h4 y hy)
    simp [W_is_field, fW1, okS, h4 y hy, mRet, mSeq, mNext, mIfS, mSet, mPar, mDrop, mAndV, mOrV, mNotV, mAnd, mOr, mNot, mB, mIf, mCB, mCons, mNil, mVar, mC, mBin, mUn, mTup, mLst, mCall, mCallK, mChain, isiW, startE, DEnv.at, DEnv.put, D.isa, tyN, sixNames, isNum, isCnt, okD, ordW, intW, sizeLine, tyNames, lenW, mNever] at q ⊢
    exact ⟨⟨by omega, hso⟩, q⟩
  rcases h1 with rfl | rfl <;>
  · refine seq_gen fun N hN => ?_
    simp [W_is_list, fW1, g_MOST_FIELDS, mLc, mIter, i1, i2, mRet, mSeq, mNext, mIfS, mSet, mPar, mDrop, mAndV, mOrV, mNotV, mAnd, mOr, mNot, mB, mIf, mCB, mCons, mNil, mVar, mC, mBin, mUn, mTup, mLst, mCall, mCallK, mChain, isiW, startE, DEnv.at, DEnv.put, D.isa, tyN, sixNames, isNum, isCnt, okD, ordW, intW, sizeLine, tyNames, lenW, mNever]
    refine hcp _ _ rfl ?_
    simp only [allW, hb]
    refine ⟨by simp, ?_⟩
    rw [hN]
    simp only [compE]
    simp [mRet, mSeq, mNext, mIfS, mSet, mPar, mDrop, mAndV, mOrV, mNotV, mAnd, mOr, mNot, mB, mIf, mCB, mCons, mNil, mVar, mC, mBin, mUn, mTup, mLst, mCall, mCallK, mChain, isiW, startE, DEnv.at, DEnv.put, D.isa, tyN, sixNames, isNum, isCnt, okD, ordW, intW, sizeLine, tyNames, lenW, mNever]
    exact hdif _ _ (by simpa using h6)
abbrev n_is_packet_of : List Str := ["many", "thing", "number"]
def m_is_packet_of : MS := (mRet (mAndV (mCB isiW (mCons (mVar 1) (mCons (mC (.ty "tuple")) mNil))) (mAndV (mBin eqX (mCB lenW (mCons (mVar 1) mNil)) (mVar 0)) (mCB (allW fun bs => bs.all id) (mCons (mLc 2 (mIter (mVar 1)) mYes (mCall W_is_count (mCons (mVar 2) mNil))) mNil)))))
theorem w_is_packet_of : Good W_is_packet_of 2 := ⟨fun ds n k k' h ⟨x, xs, e, a, b, c, q⟩ => ⟨x, xs, e, a, b, c, h _ _ q⟩, fun ds n k ⟨x, xs, e, _⟩ => by rw [e]; rfl⟩
theorem r_is_packet_of : ∀ ds n kk, W_is_packet_of ds n kk → m_is_packet_of (startE n_is_packet_of.length ds n) { nx := fun e => kk .non e.cr, rt := fun d e => kk d e.cr } := by
  rintro ds n kk ⟨m, x, rfl, h1, h2, h3, h4⟩
  cases x with
  | tup es =>
    have hb : boolsOf (es.map fun d => D.bl (isCnt d)) = some (es.map isCnt) := by simpa [Function.comp_def] using bools_map (es.map isCnt)
    have h5 : kk (.bl (decide ((es.length : Int) = m) && es.all isCnt)) n := h4
    simp [m_is_packet_of, eqX, eqv_int, shaped_int, mLc, mIter, mRet, mSeq, mNext, mIfS, mSet, mPar, mDrop, mAndV, mOrV, mNotV, mAnd, mOr, mNot, mB, mIf, mCB, mCons, mNil, mVar, mC, mBin, mUn, mTup, mLst, mCall, mCallK, mChain, isiW, startE, DEnv.at, DEnv.put, D.isa, tyN, sixNames, isNum, isCnt, okD, ordW, intW, sizeLine, tyNames, lenW, mNever]
    split
    · rename_i e
      refine compW_pure (f := fun d => D.bl (isCnt d)) _ _ _ (fun d hd k' q => ?_) (by simpa using h3 es rfl) ?_
      · have := h2 es rfl d hd
        simp [compE, noOw, W_is_count, fW1, this, mRet, mSeq, mNext, mIfS, mSet, mPar, mDrop, mAndV, mOrV, mNotV, mAnd, mOr, mNot, mB, mIf, mCB, mCons, mNil, mVar, mC, mBin, mUn, mTup, mLst, mCall, mCallK, mChain, isiW, startE, DEnv.at, DEnv.put, D.isa, tyN, sixNames, isNum, isCnt, okD, ordW, intW, sizeLine, tyNames, lenW, mNever] at q ⊢
        exact ⟨this, q⟩
      · simp only [allW, hb, List.nil_append, compE]
        simpa [e] using h5
    · rename_i e
      simpa [e] using h5
  | _ => first | (exact absurd h1 (by decide)) | (simp [m_is_packet_of, isPacket, mRet, mSeq, mNext, mIfS, mSet, mPar, mDrop, mAndV, mOrV, mNotV, mAnd, mOr, mNot, mB, mIf, mCB, mCons, mNil, mVar, mC, mBin, mUn, mTup, mLst, mCall, mCallK, mChain, isiW, startE, DEnv.at, DEnv.put, D.isa, tyN, sixNames, isNum, isCnt, okD, ordW, intW, sizeLine, tyNames, lenW, mNever] at h1 h4 ⊢; try assumption)
abbrev n_is_packet : List Str := ["fields", "thing"]
def m_is_packet : MS := (mSeq (mDrop (mCall W_need_fields (mCons (mVar 0) mNil)))
  (mRet (mCall W_is_packet_of (mCons (mCB lenW (mCons (mVar 0) mNil)) (mCons (mVar 1) mNil)))))
theorem w_is_packet : Good W_is_packet 2 := ⟨fun ds n k k' h ⟨x, xs, y, e, a, b, c, d, f, g, i, j, q⟩ => ⟨x, xs, y, e, a, b, c, d, f, g, i, j, h _ _ q⟩, fun ds n k ⟨x, xs, y, e, _⟩ => by rw [e]; rfl⟩
theorem r_is_packet : ∀ ds n kk, W_is_packet ds n kk → m_is_packet (startE n_is_packet.length ds n) { nx := fun e => kk .non e.cr, rt := fun d e => kk d e.cr } := by
  rintro ds n kk ⟨f, xs, x, rfl, a, b, c, d, e, g, i, j, q⟩
  have hp : ∀ k, k (.bl (isPacket xs.length x)) n → W_is_packet_of [.int xs.length, x] n k := fun k q => ⟨_, x, rfl, g, i, j, q⟩
  have hn : ∀ k, k .non n → W_need_fields [f] n k := fun k q => ⟨f, xs, rfl, a, b, c, d, e, q⟩
  rcases a with rfl | rfl <;>
  · simp [m_is_packet, mRet, mSeq, mNext, mIfS, mSet, mPar, mDrop, mAndV, mOrV, mNotV, mAnd, mOr, mNot, mB, mIf, mCB, mCons, mNil, mVar, mC, mBin, mUn, mTup, mLst, mCall, mCallK, mChain, isiW, startE, DEnv.at, DEnv.put, D.isa, tyN, sixNames, isNum, isCnt, okD, ordW, intW, sizeLine, tyNames, lenW, mNever]
    refine hn _ ?_
    exact hp _ q
abbrev n__law_pick : List Str := ["state", "some"]
def m__law_pick : MS := (mRet (mBin ixW (mVar 1) (mCall W__law_take (mCons (mVar 0) (mCons (mCB lenW (mCons (mVar 1) mNil)) mNil)))))
theorem r__law_pick : ∀ ds n kk, W__law_pick ds n kk → m__law_pick (startE n__law_pick.length ds n) { nx := fun e => kk .non e.cr, rt := fun d e => kk d e.cr } := by
  rintro ds n kk ⟨x, es, rfl, h1, h2, h3, h4, h5⟩
  have hp : 0 < es.length := List.length_pos_iff.mpr h2
  cases x with
  | lst l =>
    cases h1
    simp [m__law_pick, W__law_take, mRet, mSeq, mNext, mIfS, mSet, mPar, mDrop, mAndV, mOrV, mNotV, mAnd, mOr, mNot, mB, mIf, mCB, mCons, mNil, mVar, mC, mBin, mUn, mTup, mLst, mCall, mCallK, mChain, isiW, startE, DEnv.at, DEnv.put, D.isa, tyN, sixNames, isNum, isCnt, okD, ordW, intW, sizeLine, tyNames, lenW, mNever]
    refine ⟨hp, by omega, h4, fun i i0 i1 => ?_⟩
    obtain ⟨d, e, hd⟩ := atI_mem i0 i1
    exact ⟨d, e, h5 d hd⟩
  | tup l =>
    cases h1
    simp [m__law_pick, W__law_take, mRet, mSeq, mNext, mIfS, mSet, mPar, mDrop, mAndV, mOrV, mNotV, mAnd, mOr, mNot, mB, mIf, mCB, mCons, mNil, mVar, mC, mBin, mUn, mTup, mLst, mCall, mCallK, mChain, isiW, startE, DEnv.at, DEnv.put, D.isa, tyN, sixNames, isNum, isCnt, okD, ordW, intW, sizeLine, tyNames, lenW, mNever]
    refine ⟨hp, by omega, h4, fun i i0 i1 => ?_⟩
    obtain ⟨d, e, hd⟩ := atI_mem i0 i1
    exact ⟨d, e, h5 d hd⟩
  | str z =>
    cases h1
    have hl : z.length = (DL.signs z).length := by simp [DL.signs, Str.length]
    simp [m__law_pick, W__law_take, mRet, mSeq, mNext, mIfS, mSet, mPar, mDrop, mAndV, mOrV, mNotV, mAnd, mOr, mNot, mB, mIf, mCB, mCons, mNil, mVar, mC, mBin, mUn, mTup, mLst, mCall, mCallK, mChain, isiW, startE, DEnv.at, DEnv.put, D.isa, tyN, sixNames, isNum, isCnt, okD, ordW, intW, sizeLine, tyNames, lenW, mNever]
    rw [hl]
    refine ⟨by omega, by omega, by omega, h4, fun i i0 i1 => ⟨by unfold sizeLine; omega, ?_⟩⟩
    have i2 : i < ((z.cps.toList).length : Int) := by simpa [DL.signs] using i1
    obtain ⟨c, e, hc⟩ := atI_mem i0 i2
    exact ⟨c, e, h5 _ (List.mem_map.mpr ⟨c, hc, rfl⟩)⟩
  | _ => cases h1
abbrev n__law_odd : List Str := ["state", "some"]
def m__law_odd : MS := (mSeq (mSet 1 (mLst (mCons (mC .non) (mCons (mC (.bl true)) (mCons (mUn negW (mC (.int 1))) (mCons (mC (.str "pass")) (mCons (mC (.str "")) (mCons (mC (.str "mark")) (mCons (mTup mNil) (mCons (mTup (mCons (mC .non) mNil)) (mCons (mTup (mCons (mC (.str "pas")) mNil)) (mCons (mTup (mCons (mC (.str "is")) (mCons (mC (.str "a")) mNil))) (mCons (mTup (mCons (mC (.str "mark")) (mCons (mC (.int 1)) mNil))) (mCons (mLst mNil) (mCons mDnew mNil)))))))))))))))
  (mSeq (mSet 1 (mBin addW (mVar 1) (mLst (mCons (mTup (mCons (mC (.str "row")) (mCons (mTup (mCons (mC (.str "pass")) mNil)) mNil))) (mCons (mTup (mCons (mC (.str "not")) (mCons (mTup (mCons (mC (.str "mark")) mNil)) mNil))) (mCons (mTup (mCons (mC (.str "set")) (mCons (mC (.str "A")) (mCons (mC (.int 1)) mNil)))) (mCons (mTup (mCons (mC (.str "take")) (mCons (mC (.str "a")) (mCons (mC (.str "a")) mNil)))) (mCons (mLst (mCons (mC (.str "pass")) mNil)) (mCons (mDisp (((mC (.str "a")), (mC (.int 1))) :: [])) mNil)))))))))
  (mRet (mCall W__law_pick (mCons (mVar 0) (mCons (mBin addW (mVar 1) (mLst (mCons (mTup (mCons (mC (.str "loop")) mNil)) (mCons (mTup (mCons (mUn negW (mC (.int 1))) (mCons (mC (.int 0)) mNil))) (mCons (mTup (mCons (mC (.bl true)) (mCons (mC (.int 1)) mNil))) (mCons (mBin addW (mBin powW (mC (.int 10)) (mC (.int 40))) (mC (.int 7))) (mCons (mC (.str "a=1")) (mCons (mTup (mCons (mC (.str "is")) (mCons (mC (.str "pass")) (mCons (mC (.int 1)) mNil)))) mNil)))))))) mNil))))))
theorem w__law_odd : Good W__law_odd 1 := ⟨fun ds n k k' h ⟨e, a, q⟩ => ⟨e, a, fun d m => h _ _ (q d m)⟩, fun ds n k ⟨e, _⟩ => by rw [e]; rfl⟩
theorem r__law_odd : ∀ ds n kk, W__law_odd ds n kk → m__law_odd (startE n__law_odd.length ds n) { nx := fun e => kk .non e.cr, rt := fun d e => kk d e.cr } := by
  rintro ds n kk ⟨rfl, h1, h2⟩
  refine seq_gen fun N hN => ?_
  simp [mDnew, negW, mRet, mSeq, mNext, mIfS, mSet, mPar, mDrop, mAndV, mOrV, mNotV, mAnd, mOr, mNot, mB, mIf, mCB, mCons, mNil, mVar, mC, mBin, mUn, mTup, mLst, mCall, mCallK, mChain, isiW, startE, DEnv.at, DEnv.put, D.isa, tyN, sixNames, isNum, isCnt, okD, ordW, intW, sizeLine, tyNames, lenW, mNever]
  rw [hN]
  refine seq_gen fun N hN => ?_
  simp [mDisp, pairsW, noOwE, noOw, keysD, keyD, dictD, frKeys, addW, mRet, mSeq, mNext, mIfS, mSet, mPar, mDrop, mAndV, mOrV, mNotV, mAnd, mOr, mNot, mB, mIf, mCB, mCons, mNil, mVar, mC, mBin, mUn, mTup, mLst, mCall, mCallK, mChain, isiW, startE, DEnv.at, DEnv.put, D.isa, tyN, sixNames, isNum, isCnt, okD, ordW, intW, sizeLine, tyNames, lenW, mNever]
  rw [hN]
  simp [addW, negW, powW, CPow, mRet, mSeq, mNext, mIfS, mSet, mPar, mDrop, mAndV, mOrV, mNotV, mAnd, mOr, mNot, mB, mIf, mCB, mCons, mNil, mVar, mC, mBin, mUn, mTup, mLst, mCall, mCallK, mChain, isiW, startE, DEnv.at, DEnv.put, D.isa, tyN, sixNames, isNum, isCnt, okD, ordW, intW, sizeLine, tyNames, lenW, mNever]
  refine ⟨_, _, rfl, rfl, by simp, by decide, h1, ?_⟩
  exact h2
abbrev n__law_frame : List Str := ["state", "upto", "some", "names", "digits"]
def m__law_frame : MS := (mSeq (mSet 2 (mLst (mCons (mC (.str "a")) (mCons (mC (.str "at")) (mCons (mC (.str "ab")) (mCons (mC (.str "b")) (mCons (mC (.str "dst")) (mCons (mC (.str "note")) (mCons (mC (.str "marks")) (mCons (mC (.str "zz")) (mCons (mC (.str "zzzzzz")) (mCons (mC (.str "zzzzzy")) (mCons (mC (.str "drops")) (mCons (mC (.str "passes")) mNil))))))))))))))
  (mSeq (mSet 3 (mCB sortedW (mCons (mSl slW (mCall W__law_shuffled (mCons (mVar 0) (mCons (mVar 2) mNil))) mNo (mSome (mBin addW (mC (.int 1)) (mCall W__law_take (mCons (mVar 0) (mCons (mVar 1) mNil)))))) mNil)))
  (mSeq (mSet 4 (mSl slW (mCall W__law_shuffled (mCons (mVar 0) (mCons (mLst (mCons (mC (.int 0)) (mCons (mC (.int 1)) (mCons (mC (.int 2)) (mCons (mC (.int 3)) (mCons (mC (.int 7)) (mCons (mBin powW (mC (.int 10)) (mC (.int 12))) mNil))))))) mNil))) mNo (mSome (mBin addW (mC (.int 1)) (mCall W__law_take (mCons (mVar 0) (mCons (mC (.int 3)) mNil)))))))
  (mRet (mDisp (((mC (.str "fields")), (mCB tupleW (mCons (mVar 3) mNil))) :: (((mC (.str "numbers")), (mVar 4)) :: (((mC (.str "marks")), (mC (.int 0))) :: []))))))))
theorem w__law_frame : Good W__law_frame 2 := ⟨fun ds n k k' h ⟨u, e, a, b, c, q⟩ => ⟨u, e, a, b, c, fun fs ns n' r1 r2 r3 r4 r5 r6 r7 r8 l => h _ _ (q fs ns n' r1 r2 r3 r4 r5 r6 r7 r8 l)⟩, fun ds n k ⟨u, e, _⟩ => by rw [e]; rfl⟩
theorem r__law_frame : ∀ ds n kk, W__law_frame ds n kk → m__law_frame (startE n__law_frame.length ds n) { nx := fun e => kk .non e.cr, rt := fun d e => kk d e.cr } := by
  rintro ds n kk ⟨u, rfl, h1, h2, h3, h4⟩
  refine seq_gen fun N hN => ?_
  simp [mRet, mSeq, mNext, mIfS, mSet, mPar, mDrop, mAndV, mOrV, mNotV, mAnd, mOr, mNot, mB, mIf, mCB, mCons, mNil, mVar, mC, mBin, mUn, mTup, mLst, mCall, mCallK, mChain, isiW, startE, DEnv.at, DEnv.put, D.isa, tyN, sixNames, isNum, isCnt, okD, ordW, intW, sizeLine, tyNames, lenW, mNever]
  rw [hN]
  refine seq_gen fun N hN => ?_
  simp [mSl, mNo, mSome, mRet, mSeq, mNext, mIfS, mSet, mPar, mDrop, mAndV, mOrV, mNotV, mAnd, mOr, mNot, mB, mIf, mCB, mCons, mNil, mVar, mC, mBin, mUn, mTup, mLst, mCall, mCallK, mChain, isiW, startE, DEnv.at, DEnv.put, D.isa, tyN, sixNames, isNum, isCnt, okD, ordW, intW, sizeLine, tyNames, lenW, mNever]
  refine ⟨_, frameL.map D.str, rfl, .inl rfl, by decide +kernel, by show 12 ≤ n; omega, by decide, fun es' p => ?_⟩
  have hn : n - (frameL.map D.str).length = n - 12 := rfl
  rw [hn]
  simp [W__law_take, addW, mRet, mSeq, mNext, mIfS, mSet, mPar, mDrop, mAndV, mOrV, mNotV, mAnd, mOr, mNot, mB, mIf, mCB, mCons, mNil, mVar, mC, mBin, mUn, mTup, mLst, mCall, mCallK, mChain, isiW, startE, DEnv.at, DEnv.put, D.isa, tyN, sixNames, isNum, isCnt, okD, ordW, intW, sizeLine, tyNames, lenW, mNever]
  refine ⟨by omega, by omega, by omega, fun i i0 i1 => ?_⟩
  obtain ⟨l, rfl, pl⟩ := perm_map p
  have c1 : cut (l.map D.str) none (some (1 + i)) = (l.take (1 + i).toNat).map D.str := cut_take _ (by omega)
  simp only [slW, sortedW, c1]
  refine ⟨_, rfl, .inr ⟨_, DL.strs_map _, ?_⟩⟩
  refine ⟨by rw [List.length_take, pl.length_eq]; show min _ 12 < 64; omega, fun ys py sy => ?_⟩
  rw [hN]
  refine seq_gen fun N hN => ?_
  simp [mSl, mNo, mSome, powW, CPow, mRet, mSeq, mNext, mIfS, mSet, mPar, mDrop, mAndV, mOrV, mNotV, mAnd, mOr, mNot, mB, mIf, mCB, mCons, mNil, mVar, mC, mBin, mUn, mTup, mLst, mCall, mCallK, mChain, isiW, startE, DEnv.at, DEnv.put, D.isa, tyN, sixNames, isNum, isCnt, okD, ordW, intW, sizeLine, tyNames, lenW, mNever]
  refine ⟨_, numsL.map D.int, rfl, .inl rfl, by decide +kernel, by show 6 ≤ _; omega, by decide, fun es' p => ?_⟩
  have hn : n - 12 - 1 - (numsL.map D.int).length = n - 19 := by show n - 12 - 1 - 6 = _; omega
  rw [hn]
  simp [W__law_take, addW, mRet, mSeq, mNext, mIfS, mSet, mPar, mDrop, mAndV, mOrV, mNotV, mAnd, mOr, mNot, mB, mIf, mCB, mCons, mNil, mVar, mC, mBin, mUn, mTup, mLst, mCall, mCallK, mChain, isiW, startE, DEnv.at, DEnv.put, D.isa, tyN, sixNames, isNum, isCnt, okD, ordW, intW, sizeLine, tyNames, lenW, mNever]
  refine ⟨by omega, fun j j0 j1 => ?_⟩
  obtain ⟨m, rfl, pm⟩ := perm_map p
  have c1 : cut (m.map D.int) none (some (1 + j)) = (m.take (1 + j).toNat).map D.int := cut_take _ (by omega)
  simp [slW, c1]
  rw [hN]
  simp [mDisp, pairsW, noOwE, noOw, keysD, keyD, dictD, frKeys, tupleW, mRet, mSeq, mNext, mIfS, mSet, mPar, mDrop, mAndV, mOrV, mNotV, mAnd, mOr, mNot, mB, mIf, mCB, mCons, mNil, mVar, mC, mBin, mUn, mTup, mLst, mCall, mCallK, mChain, isiW, startE, DEnv.at, DEnv.put, D.isa, tyN, sixNames, isNum, isCnt, okD, ordW, intW, sizeLine, tyNames, lenW, mNever]
  have nl : l.Nodup := pl.nodup_iff.mpr (by decide +kernel)
  have nm : m.Nodup := pm.nodup_iff.mpr (by decide +kernel)
  have ll : l.length = 12 := pl.length_eq
  have lm : m.length = 6 := pm.length_eq
  have ly := py.length_eq
  rw [List.length_take, ll] at ly
  refine ⟨by decide +kernel, ?_⟩
  rw [← List.map_take]
  refine h4 ys (m.take (1 + j).toNat) (n - 19 - 1) (py.nodup_iff.mpr (nl.sublist (List.take_sublist _ _))) (fun y hy => pl.mem_iff.mp (List.mem_of_mem_take (py.mem_iff.mp hy))) (by omega) (by omega) sy (nm.sublist (List.take_sublist _ _)) (fun y hy => pm.mem_iff.mp (List.mem_of_mem_take hy)) ?_ (by omega)
  rw [List.length_take, lm]
  omega
abbrev n__law_is_field_due : List Str := ["thing_here", "sign"]
def m__law_is_field_due : MS := (mSeq (mIfS (mOr (mNot (mB (mCB isiW (mCons (mVar 0) (mCons (mC (.ty "str")) mNil))))) (mNot (mB (mChain leW leW (mC (.int 1)) (mCB lenW (mCons (mVar 0) mNil)) (mC (.int 6)))))) (mRet (mC (.bl false))) mNext)
  (mSeq (mIfS (mB (mBin (inW false) (mVar 0) (mTup (mCons (mC (.str "pass")) (mCons (mC (.str "drop")) (mCons (mC (.str "mark")) (mCons (mC (.str "not")) mNil))))))) (mRet (mC (.bl false))) mNext)
  (mRet (mBin eqZ (mLc 1 (mIter (mVar 0)) (mNot (mB (mChain leW leW (mC (.str "a")) (mVar 1) (mC (.str "z"))))) (mVar 1)) (mLst mNil)))))
theorem w__law_is_field_due : Good W_is_field 1 := fW1_good
theorem r__law_is_field_due : ∀ ds n kk, W_is_field ds n kk → m__law_is_field_due (startE n__law_is_field_due.length ds n) { nx := fun e => kk .non e.cr, rt := fun d e => kk d e.cr } := by
  rintro ds n kk ⟨a, rfl, ⟨h1, h3⟩, h2⟩
  cases a with
  | str x =>
    obtain ⟨hl, hso⟩ := h3 x rfl
    clear h3
    have h2' : kk (.bl (isField (.str x))) n := h2
    have e : isField (.str x) = (decide (1 ≤ x.length) && decide (x.length ≤ 6) && !keptL.contains x && x.cps.toList.all small) := rfl
    rw [e] at h2'
    refine seq_gen fun N hN => ?_
    simp [mRet, mSeq, mNext, mIfS, mSet, mPar, mDrop, mAndV, mOrV, mNotV, mAnd, mOr, mNot, mB, mIf, mCB, mCons, mNil, mVar, mC, mBin, mUn, mTup, mLst, mCall, mCallK, mChain, isiW, startE, DEnv.at, DEnv.put, D.isa, tyN, sixNames, isNum, isCnt, okD, ordW, intW, sizeLine, tyNames, lenW, mNever]
    refine ⟨hl, ?_⟩
    have rest : 1 ≤ x.length → x.length ≤ 6 → N ⟨[.da (.str x), .un], n, none⟩ := by
      intro a b
      rw [hN]
      refine seq_gen fun N hN => ?_
      simp [inW, D.flat, in_kept2, mRet, mSeq, mNext, mIfS, mSet, mPar, mDrop, mAndV, mOrV, mNotV, mAnd, mOr, mNot, mB, mIf, mCB, mCons, mNil, mVar, mC, mBin, mUn, mTup, mLst, mCall, mCallK, mChain, isiW, startE, DEnv.at, DEnv.put, D.isa, tyN, sixNames, isNum, isCnt, okD, ordW, intW, sizeLine, tyNames, lenW, mNever]
      have e2 : decide (1 ≤ x.length) = true := by simp; omega
      have e3 : decide (x.length ≤ 6) = true := by simp; omega
      rw [e2, e3] at h2'
      split
      · rename_i c
        simpa [c] using h2'
      · rename_i c
        rw [hN]
        simp only [mRet, mBin, mLc, mIter]
        simp only [mVar, DEnv.at, List.getD_cons_zero]
        refine compW_filt (g := fun d => match d with | .str x => !(match x.cps.toList with | [c] => small c | _ => false) | _ => false) (f := fun d => d) _ _ _ (fun d hd k' q => ?_) (fun d hd _ k' q => ?_) (by simp [DL.signs]; exact hl) ?_
        · obtain ⟨c, hc, rfl⟩ := List.mem_map.mp hd
          have sa : (Str.ofString "a").cps.toList = [97] := by decide +kernel
          have sz : (Str.ofString "z").cps.toList = [122] := by decide +kernel
          simp [compE, noOw, sa, sz, mRet, mSeq, mNext, mIfS, mSet, mPar, mDrop, mAndV, mOrV, mNotV, mAnd, mOr, mNot, mB, mIf, mCB, mCons, mNil, mVar, mC, mBin, mUn, mTup, mLst, mCall, mCallK, mChain, isiW, startE, DEnv.at, DEnv.put, D.isa, tyN, sixNames, isNum, isCnt, okD, ordW, intW, sizeLine, tyNames, lenW, mNever] at q ⊢
          have l1 : [97] ≤ [c] ↔ 97 ≤ c := by
            have : ¬ ([c] < [97]) ↔ 97 ≤ c := by rw [List.cons_lt_cons_iff]; simp
            exact this
          have l2 : [122] < [c] ↔ 122 < c := by rw [List.cons_lt_cons_iff]; simp
          have l3 : decide ([122] < [c]) = decide (122 < c) := decide_eq_decide.mpr l2
          rw [l3]
          unfold small at q
          by_cases h : 97 ≤ c
          · rw [if_pos (l1.mpr h)]
            have l4 : (!decide (c ≤ 122)) = decide (122 < c) := by
              by_cases h2 : c ≤ 122
              · have : ¬ 122 < c := by omega
                simp [h2, this]
              · have : 122 < c := by omega
                simp [h2, this]
            simpa [h, l4] using q
          · rw [if_neg fun w => h (l1.mp w)]
            simpa [h] using q
        · obtain ⟨c, hc, rfl⟩ := List.mem_map.mp hd
          simp [compE, noOw, mRet, mSeq, mNext, mIfS, mSet, mPar, mDrop, mAndV, mOrV, mNotV, mAnd, mOr, mNot, mB, mIf, mCB, mCons, mNil, mVar, mC, mBin, mUn, mTup, mLst, mCall, mCallK, mChain, isiW, startE, DEnv.at, DEnv.put, D.isa, tyN, sixNames, isNum, isCnt, okD, ordW, intW, sizeLine, tyNames, lenW, mNever] at q ⊢
          exact q
        · simp only [List.nil_append, DL.signs, compE, eqZ, mLst, mNil, List.map_id', List.length_nil]
          refine ⟨by decide, ?_⟩
          have : (List.filter (fun d => match d with | .str x => !(match x.cps.toList with | [c] => small c | _ => false) | _ => false) (x.cps.toList.map fun c => D.str ⟨#[c]⟩)).isEmpty = x.cps.toList.all small := by
            induction x.cps.toList with
            | nil => rfl
            | cons a l ih => 
              simp only [List.map_cons, List.all_cons]
              rw [List.filter_cons]
              cases e : small a with
              | true => simp [e, ih]
              | false => simp [e]
          rw [this]
          simpa [c] using h2'
    by_cases a : 1 ≤ x.length
    · by_cases b : x.length ≤ 6
      · have a' : ((1 : Int) ≤ (x.length : Int)) := by omega
        have b' : ((x.length : Int) ≤ 6) := by omega
        rw [if_pos a', if_pos b']
        exact rest a b
      · have : ¬ ((x.length : Int) ≤ 6) := by omega
        have a' : ((1 : Int) ≤ (x.length : Int)) := by omega
        rw [if_pos a', if_neg this]
        simpa [b] using h2'
    · have : ¬ ((1 : Int) ≤ (x.length : Int)) := by omega
      simp [a] at h2'
      simpa [a, this] using h2'
  | _ => first | (exact absurd h1 (by decide)) | (simp [m__law_is_field_due, mRet, mSeq, mNext, mIfS, mSet, mPar, mDrop, mAndV, mOrV, mNotV, mAnd, mOr, mNot, mB, mIf, mCB, mCons, mNil, mVar, mC, mBin, mUn, mTup, mLst, mCall, mCallK, mChain, isiW, startE, DEnv.at, DEnv.put, D.isa, tyN, sixNames, isNum, isCnt, okD, ordW, intW, sizeLine, tyNames, lenW, mNever] at h1 h2 ⊢; try assumption)
abbrev n__law_near_name : List Str := ["state", "some", "label", "spot"]
def m__law_near_name : MS := (mSeq (mSet 1 (mLst (mCons (mC (.str "a")) (mCons (mC (.str "z")) (mCons (mC (.str "ab")) (mCons (mC (.str "zzzzzz")) (mCons (mC (.str "zzzzzzz")) (mCons (mC (.str "pass")) (mCons (mC (.str "drop")) (mCons (mC (.str "mark")) (mCons (mC (.str "not")) (mCons (mC (.str "passe")) (mCons (mC (.str "marks")) (mCons (mC (.str "no")) (mCons (mC (.str "nott")) (mCons (mC (.str "")) (mCons (mC (.str "A")) mNil)))))))))))))))))
  (mSeq (mSet 1 (mBin addW (mVar 1) (mLst (mCons (mC (.str "aA")) (mCons (mC (.str "a1")) (mCons (mC (.str "1")) (mCons (mC (.str "a b")) (mCons (mC (.str " a")) (mCons (mC (.str "a\n")) (mCons (mC (.str "`")) (mCons (mC (.str "{")) (mCons (mC (.str "a=")) (mCons (mC .non) (mCons (mC (.bl true)) (mCons (mC (.int 5)) (mCons (mTup (mCons (mC (.str "a")) mNil)) (mCons (mLst (mCons (mC (.str "a")) mNil)) (mCons (mDisp (((mC (.str "a")), (mC (.int 1))) :: [])) mNil))))))))))))))))))
  (mSeq (mSet 2 (mCall W__law_pick (mCons (mVar 0) (mCons (mVar 1) mNil))))
  (mSeq (mIfS (mB (mBin eqX (mCall W__law_take (mCons (mVar 0) (mCons (mC (.int 4)) mNil))) (mC (.int 0)))) (mSet 2 (mJoin (mC (.str "")) (mLc 3 (mRange (mCons (mCall W__law_take (mCons (mVar 0) (mCons (mC (.int 9)) mNil))) mNil)) mYes (mCall W__law_pick (mCons (mVar 0) (mCons (mC (.str "abmnopqrstz{`")) mNil)))))) mNext)
  (mRet (mVar 2))))))
theorem w__law_near_name : Good W__law_near_name 1 := ⟨fun ds n k k' h ⟨e, a, q⟩ => ⟨e, a, fun d n' m l => h _ _ (q d n' m l)⟩, fun ds n k ⟨e, _⟩ => by rw [e]; rfl⟩
theorem r__law_near_name : ∀ ds n kk, W__law_near_name ds n kk → m__law_near_name (startE n__law_near_name.length ds n) { nx := fun e => kk .non e.cr, rt := fun d e => kk d e.cr } := by
  rintro ds n kk ⟨rfl, h1, h2⟩
  refine seq_gen fun N hN => ?_
  simp [mRet, mSeq, mNext, mIfS, mSet, mPar, mDrop, mAndV, mOrV, mNotV, mAnd, mOr, mNot, mB, mIf, mCB, mCons, mNil, mVar, mC, mBin, mUn, mTup, mLst, mCall, mCallK, mChain, isiW, startE, DEnv.at, DEnv.put, D.isa, tyN, sixNames, isNum, isCnt, okD, ordW, intW, sizeLine, tyNames, lenW, mNever]
  rw [hN]
  refine seq_gen fun N hN => ?_
  simp [mDisp, pairsW, noOwE, noOw, keysD, keyD, dictD, frKeys, addW, mRet, mSeq, mNext, mIfS, mSet, mPar, mDrop, mAndV, mOrV, mNotV, mAnd, mOr, mNot, mB, mIf, mCB, mCons, mNil, mVar, mC, mBin, mUn, mTup, mLst, mCall, mCallK, mChain, isiW, startE, DEnv.at, DEnv.put, D.isa, tyN, sixNames, isNum, isCnt, okD, ordW, intW, sizeLine, tyNames, lenW, mNever]
  rw [hN]
  refine seq_gen fun N hN => ?_
  simp [mRet, mSeq, mNext, mIfS, mSet, mPar, mDrop, mAndV, mOrV, mNotV, mAnd, mOr, mNot, mB, mIf, mCB, mCons, mNil, mVar, mC, mBin, mUn, mTup, mLst, mCall, mCallK, mChain, isiW, startE, DEnv.at, DEnv.put, D.isa, tyN, sixNames, isNum, isCnt, okD, ordW, intW, sizeLine, tyNames, lenW, mNever]
  refine ⟨_, nearL, rfl, rfl, by decide, by decide, by omega, fun d hd => ?_⟩
  rw [hN]
  refine seq_gen fun N hN => ?_
  simp [W__law_take, mRet, mSeq, mNext, mIfS, mSet, mPar, mDrop, mAndV, mOrV, mNotV, mAnd, mOr, mNot, mB, mIf, mCB, mCons, mNil, mVar, mC, mBin, mUn, mTup, mLst, mCall, mCallK, mChain, isiW, startE, DEnv.at, DEnv.put, D.isa, tyN, sixNames, isNum, isCnt, okD, ordW, intW, sizeLine, tyNames, lenW, mNever, eqX, eqv_int, shaped_int]
  refine ⟨by omega, fun i i0 i1 => ?_⟩
  split
  · simp only [mJoin, mC, mLc, mRange]
    refine ⟨_, rfl, ?_⟩
    simp [W__law_take, mRet, mSeq, mNext, mIfS, mSet, mPar, mDrop, mAndV, mOrV, mNotV, mAnd, mOr, mNot, mB, mIf, mCB, mCons, mNil, mVar, mC, mBin, mUn, mTup, mLst, mCall, mCallK, mChain, isiW, startE, DEnv.at, DEnv.put, D.isa, tyN, sixNames, isNum, isCnt, okD, ordW, intW, sizeLine, tyNames, lenW, mNever]
    refine ⟨by omega, fun j j0 j1 => ⟨⟨by omega, by omega⟩, ?_⟩⟩
    have hrl : (rangeD j).length = j.toNat := by simp [rangeD]
    refine compW_draw (c := 1) (R := fun _ y => y ∈ DL.signs "abmnopqrstz{`") _ _ _ (fun d hd m k' hm q => ?_) ?_ ?_ fun ys n' e1 e2 e3 => ?_
    · simp [compE, noOw, mRet, mSeq, mNext, mIfS, mSet, mPar, mDrop, mAndV, mOrV, mNotV, mAnd, mOr, mNot, mB, mIf, mCB, mCons, mNil, mVar, mC, mBin, mUn, mTup, mLst, mCall, mCallK, mChain, isiW, startE, DEnv.at, DEnv.put, D.isa, tyN, sixNames, isNum, isCnt, okD, ordW, intW, sizeLine, tyNames, lenW, mNever]
      exact ⟨_, _, rfl, rfl, by decide +kernel, by decide +kernel, hm, fun y hy => q y _ hy (by omega) _⟩
    · simp [hrl]; unfold sizeLine; omega
    · rw [hrl]; simp only [compE]; omega
    · obtain ⟨cs, rfl, hcs⟩ := signs_of (ys := ys) fun y hy => let ⟨_, _, h⟩ := e2 y hy; h
      have l1 : cs.length ≤ 8 := by rw [List.length_map, hrl] at e1; omega
      refine ⟨_, cs.map fun c => (⟨#[c]⟩ : Str), .inl rfl, by simpa [Function.comp_def] using DL.strs_map (cs.map fun c => (⟨#[c]⟩ : Str)), ?_, ?_⟩
      · simp [Str.length, Function.comp_def]
        have : (Str.ofString "").cps.size = 0 := by decide +kernel
        rw [this, sum_ones]; omega
      · rw [hN]
        simp [mRet, mSeq, mNext, mIfS, mSet, mPar, mDrop, mAndV, mOrV, mNotV, mAnd, mOr, mNot, mB, mIf, mCB, mCons, mNil, mVar, mC, mBin, mUn, mTup, mLst, mCall, mCallK, mChain, isiW, startE, DEnv.at, DEnv.put, D.isa, tyN, sixNames, isNum, isCnt, okD, ordW, intW, sizeLine, tyNames, lenW, mNever]
        simp only [compE] at e3
        refine h2 _ _ (.inr ⟨_, rfl, ?_⟩) (by rw [hrl] at e3; omega)
        have := join_one cs
        refine ⟨by rw [Str.length, ← Array.length_toList, this]; exact l1, fun c hc => ?_⟩
        rw [this] at hc
        exact hcs c hc
  · rw [hN]
    simp [mRet, mSeq, mNext, mIfS, mSet, mPar, mDrop, mAndV, mOrV, mNotV, mAnd, mOr, mNot, mB, mIf, mCB, mCons, mNil, mVar, mC, mBin, mUn, mTup, mLst, mCall, mCallK, mChain, isiW, startE, DEnv.at, DEnv.put, D.isa, tyN, sixNames, isNum, isCnt, okD, ordW, intW, sizeLine, tyNames, lenW, mNever]
    exact h2 _ _ (.inl hd) (by omega)
abbrev n__law_is_packet_due : List Str := ["many", "thing_here", "number"]
def m__law_is_packet_due : MS := (mSeq (mIfS (mOr (mNot (mB (mCB isiW (mCons (mVar 1) (mCons (mC (.ty "tuple")) mNil))))) (mB (mBin neX (mCB lenW (mCons (mVar 1) mNil)) (mVar 0)))) (mRet (mC (.bl false))) mNext)
  (mSeq (mFor (mIter (mVar 1)) (gN 2) (mIfS (mOr (mNot (mB (mCB isiW (mCons (mVar 2) (mCons (mC (.ty "int")) mNil))))) (mOr (mB (mCB isiW (mCons (mVar 2) (mCons (mC (.ty "bool")) mNil)))) (mB (mBin ltW (mVar 2) (mC (.int 0)))))) (mRet (mC (.bl false))) mNext))
  (mRet (mC (.bl true)))))
theorem w__law_is_packet_due : Good W_is_packet_of 2 := w_is_packet_of
theorem r__law_is_packet_due : ∀ ds n kk, W_is_packet_of ds n kk → m__law_is_packet_due (startE n__law_is_packet_due.length ds n) { nx := fun e => kk .non e.cr, rt := fun d e => kk d e.cr } := by
  rintro ds n kk ⟨m, x, rfl, h1, h2, h3, h4⟩
  cases x with
  | tup es =>
    have h5 : kk (.bl (decide ((es.length : Int) = m) && es.all isCnt)) n := h4
    have h6 := h2 es rfl
    clear h4 h2
    refine seq_gen fun N hN => ?_
    simp [neX, eqv_int, shaped_int, mRet, mSeq, mNext, mIfS, mSet, mPar, mDrop, mAndV, mOrV, mNotV, mAnd, mOr, mNot, mB, mIf, mCB, mCons, mNil, mVar, mC, mBin, mUn, mTup, mLst, mCall, mCallK, mChain, isiW, startE, DEnv.at, DEnv.put, D.isa, tyN, sixNames, isNum, isCnt, okD, ordW, intW, sizeLine, tyNames, lenW, mNever]
    split
    · rename_i e
      rw [hN]
      refine seq_gen fun N2 hN2 => ?_
      have e1 : decide ((es.length : Int) = m) = true := by simpa using e
      rw [e1, Bool.true_and] at h5
      simp only [mFor, mIter]
      simp only [mVar, DEnv.at, List.getD_cons_zero, List.getD_cons_succ]
      refine forW_inv (fun ds env => (∃ s0 s1 s2, env.sl = [s0, s1, s2]) ∧ env.cr = n ∧ kk (.bl (ds.all isCnt)) n ∧ ∀ d ∈ ds, okD d) (fun d ds env k' i a1 a2 a3 a4 => ?_) (fun env i => ?_) es _ ⟨⟨_, _, _, rfl⟩, rfl, h5, h6⟩
      · obtain ⟨⟨s0, s1, s2, i1⟩, i2, i3, i4⟩ := i
        obtain ⟨sl, cr, mr⟩ := env
        simp only at i1 i2
        subst i1 i2
        have hd := i4 d List.mem_cons_self
        have i5 : ∀ d ∈ ds, okD d := fun d h => i4 d (List.mem_cons_of_mem _ h)
        have fin : isCnt d = true → k'.nx ⟨[s0, s1, .da d], cr, mr⟩ := fun e => a1 _ ⟨⟨_, _, _, rfl⟩, rfl, by simpa [e] using i3, i5⟩
        have bad : isCnt d = false → k'.rt (.bl false) ⟨[s0, s1, .da d], cr, mr⟩ := fun e => a3 _ _ (by simpa [e] using i3)
        cases d with
        | int v =>
          simp [gN, mRet, mSeq, mNext, mIfS, mSet, mPar, mDrop, mAndV, mOrV, mNotV, mAnd, mOr, mNot, mB, mIf, mCB, mCons, mNil, mVar, mC, mBin, mUn, mTup, mLst, mCall, mCallK, mChain, isiW, startE, DEnv.at, DEnv.put, D.isa, tyN, sixNames, isNum, isCnt, okD, ordW, intW, sizeLine, tyNames, lenW, mNever]
          split
          · rename_i e; exact bad (by simp [isCnt]; omega)
          · rename_i e; exact fin (by simp [isCnt]; omega)
        | _ => first | (simp [okD, tyN] at hd; done) | (simp [gN, mRet, mSeq, mNext, mIfS, mSet, mPar, mDrop, mAndV, mOrV, mNotV, mAnd, mOr, mNot, mB, mIf, mCB, mCons, mNil, mVar, mC, mBin, mUn, mTup, mLst, mCall, mCallK, mChain, isiW, startE, DEnv.at, DEnv.put, D.isa, tyN, sixNames, isNum, isCnt, okD, ordW, intW, sizeLine, tyNames, lenW, mNever]; exact bad rfl)
      · obtain ⟨⟨s0, s1, s2, i1⟩, i2, i3, i4⟩ := i
        rw [hN2]
        simp [mRet, mSeq, mNext, mIfS, mSet, mPar, mDrop, mAndV, mOrV, mNotV, mAnd, mOr, mNot, mB, mIf, mCB, mCons, mNil, mVar, mC, mBin, mUn, mTup, mLst, mCall, mCallK, mChain, isiW, startE, DEnv.at, DEnv.put, D.isa, tyN, sixNames, isNum, isCnt, okD, ordW, intW, sizeLine, tyNames, lenW, mNever, i2]
        simpa using i3
    · rename_i e
      have e1 : decide ((es.length : Int) = m) = false := by simpa using e
      rw [e1] at h5
      simpa using h5
  | _ => first | (exact absurd h1 (by decide)) | (simp [m__law_is_packet_due, isPacket, mRet, mSeq, mNext, mIfS, mSet, mPar, mDrop, mAndV, mOrV, mNotV, mAnd, mOr, mNot, mB, mIf, mCB, mCons, mNil, mVar, mC, mBin, mUn, mTup, mLst, mCall, mCallK, mChain, isiW, startE, DEnv.at, DEnv.put, D.isa, tyN, sixNames, isNum, isCnt, okD, ordW, intW, sizeLine, tyNames, lenW, mNever] at h1 h4 ⊢; try assumption)
abbrev n__law_near_packet : List Str := ["state", "many", "found", "spot", "change", "sort", "fresh"]
def m__law_near_packet : MS := (mSeq (mSet 2 (mLc 3 (mRange (mCons (mVar 1) mNil)) mYes (mCall W__law_pick (mCons (mVar 0) (mCons (mLst (mCons (mC (.int 0)) (mCons (mC (.int 1)) (mCons (mC (.int 7)) (mCons (mBin powW (mC (.int 10)) (mC (.int 12))) (mCons (mBin powW (mC (.int 10)) (mC (.int 40))) (mCons (mCall W__law_take (mCons (mVar 0) (mCons (mBin powW (mC (.int 10)) (mC (.int 9))) mNil))) mNil))))))) mNil)))))
  (mSeq (mFor (mRange (mCons (mCall W__law_pick (mCons (mVar 0) (mCons (mLst (mCons (mC (.int 0)) (mCons (mC (.int 0)) (mCons (mC (.int 1)) (mCons (mC (.int 1)) (mCons (mC (.int 2)) mNil)))))) mNil))) mNil)) (gN 4) (mSeq (mSet 3 (mCall W__law_take (mCons (mVar 0) (mCons (mBin addW (mCB lenW (mCons (mVar 2) mNil)) (mC (.int 1))) mNil))))
  (mSeq (mSet 5 (mCall W__law_take (mCons (mVar 0) (mCons (mC (.int 3)) mNil))))
  (mSeq (mIfS (mB (mBin eqX (mVar 5) (mC (.int 0)))) (mSeq (mSet 6 (mCall W__law_pick (mCons (mVar 0) (mCons (mLst (mCons (mUn negW (mC (.int 1))) (mCons (mC (.bl true)) (mCons (mC (.bl false)) (mCons (mC .non) (mCons (mC (.str "1")) (mCons (mTup (mCons (mC (.int 1)) mNil)) (mCons (mLst (mCons (mC (.int 1)) mNil)) (mCons (mBin subW (mC (.int 0)) (mBin powW (mC (.int 10)) (mC (.int 30)))) mNil))))))))) mNil))))
  (mSet 2 (mBin addW (mBin addW (mSl slW (mVar 2) mNo (mSome (mVar 3))) (mLst (mCons (mVar 6) mNil))) (mSl slW (mVar 2) (mSome (mBin addW (mVar 3) (mC (.int 1)))) mNo)))) mNext)
  (mSeq (mIfS (mB (mBin eqX (mVar 5) (mC (.int 1)))) (mSet 2 (mBin addW (mSl slW (mVar 2) mNo (mSome (mVar 3))) (mSl slW (mVar 2) (mSome (mBin addW (mVar 3) (mC (.int 1)))) mNo))) mNext)
  (mIfS (mB (mBin eqX (mVar 5) (mC (.int 2)))) (mSet 2 (mBin addW (mBin addW (mSl slW (mVar 2) mNo (mSome (mVar 3))) (mLst (mCons (mC (.int 3)) mNil))) (mSl slW (mVar 2) (mSome (mVar 3)) mNo))) mNext))))))
  (mRet (mCall W__law_pick (mCons (mVar 0) (mCons (mLst (mCons (mCB tupleW (mCons (mVar 2) mNil)) (mCons (mCB tupleW (mCons (mVar 2) mNil)) (mCons (mCB tupleW (mCons (mVar 2) mNil)) (mCons (mVar 2) (mCons (mCall W__law_odd (mCons (mVar 0) mNil)) mNil)))))) mNil))))))
theorem w__law_near_packet : Good W__law_near_packet 2 := ⟨fun ds n k k' h ⟨m, e, a, b, c, q⟩ => ⟨m, e, a, b, c, fun d n' m l => h _ _ (q d n' m l)⟩, fun ds n k ⟨m, e, _⟩ => by rw [e]; rfl⟩
theorem r__law_near_packet : ∀ ds n kk, W__law_near_packet ds n kk → m__law_near_packet (startE n__law_near_packet.length ds n) { nx := fun e => kk .non e.cr, rt := fun d e => kk d e.cr } := by
  rintro ds n kk ⟨m, rfl, h1, h2, h3, h4⟩
  refine seq_gen fun N hN => ?_
  simp only [mSet, mLc, mRange]
  simp [mRet, mSeq, mNext, mIfS, mSet, mPar, mDrop, mAndV, mOrV, mNotV, mAnd, mOr, mNot, mB, mIf, mCB, mCons, mNil, mVar, mC, mBin, mUn, mTup, mLst, mCall, mCallK, mChain, isiW, startE, DEnv.at, DEnv.put, D.isa, tyN, sixNames, isNum, isCnt, okD, ordW, intW, sizeLine, tyNames, lenW, mNever]
  refine ⟨⟨by omega, by omega⟩, ?_⟩
  have hrl : (rangeD m).length = m.toNat := by simp [rangeD]
  refine compW_draw (c := 2) (R := fun _ y => elemOk y) _ _ _ (fun d hd n k' hm q => ?_) ?_ ?_ fun ys n1 e1 e2 e3 => ?_
  · simp [compE, noOw, powW, CPow, W__law_take, mRet, mSeq, mNext, mIfS, mSet, mPar, mDrop, mAndV, mOrV, mNotV, mAnd, mOr, mNot, mB, mIf, mCB, mCons, mNil, mVar, mC, mBin, mUn, mTup, mLst, mCall, mCallK, mChain, isiW, startE, DEnv.at, DEnv.put, D.isa, tyN, sixNames, isNum, isCnt, okD, ordW, intW, sizeLine, tyNames, lenW, mNever]
    refine ⟨by omega, fun i i0 i1 => ⟨_, _, rfl, rfl, by simp, by simp, by omega, fun y hy => q y _ ?_ (by omega) _⟩⟩
    simp only [List.mem_cons, List.not_mem_nil, or_false] at hy
    rcases hy with rfl | rfl | rfl | rfl | rfl | rfl <;> first | exact elem_int (by decide) (by decide) | exact elem_int (by omega) (by omega)
  · simp [hrl]; unfold sizeLine; omega
  · rw [hrl]; simp only [compE]; omega
  have ok1 : ∀ y ∈ ys, elemOk y := fun y hy => let ⟨_, _, h⟩ := e2 y hy; h
  rw [hrl] at e1 e3
  simp only [compE] at e3
  rw [hN]
  simp
  refine seq_gen fun N2 hN2 => ?_
  simp only [mFor, mRange]
  simp [mRet, mSeq, mNext, mIfS, mSet, mPar, mDrop, mAndV, mOrV, mNotV, mAnd, mOr, mNot, mB, mIf, mCB, mCons, mNil, mVar, mC, mBin, mUn, mTup, mLst, mCall, mCallK, mChain, isiW, startE, DEnv.at, DEnv.put, D.isa, tyN, sixNames, isNum, isCnt, okD, ordW, intW, sizeLine, tyNames, lenW, mNever]
  refine ⟨_, _, rfl, rfl, by simp, by decide, by omega, fun d hd => ?_⟩
  obtain ⟨t, rfl, t0, t1⟩ : ∃ t : Int, d = .int t ∧ 0 ≤ t ∧ t ≤ 2 := by
    simp only [List.mem_cons, List.not_mem_nil, or_false] at hd
    rcases hd with rfl | rfl | rfl | rfl | rfl <;> exact ⟨_, rfl, by decide, by decide⟩
  simp
  refine ⟨⟨by omega, by omega⟩, ?_⟩
  have hrt : (rangeD t).length = t.toNat := by simp [rangeD]
  refine forW_inv (fun ds env => ∃ found s3 s4 s5 s6, env.sl = [.da .sta, .da (.int m), .da (.lst found), s3, s4, s5, s6] ∧ (∀ y ∈ found, elemOk y) ∧ found.length + ds.length ≤ 5 ∧ 3 * ds.length + 3 ≤ env.cr ∧ n ≤ env.cr + 13 - 3 * ds.length) (fun d ds env k' i a1 a2 a3 a4 => ?_) (fun env i => ?_) _ _ ⟨ys, _, _, _, _, rfl, ok1, by rw [hrt]; omega, by rw [hrt]; simp only; omega, by rw [hrt]; simp only; omega⟩
  · obtain ⟨found, s3, s4, s5, s6, i1, i2, i3, i4, i5⟩ := i
    obtain ⟨sl, cr, mr⟩ := env
    simp only [List.length_cons] at i1 i3 i4 i5
    subst i1
    simp only [gN]
    refine seq_gen fun N3 hN3 => ?_
    simp [addW, W__law_take, mRet, mSeq, mNext, mIfS, mSet, mPar, mDrop, mAndV, mOrV, mNotV, mAnd, mOr, mNot, mB, mIf, mCB, mCons, mNil, mVar, mC, mBin, mUn, mTup, mLst, mCall, mCallK, mChain, isiW, startE, DEnv.at, DEnv.put, D.isa, tyN, sixNames, isNum, isCnt, okD, ordW, intW, sizeLine, tyNames, lenW, mNever]
    refine ⟨by omega, by omega, fun sp p0 p1 => ?_⟩
    have c1 := len_cut_lo found p0
    have c2 := len_cut_hi found p0 (by omega)
    have c3 := len_cut_hi' found (i := sp + 1) (by omega)
    have c4 : (cut found none (some sp)).length + (cut found (some (sp + 1)) none).length ≤ found.length := by
      by_cases e : sp < found.length
      · have := len_cut_hi found (i := sp + 1) (by omega) (by omega)
        omega
      · have : sp = found.length := by omega
        have c5 : cut found (some (sp + 1)) none = [] := by
          unfold cut
          obtain ⟨k, rfl⟩ := Int.eq_ofNat_of_zero_le p0
          have h5 := HT.sIx_nat found.length 0 (k + 1)
          have h6 : ((k + 1 : Nat) : Int) = (k : Int) + 1 := by omega
          rw [h6] at h5
          rw [h5, List.drop_eq_nil_of_le (by omega)]
          simp
        rw [c5]; simp; omega
    rw [hN3]
    refine seq_gen fun N4 hN4 => ?_
    simp [W__law_take, mRet, mSeq, mNext, mIfS, mSet, mPar, mDrop, mAndV, mOrV, mNotV, mAnd, mOr, mNot, mB, mIf, mCB, mCons, mNil, mVar, mC, mBin, mUn, mTup, mLst, mCall, mCallK, mChain, isiW, startE, DEnv.at, DEnv.put, D.isa, tyN, sixNames, isNum, isCnt, okD, ordW, intW, sizeLine, tyNames, lenW, mNever]
    refine ⟨by omega, fun so q0 q1 => ?_⟩
    have fin : ∀ (l : List D) (s6 : Sl) (cr' : Nat), (∀ y ∈ l, elemOk y) → l.length ≤ found.length + 1 → cr ≤ cr' + 3 → k'.nx ⟨[.da .sta, .da (.int m), .da (.lst l), .da (.int sp), .da d, .da (.int so), s6], cr', mr⟩ := fun l s6 cr' h1 h2 h3 =>
      a1 _ ⟨l, _, _, _, _, rfl, h1, by omega, by simp only; omega, by simp only; omega⟩
    have memc : ∀ (lo1 hi1 lo2 hi2 : Option Int) (mid : List D), (∀ y ∈ mid, elemOk y) → ∀ y ∈ cut found lo1 hi1 ++ (mid ++ cut found lo2 hi2), elemOk y := fun lo1 hi1 lo2 hi2 mid hm y hy => by
      rcases List.mem_append.mp hy with hy | hy
      · exact i2 y (mem_cut hy)
      · rcases List.mem_append.mp hy with hy | hy
        · exact hm y hy
        · exact i2 y (mem_cut hy)
    have sz : ∀ n : Nat, n ≤ 20 → n ≤ 16777216 := fun n h => by omega
    rw [hN4]
    have cases3 : so = 0 ∨ so = 1 ∨ so = 2 := by omega
    rcases cases3 with rfl | rfl | rfl
    · refine seq_gen fun N5 hN5 => ?_
      simp [eqX, eqv_int, shaped_int, negW, powW, CPow, subW, mRet, mSeq, mNext, mIfS, mSet, mPar, mDrop, mAndV, mOrV, mNotV, mAnd, mOr, mNot, mB, mIf, mCB, mCons, mNil, mVar, mC, mBin, mUn, mTup, mLst, mCall, mCallK, mChain, isiW, startE, DEnv.at, DEnv.put, D.isa, tyN, sixNames, isNum, isCnt, okD, ordW, intW, sizeLine, tyNames, lenW, mNever]
      refine ⟨_, _, rfl, rfl, by simp, by simp, by omega, fun y hy => ?_⟩
      have hy' : elemOk y := by
        simp only [List.mem_cons, List.not_mem_nil, or_false] at hy
        rcases hy with rfl | rfl | rfl | rfl | rfl | rfl | rfl | rfl <;> first | exact elem_int (by decide) (by decide) | exact ⟨by decide +kernel, rfl⟩
      simp [mSl, mNo, mSome, slW, addW, sizeLine]
      refine ⟨by omega, by omega, ?_⟩
      rw [hN5]
      simp [eqX, eqv_int, shaped_int, mRet, mSeq, mNext, mIfS, mSet, mPar, mDrop, mAndV, mOrV, mNotV, mAnd, mOr, mNot, mB, mIf, mCB, mCons, mNil, mVar, mC, mBin, mUn, mTup, mLst, mCall, mCallK, mChain, isiW, startE, DEnv.at, DEnv.put, D.isa, tyN, sixNames, isNum, isCnt, okD, ordW, intW, sizeLine, tyNames, lenW, mNever]
      refine fin _ _ _ (memc _ _ _ _ [y] (by simpa using hy')) ?_ (by omega)
      simp; omega
    · refine seq_gen fun N5 hN5 => ?_
      simp [eqX, eqv_int, shaped_int, mRet, mSeq, mNext, mIfS, mSet, mPar, mDrop, mAndV, mOrV, mNotV, mAnd, mOr, mNot, mB, mIf, mCB, mCons, mNil, mVar, mC, mBin, mUn, mTup, mLst, mCall, mCallK, mChain, isiW, startE, DEnv.at, DEnv.put, D.isa, tyN, sixNames, isNum, isCnt, okD, ordW, intW, sizeLine, tyNames, lenW, mNever]
      rw [hN5]
      refine seq_gen fun N6 hN6 => ?_
      simp [eqX, eqv_int, shaped_int, mSl, mNo, mSome, slW, addW, mRet, mSeq, mNext, mIfS, mSet, mPar, mDrop, mAndV, mOrV, mNotV, mAnd, mOr, mNot, mB, mIf, mCB, mCons, mNil, mVar, mC, mBin, mUn, mTup, mLst, mCall, mCallK, mChain, isiW, startE, DEnv.at, DEnv.put, D.isa, tyN, sixNames, isNum, isCnt, okD, ordW, intW, sizeLine, tyNames, lenW, mNever]
      refine ⟨by omega, ?_⟩
      rw [hN6]
      simp [eqX, eqv_int, shaped_int, mRet, mSeq, mNext, mIfS, mSet, mPar, mDrop, mAndV, mOrV, mNotV, mAnd, mOr, mNot, mB, mIf, mCB, mCons, mNil, mVar, mC, mBin, mUn, mTup, mLst, mCall, mCallK, mChain, isiW, startE, DEnv.at, DEnv.put, D.isa, tyN, sixNames, isNum, isCnt, okD, ordW, intW, sizeLine, tyNames, lenW, mNever]
      refine fin _ _ _ (memc _ _ _ _ [] (by simp)) ?_ (by omega)
      simp; omega
    · refine seq_gen fun N5 hN5 => ?_
      simp [eqX, eqv_int, shaped_int, mRet, mSeq, mNext, mIfS, mSet, mPar, mDrop, mAndV, mOrV, mNotV, mAnd, mOr, mNot, mB, mIf, mCB, mCons, mNil, mVar, mC, mBin, mUn, mTup, mLst, mCall, mCallK, mChain, isiW, startE, DEnv.at, DEnv.put, D.isa, tyN, sixNames, isNum, isCnt, okD, ordW, intW, sizeLine, tyNames, lenW, mNever]
      rw [hN5]
      refine seq_gen fun N6 hN6 => ?_
      simp [eqX, eqv_int, shaped_int, mRet, mSeq, mNext, mIfS, mSet, mPar, mDrop, mAndV, mOrV, mNotV, mAnd, mOr, mNot, mB, mIf, mCB, mCons, mNil, mVar, mC, mBin, mUn, mTup, mLst, mCall, mCallK, mChain, isiW, startE, DEnv.at, DEnv.put, D.isa, tyN, sixNames, isNum, isCnt, okD, ordW, intW, sizeLine, tyNames, lenW, mNever]
      rw [hN6]
      simp [eqX, eqv_int, shaped_int, mSl, mNo, mSome, slW, addW, mRet, mSeq, mNext, mIfS, mSet, mPar, mDrop, mAndV, mOrV, mNotV, mAnd, mOr, mNot, mB, mIf, mCB, mCons, mNil, mVar, mC, mBin, mUn, mTup, mLst, mCall, mCallK, mChain, isiW, startE, DEnv.at, DEnv.put, D.isa, tyN, sixNames, isNum, isCnt, okD, ordW, intW, sizeLine, tyNames, lenW, mNever]
      refine ⟨by omega, by omega, ?_⟩
      refine fin _ _ _ (memc _ _ _ _ [.int 3] (by simpa using elem_int (by decide) (by decide))) ?_ (by omega)
      simp; omega
  · obtain ⟨found, s3, s4, s5, s6, i1, i2, i3, i4, i5⟩ := i
    obtain ⟨sl, cr⟩ := env
    simp only at i1 i4 i5
    subst i1
    rw [hN2]
    simp [tupleW, W__law_odd, mRet, mSeq, mNext, mIfS, mSet, mPar, mDrop, mAndV, mOrV, mNotV, mAnd, mOr, mNot, mB, mIf, mCB, mCons, mNil, mVar, mC, mBin, mUn, mTup, mLst, mCall, mCallK, mChain, isiW, startE, DEnv.at, DEnv.put, D.isa, tyN, sixNames, isNum, isCnt, okD, ordW, intW, sizeLine, tyNames, lenW, mNever]
    refine ⟨by omega, fun od hod => ⟨_, _, rfl, rfl, by simp, by simp, by simp at i4; omega, fun y hy => h4 _ _ ?_ (by simp at i5; omega)⟩⟩
    have i3' : found.length ≤ 5 := by simpa using i3
    simp only [List.mem_cons, List.not_mem_nil, or_false] at hy
    rcases hy with rfl | rfl | rfl | rfl | rfl
    · exact .inl ⟨found, .inl rfl, i3', i2⟩
    · exact .inl ⟨found, .inl rfl, i3', i2⟩
    · exact .inl ⟨found, .inl rfl, i3', i2⟩
    · exact .inl ⟨found, .inr rfl, i3', i2⟩
    · exact .inr hod
theorem near_ok {d : D} (h : nearName d) : okS d ∧ d.sm 100 2 = true := by
  rcases h with h | ⟨x, rfl, hl, hc⟩
  · have : ∀ d ∈ nearL, (tyN d).isSome = true ∧ (match d with | .str x => decide (x.length ≤ sizeLine) && PyData.strOk x | _ => true) = true ∧ d.sm 100 2 = true := by decide +kernel
    obtain ⟨a, b, c⟩ := this d h
    refine ⟨⟨a, fun x e => ?_⟩, c⟩
    subst e
    simpa using b
  · refine ⟨⟨rfl, fun y e => ?_⟩, D.sm_mono (sm_str fun c h => by have := hc c h; omega) (by omega) (by decide)⟩
    cases e
    refine ⟨by unfold sizeLine; omega, ?_⟩
    unfold PyData.strOk
    rw [← Array.all_toList]
    refine List.all_eq_true.mpr fun c h => ?_
    have := hc c h
    simp; omega
theorem packet_ok {d : D} (h : nearPacket d) : okD d ∧ (∀ es, d = .tup es → ∀ e ∈ es, okD e) ∧ (∀ es, d = .tup es → es.length ≤ sizeLine) ∧ d.sm 20000 5 = true := by
  rcases h with ⟨es, h, hl, he⟩ | h
  · have hl' : es.length ≤ sizeLine := by unfold sizeLine; omega
    have hm : es.length * (2000 + 2) + 3 ≤ 20000 := by omega
    rcases h with rfl | rfl
    · exact ⟨rfl, fun es' e => by cases e; exact fun y hy => (he y hy).2, fun es' e => by cases e; exact hl', D.sm_mono (sm_tup fun y hy => (he y hy).1) hm (by decide)⟩
    · exact ⟨rfl, fun es' e => (by cases e), fun es' e => (by cases e), D.sm_mono (sm_lst fun y hy => (he y hy).1) hm (by decide)⟩
  · have : ∀ d ∈ oddL, (tyN d).isSome = true ∧ (match d with | .tup es => decide (es.length ≤ sizeLine) && es.all fun e => (tyN e).isSome | _ => true) = true ∧ d.sm 20000 5 = true := by decide +kernel
    obtain ⟨a, b, c⟩ := this d h
    refine ⟨a, fun es e y hy => ?_, fun es e => ?_, c⟩
    · subst e
      simp only [Bool.and_eq_true] at b
      exact List.all_eq_true.mp b.2 y hy
    · subst e
      simp only [Bool.and_eq_true, decide_eq_true_eq] at b
      exact b.1
theorem show_two (b : Bool) : (D.lst [.bl b, .bl b]).showable = true := by cases b <;> decide +kernel
theorem frame_fields : ∀ y ∈ frameL, isField (.str y) = true := by decide +kernel
end Fn
namespace Fn
open PySem L2 PySem.Spec PyProof.Rows DL
def clsL_k01 (C : Ad) : List Addr := [C.BadFields, C.BadNumbers, C.BadTree, C.TooMany, C.BadProgram, C.OtherFields, C.BadTest, C.BadPacket, C.BadMost, C.NoPlace, C.BadWord, C.BadTests, C.NoPart, C.BadLot, C.BadNet, C.BadRule, C.BadDeed, C.NothingLeft, C.BadJournal, C.BadText, C.BadName]
def okC_k01 (C : Ad) (c : Addr) : Prop := c ∈ clsL_k01 C
def attL_k01 (C : Ad) : List (Addr × List Str) := [(C.TooMany, ["what", "most"]), (C.BadProgram, ["part"]), (C.BadTest, ["part"]), (C.BadPacket, ["packet"]), (C.BadMost, ["most"]), (C.NoPlace, ["place"]), (C.BadWord, ["word"]), (C.BadTests, ["at"]), (C.NoPart, ["path"]), (C.BadNet, ["part"]), (C.BadRule, ["at"]), (C.BadDeed, ["deed"]), (C.BadJournal, ["at"]), (C.BadText, ["line"]), (C.BadName, ["name"])]
def saidE (c : Addr) : D := .exn c [] [.str "as said"]
def eachL (C : Ad) (a b : D) : List D := [saidE C.BadFields, saidE C.BadNumbers, saidE C.BadTree, .exn C.TooMany ["what", "most"] [a, b], .exn C.BadProgram ["part"] [a], saidE C.OtherFields, .exn C.BadTest ["part"] [a], .exn C.BadPacket ["packet"] [a], .exn C.BadMost ["most"] [a], .exn C.NoPlace ["place"] [a], .exn C.BadWord ["word"] [a],
  .exn C.BadTests ["at"] [a], .exn C.NoPart ["path"] [a], saidE C.BadLot, .exn C.BadNet ["part"] [a], .exn C.BadRule ["at"] [a], .exn C.BadDeed ["deed"] [a], saidE C.NothingLeft, .exn C.BadJournal ["at"] [a], .exn C.BadText ["line"] [a], .exn C.BadName ["name"] [a]]
def keepL (C : Ad) (a b : D) : List D := [.exn C.TooMany ["what", "most"] [a, b], .exn C.BadProgram ["part"] [a], .exn C.BadTest ["part"] [a], .exn C.BadPacket ["packet"] [a], .exn C.BadMost ["most"] [a], .exn C.NoPlace ["place"] [a], .exn C.BadWord ["word"] [a],
  .exn C.BadTests ["at"] [a], .exn C.NoPart ["path"] [a], .exn C.BadNet ["part"] [a], .exn C.BadRule ["at"] [a], .exn C.BadDeed ["deed"] [a], .exn C.BadJournal ["at"] [a], .exn C.BadText ["line"] [a], .exn C.BadName ["name"] [a]]
def marksL (i : Nat) : List D := (List.range 21).map fun j => D.bl (decide (i = j))
def W__law_marks (C : Ad) : WF := fun ds n k => ∃ c ns fs, ds = [.exn c ns fs] ∧ ((∃ i : Nat, (clsL_k01 C)[i]? = some c ∧ k (.lst (marksL i)) n) ∨ (c = C.WayError ∧ k (.lst (List.replicate 21 (.bl false))) n))
def W__law_each (C : Ad) : WF := fun ds n k => ∃ a b, ds = [a, b] ∧ k (.lst (eachL C a b)) n
def W__law_by_name (C : Ad) : WF := fun ds n k => ∃ a b, ds = [a, b] ∧ k (.lst (keepL C a b)) n
def W__law_kept (C : Ad) : WF := fun ds n k => ∃ a b, ds = [.lst (keepL C a b)] ∧ k (.lst (b :: List.replicate 15 a)) n
def W__law_keeping : WF := fun ds n k => ∃ C a b, ds = [.lst (eachL C a b)] ∧ k (.lst (keepL C a b)) n
theorem w__law_marks (C : Ad) : Good (W__law_marks C) 1 := ⟨fun ds n k k' h ⟨c, ns, fs, e, q⟩ => ⟨c, ns, fs, e, q.imp (fun ⟨i, a, q⟩ => ⟨i, a, h _ _ q⟩) fun ⟨a, q⟩ => ⟨a, h _ _ q⟩⟩, fun ds n k ⟨c, ns, fs, e, _⟩ => by rw [e]; rfl⟩
theorem w__law_each (C : Ad) : Good (W__law_each C) 2 := ⟨fun ds n k k' h ⟨a, b, e, q⟩ => ⟨a, b, e, h _ _ q⟩, fun ds n k ⟨a, b, e, _⟩ => by rw [e]; rfl⟩
theorem w__law_by_name (C : Ad) : Good (W__law_by_name C) 2 := ⟨fun ds n k k' h ⟨a, b, e, q⟩ => ⟨a, b, e, h _ _ q⟩, fun ds n k ⟨a, b, e, _⟩ => by rw [e]; rfl⟩
theorem w__law_kept (C : Ad) : Good (W__law_kept C) 1 := ⟨fun ds n k k' h ⟨a, b, e, q⟩ => ⟨a, b, e, h _ _ q⟩, fun ds n k ⟨a, b, e, _⟩ => by rw [e]; rfl⟩
theorem w__law_keeping : Good W__law_keeping 1 := ⟨fun ds n k k' h ⟨C, a, b, e, q⟩ => ⟨C, a, b, e, h _ _ q⟩, fun ds n k ⟨C, a, b, e, _⟩ => by rw [e]; rfl⟩
theorem isX_at {W : Addr} {L : List Addr} {c c1 : Addr} {ns : List Str} {fs : List D} {i j : Nat} {k : KD} (hi : L[i]? = some c) (hj : L[j]? = some c1) (q : k (.bl (decide (i = j)))) : isXW (relX W L) [.exn c ns fs, .cls c1] k :=
  ⟨c, ns, fs, _, _, _, rfl, rfl, .inl ⟨i, hi, .inl ⟨j, c1, hj, rfl, rfl⟩⟩, q⟩
theorem isX_w {W : Addr} {L : List Addr} {c1 : Addr} {ns : List Str} {fs : List D} {j : Nat} {k : KD} (hj : L[j]? = some c1) (q : k (.bl false)) : isXW (relX W L) [.exn W ns fs, .cls c1] k :=
  ⟨W, ns, fs, _, _, _, rfl, rfl, .inr ⟨rfl, .inl ⟨j, c1, hj, rfl, rfl⟩⟩, q⟩
abbrev n__law_marks : List Str := ["error", "found"]
def m__law_marks (C : Ad) : MS := (mSeq (mSet 1 (mLst (mCons (mCB (isXW (relX C.WayError (clsL_k01 C))) (mCons (mVar 0) (mCons (mC (.cls C.BadFields)) mNil))) (mCons (mCB (isXW (relX C.WayError (clsL_k01 C))) (mCons (mVar 0) (mCons (mC (.cls C.BadNumbers)) mNil))) (mCons (mCB (isXW (relX C.WayError (clsL_k01 C))) (mCons (mVar 0) (mCons (mC (.cls C.BadTree)) mNil))) mNil)))))
  (mSeq (mSet 1 (mBin addW (mVar 1) (mLst (mCons (mCB (isXW (relX C.WayError (clsL_k01 C))) (mCons (mVar 0) (mCons (mC (.cls C.TooMany)) mNil))) (mCons (mCB (isXW (relX C.WayError (clsL_k01 C))) (mCons (mVar 0) (mCons (mC (.cls C.BadProgram)) mNil))) (mCons (mCB (isXW (relX C.WayError (clsL_k01 C))) (mCons (mVar 0) (mCons (mC (.cls C.OtherFields)) mNil))) mNil))))))
  (mSeq (mSet 1 (mBin addW (mVar 1) (mLst (mCons (mCB (isXW (relX C.WayError (clsL_k01 C))) (mCons (mVar 0) (mCons (mC (.cls C.BadTest)) mNil))) (mCons (mCB (isXW (relX C.WayError (clsL_k01 C))) (mCons (mVar 0) (mCons (mC (.cls C.BadPacket)) mNil))) (mCons (mCB (isXW (relX C.WayError (clsL_k01 C))) (mCons (mVar 0) (mCons (mC (.cls C.BadMost)) mNil))) mNil))))))
  (mSeq (mSet 1 (mBin addW (mVar 1) (mLst (mCons (mCB (isXW (relX C.WayError (clsL_k01 C))) (mCons (mVar 0) (mCons (mC (.cls C.NoPlace)) mNil))) (mCons (mCB (isXW (relX C.WayError (clsL_k01 C))) (mCons (mVar 0) (mCons (mC (.cls C.BadWord)) mNil))) (mCons (mCB (isXW (relX C.WayError (clsL_k01 C))) (mCons (mVar 0) (mCons (mC (.cls C.BadTests)) mNil))) mNil))))))
  (mSeq (mSet 1 (mBin addW (mVar 1) (mLst (mCons (mCB (isXW (relX C.WayError (clsL_k01 C))) (mCons (mVar 0) (mCons (mC (.cls C.NoPart)) mNil))) (mCons (mCB (isXW (relX C.WayError (clsL_k01 C))) (mCons (mVar 0) (mCons (mC (.cls C.BadLot)) mNil))) (mCons (mCB (isXW (relX C.WayError (clsL_k01 C))) (mCons (mVar 0) (mCons (mC (.cls C.BadNet)) mNil))) mNil))))))
  (mSeq (mSet 1 (mBin addW (mVar 1) (mLst (mCons (mCB (isXW (relX C.WayError (clsL_k01 C))) (mCons (mVar 0) (mCons (mC (.cls C.BadRule)) mNil))) (mCons (mCB (isXW (relX C.WayError (clsL_k01 C))) (mCons (mVar 0) (mCons (mC (.cls C.BadDeed)) mNil))) (mCons (mCB (isXW (relX C.WayError (clsL_k01 C))) (mCons (mVar 0) (mCons (mC (.cls C.NothingLeft)) mNil))) mNil))))))
  (mRet (mBin addW (mVar 1) (mLst (mCons (mCB (isXW (relX C.WayError (clsL_k01 C))) (mCons (mVar 0) (mCons (mC (.cls C.BadJournal)) mNil))) (mCons (mCB (isXW (relX C.WayError (clsL_k01 C))) (mCons (mVar 0) (mCons (mC (.cls C.BadText)) mNil))) (mCons (mCB (isXW (relX C.WayError (clsL_k01 C))) (mCons (mVar 0) (mCons (mC (.cls C.BadName)) mNil))) mNil))))))))))))
theorem marks_go {C : Ad} {c : Addr} {ns : List Str} {fs : List D} {n : Nat} (f : Nat → Bool) (h : ∀ (j : Nat) (c1 : Addr) (k : KD), (clsL_k01 C)[j]? = some c1 → k (.bl (f j)) → isXW (relX C.WayError (clsL_k01 C)) [.exn c ns fs, .cls c1] k) {kk : D → Nat → Prop} (q : kk (.lst ((List.range 21).map fun j => D.bl (f j))) n) :
    m__law_marks C (startE n__law_marks.length [.exn c ns fs] n) { nx := fun e => kk .non e.cr, rt := fun d e => kk d e.cr } := by
  simp [m__law_marks, mRet, mSeq, mNext, mIfS, mSet, mPar, mDrop, mAndV, mOrV, mNotV, mAnd, mOr, mNot, mB, mIf, mCB, mCons, mNil, mVar, mC, mBin, mUn, mTup, mLst, mCall, mCallK, mChain, isiW, startE, DEnv.at, DEnv.put, D.isa, tyN, sixNames, isNum, isCnt, okD, ordW, intW, sizeLine, tyNames, lenW, mNever]
  refine h 0 _ _ rfl ?_
  refine h 1 _ _ rfl ?_
  refine h 2 _ _ rfl ?_
  refine h 3 _ _ rfl ?_
  refine h 4 _ _ rfl ?_
  refine h 5 _ _ rfl ?_
  refine ⟨by simp [sizeLine], ?_⟩
  refine h 6 _ _ rfl ?_
  refine h 7 _ _ rfl ?_
  refine h 8 _ _ rfl ?_
  refine ⟨by simp [sizeLine], ?_⟩
  refine h 9 _ _ rfl ?_
  refine h 10 _ _ rfl ?_
  refine h 11 _ _ rfl ?_
  refine ⟨by simp [sizeLine], ?_⟩
  refine h 12 _ _ rfl ?_
  refine h 13 _ _ rfl ?_
  refine h 14 _ _ rfl ?_
  refine ⟨by simp [sizeLine], ?_⟩
  refine h 15 _ _ rfl ?_
  refine h 16 _ _ rfl ?_
  refine h 17 _ _ rfl ?_
  refine ⟨by simp [sizeLine], ?_⟩
  refine h 18 _ _ rfl ?_
  refine h 19 _ _ rfl ?_
  refine h 20 _ _ rfl ?_
  refine ⟨by simp [sizeLine], ?_⟩
  exact q
theorem r__law_marks (C : Ad) : ∀ ds n kk, W__law_marks C ds n kk → m__law_marks C (startE n__law_marks.length ds n) { nx := fun e => kk .non e.cr, rt := fun d e => kk d e.cr } := by
  rintro ds n kk ⟨c, ns, fs, rfl, q⟩
  rcases q with ⟨i, hi, q⟩ | ⟨rfl, q⟩
  · exact marks_go (fun j => decide (i = j)) (fun j c1 k hj q => isX_at hi hj q) q
  · exact marks_go (fun j => false) (fun j c1 k hj q => isX_w hj q) q
abbrev n__law_each : List Str := ["matter", "more", "found"]
def m__law_each (C : Ad) : MS := (mSeq (mSet 2 (mLst (mCons (mCB (errW0 C.BadFields) (mCons (mC (.str "as said")) mNil)) (mCons (mCB (errW0 C.BadNumbers) (mCons (mC (.str "as said")) mNil)) (mCons (mCB (errW0 C.BadTree) (mCons (mC (.str "as said")) mNil)) (mCons (mCB (errW1 C.TooMany ["what", "most"]) (mCons (mVar 0) (mCons (mVar 1) mNil))) mNil))))))
  (mSeq (mSet 2 (mBin addW (mVar 2) (mLst (mCons (mCB (errW1 C.BadProgram ["part"]) (mCons (mVar 0) mNil)) (mCons (mCB (errW0 C.OtherFields) (mCons (mC (.str "as said")) mNil)) (mCons (mCB (errW1 C.BadTest ["part"]) (mCons (mVar 0) mNil)) (mCons (mCB (errW1 C.BadPacket ["packet"]) (mCons (mVar 0) mNil)) (mCons (mCB (errW1 C.BadMost ["most"]) (mCons (mVar 0) mNil)) mNil))))))))
  (mSeq (mSet 2 (mBin addW (mVar 2) (mLst (mCons (mCB (errW1 C.NoPlace ["place"]) (mCons (mVar 0) mNil)) (mCons (mCB (errW1 C.BadWord ["word"]) (mCons (mVar 0) mNil)) (mCons (mCB (errW1 C.BadTests ["at"]) (mCons (mVar 0) mNil)) (mCons (mCB (errW1 C.NoPart ["path"]) (mCons (mVar 0) mNil)) (mCons (mCB (errW0 C.BadLot) (mCons (mC (.str "as said")) mNil)) mNil))))))))
  (mSeq (mSet 2 (mBin addW (mVar 2) (mLst (mCons (mCB (errW1 C.BadNet ["part"]) (mCons (mVar 0) mNil)) (mCons (mCB (errW1 C.BadRule ["at"]) (mCons (mVar 0) mNil)) (mCons (mCB (errW1 C.BadDeed ["deed"]) (mCons (mVar 0) mNil)) (mCons (mCB (errW0 C.NothingLeft) (mCons (mC (.str "as said")) mNil)) (mCons (mCB (errW1 C.BadJournal ["at"]) (mCons (mVar 0) mNil)) mNil))))))))
  (mRet (mBin addW (mVar 2) (mLst (mCons (mCB (errW1 C.BadText ["line"]) (mCons (mVar 0) mNil)) (mCons (mCB (errW1 C.BadName ["name"]) (mCons (mVar 0) mNil)) mNil)))))))))
theorem r__law_each (C : Ad) : ∀ ds n kk, W__law_each C ds n kk → m__law_each C (startE n__law_each.length ds n) { nx := fun e => kk .non e.cr, rt := fun d e => kk d e.cr } := by
  rintro ds n kk ⟨a, b, rfl, q⟩
  simp [m__law_each, errW0, errW1, addW, mRet, mSeq, mNext, mIfS, mSet, mPar, mDrop, mAndV, mOrV, mNotV, mAnd, mOr, mNot, mB, mIf, mCB, mCons, mNil, mVar, mC, mBin, mUn, mTup, mLst, mCall, mCallK, mChain, isiW, startE, DEnv.at, DEnv.put, D.isa, tyN, sixNames, isNum, isCnt, okD, ordW, intW, sizeLine, tyNames, lenW, mNever]
  exact q
abbrev n__law_by_name : List Str := ["matter", "more", "found"]
def m__law_by_name (C : Ad) : MS := (mSeq (mSet 2 (mLst (mCons (mCBK (errW1 C.TooMany ["what", "most"]) 2 [1, 0] (mCons (mVar 1) (mCons (mVar 0) mNil))) (mCons (mCBK (errW1 C.BadProgram ["part"]) 1 [0] (mCons (mVar 0) mNil)) (mCons (mCBK (errW1 C.BadTest ["part"]) 1 [0] (mCons (mVar 0) mNil)) (mCons (mCBK (errW1 C.BadPacket ["packet"]) 1 [0] (mCons (mVar 0) mNil)) mNil))))))
  (mSeq (mSet 2 (mBin addW (mVar 2) (mLst (mCons (mCBK (errW1 C.BadMost ["most"]) 1 [0] (mCons (mVar 0) mNil)) (mCons (mCBK (errW1 C.NoPlace ["place"]) 1 [0] (mCons (mVar 0) mNil)) (mCons (mCBK (errW1 C.BadWord ["word"]) 1 [0] (mCons (mVar 0) mNil)) (mCons (mCBK (errW1 C.BadTests ["at"]) 1 [0] (mCons (mVar 0) mNil)) mNil)))))))
  (mSeq (mSet 2 (mBin addW (mVar 2) (mLst (mCons (mCBK (errW1 C.NoPart ["path"]) 1 [0] (mCons (mVar 0) mNil)) (mCons (mCBK (errW1 C.BadNet ["part"]) 1 [0] (mCons (mVar 0) mNil)) (mCons (mCBK (errW1 C.BadRule ["at"]) 1 [0] (mCons (mVar 0) mNil)) (mCons (mCBK (errW1 C.BadDeed ["deed"]) 1 [0] (mCons (mVar 0) mNil)) mNil)))))))
  (mRet (mBin addW (mVar 2) (mLst (mCons (mCBK (errW1 C.BadJournal ["at"]) 1 [0] (mCons (mVar 0) mNil)) (mCons (mCBK (errW1 C.BadText ["line"]) 1 [0] (mCons (mVar 0) mNil)) (mCons (mCBK (errW1 C.BadName ["name"]) 1 [0] (mCons (mVar 0) mNil)) mNil)))))))))
theorem r__law_by_name (C : Ad) : ∀ ds n kk, W__law_by_name C ds n kk → m__law_by_name C (startE n__law_by_name.length ds n) { nx := fun e => kk .non e.cr, rt := fun d e => kk d e.cr } := by
  rintro ds n kk ⟨a, b, rfl, q⟩
  simp [m__law_by_name, mCBK, errW1, addW, perm, mRet, mSeq, mNext, mIfS, mSet, mPar, mDrop, mAndV, mOrV, mNotV, mAnd, mOr, mNot, mB, mIf, mCB, mCons, mNil, mVar, mC, mBin, mUn, mTup, mLst, mCall, mCallK, mChain, isiW, startE, DEnv.at, DEnv.put, D.isa, tyN, sixNames, isNum, isCnt, okD, ordW, intW, sizeLine, tyNames, lenW, mNever]
  exact q
theorem kept_at {C : Ad} {a b : D} {env : DEnv} {k : D → DEnv → Prop} {f : Str} {c : Addr} {ns : List Str} {ds : List D} {d : D} (i : Nat) (hat : env.at 0 = .da (.lst (keepL C a b))) (hi : atI (keepL C a b) (i : Int) = some (.exn c ns ds)) (hm : (c, ns) ∈ attL_k01 C) (hf : f ∈ ns) (hl : ns.length = ds.length) (hd : (ns.zip ds).lookup f = some d) (q : k d env) :
    mAttrE (attX (attL_k01 C)) f (mBin ixW (mVar 0) (mC (.int (i : Int)))) env k := by
  simp only [mAttrE, mBin, mVar, hat, mC, ixW]
  exact ⟨_, hi, c, ns, ds, d, rfl, ⟨ns, hm, hf⟩, hl, hd, q⟩
theorem var_at {i : Nat} {env : DEnv} {d : D} {k : D → DEnv → Prop} (hat : env.at i = .da d) (q : k d env) : mVar i env k := by
  unfold mVar
  rw [hat]
  exact q
theorem bin_add {m1 m2 : ME} {env : DEnv} {k : D → DEnv → Prop} (h : m1 env fun x e1 => m2 e1 fun y e2 => addW x y fun d => k d e2) : mBin addW m1 m2 env k := h
abbrev n__law_kept : List Str := ["some", "found"]
def m__law_kept (C : Ad) : MS := (mSeq (mSet 1 (mLst (mCons (mAttrE (attX (attL_k01 C)) "what" (mBin ixW (mVar 0) (mC (.int 0)))) (mCons (mAttrE (attX (attL_k01 C)) "part" (mBin ixW (mVar 0) (mC (.int 1)))) (mCons (mAttrE (attX (attL_k01 C)) "part" (mBin ixW (mVar 0) (mC (.int 2)))) (mCons (mAttrE (attX (attL_k01 C)) "packet" (mBin ixW (mVar 0) (mC (.int 3)))) (mCons (mAttrE (attX (attL_k01 C)) "most" (mBin ixW (mVar 0) (mC (.int 4)))) (mCons (mAttrE (attX (attL_k01 C)) "place" (mBin ixW (mVar 0) (mC (.int 5)))) (mCons (mAttrE (attX (attL_k01 C)) "word" (mBin ixW (mVar 0) (mC (.int 6)))) mNil)))))))))
  (mSeq (mSet 1 (mBin addW (mVar 1) (mLst (mCons (mAttrE (attX (attL_k01 C)) "at" (mBin ixW (mVar 0) (mC (.int 7)))) (mCons (mAttrE (attX (attL_k01 C)) "path" (mBin ixW (mVar 0) (mC (.int 8)))) (mCons (mAttrE (attX (attL_k01 C)) "part" (mBin ixW (mVar 0) (mC (.int 9)))) (mCons (mAttrE (attX (attL_k01 C)) "at" (mBin ixW (mVar 0) (mC (.int 10)))) (mCons (mAttrE (attX (attL_k01 C)) "deed" (mBin ixW (mVar 0) (mC (.int 11)))) (mCons (mAttrE (attX (attL_k01 C)) "at" (mBin ixW (mVar 0) (mC (.int 12)))) (mCons (mAttrE (attX (attL_k01 C)) "line" (mBin ixW (mVar 0) (mC (.int 13)))) mNil))))))))))
  (mRet (mBin addW (mBin addW (mLst (mCons (mAttrE (attX (attL_k01 C)) "most" (mBin ixW (mVar 0) (mC (.int 0)))) mNil)) (mVar 1)) (mLst (mCons (mAttrE (attX (attL_k01 C)) "name" (mBin ixW (mVar 0) (mC (.int 14)))) mNil))))))
theorem r__law_kept (C : Ad) : ∀ ds n kk, W__law_kept C ds n kk → m__law_kept C (startE n__law_kept.length ds n) { nx := fun e => kk .non e.cr, rt := fun d e => kk d e.cr } := by
  rintro ds n kk ⟨a, b, rfl, q⟩
  refine seq_gen fun N hN => ?_
  simp only [mSet, mLst, mCons, mNil]
  refine kept_at (d := a) 0 rfl rfl (by simp [attL_k01]) (by simp) rfl (by first | rfl | decide +kernel) ?_
  refine kept_at (d := a) 1 rfl rfl (by simp [attL_k01]) (by simp) rfl (by first | rfl | decide +kernel) ?_
  refine kept_at (d := a) 2 rfl rfl (by simp [attL_k01]) (by simp) rfl (by first | rfl | decide +kernel) ?_
  refine kept_at (d := a) 3 rfl rfl (by simp [attL_k01]) (by simp) rfl (by first | rfl | decide +kernel) ?_
  refine kept_at (d := a) 4 rfl rfl (by simp [attL_k01]) (by simp) rfl (by first | rfl | decide +kernel) ?_
  refine kept_at (d := a) 5 rfl rfl (by simp [attL_k01]) (by simp) rfl (by first | rfl | decide +kernel) ?_
  refine kept_at (d := a) 6 rfl rfl (by simp [attL_k01]) (by simp) rfl (by first | rfl | decide +kernel) ?_
  refine ⟨by show 7 ≤ sizeLine; decide, ?_⟩
  rw [hN]
  refine seq_gen fun N2 hN2 => ?_
  simp only [mSet]
  refine bin_add ?_
  simp only [mLst, mCons, mNil]
  refine var_at rfl ?_
  refine kept_at (d := a) 7 rfl rfl (by simp [attL_k01]) (by simp) rfl (by first | rfl | decide +kernel) ?_
  refine kept_at (d := a) 8 rfl rfl (by simp [attL_k01]) (by simp) rfl (by first | rfl | decide +kernel) ?_
  refine kept_at (d := a) 9 rfl rfl (by simp [attL_k01]) (by simp) rfl (by first | rfl | decide +kernel) ?_
  refine kept_at (d := a) 10 rfl rfl (by simp [attL_k01]) (by simp) rfl (by first | rfl | decide +kernel) ?_
  refine kept_at (d := a) 11 rfl rfl (by simp [attL_k01]) (by simp) rfl (by first | rfl | decide +kernel) ?_
  refine kept_at (d := a) 12 rfl rfl (by simp [attL_k01]) (by simp) rfl (by first | rfl | decide +kernel) ?_
  refine kept_at (d := a) 13 rfl rfl (by simp [attL_k01]) (by simp) rfl (by first | rfl | decide +kernel) ?_
  refine ⟨by show 7 ≤ sizeLine; decide, by show 7 + 7 ≤ sizeLine; decide, ?_⟩
  rw [hN2]
  simp only [mRet]
  refine bin_add (bin_add ?_)
  simp only [mLst, mCons, mNil]
  refine kept_at (d := b) 0 rfl rfl (by simp [attL_k01]) (by simp) rfl (by first | rfl | decide +kernel) ?_
  refine ⟨by show 1 ≤ sizeLine; decide, ?_⟩
  refine var_at rfl ?_
  refine ⟨by show 1 + 14 ≤ sizeLine; decide, ?_⟩
  refine kept_at (d := a) 14 rfl rfl (by simp [attL_k01]) (by simp) rfl (by first | rfl | decide +kernel) ?_
  refine ⟨by show 1 ≤ sizeLine; decide, by show 15 + 1 ≤ sizeLine; decide, ?_⟩
  exact q
abbrev n__law_keeping : List Str := ["some", "spot"]
def m__law_keeping : MS := (mRet (mLc 1 (mIter (mLst (mCons (mC (.int 3)) (mCons (mC (.int 4)) (mCons (mC (.int 6)) (mCons (mC (.int 7)) (mCons (mC (.int 8)) (mCons (mC (.int 9)) (mCons (mC (.int 10)) (mCons (mC (.int 11)) (mCons (mC (.int 12)) (mCons (mC (.int 14)) (mCons (mC (.int 15)) (mCons (mC (.int 16)) (mCons (mC (.int 18)) (mCons (mC (.int 19)) (mCons (mC (.int 20)) mNil))))))))))))))))) mYes (mBin ixW (mVar 0) (mVar 1))))
theorem r__law_keeping : ∀ ds n kk, W__law_keeping ds n kk → m__law_keeping (startE n__law_keeping.length ds n) { nx := fun e => kk .non e.cr, rt := fun d e => kk d e.cr } := by
  rintro ds n kk ⟨C, a, b, rfl, q⟩
  simp [m__law_keeping, mLc, mIter, mRet, mSeq, mNext, mIfS, mSet, mPar, mDrop, mAndV, mOrV, mNotV, mAnd, mOr, mNot, mB, mIf, mCB, mCons, mNil, mVar, mC, mBin, mUn, mTup, mLst, mCall, mCallK, mChain, isiW, startE, DEnv.at, DEnv.put, D.isa, tyN, sixNames, isNum, isCnt, okD, ordW, intW, sizeLine, tyNames, lenW, mNever]
  refine compW_pure (f := fun d => match d with | .int i => (atI (eachL C a b) i).getD .non | _ => .non) _ _ _ (fun d hd k' q => ?_) (by show 0 + 15 ≤ sizeLine; decide) q
  simp only [List.mem_cons, List.not_mem_nil, or_false] at hd
  rcases hd with rfl | rfl | rfl | rfl | rfl | rfl | rfl | rfl | rfl | rfl | rfl | rfl | rfl | rfl | rfl <;> exact ⟨_, rfl, q⟩
end Fn
namespace K01
open PySem L2 PySem.Spec PyProof.Rows DL Fn
def top (i : Nat) : Stmt := PySem.Challenge.pw_markedways_k01_errors_apart.main.body.getD i (.Pass ⟨0, 0, 0, 0⟩)
abbrev i_TooMany : Stmt := clsInit (top 5)
theorem io_TooMany : InitOk ["what", "most"] i_TooMany := ⟨⟨_, _, _, _, _, _, _, _, _, rfl, rfl, .cons (.cons (.nil))⟩, ⟨_, rfl, rfl⟩, rfl, rfl, by decide +kernel, by decide +kernel, rfl, rfl, rfl⟩
theorem eb_TooMany : ErrB ["what", "most"] i_TooMany := fun _ _ _ _ _ _ _ _ _ us hl => match us, hl with | [_, _], _ => rfl
theorem en_TooMany : ErrN ["what", "most"] := ⟨by decide, by decide, by decide, by decide⟩
theorem ebk_TooMany : ErrBK ["what", "most"] ["most", "what"] [1, 0] i_TooMany := fun _ _ _ _ _ _ _ _ _ us hl => match us, hl with | [_, _], _ => rfl
abbrev i_BadProgram : Stmt := clsInit (top 6)
theorem io_BadProgram : InitOk ["part"] i_BadProgram := ⟨⟨_, _, _, _, _, _, _, _, _, rfl, rfl, .cons (.nil)⟩, ⟨_, rfl, rfl⟩, rfl, rfl, by decide +kernel, by decide +kernel, rfl, rfl, rfl⟩
theorem eb_BadProgram : ErrB ["part"] i_BadProgram := fun _ _ _ _ _ _ _ _ _ us hl => match us, hl with | [_], _ => rfl
theorem en_BadProgram : ErrN ["part"] := ⟨by decide, by decide, by decide, by decide⟩
theorem ebk_BadProgram : ErrBK ["part"] ["part"] [0] i_BadProgram := fun _ _ _ _ _ _ _ _ _ us hl => match us, hl with | [_], _ => rfl
abbrev i_BadTest : Stmt := clsInit (top 8)
theorem io_BadTest : InitOk ["part"] i_BadTest := ⟨⟨_, _, _, _, _, _, _, _, _, rfl, rfl, .cons (.nil)⟩, ⟨_, rfl, rfl⟩, rfl, rfl, by decide +kernel, by decide +kernel, rfl, rfl, rfl⟩
theorem eb_BadTest : ErrB ["part"] i_BadTest := fun _ _ _ _ _ _ _ _ _ us hl => match us, hl with | [_], _ => rfl
theorem en_BadTest : ErrN ["part"] := ⟨by decide, by decide, by decide, by decide⟩
theorem ebk_BadTest : ErrBK ["part"] ["part"] [0] i_BadTest := fun _ _ _ _ _ _ _ _ _ us hl => match us, hl with | [_], _ => rfl
abbrev i_BadPacket : Stmt := clsInit (top 9)
theorem io_BadPacket : InitOk ["packet"] i_BadPacket := ⟨⟨_, _, _, _, _, _, _, _, _, rfl, rfl, .cons (.nil)⟩, ⟨_, rfl, rfl⟩, rfl, rfl, by decide +kernel, by decide +kernel, rfl, rfl, rfl⟩
theorem eb_BadPacket : ErrB ["packet"] i_BadPacket := fun _ _ _ _ _ _ _ _ _ us hl => match us, hl with | [_], _ => rfl
theorem en_BadPacket : ErrN ["packet"] := ⟨by decide, by decide, by decide, by decide⟩
theorem ebk_BadPacket : ErrBK ["packet"] ["packet"] [0] i_BadPacket := fun _ _ _ _ _ _ _ _ _ us hl => match us, hl with | [_], _ => rfl
abbrev i_BadMost : Stmt := clsInit (top 10)
theorem io_BadMost : InitOk ["most"] i_BadMost := ⟨⟨_, _, _, _, _, _, _, _, _, rfl, rfl, .cons (.nil)⟩, ⟨_, rfl, rfl⟩, rfl, rfl, by decide +kernel, by decide +kernel, rfl, rfl, rfl⟩
theorem eb_BadMost : ErrB ["most"] i_BadMost := fun _ _ _ _ _ _ _ _ _ us hl => match us, hl with | [_], _ => rfl
theorem en_BadMost : ErrN ["most"] := ⟨by decide, by decide, by decide, by decide⟩
theorem ebk_BadMost : ErrBK ["most"] ["most"] [0] i_BadMost := fun _ _ _ _ _ _ _ _ _ us hl => match us, hl with | [_], _ => rfl
abbrev i_NoPlace : Stmt := clsInit (top 11)
theorem io_NoPlace : InitOk ["place"] i_NoPlace := ⟨⟨_, _, _, _, _, _, _, _, _, rfl, rfl, .cons (.nil)⟩, ⟨_, rfl, rfl⟩, rfl, rfl, by decide +kernel, by decide +kernel, rfl, rfl, rfl⟩
theorem eb_NoPlace : ErrB ["place"] i_NoPlace := fun _ _ _ _ _ _ _ _ _ us hl => match us, hl with | [_], _ => rfl
theorem en_NoPlace : ErrN ["place"] := ⟨by decide, by decide, by decide, by decide⟩
theorem ebk_NoPlace : ErrBK ["place"] ["place"] [0] i_NoPlace := fun _ _ _ _ _ _ _ _ _ us hl => match us, hl with | [_], _ => rfl
abbrev i_BadWord : Stmt := clsInit (top 12)
theorem io_BadWord : InitOk ["word"] i_BadWord := ⟨⟨_, _, _, _, _, _, _, _, _, rfl, rfl, .cons (.nil)⟩, ⟨_, rfl, rfl⟩, rfl, rfl, by decide +kernel, by decide +kernel, rfl, rfl, rfl⟩
theorem eb_BadWord : ErrB ["word"] i_BadWord := fun _ _ _ _ _ _ _ _ _ us hl => match us, hl with | [_], _ => rfl
theorem en_BadWord : ErrN ["word"] := ⟨by decide, by decide, by decide, by decide⟩
theorem ebk_BadWord : ErrBK ["word"] ["word"] [0] i_BadWord := fun _ _ _ _ _ _ _ _ _ us hl => match us, hl with | [_], _ => rfl
abbrev i_BadTests : Stmt := clsInit (top 13)
theorem io_BadTests : InitOk ["at"] i_BadTests := ⟨⟨_, _, _, _, _, _, _, _, _, rfl, rfl, .cons (.nil)⟩, ⟨_, rfl, rfl⟩, rfl, rfl, by decide +kernel, by decide +kernel, rfl, rfl, rfl⟩
theorem eb_BadTests : ErrB ["at"] i_BadTests := fun _ _ _ _ _ _ _ _ _ us hl => match us, hl with | [_], _ => rfl
theorem en_BadTests : ErrN ["at"] := ⟨by decide, by decide, by decide, by decide⟩
theorem ebk_BadTests : ErrBK ["at"] ["at"] [0] i_BadTests := fun _ _ _ _ _ _ _ _ _ us hl => match us, hl with | [_], _ => rfl
abbrev i_NoPart : Stmt := clsInit (top 14)
theorem io_NoPart : InitOk ["path"] i_NoPart := ⟨⟨_, _, _, _, _, _, _, _, _, rfl, rfl, .cons (.nil)⟩, ⟨_, rfl, rfl⟩, rfl, rfl, by decide +kernel, by decide +kernel, rfl, rfl, rfl⟩
theorem eb_NoPart : ErrB ["path"] i_NoPart := fun _ _ _ _ _ _ _ _ _ us hl => match us, hl with | [_], _ => rfl
theorem en_NoPart : ErrN ["path"] := ⟨by decide, by decide, by decide, by decide⟩
theorem ebk_NoPart : ErrBK ["path"] ["path"] [0] i_NoPart := fun _ _ _ _ _ _ _ _ _ us hl => match us, hl with | [_], _ => rfl
abbrev i_BadNet : Stmt := clsInit (top 16)
theorem io_BadNet : InitOk ["part"] i_BadNet := ⟨⟨_, _, _, _, _, _, _, _, _, rfl, rfl, .cons (.nil)⟩, ⟨_, rfl, rfl⟩, rfl, rfl, by decide +kernel, by decide +kernel, rfl, rfl, rfl⟩
theorem eb_BadNet : ErrB ["part"] i_BadNet := fun _ _ _ _ _ _ _ _ _ us hl => match us, hl with | [_], _ => rfl
theorem en_BadNet : ErrN ["part"] := ⟨by decide, by decide, by decide, by decide⟩
theorem ebk_BadNet : ErrBK ["part"] ["part"] [0] i_BadNet := fun _ _ _ _ _ _ _ _ _ us hl => match us, hl with | [_], _ => rfl
abbrev i_BadRule : Stmt := clsInit (top 17)
theorem io_BadRule : InitOk ["at"] i_BadRule := ⟨⟨_, _, _, _, _, _, _, _, _, rfl, rfl, .cons (.nil)⟩, ⟨_, rfl, rfl⟩, rfl, rfl, by decide +kernel, by decide +kernel, rfl, rfl, rfl⟩
theorem eb_BadRule : ErrB ["at"] i_BadRule := fun _ _ _ _ _ _ _ _ _ us hl => match us, hl with | [_], _ => rfl
theorem en_BadRule : ErrN ["at"] := ⟨by decide, by decide, by decide, by decide⟩
theorem ebk_BadRule : ErrBK ["at"] ["at"] [0] i_BadRule := fun _ _ _ _ _ _ _ _ _ us hl => match us, hl with | [_], _ => rfl
abbrev i_BadDeed : Stmt := clsInit (top 18)
theorem io_BadDeed : InitOk ["deed"] i_BadDeed := ⟨⟨_, _, _, _, _, _, _, _, _, rfl, rfl, .cons (.nil)⟩, ⟨_, rfl, rfl⟩, rfl, rfl, by decide +kernel, by decide +kernel, rfl, rfl, rfl⟩
theorem eb_BadDeed : ErrB ["deed"] i_BadDeed := fun _ _ _ _ _ _ _ _ _ us hl => match us, hl with | [_], _ => rfl
theorem en_BadDeed : ErrN ["deed"] := ⟨by decide, by decide, by decide, by decide⟩
theorem ebk_BadDeed : ErrBK ["deed"] ["deed"] [0] i_BadDeed := fun _ _ _ _ _ _ _ _ _ us hl => match us, hl with | [_], _ => rfl
abbrev i_BadJournal : Stmt := clsInit (top 20)
theorem io_BadJournal : InitOk ["at"] i_BadJournal := ⟨⟨_, _, _, _, _, _, _, _, _, rfl, rfl, .cons (.nil)⟩, ⟨_, rfl, rfl⟩, rfl, rfl, by decide +kernel, by decide +kernel, rfl, rfl, rfl⟩
theorem eb_BadJournal : ErrB ["at"] i_BadJournal := fun _ _ _ _ _ _ _ _ _ us hl => match us, hl with | [_], _ => rfl
theorem en_BadJournal : ErrN ["at"] := ⟨by decide, by decide, by decide, by decide⟩
theorem ebk_BadJournal : ErrBK ["at"] ["at"] [0] i_BadJournal := fun _ _ _ _ _ _ _ _ _ us hl => match us, hl with | [_], _ => rfl
abbrev i_BadText : Stmt := clsInit (top 21)
theorem io_BadText : InitOk ["line"] i_BadText := ⟨⟨_, _, _, _, _, _, _, _, _, rfl, rfl, .cons (.nil)⟩, ⟨_, rfl, rfl⟩, rfl, rfl, by decide +kernel, by decide +kernel, rfl, rfl, rfl⟩
theorem eb_BadText : ErrB ["line"] i_BadText := fun _ _ _ _ _ _ _ _ _ us hl => match us, hl with | [_], _ => rfl
theorem en_BadText : ErrN ["line"] := ⟨by decide, by decide, by decide, by decide⟩
theorem ebk_BadText : ErrBK ["line"] ["line"] [0] i_BadText := fun _ _ _ _ _ _ _ _ _ us hl => match us, hl with | [_], _ => rfl
abbrev i_BadName : Stmt := clsInit (top 22)
theorem io_BadName : InitOk ["name"] i_BadName := ⟨⟨_, _, _, _, _, _, _, _, _, rfl, rfl, .cons (.nil)⟩, ⟨_, rfl, rfl⟩, rfl, rfl, by decide +kernel, by decide +kernel, rfl, rfl, rfl⟩
theorem eb_BadName : ErrB ["name"] i_BadName := fun _ _ _ _ _ _ _ _ _ us hl => match us, hl with | [_], _ => rfl
theorem en_BadName : ErrN ["name"] := ⟨by decide, by decide, by decide, by decide⟩
theorem ebk_BadName : ErrBK ["name"] ["name"] [0] i_BadName := fun _ _ _ _ _ _ _ _ _ us hl => match us, hl with | [_], _ => rfl
structure Cls (P : Program) (C : Ad) (K : PySem.W.Frag) (mg : Str → Option Value) : Prop where
  c_WayError : ClsE K mg "WayError" C.WayError
  c_BadFields : ClsE K mg "BadFields" C.BadFields
  c_BadNumbers : ClsE K mg "BadNumbers" C.BadNumbers
  c_BadTree : ClsE K mg "BadTree" C.BadTree
  c_TooMany : ClsE K mg "TooMany" C.TooMany
  c_BadProgram : ClsE K mg "BadProgram" C.BadProgram
  c_OtherFields : ClsE K mg "OtherFields" C.OtherFields
  c_BadTest : ClsE K mg "BadTest" C.BadTest
  c_BadPacket : ClsE K mg "BadPacket" C.BadPacket
  c_BadMost : ClsE K mg "BadMost" C.BadMost
  c_NoPlace : ClsE K mg "NoPlace" C.NoPlace
  c_BadWord : ClsE K mg "BadWord" C.BadWord
  c_BadTests : ClsE K mg "BadTests" C.BadTests
  c_NoPart : ClsE K mg "NoPart" C.NoPart
  c_BadLot : ClsE K mg "BadLot" C.BadLot
  c_BadNet : ClsE K mg "BadNet" C.BadNet
  c_BadRule : ClsE K mg "BadRule" C.BadRule
  c_BadDeed : ClsE K mg "BadDeed" C.BadDeed
  c_NothingLeft : ClsE K mg "NothingLeft" C.NothingLeft
  c_BadJournal : ClsE K mg "BadJournal" C.BadJournal
  c_BadText : ClsE K mg "BadText" C.BadText
  c_BadName : ClsE K mg "BadName" C.BadName
  e_WayError : PySem.W.excIn K C.WayError veB "ValueError.__new__" = true
  e_BadFields : PySem.W.excIn K C.BadFields veB "ValueError.__new__" = true
  e_BadNumbers : PySem.W.excIn K C.BadNumbers veB "ValueError.__new__" = true
  e_BadTree : PySem.W.excIn K C.BadTree veB "ValueError.__new__" = true
  k_TooMany : ErrK P K C.TooMany ["what", "most"] i_TooMany
  k_BadProgram : ErrK P K C.BadProgram ["part"] i_BadProgram
  e_OtherFields : PySem.W.excIn K C.OtherFields veB "ValueError.__new__" = true
  k_BadTest : ErrK P K C.BadTest ["part"] i_BadTest
  k_BadPacket : ErrK P K C.BadPacket ["packet"] i_BadPacket
  k_BadMost : ErrK P K C.BadMost ["most"] i_BadMost
  k_NoPlace : ErrK P K C.NoPlace ["place"] i_NoPlace
  k_BadWord : ErrK P K C.BadWord ["word"] i_BadWord
  k_BadTests : ErrK P K C.BadTests ["at"] i_BadTests
  k_NoPart : ErrK P K C.NoPart ["path"] i_NoPart
  e_BadLot : PySem.W.excIn K C.BadLot veB "ValueError.__new__" = true
  k_BadNet : ErrK P K C.BadNet ["part"] i_BadNet
  k_BadRule : ErrK P K C.BadRule ["at"] i_BadRule
  k_BadDeed : ErrK P K C.BadDeed ["deed"] i_BadDeed
  e_NothingLeft : PySem.W.excIn K C.NothingLeft veB "ValueError.__new__" = true
  k_BadJournal : ErrK P K C.BadJournal ["at"] i_BadJournal
  k_BadText : ErrK P K C.BadText ["line"] i_BadText
  k_BadName : ErrK P K C.BadName ["name"] i_BadName
  m_WayError : ∃ cd, PySem.W.clsIn K C.WayError = some cd ∧ cd.mro = .ref C.WayError :: veB
  m_BadFields : ∃ cd, PySem.W.clsIn K C.BadFields = some cd ∧ cd.mro = .ref C.BadFields :: .ref C.WayError :: veB
  m_BadNumbers : ∃ cd, PySem.W.clsIn K C.BadNumbers = some cd ∧ cd.mro = .ref C.BadNumbers :: .ref C.WayError :: veB
  m_BadTree : ∃ cd, PySem.W.clsIn K C.BadTree = some cd ∧ cd.mro = .ref C.BadTree :: .ref C.WayError :: veB
  m_TooMany : ∃ cd, PySem.W.clsIn K C.TooMany = some cd ∧ cd.mro = .ref C.TooMany :: .ref C.WayError :: veB
  m_BadProgram : ∃ cd, PySem.W.clsIn K C.BadProgram = some cd ∧ cd.mro = .ref C.BadProgram :: .ref C.WayError :: veB
  m_OtherFields : ∃ cd, PySem.W.clsIn K C.OtherFields = some cd ∧ cd.mro = .ref C.OtherFields :: .ref C.WayError :: veB
  m_BadTest : ∃ cd, PySem.W.clsIn K C.BadTest = some cd ∧ cd.mro = .ref C.BadTest :: .ref C.WayError :: veB
  m_BadPacket : ∃ cd, PySem.W.clsIn K C.BadPacket = some cd ∧ cd.mro = .ref C.BadPacket :: .ref C.WayError :: veB
  m_BadMost : ∃ cd, PySem.W.clsIn K C.BadMost = some cd ∧ cd.mro = .ref C.BadMost :: .ref C.WayError :: veB
  m_NoPlace : ∃ cd, PySem.W.clsIn K C.NoPlace = some cd ∧ cd.mro = .ref C.NoPlace :: .ref C.WayError :: veB
  m_BadWord : ∃ cd, PySem.W.clsIn K C.BadWord = some cd ∧ cd.mro = .ref C.BadWord :: .ref C.WayError :: veB
  m_BadTests : ∃ cd, PySem.W.clsIn K C.BadTests = some cd ∧ cd.mro = .ref C.BadTests :: .ref C.WayError :: veB
  m_NoPart : ∃ cd, PySem.W.clsIn K C.NoPart = some cd ∧ cd.mro = .ref C.NoPart :: .ref C.WayError :: veB
  m_BadLot : ∃ cd, PySem.W.clsIn K C.BadLot = some cd ∧ cd.mro = .ref C.BadLot :: .ref C.WayError :: veB
  m_BadNet : ∃ cd, PySem.W.clsIn K C.BadNet = some cd ∧ cd.mro = .ref C.BadNet :: .ref C.WayError :: veB
  m_BadRule : ∃ cd, PySem.W.clsIn K C.BadRule = some cd ∧ cd.mro = .ref C.BadRule :: .ref C.WayError :: veB
  m_BadDeed : ∃ cd, PySem.W.clsIn K C.BadDeed = some cd ∧ cd.mro = .ref C.BadDeed :: .ref C.WayError :: veB
  m_NothingLeft : ∃ cd, PySem.W.clsIn K C.NothingLeft = some cd ∧ cd.mro = .ref C.NothingLeft :: .ref C.WayError :: veB
  m_BadJournal : ∃ cd, PySem.W.clsIn K C.BadJournal = some cd ∧ cd.mro = .ref C.BadJournal :: .ref C.WayError :: veB
  m_BadText : ∃ cd, PySem.W.clsIn K C.BadText = some cd ∧ cd.mro = .ref C.BadText :: .ref C.WayError :: veB
  m_BadName : ∃ cd, PySem.W.clsIn K C.BadName = some cd ∧ cd.mro = .ref C.BadName :: .ref C.WayError :: veB
  t_WayError : PySem.W.findIn K (.ref C.WayError) "__str__" = some (some (.builtin "BaseException.__str__"))
  t_BadFields : PySem.W.findIn K (.ref C.BadFields) "__str__" = some (some (.builtin "BaseException.__str__"))
  t_BadNumbers : PySem.W.findIn K (.ref C.BadNumbers) "__str__" = some (some (.builtin "BaseException.__str__"))
  t_BadTree : PySem.W.findIn K (.ref C.BadTree) "__str__" = some (some (.builtin "BaseException.__str__"))
  t_TooMany : PySem.W.findIn K (.ref C.TooMany) "__str__" = some (some (.builtin "BaseException.__str__"))
  t_BadProgram : PySem.W.findIn K (.ref C.BadProgram) "__str__" = some (some (.builtin "BaseException.__str__"))
  t_OtherFields : PySem.W.findIn K (.ref C.OtherFields) "__str__" = some (some (.builtin "BaseException.__str__"))
  t_BadTest : PySem.W.findIn K (.ref C.BadTest) "__str__" = some (some (.builtin "BaseException.__str__"))
  t_BadPacket : PySem.W.findIn K (.ref C.BadPacket) "__str__" = some (some (.builtin "BaseException.__str__"))
  t_BadMost : PySem.W.findIn K (.ref C.BadMost) "__str__" = some (some (.builtin "BaseException.__str__"))
  t_NoPlace : PySem.W.findIn K (.ref C.NoPlace) "__str__" = some (some (.builtin "BaseException.__str__"))
  t_BadWord : PySem.W.findIn K (.ref C.BadWord) "__str__" = some (some (.builtin "BaseException.__str__"))
  t_BadTests : PySem.W.findIn K (.ref C.BadTests) "__str__" = some (some (.builtin "BaseException.__str__"))
  t_NoPart : PySem.W.findIn K (.ref C.NoPart) "__str__" = some (some (.builtin "BaseException.__str__"))
  t_BadLot : PySem.W.findIn K (.ref C.BadLot) "__str__" = some (some (.builtin "BaseException.__str__"))
  t_BadNet : PySem.W.findIn K (.ref C.BadNet) "__str__" = some (some (.builtin "BaseException.__str__"))
  t_BadRule : PySem.W.findIn K (.ref C.BadRule) "__str__" = some (some (.builtin "BaseException.__str__"))
  t_BadDeed : PySem.W.findIn K (.ref C.BadDeed) "__str__" = some (some (.builtin "BaseException.__str__"))
  t_NothingLeft : PySem.W.findIn K (.ref C.NothingLeft) "__str__" = some (some (.builtin "BaseException.__str__"))
  t_BadJournal : PySem.W.findIn K (.ref C.BadJournal) "__str__" = some (some (.builtin "BaseException.__str__"))
  t_BadText : PySem.W.findIn K (.ref C.BadText) "__str__" = some (some (.builtin "BaseException.__str__"))
  t_BadName : PySem.W.findIn K (.ref C.BadName) "__str__" = some (some (.builtin "BaseException.__str__"))
  nd : [C.WayError, C.BadFields, C.BadNumbers, C.BadTree, C.TooMany, C.BadProgram, C.OtherFields, C.BadTest, C.BadPacket, C.BadMost, C.NoPlace, C.BadWord, C.BadTests, C.NoPart, C.BadLot, C.BadNet, C.BadRule, C.BadDeed, C.NothingLeft, C.BadJournal, C.BadText, C.BadName].Nodup
theorem cls_mk {P : Program} {K : PySem.W.Frag} {mg : Str → Option Value} {a_WayError a_BadFields a_BadNumbers a_BadTree a_TooMany a_BadProgram a_OtherFields a_BadTest a_BadPacket a_BadMost a_NoPlace a_BadWord a_BadTests a_NoPart a_BadLot a_BadNet a_BadRule a_BadDeed a_NothingLeft a_BadJournal a_BadText a_BadName : Addr} (c_WayError : ClsE K mg "WayError" a_WayError) (c_BadFields : ClsE K mg "BadFields" a_BadFields) (c_BadNumbers : ClsE K mg "BadNumbers" a_BadNumbers) (c_BadTree : ClsE K mg "BadTree" a_BadTree) (c_TooMany : ClsE K mg "TooMany" a_TooMany) (c_BadProgram : ClsE K mg "BadProgram" a_BadProgram) (c_OtherFields : ClsE K mg "OtherFields" a_OtherFields) (c_BadTest : ClsE K mg "BadTest" a_BadTest) (c_BadPacket : ClsE K mg "BadPacket" a_BadPacket) (c_BadMost : ClsE K mg "BadMost" a_BadMost) (c_NoPlace : ClsE K mg "NoPlace" a_NoPlace) (c_BadWord : ClsE K mg "BadWord" a_BadWord) (c_BadTests : ClsE K mg "BadTests" a_BadTests) (c_NoPart : ClsE K mg "NoPart" a_NoPart) (c_BadLot : ClsE K mg "BadLot" a_BadLot) (c_BadNet : ClsE K mg "BadNet" a_BadNet) (c_BadRule : ClsE K mg "BadRule" a_BadRule) (c_BadDeed : ClsE K mg "BadDeed" a_BadDeed) (c_NothingLeft : ClsE K mg "NothingLeft" a_NothingLeft) (c_BadJournal : ClsE K mg "BadJournal" a_BadJournal) (c_BadText : ClsE K mg "BadText" a_BadText) (c_BadName : ClsE K mg "BadName" a_BadName) (e_WayError : PySem.W.excIn K a_WayError veB "ValueError.__new__" = true) (e_BadFields : PySem.W.excIn K a_BadFields veB "ValueError.__new__" = true) (e_BadNumbers : PySem.W.excIn K a_BadNumbers veB "ValueError.__new__" = true) (e_BadTree : PySem.W.excIn K a_BadTree veB "ValueError.__new__" = true) (k_TooMany : ErrK P K a_TooMany ["what", "most"] i_TooMany) (k_BadProgram : ErrK P K a_BadProgram ["part"] i_BadProgram) (e_OtherFields : PySem.W.excIn K a_OtherFields veB "ValueError.__new__" = true) (k_BadTest : ErrK P K a_BadTest ["part"] i_BadTest) (k_BadPacket : ErrK P K a_BadPacket ["packet"] i_BadPacket) (k_BadMost : ErrK P K a_BadMost ["most"] i_BadMost) (k_NoPlace : ErrK P K a_NoPlace ["place"] i_NoPlace) (k_BadWord : ErrK P K a_BadWord ["word"] i_BadWord) (k_BadTests : ErrK P K a_BadTests ["at"] i_BadTests) (k_NoPart : ErrK P K a_NoPart ["path"] i_NoPart) (e_BadLot : PySem.W.excIn K a_BadLot veB "ValueError.__new__" = true) (k_BadNet : ErrK P K a_BadNet ["part"] i_BadNet) (k_BadRule : ErrK P K a_BadRule ["at"] i_BadRule) (k_BadDeed : ErrK P K a_BadDeed ["deed"] i_BadDeed) (e_NothingLeft : PySem.W.excIn K a_NothingLeft veB "ValueError.__new__" = true) (k_BadJournal : ErrK P K a_BadJournal ["at"] i_BadJournal) (k_BadText : ErrK P K a_BadText ["line"] i_BadText) (k_BadName : ErrK P K a_BadName ["name"] i_BadName) (m_WayError : ∃ cd, PySem.W.clsIn K a_WayError = some cd ∧ cd.mro = .ref a_WayError :: veB) (m_BadFields : ∃ cd, PySem.W.clsIn K a_BadFields = some cd ∧ cd.mro = .ref a_BadFields :: .ref a_WayError :: veB) (m_BadNumbers : ∃ cd, PySem.W.clsIn K a_BadNumbers = some cd ∧ cd.mro = .ref a_BadNumbers :: .ref a_WayError :: veB) (m_BadTree : ∃ cd, PySem.W.clsIn K a_BadTree = some cd ∧ cd.mro = .ref a_BadTree :: .ref a_WayError :: veB) (m_TooMany : ∃ cd, PySem.W.clsIn K a_TooMany = some cd ∧ cd.mro = .ref a_TooMany :: .ref a_WayError :: veB) (m_BadProgram : ∃ cd, PySem.W.clsIn K a_BadProgram = some cd ∧ cd.mro = .ref a_BadProgram :: .ref a_WayError :: veB) (m_OtherFields : ∃ cd, PySem.W.clsIn K a_OtherFields = some cd ∧ cd.mro = .ref a_OtherFields :: .ref a_WayError :: veB) (m_BadTest : ∃ cd, PySem.W.clsIn K a_BadTest = some cd ∧ cd.mro = .ref a_BadTest :: .ref a_WayError :: veB) (m_BadPacket : ∃ cd, PySem.W.clsIn K a_BadPacket = some cd ∧ cd.mro = .ref a_BadPacket :: .ref a_WayError :: veB) (m_BadMost : ∃ cd, PySem.W.clsIn K a_BadMost = some cd ∧ cd.mro = .ref a_BadMost :: .ref a_WayError :: veB) (m_NoPlace : ∃ cd, PySem.W.clsIn K a_NoPlace = some cd ∧ cd.mro = .ref a_NoPlace :: .ref a_WayError :: veB) (m_BadWord : ∃ cd, PySem.W.clsIn K a_BadWord = some cd ∧ cd.mro = .ref a_BadWord :: .ref a_WayError :: veB) (m_BadTests : ∃ cd, PySem.W.clsIn K a_BadTests = some cd ∧ cd.mro = .ref a_BadTests :: .ref a_WayError :: veB) (m_NoPart : ∃ cd, PySem.W.clsIn K a_NoPart = some cd ∧ cd.mro = .ref a_NoPart :: .ref a_WayError :: veB) (m_BadLot : ∃ cd, PySem.W.clsIn K a_BadLot = some cd ∧ cd.mro = .ref a_BadLot :: .ref a_WayError :: veB) (m_BadNet : ∃ cd, PySem.W.clsIn K a_BadNet = some cd ∧ cd.mro = .ref a_BadNet :: .ref a_WayError :: veB) (m_BadRule : ∃ cd, PySem.W.clsIn K a_BadRule = some cd ∧ cd.mro = .ref a_BadRule :: .ref a_WayError :: veB) (m_BadDeed : ∃ cd, PySem.W.clsIn K a_BadDeed = some cd ∧ cd.mro = .ref a_BadDeed :: .ref a_WayError :: veB) (m_NothingLeft : ∃ cd, PySem.W.clsIn K a_NothingLeft = some cd ∧ cd.mro = .ref a_NothingLeft :: .ref a_WayError :: veB) (m_BadJournal : ∃ cd, PySem.W.clsIn K a_BadJournal = some cd ∧ cd.mro = .ref a_BadJournal :: .ref a_WayError :: veB) (m_BadText : ∃ cd, PySem.W.clsIn K a_BadText = some cd ∧ cd.mro = .ref a_BadText :: .ref a_WayError :: veB) (m_BadName : ∃ cd, PySem.W.clsIn K a_BadName = some cd ∧ cd.mro = .ref a_BadName :: .ref a_WayError :: veB) (t_WayError : PySem.W.findIn K (.ref a_WayError) "__str__" = some (some (.builtin "BaseException.__str__"))) (t_BadFields : PySem.W.findIn K (.ref a_BadFields) "__str__" = some (some (.builtin "BaseException.__str__"))) (t_BadNumbers : PySem.W.findIn K (.ref a_BadNumbers) "__str__" = some (some (.builtin "BaseException.__str__"))) (t_BadTree : PySem.W.findIn K (.ref a_BadTree) "__str__" = some (some (.builtin "BaseException.__str__"))) (t_TooMany : PySem.W.findIn K (.ref a_TooMany) "__str__" = some (some (.builtin "BaseException.__str__"))) (t_BadProgram : PySem.W.findIn K (.ref a_BadProgram) "__str__" = some (some (.builtin "BaseException.__str__"))) (t_OtherFields : PySem.W.findIn K (.ref a_OtherFields) "__str__" = some (some (.builtin "BaseException.__str__"))) (t_BadTest : PySem.W.findIn K (.ref a_BadTest) "__str__" = some (some (.builtin "BaseException.__str__"))) (t_BadPacket : PySem.W.findIn K (.ref a_BadPacket) "__str__" = some (some (.builtin "BaseException.__str__"))) (t_BadMost : PySem.W.findIn K (.ref a_BadMost) "__str__" = some (some (.builtin "BaseException.__str__"))) (t_NoPlace : PySem.W.findIn K (.ref a_NoPlace) "__str__" = some (some (.builtin "BaseException.__str__"))) (t_BadWord : PySem.W.findIn K (.ref a_BadWord) "__str__" = some (some (.builtin "BaseException.__str__"))) (t_BadTests : PySem.W.findIn K (.ref a_BadTests) "__str__" = some (some (.builtin "BaseException.__str__"))) (t_NoPart : PySem.W.findIn K (.ref a_NoPart) "__str__" = some (some (.builtin "BaseException.__str__"))) (t_BadLot : PySem.W.findIn K (.ref a_BadLot) "__str__" = some (some (.builtin "BaseException.__str__"))) (t_BadNet : PySem.W.findIn K (.ref a_BadNet) "__str__" = some (some (.builtin "BaseException.__str__"))) (t_BadRule : PySem.W.findIn K (.ref a_BadRule) "__str__" = some (some (.builtin "BaseException.__str__"))) (t_BadDeed : PySem.W.findIn K (.ref a_BadDeed) "__str__" = some (some (.builtin "BaseException.__str__"))) (t_NothingLeft : PySem.W.findIn K (.ref a_NothingLeft) "__str__" = some (some (.builtin "BaseException.__str__"))) (t_BadJournal : PySem.W.findIn K (.ref a_BadJournal) "__str__" = some (some (.builtin "BaseException.__str__"))) (t_BadText : PySem.W.findIn K (.ref a_BadText) "__str__" = some (some (.builtin "BaseException.__str__"))) (t_BadName : PySem.W.findIn K (.ref a_BadName) "__str__" = some (some (.builtin "BaseException.__str__"))) (nd : [a_WayError, a_BadFields, a_BadNumbers, a_BadTree, a_TooMany, a_BadProgram, a_OtherFields, a_BadTest, a_BadPacket, a_BadMost, a_NoPlace, a_BadWord, a_BadTests, a_NoPart, a_BadLot, a_BadNet, a_BadRule, a_BadDeed, a_NothingLeft, a_BadJournal, a_BadText, a_BadName].Nodup) : ∃ C, Cls P C K mg := ⟨{ WayError := a_WayError, BadFields := a_BadFields, BadNumbers := a_BadNumbers, BadTree := a_BadTree, TooMany := a_TooMany, BadProgram := a_BadProgram, OtherFields := a_OtherFields, BadTest := a_BadTest, BadPacket := a_BadPacket, BadMost := a_BadMost, NoPlace := a_NoPlace, BadWord := a_BadWord, BadTests := a_BadTests, NoPart := a_NoPart, BadLot := a_BadLot, BadNet := a_BadNet, BadRule := a_BadRule, BadDeed := a_BadDeed, NothingLeft := a_NothingLeft, BadJournal := a_BadJournal, BadText := a_BadText, BadName := a_BadName }, c_WayError, c_BadFields, c_BadNumbers, c_BadTree, c_TooMany, c_BadProgram, c_OtherFields, c_BadTest, c_BadPacket, c_BadMost, c_NoPlace, c_BadWord, c_BadTests, c_NoPart, c_BadLot, c_BadNet, c_BadRule, c_BadDeed, c_NothingLeft, c_BadJournal, c_BadText, c_BadName, e_WayError, e_BadFields, e_BadNumbers, e_BadTree, k_TooMany, k_BadProgram, e_OtherFields, k_BadTest, k_BadPacket, k_BadMost, k_NoPlace, k_BadWord, k_BadTests, k_NoPart, e_BadLot, k_BadNet, k_BadRule, k_BadDeed, e_NothingLeft, k_BadJournal, k_BadText, k_BadName, m_WayError, m_BadFields, m_BadNumbers, m_BadTree, m_TooMany, m_BadProgram, m_OtherFields, m_BadTest, m_BadPacket, m_BadMost, m_NoPlace, m_BadWord, m_BadTests, m_NoPart, m_BadLot, m_BadNet, m_BadRule, m_BadDeed, m_NothingLeft, m_BadJournal, m_BadText, m_BadName, t_WayError, t_BadFields, t_BadNumbers, t_BadTree, t_TooMany, t_BadProgram, t_OtherFields, t_BadTest, t_BadPacket, t_BadMost, t_NoPlace, t_BadWord, t_BadTests, t_NoPart, t_BadLot, t_BadNet, t_BadRule, t_BadDeed, t_NothingLeft, t_BadJournal, t_BadText, t_BadName, nd⟩
structure Txt (P : Program) (C : Ad) (K : PySem.W.Frag) (mg : Str → Option Value) (base : Heap) : Prop where
  nb : NB mg
  low : ∃ o, base.get? sysModules = some o
  sup : mg "super" = none
  ve : mg "ValueError" = none
  enum : mg "enumerate" = none
  cl : Cls P C K mg
variable {P : Program} {w : World} {K : PySem.W.Frag} {mg : Str → Option Value} {base : Heap} {C : Ad}
theorem all_E (T : Txt P C K mg base) : AllC K C.WayError (clsL_k01 C) := by
  refine ⟨T.cl.nd, fun c h => ?_, T.cl.m_WayError, fun c h => ?_⟩
  · simp only [clsL_k01, List.mem_cons, List.not_mem_nil, or_false] at h
    rcases h with rfl | rfl | rfl | rfl | rfl | rfl | rfl | rfl | rfl | rfl | rfl | rfl | rfl | rfl | rfl | rfl | rfl | rfl | rfl | rfl | rfl | rfl
    · exact ⟨T.cl.c_WayError.is, T.cl.c_WayError.ty⟩
    · exact ⟨T.cl.c_BadFields.is, T.cl.c_BadFields.ty⟩
    · exact ⟨T.cl.c_BadNumbers.is, T.cl.c_BadNumbers.ty⟩
    · exact ⟨T.cl.c_BadTree.is, T.cl.c_BadTree.ty⟩
    · exact ⟨T.cl.c_TooMany.is, T.cl.c_TooMany.ty⟩
    · exact ⟨T.cl.c_BadProgram.is, T.cl.c_BadProgram.ty⟩
    · exact ⟨T.cl.c_OtherFields.is, T.cl.c_OtherFields.ty⟩
    · exact ⟨T.cl.c_BadTest.is, T.cl.c_BadTest.ty⟩
    · exact ⟨T.cl.c_BadPacket.is, T.cl.c_BadPacket.ty⟩
    · exact ⟨T.cl.c_BadMost.is, T.cl.c_BadMost.ty⟩
    · exact ⟨T.cl.c_NoPlace.is, T.cl.c_NoPlace.ty⟩
    · exact ⟨T.cl.c_BadWord.is, T.cl.c_BadWord.ty⟩
    · exact ⟨T.cl.c_BadTests.is, T.cl.c_BadTests.ty⟩
    · exact ⟨T.cl.c_NoPart.is, T.cl.c_NoPart.ty⟩
    · exact ⟨T.cl.c_BadLot.is, T.cl.c_BadLot.ty⟩
    · exact ⟨T.cl.c_BadNet.is, T.cl.c_BadNet.ty⟩
    · exact ⟨T.cl.c_BadRule.is, T.cl.c_BadRule.ty⟩
    · exact ⟨T.cl.c_BadDeed.is, T.cl.c_BadDeed.ty⟩
    · exact ⟨T.cl.c_NothingLeft.is, T.cl.c_NothingLeft.ty⟩
    · exact ⟨T.cl.c_BadJournal.is, T.cl.c_BadJournal.ty⟩
    · exact ⟨T.cl.c_BadText.is, T.cl.c_BadText.ty⟩
    · exact ⟨T.cl.c_BadName.is, T.cl.c_BadName.ty⟩
  · simp only [clsL_k01, List.mem_cons, List.not_mem_nil, or_false] at h
    rcases h with rfl | rfl | rfl | rfl | rfl | rfl | rfl | rfl | rfl | rfl | rfl | rfl | rfl | rfl | rfl | rfl | rfl | rfl | rfl | rfl | rfl
    · exact T.cl.m_BadFields
    · exact T.cl.m_BadNumbers
    · exact T.cl.m_BadTree
    · exact T.cl.m_TooMany
    · exact T.cl.m_BadProgram
    · exact T.cl.m_OtherFields
    · exact T.cl.m_BadTest
    · exact T.cl.m_BadPacket
    · exact T.cl.m_BadMost
    · exact T.cl.m_NoPlace
    · exact T.cl.m_BadWord
    · exact T.cl.m_BadTests
    · exact T.cl.m_NoPart
    · exact T.cl.m_BadLot
    · exact T.cl.m_BadNet
    · exact T.cl.m_BadRule
    · exact T.cl.m_BadDeed
    · exact T.cl.m_NothingLeft
    · exact T.cl.m_BadJournal
    · exact T.cl.m_BadText
    · exact T.cl.m_BadName
theorem att_E (T : Txt P C K mg base) : AttC K (attL_k01 C) := by
  intro p h
  simp only [attL_k01, List.mem_cons, List.not_mem_nil, or_false] at h
  rcases h with rfl | rfl | rfl | rfl | rfl | rfl | rfl | rfl | rfl | rfl | rfl | rfl | rfl | rfl | rfl
  · exact ⟨T.cl.c_TooMany.is, T.cl.k_TooMany.no⟩
  · exact ⟨T.cl.c_BadProgram.is, T.cl.k_BadProgram.no⟩
  · exact ⟨T.cl.c_BadTest.is, T.cl.k_BadTest.no⟩
  · exact ⟨T.cl.c_BadPacket.is, T.cl.k_BadPacket.no⟩
  · exact ⟨T.cl.c_BadMost.is, T.cl.k_BadMost.no⟩
  · exact ⟨T.cl.c_NoPlace.is, T.cl.k_NoPlace.no⟩
  · exact ⟨T.cl.c_BadWord.is, T.cl.k_BadWord.no⟩
  · exact ⟨T.cl.c_BadTests.is, T.cl.k_BadTests.no⟩
  · exact ⟨T.cl.c_NoPart.is, T.cl.k_NoPart.no⟩
  · exact ⟨T.cl.c_BadNet.is, T.cl.k_BadNet.no⟩
  · exact ⟨T.cl.c_BadRule.is, T.cl.k_BadRule.no⟩
  · exact ⟨T.cl.c_BadDeed.is, T.cl.k_BadDeed.no⟩
  · exact ⟨T.cl.c_BadJournal.is, T.cl.k_BadJournal.no⟩
  · exact ⟨T.cl.c_BadText.is, T.cl.k_BadText.no⟩
  · exact ⟨T.cl.c_BadName.is, T.cl.k_BadName.no⟩
theorem ok_E (T : Txt P C K mg base) : ∀ Ce, okC_k01 C Ce → PySem.W.exmOne K (.ref Ce) (.ref C.WayError) = some true := okL_ok (all_E T)
theorem str_E (T : Txt P C K mg base) : ∀ c, okC_k01 C c → PySem.W.findIn K (.ref c) "__str__" = some (some (.builtin "BaseException.__str__")) ∧ PySem.W.subIn K (.ref c) (.type "BaseException") = some true := by
  intro c h
  simp only [okC_k01, clsL_k01, List.mem_cons, List.not_mem_nil, or_false] at h
  rcases h with rfl | rfl | rfl | rfl | rfl | rfl | rfl | rfl | rfl | rfl | rfl | rfl | rfl | rfl | rfl | rfl | rfl | rfl | rfl | rfl | rfl
  · exact ⟨T.cl.t_BadFields, T.cl.c_BadFields.sub⟩
  · exact ⟨T.cl.t_BadNumbers, T.cl.c_BadNumbers.sub⟩
  · exact ⟨T.cl.t_BadTree, T.cl.c_BadTree.sub⟩
  · exact ⟨T.cl.t_TooMany, T.cl.c_TooMany.sub⟩
  · exact ⟨T.cl.t_BadProgram, T.cl.c_BadProgram.sub⟩
  · exact ⟨T.cl.t_OtherFields, T.cl.c_OtherFields.sub⟩
  · exact ⟨T.cl.t_BadTest, T.cl.c_BadTest.sub⟩
  · exact ⟨T.cl.t_BadPacket, T.cl.c_BadPacket.sub⟩
  · exact ⟨T.cl.t_BadMost, T.cl.c_BadMost.sub⟩
  · exact ⟨T.cl.t_NoPlace, T.cl.c_NoPlace.sub⟩
  · exact ⟨T.cl.t_BadWord, T.cl.c_BadWord.sub⟩
  · exact ⟨T.cl.t_BadTests, T.cl.c_BadTests.sub⟩
  · exact ⟨T.cl.t_NoPart, T.cl.c_NoPart.sub⟩
  · exact ⟨T.cl.t_BadLot, T.cl.c_BadLot.sub⟩
  · exact ⟨T.cl.t_BadNet, T.cl.c_BadNet.sub⟩
  · exact ⟨T.cl.t_BadRule, T.cl.c_BadRule.sub⟩
  · exact ⟨T.cl.t_BadDeed, T.cl.c_BadDeed.sub⟩
  · exact ⟨T.cl.t_NothingLeft, T.cl.c_NothingLeft.sub⟩
  · exact ⟨T.cl.t_BadJournal, T.cl.c_BadJournal.sub⟩
  · exact ⟨T.cl.t_BadText, T.cl.c_BadText.sub⟩
  · exact ⟨T.cl.t_BadName, T.cl.c_BadName.sub⟩
abbrev s__law_mixed : Stmt := top 25
abbrev n__law_mixed : List Str := ["state", "turn", "found", "prime", "blend", "cell"]
theorem sc__law_mixed : FnScope n__law_mixed ["state"] (defScope s__law_mixed) := ⟨rfl, rfl, rfl, by decide +kernel, rfl, by decide +kernel, by decide +kernel⟩
abbrev s__law_take : Stmt := top 26
abbrev n__law_take : List Str := ["state", "size", "found"]
theorem sc__law_take : FnScope n__law_take ["state", "size"] (defScope s__law_take) := ⟨rfl, rfl, rfl, by decide +kernel, rfl, by decide +kernel, by decide +kernel⟩
abbrev s__law_begun : Stmt := top 24
abbrev n__law_begun : List Str := ["script", "wide", "cell"]
theorem sc__law_begun : FnScope n__law_begun ["script"] (defScope s__law_begun) := ⟨rfl, rfl, rfl, by decide +kernel, rfl, by decide +kernel, by decide +kernel⟩
theorem ok_mixed0 {f : Addr} {fd : FuncData} (T : Txt P C K mg base) (F : Fun K "_law_mixed" "_law_mixed" s__law_mixed f fd) : FnOk P w K mg base CX0 1 f fd ["state"] spMixed := by
  refine F.ok sc__law_mixed (fun vs H Q E h => ?_) (fun cdv A outer s H vs Q E hr h => ?_)
  · obtain ⟨a, b, c, r, t, cs, rfl, _⟩ := h
    rfl
  · obtain ⟨a, b, c, r, t, cs, rfl, ha, hc, t0, t1, hcs, k⟩ := h
    have hu := hu_of hr
    refine ⟨_, pss_cons (ps_par (i := 1) (j := 2) rfl sc__law_mixed.nd rfl rfl (by decide) rfl rfl (pa_cons (pe_op op_add (pe_dget hu (pv 0) pe_str (fun _ _ => rfl)) pe_int) (pa_cons pe_int pa_nil)) (by rfl))
      (pss_cons (ps_dput hu (pv 0) pe_str (pv 1) rfl)
      (pss_cons (ps_for PassesOwn.never rfl (pi_list (pe_lst (pa_cons pe_int (pa_cons pe_int (pa_cons pe_int (pa_cons pe_int pa_nil)))))) (pg_name (i := 3) sc__law_mixed.nd rfl (Or.inl rfl))
        (pss_cons (ps_set (i := 4) sc__law_mixed.nd rfl (Or.inl rfl) (pe_op op_add (pe_op op_mul pe_int (pv 1)) (pe_op op_fdiv (pv 3) pe_int)))
        (pss_cons (ps_for PassesOwn.never rfl (pi_list (pe_dget hu (pv 0) pe_str (fun _ _ => rfl))) (pg_name (i := 5) sc__law_mixed.nd rfl (Or.inl rfl))
          (pss_one (ps_set (i := 4) sc__law_mixed.nd rfl (Or.inl rfl) (pe_op op_mod (pe_callTy call_int1 (by rfl) T.nb.int bt_int (pa_cons (pe_op op_add (pe_op op_add (pe_op op_mul (pv 4) pe_int) (pv 5)) (pv 1)) pa_nil)) (pv 3)))))
        (pss_one (ps_set (i := 2) sc__law_mixed.nd rfl (Or.inl rfl) (pe_op op_add (pe_op op_mul (pv 2) pe_int) (pe_op op_mod (pe_callTy call_int1 (by rfl) T.nb.int bt_int (pa_cons (pe_op op_pow (pv 4) pe_int) pa_nil)) (pv 3))))))))
      (pss_one (ps_ret (pv 2))))), ?_⟩
    refine ⟨_, rfl, a, _, rfl, .inl ⟨_, .inr "turn", .inl ha, rfl, (v_turn b c r t).symm⟩, _, _, rfl, rfl, _, _, rfl, _, rfl, _, rfl, a, _, rfl, DPut.k (k := .inr "turn") ha (stK_len b c r t), ?_⟩
    rw [p_turn]
    have nca : c ≠ a := ne_of hc ha (by intro z; cases z)
    have hc1 : (upd H a (.dK (stK b c r (t + 1)))) c = some (.lst (cs.map V.int)) := by rw [upd_ne nca]; exact hc
    refine ⟨by show 4 ≤ sizeLine; decide, fun l hl => ⟨l, rfl, ⟨_, SqL.of upd_same⟩, ?_⟩⟩
    have nla : a ≠ l := ne_of_none (H := upd H a (.dK (stK b c r (t + 1)))) upd_same hl
    have nlc : c ≠ l := ne_of_none hc1 hl
    have hA : (upd (upd H a (.dK (stK b c r (t + 1)))) l (.lst [.int 2147483629, .int 2147483587, .int 2147483579, .int 2147483563])) a = some (.dK (stK b c r (t + 1))) := by rw [upd_ne nla, upd_same]
    have hC : (upd (upd H a (.dK (stK b c r (t + 1)))) l (.lst [.int 2147483629, .int 2147483587, .int 2147483579, .int 2147483563])) c = some (.lst (cs.map V.int)) := by rw [upd_ne nlc]; exact hc1
    have bt : But a H (upd (upd H a (.dK (stK b c r (t + 1)))) l (.lst [.int 2147483629, .int 2147483587, .int 2147483579, .int 2147483563])) := (But.upd (a := a)).trans (.of_same (grow_upd hl))
    have hL : (upd (upd H a (.dK (stK b c r (t + 1)))) l (.lst [.int 2147483629, .int 2147483587, .int 2147483579, .int 2147483563])) l = some (.lst [.int 2147483629, .int 2147483587, .int 2147483579, .int 2147483563]) := upd_same
    generalize upd (upd H a (.dK (stK b c r (t + 1)))) l (.lst [.int 2147483629, .int 2147483587, .int 2147483579, .int 2147483563]) = H1 at hA hC bt hL ⊢
    refine for_list (K := K) (a := l) (xs := [.int 2147483629, .int 2147483587, .int 2147483579, .int 2147483563]) (fun i σ H2 => H2 = H1 ∧ ∃ (fo : Int) (v3 v4 v5 : Option V), σ = [some (.ref a), some (.int (t + 1)), some (.int fo), v3, v4, v5] ∧ 0 ≤ fo)
      ⟨rfl, 0, none, none, none, rfl, by decide⟩ (fun i σ H2 _ ⟨e, _⟩ => by subst e; exact SqL.of hL) ?_ ?_
    · rintro i x σ H2 hi ⟨rfl, fo, v3, v4, v5, rfl, hfo⟩
      obtain ⟨pr, rfl, pr1, pr2⟩ : ∃ pr : Int, x = .int pr ∧ 2147483563 ≤ pr ∧ pr < 2147483648 := by
        match i, hi with
        | 0, hi => cases hi; exact ⟨_, rfl, by decide, by decide⟩
        | 1, hi => cases hi; exact ⟨_, rfl, by decide, by decide⟩
        | 2, hi => cases hi; exact ⟨_, rfl, by decide, by decide⟩
        | 3, hi => cases hi; exact ⟨_, rfl, by decide, by decide⟩
        | n + 4, hi => cases hi
      have q29 : 0 ≤ pr / 29 ∧ pr / 29 < 2147483648 := ⟨Int.ediv_nonneg (by omega) (by decide), by omega⟩
      refine ⟨_, rfl, _, _, rfl, rfl, .inl ⟨by decide, by decide⟩, _, rfl, _, _, rfl, rfl, ⟨by decide, by decide⟩, _, _, rfl, rfl, ?_⟩
      refine ⟨_, rfl, a, _, rfl, .inl ⟨_, .inr "cells", .inl hA, rfl, (v_cells b c r (t + 1)).symm⟩, c, rfl, ⟨_, SqL.of hC⟩, ?_⟩
      refine for_list (K := K) (a := c) (xs := cs.map V.int) (fun j σ H3 => H3 = H2 ∧ ∃ (bl : Int) (v5 : Option V), σ = [some (.ref a), some (.int (t + 1)), some (.int fo), some (.int pr), some (.int bl), v5] ∧ 0 ≤ bl ∧ bl < 2 ^ 60)
        ⟨rfl, _, v5, rfl, by omega, by omega⟩ (fun j σ H3 _ ⟨e, _⟩ => by subst e; exact SqL.of hC) ?_ ?_
      · rintro j y σ H3 hj ⟨rfl, bl, v5, rfl, b0, b1⟩
        rw [List.getElem?_map, Option.map_eq_some_iff] at hj
        obtain ⟨ce, hj, rfl⟩ := hj
        refine ⟨_, rfl, _, _, rfl, rfl, .inl ⟨by omega, by omega⟩, _, rfl, _, _, rfl, rfl, _, rfl, _, _, rfl, rfl, .inl ⟨_, rfl, _, rfl, _, _, rfl, rfl, (by show (0 : Int) < pr; omega), ?_⟩⟩
        refine ⟨rfl, _, _, rfl, Int.emod_nonneg _ (by omega), ?_⟩
        have := Int.emod_lt_of_pos (bl * 48271 + ce + (t + 1)) (show (0 : Int) < pr by omega)
        omega
      · rintro σ H3 ⟨rfl, bl, v5, rfl, b0, b1⟩
        refine ⟨_, rfl, _, _, rfl, rfl, .inr ⟨by decide, by decide⟩, _, rfl, _, _, rfl, rfl, ⟨by decide, by decide, by omega⟩, .inl ⟨_, rfl, _, rfl, _, _, rfl, rfl, (by show (0 : Int) < pr; omega), _, _, rfl, rfl, ?_⟩⟩
        have e0 := Int.emod_nonneg (bl ^ (5 : Int).toNat) (show pr ≠ 0 by omega)
        exact ⟨rfl, _, _, _, _, rfl, by omega⟩
    · rintro σ H2 ⟨rfl, fo, v3, v4, v5, rfl, hfo⟩
      exact ⟨_, rfl, k fo _ hfo hA bt⟩
theorem ok_take0 {f fm : Addr} {fd fdm : FuncData} (T : Txt P C K mg base) (F : Fun K "_law_take" "_law_take" s__law_take f fd) (Fm : Fun K "_law_mixed" "_law_mixed" s__law_mixed fm fdm) (mm : mg "_law_mixed" = some (.ref fm)) : FnOk P w K mg base CX0 2 f fd ["state", "size"] spTake := by
  have G : FnOk P w K mg base CX0 1 fm fdm ["state"] spMixed := ok_mixed0 T Fm
  have bm := Fm.binds (ps := ["state"]) fun _ _ _ _ _ _ us hl => match us, hl with | [_], _ => rfl
  refine F.ok sc__law_take (fun vs H Q E h => ?_) (fun cdv A outer s H vs Q E hr h => ?_)
  · obtain ⟨q, n, m, rfl, _⟩ := h
    rfl
  · obtain ⟨q, n, m, rfl, st, hn, m0, m1, k⟩ := h
    have hu := hu_of hr
    obtain ⟨r, t, ws, cs, ha, hb, hc, r0, t0, tn, hws, lws, hcs, lcs, nbc⟩ := st.ex
    refine ⟨_, pss_cons (ps_if (pt_cmpR op_eq (pe_dget hu (pv 0) pe_str (fun _ _ => rfl)) pe_int (nomark _))
        (pss_one (ps_dput hu (pv 0) pe_str (pe_ifExp (pt_cmpR (op_neD hr.units) (pe_dget hu (pv 0) pe_str (fun _ _ => rfl)) (pe_lst pa_nil) (nomark _))
          (pe_bm PySem.F.plainAttrs_list PySem.F.slot_list_pop PySem.F.type_list_pop mt_popAt (pe_dget hu (pv 0) pe_str (fun _ _ => rfl)) (pa_cons pe_int pa_nil))
          (pe_call G hr rfl mm Fm.kp bm .nil pass0 (pa_cons (pv 0) pa_nil))) rfl)) pss_nil)
      (pss_cons (ps_set (i := 2) sc__law_take.nd rfl (Or.inl rfl) (pe_op op_mod (pe_callTy call_int1 (by rfl) T.nb.int bt_int (pa_cons (pe_dget hu (pv 0) pe_str (fun _ _ => rfl)) pa_nil)) (pv 1)))
      (pss_cons (ps_dput hu (pv 0) pe_str (pe_op op_fdiv (pe_dget hu (pv 0) pe_str (fun _ _ => rfl)) (pv 1)) rfl)
      (pss_one (ps_ret (pv 2))))), ?_⟩
    have tail : ∀ (r' t' : Int) (ws' : List Int) (H1 : Hp), H1 q.a = some (.dK (stK q.b q.c r' t')) → H1 q.b = some (.lst (ws'.map V.int)) → H1 q.c = some (.lst (cs.map V.int)) → 0 ≤ r' → 0 ≤ t' → t' + (n - 1 : Nat) ≤ 2 ^ 40 → (∀ x ∈ ws', 0 ≤ x) → ws'.length ≤ 63 → But2 q.a q.b H H1 →
        tSeq (tAsg (tOp (rI (fun _ j => 0 < j) fun i j => .int (i % j)) (tCB (fun xs H Q => (∃ i, xs = [.int i] ∧ Q (.int i) H) ∨ ∃ k, xs = [.bl k] ∧ Q (.int (if k then 1 else 0)) H) (tCons (tDGet (tVar 0) (tC (.str "rest"))) tNil)) (tVar 1)) (gName 2))
          (tSeq (sDPut (tVar 0) (tC (.str "rest")) (tOp (rI CDiv fun i j => .int (i / j)) (tDGet (tVar 0) (tC (.str "rest"))) (tVar 1))) (tRet (tVar 2))) { nx := fun _ H' => Q .non H', rt := Q } [some (.ref q.a), some (.int m), none] H1 := by
      intro r' t' ws' H1 ha hb hc r0 t0 tn hws lws but
      refine ⟨_, rfl, q.a, _, rfl, .inl ⟨_, .inr "rest", .inl ha, rfl, (v_rest _ _ _ _).symm⟩, .inl ⟨_, rfl, _, rfl, _, _, rfl, rfl, m0, ?_⟩⟩
      refine ⟨_, rfl, q.a, _, rfl, .inl ⟨_, .inr "rest", .inl ha, rfl, (v_rest _ _ _ _).symm⟩, _, rfl, _, _, rfl, rfl, ⟨m0, m1⟩, _, rfl, q.a, _, rfl, DPut.k (k := .inr "rest") ha (stK_len _ _ _ _), ?_⟩
      rw [p_rest]
      have nba : q.b ≠ q.a := ne_of hb ha (by intro z; cases z)
      have nca : q.c ≠ q.a := ne_of hc ha (by intro z; cases z)
      refine ⟨_, rfl, k _ _ (Int.emod_nonneg _ (by omega)) (Int.emod_lt_of_pos _ m0) ⟨_, t', ws', cs, upd_same, by rw [upd_ne nba]; exact hb, by rw [upd_ne nca]; exact hc, Int.ediv_nonneg r0 (by omega), t0, tn, hws, lws, hcs, lcs, nbc⟩ ⟨fun p o n1 n2 e => ?_, but.2.trans .upd⟩⟩
      rw [upd_ne n1]
      exact but.1 p o n1 n2 e
    refine ⟨_, rfl, q.a, _, rfl, .inl ⟨_, .inr "rest", .inl ha, rfl, (v_rest _ _ _ _).symm⟩, rfl, _, rfl, ?_⟩
    refine ite2 (fun _ => ?_) (fun _ => tail r t ws H ha hb hc r0 t0 (by omega) hws lws ⟨fun p o _ _ e => e, .refl _⟩)
    refine ⟨_, rfl, q.a, _, rfl, .inl ⟨_, .inr "wide", .inl ha, rfl, (v_wide _ _ _ _).symm⟩, by show 0 ≤ sizeLine; decide, fun l hl => ?_⟩
    have nla : q.a ≠ l := ne_of_none ha hl
    have nlb : q.b ≠ l := ne_of_none hb hl
    have nlc : q.c ≠ l := ne_of_none hc hl
    have ha1 : (upd H l (.lst [])) q.a = some (.dK (stK q.b q.c r t)) := by rw [upd_ne nla]; exact ha
    have hb1 : (upd H l (.lst [])) q.b = some (.lst (ws.map V.int)) := by rw [upd_ne nlb]; exact hb
    have hc1 : (upd H l (.lst [])) q.c = some (.lst (cs.map V.int)) := by rw [upd_ne nlc]; exact hc
    have dp : ∀ (xs : List Int) (HH : Hp), DpAll K HH (xs.map V.int) (xs.map PyData.int) := fun xs HH => by
      induction xs with
      | nil => exact .nil
      | cons x xs ih => exact .cons (.int x) ih
    have shp : ∀ xs : List Int, SeqAt.shaped (.list (xs.map PyData.int)) = true := fun xs => by
      have h1 : PyData.canLayAll0 (xs.map PyData.int) = true := by
        induction xs with
        | nil => rfl
        | cons x xs ih => simp [PyData.canLayAll0, PyData.canLay0, ih]
      have h2 : PyData.depthAll (xs.map PyData.int) ≤ 0 := by
        induction xs with
        | nil => exact Nat.le_refl _
        | cons x xs ih => simp [PyData.depthAll, PyData.depth] at ih ⊢; exact ih (by simpa [PyData.canLayAll0, PyData.canLay0] using h1)
      unfold SeqAt.shaped
      simp only [PyData.canLay0, h1, PyData.depth, Bool.true_and, decide_eq_true_eq]
      exact decide_eq_true (by omega)
    refine ⟨_, _, .lst (SqL.of hb1) (dp ws _), .lst (SqL.of upd_same) .nil, shp ws, shp [], _, rfl, ?_⟩
    cases ws with
    | nil =>
      refine iteF ?_
      refine ⟨_, rfl, q.a, q.b, q.c, r, t, cs, rfl, ha1, hc1, t0, by omega, hcs, fun v H2 v0 ha2 bt2 => ?_⟩
      have nba : q.b ≠ q.a := ne_of hb ha (by intro z; cases z)
      have nca : q.c ≠ q.a := ne_of hc ha (by intro z; cases z)
      refine ⟨_, rfl, q.a, _, rfl, DPut.k (k := .inr "rest") ha2 (stK_len _ _ _ _), ?_⟩
      rw [p_rest]
      refine tail v (t + 1) [] _ upd_same (by rw [upd_ne nba]; exact bt2.1 _ _ nba hb1) (by rw [upd_ne nca]; exact bt2.1 _ _ nca hc1) v0 (by omega) (by omega) hws lws ⟨fun p o n1 n2 e => ?_, ((NoIns.upd (a := l)).trans bt2.2).trans NoIns.upd⟩
      rw [upd_ne n1]
      exact bt2.1 p o n1 (by rw [upd_ne (ne_of_none e hl)]; exact e)
    | cons x xs =>
      refine iteT ?_
      refine ⟨_, rfl, q.a, _, rfl, .inl ⟨_, .inr "wide", .inl ha1, rfl, (v_wide _ _ _ _).symm⟩, .inl ⟨rfl, _, SqL.of hb1⟩, q.b, _, 0, 0, _, rfl, rfl, hb1, by decide, by decide, by simp [seqIndex?], rfl, ?_⟩
      have nba : q.b ≠ q.a := ne_of hb ha (by intro z; cases z)
      have nca : q.c ≠ q.a := ne_of hc ha (by intro z; cases z)
      refine ⟨_, rfl, q.a, _, rfl, DPut.k (k := .inr "rest") (by rw [upd_ne nba.symm]; exact ha1) (stK_len _ _ _ _), ?_⟩
      rw [p_rest]
      refine tail x t xs _ upd_same (by rw [upd_ne nba, upd_same]; rfl) (by rw [upd_ne nca, upd_ne nbc.symm]; exact hc1) (hws x (by simp)) t0 (by omega) (fun y hy => hws y (by simp [hy])) (by simp at lws; omega) ⟨fun p o n1 n2 e => ?_, ((NoIns.upd (a := l)).trans NoIns.upd).trans NoIns.upd⟩
      rw [upd_ne n1, upd_ne n2, upd_ne (ne_of_none e hl)]
      exact e
theorem ok_begun0 {f : Addr} {fd : FuncData} (T : Txt P C K mg base) (F : Fun K "_law_begun" "_law_begun" s__law_begun f fd) : FnOk P w K mg base CX0 1 f fd ["script"] (spBegun K) := by
  refine F.ok sc__law_begun (fun vs H Q E h => ?_) (fun cdv A outer s H vs Q E hr h => ?_)
  · obtain ⟨a, ns, rfl, _⟩ := h
    rfl
  · obtain ⟨a, ns, rfl, hS, hl, k⟩ := h
    refine ⟨_, pss_cons (ps_setLc (i := 1) (own := [("cell", 2)]) (g := gName 2) rfl sc__law_begun.nd rfl rfl (sw_true rfl rfl rfl (by decide +kernel)) (pi_list (pv 0)) (blkOk_by (N := n__law_begun) (sc := defScope s__law_begun) (by decide +kernel))
        (fun _ _ _ _ _ => pg_name (i := 2) sc__law_begun.nd rfl (Or.inl rfl))
        (fun _ _ _ _ _ => pts_one (pt_cmpR op_ge (pe_callB call_abs (by rfl) T.nb.abs bt_abs (pa_cons (pv 2) pa_nil)) (pe_op op_pow pe_int pe_int) (nomark _)))
        (fun _ _ _ _ _ => pe_op op_sub (pe_callB call_abs (by rfl) T.nb.abs bt_abs (pa_cons (pv 2) pa_nil)) (pe_op op_pow pe_int pe_int)))
      (pss_one (ps_ret (pe_disp (pps_cons pe_str (pv 1) (pps_cons pe_str (pe_lc (own := [("cell", 2)]) (g := gName 2) rfl sc__law_begun.nd (pi_list (pv 0)) (blkOk_by (N := n__law_begun) (sc := defScope s__law_begun) (by decide +kernel))
        (fun _ _ _ _ _ => pg_name (i := 2) sc__law_begun.nd rfl (Or.inl rfl)) (fun _ _ _ _ _ => pts_nil)
        (fun _ _ _ _ _ => pe_op op_mod (pe_callTy call_int1 (by rfl) T.nb.int bt_int (pa_cons (pe_callB call_abs (by rfl) T.nb.abs bt_abs (pa_cons (pv 2) pa_nil)) pa_nil)) pe_int))
        (pps_cons pe_str pe_int (pps_cons pe_str pe_int pps_nil)))) (by rfl) (by rfl) (fun z => by cases z) (by decide)))), ?_⟩
    refine ⟨_, rfl, a, rfl, ⟨_, hS⟩, fun D1 hD1 => lc_list (K := K) (a := a) (xs := ns.map V.int) (fun i H1 => Grow H H1 ∧ ∃ ws : List Int, H1 D1 = some (.lst (ws.map V.int)) ∧ (∀ x ∈ ws, 0 ≤ x) ∧ ws.length ≤ i)
      ⟨grow_upd hD1, [], upd_same, by simp, Nat.le_refl _⟩ (fun i H1 _ ⟨e, _⟩ => e.same.seq hS) ?_ ?_⟩
    · rintro i x H1 hi ⟨sm, ws, h1, h2, h3⟩
      rw [List.getElem?_map, Option.map_eq_some_iff] at hi
      obtain ⟨n, hi, rfl⟩ := hi
      refine ⟨rfl, _, rfl, _, rfl, _, _, rfl, rfl, ⟨by decide, by decide, by decide⟩, _, _, rfl, rfl, _, rfl, ?_⟩
      refine ite2 (fun c => ?_) (fun _ => ⟨sm, ws, h1, h2, by omega⟩)
      refine ⟨_, rfl, _, rfl, _, _, rfl, rfl, ⟨by decide, by decide, by decide⟩, _, _, rfl, rfl, _, h1, ?_, ?_⟩
      · rw [List.length_map]
        have : i < ns.length := (List.getElem?_eq_some_iff.mp hi).1
        exact small1000 (by omega)
      · refine ⟨⟨fun b o e => by rw [upd_ne (ne_of_none e hD1)]; exact sm.same b o e, NoIns.trans sm.ins .upd⟩, ws ++ [_], by rw [List.map_append]; exact upd_same, fun y hy => ?_, by simp; omega⟩
        rcases List.mem_append.mp hy with hy | hy
        · exact h2 y hy
        · rw [List.mem_singleton.mp hy]
          simp only [decide_eq_true_eq] at c
          omega
    · rintro H1 ⟨sm, ws, h1, h2, h3⟩
      rw [List.length_map] at h3
      intro p hp
      have nD1 : D1 ≠ p := ne_of_none h1 hp
      have s1 : Grow H (upd H1 p (.dK [])) := sm.trans (grow_upd hp)
      refine ⟨_, rfl, _, rfl, a, rfl, ⟨_, s1.same.seq hS⟩, fun D2 hD2 => ?_⟩
      have nD2 : p ≠ D2 := ne_of_none (H := upd H1 p (.dK [])) upd_same hD2
      have nD12 : D1 ≠ D2 := ne_of_none (H := upd H1 p (.dK [])) (by rw [upd_ne nD1]; exact h1) hD2
      refine lc_list (K := K) (a := a) (xs := ns.map V.int) (fun i H2 => Grow (upd H1 p (.dK [])) H2 ∧ ∃ cs : List Int, H2 D2 = some (.lst (cs.map V.int)) ∧ (∀ x ∈ cs, 0 ≤ x ∧ x < 2 ^ 31) ∧ cs.length ≤ i)
        ⟨grow_upd hD2, [], upd_same, by simp, Nat.le_refl _⟩ (fun i H2 _ ⟨e, _⟩ => (s1.trans e).same.seq hS) ?_ ?_
      · rintro i x H2 hi ⟨sm2, cs, g1, g2, g3⟩
        rw [List.getElem?_map, Option.map_eq_some_iff] at hi
        obtain ⟨n, hi, rfl⟩ := hi
        refine ⟨rfl, _, rfl, _, rfl, .inl ⟨_, rfl, _, _, rfl, rfl, (by show (0 : Int) < 2147483629; decide), _, g1, ?_, ?_⟩⟩
        · rw [List.length_map]
          have : i < ns.length := (List.getElem?_eq_some_iff.mp hi).1
          exact small1000 (by omega)
        · refine ⟨⟨fun b o e => by rw [upd_ne (ne_of_none e hD2)]; exact sm2.same b o e, NoIns.trans sm2.ins .upd⟩, cs ++ [_], by rw [List.map_append]; exact upd_same, fun y hy => ?_, by simp; omega⟩
          rcases List.mem_append.mp hy with hy | hy
          · exact g2 y hy
          · rw [List.mem_singleton.mp hy]
            have e1 := Int.emod_nonneg (if n < 0 then -n else n) (show (2147483629 : Int) ≠ 0 by decide)
            have e2 := Int.emod_lt_of_pos (if n < 0 then -n else n) (show (0 : Int) < 2147483629 by decide)
            exact ⟨e1, by omega⟩
      · rintro H2 ⟨sm2, cs, g1, g2, g3⟩
        rw [List.length_map] at g3
        refine ⟨sm2.same _ _ upd_same, [(.inr "wide", .ref D1), (.inr "cells", .ref D2), (.inr "rest", .int 0), (.inr "turn", .int 0)], rfl, by show 4 ≤ 15; decide, ?_⟩
        have em : mergeK [] [((.inr "wide" : Key), V.ref D1), (.inr "cells", .ref D2), (.inr "rest", .int 0), (.inr "turn", .int 0)] = stK D1 D2 0 0 := mergeK_nodup _ [] (by show ([.inr "wide", .inr "cells", .inr "rest", .inr "turn"] : List Key).Nodup; decide +kernel)
        rw [em]
        refine k ⟨p, D1, D2⟩ _ (sm.same.free hp) hD1 ((s1.same.free hD2)) ⟨0, 0, ws, cs, upd_same, by rw [upd_ne nD1]; exact sm2.same _ _ (by rw [upd_ne nD1]; exact h1), by rw [upd_ne nD2.symm]; exact g1, by decide, by decide, by decide, h2, by omega, g2, by omega, nD12⟩ ⟨fun b o e => ?_, NoIns.trans (s1.trans sm2).ins .upd⟩
        rw [upd_ne (ne_of_none (sm.same b o e) hp)]
        exact sm2.same _ _ (s1.same b o e)
abbrev s__law_pick : Stmt := top 27
theorem sc__law_pick : FnScope n__law_pick ["state", "some"] (defScope s__law_pick) := ⟨rfl, rfl, rfl, by decide +kernel, rfl, by decide +kernel, by decide +kernel⟩
theorem ok__law_pick {f : Addr} {fd : FuncData} (T : Txt P C K mg base) (a : At K mg "_law_pick" s__law_pick f fd) (o__law_take : Ok P w K mg base "_law_take" s__law_take 2 ["state", "size"] W__law_take) : Ok P w K mg base "_law_pick" s__law_pick 3 ["state", "some"] W__law_pick := by
  refine Ok.mk' a (a.fn.binds fun _ _ _ _ _ _ us hl => match us, hl with | [_, _], _ => rfl) (fnG_of a.fn sc__law_pick w__law_pick.1 w__law_pick.2 fun cdv A outer s H hr hgd => ⟨m__law_pick, ?_, r__law_pick⟩)
  unfold m__law_pick
  exact (dss_one (ds_ret (de_ix xd_ix (de_v 1) (de_ok o__law_take (hr.mono (by omega)) hgd (da_cons (de_v 0) (da_cons (de_callB cd_len (by rfl) T.nb.len bt_len (da_cons (de_v 1) da_nil)) da_nil))) (fun _ _ => rfl))))
abbrev s__law_odd : Stmt := top 28
theorem sc__law_odd : FnScope n__law_odd ["state"] (defScope s__law_odd) := ⟨rfl, rfl, rfl, by decide +kernel, rfl, by decide +kernel, by decide +kernel⟩
theorem ok__law_odd {f : Addr} {fd : FuncData} (T : Txt P C K mg base) (a : At K mg "_law_odd" s__law_odd f fd) (o__law_pick : Ok P w K mg base "_law_pick" s__law_pick 3 ["state", "some"] W__law_pick) : Ok P w K mg base "_law_odd" s__law_odd 4 ["state"] W__law_odd := by
  refine Ok.mk' a (a.fn.binds fun _ _ _ _ _ _ us hl => match us, hl with | [_], _ => rfl) (fnG_of a.fn sc__law_odd w__law_odd.1 w__law_odd.2 fun cdv A outer s H hr hgd => ⟨m__law_odd, ?_, r__law_odd⟩)
  unfold m__law_odd
  exact (dss_cons (ds_s (i := 1) (de_lst (da_cons de_non (da_cons de_bl (da_cons (de_un ud_neg de_int) (da_cons de_str (da_cons de_str (da_cons de_str (da_cons (de_tup da_nil) (da_cons (de_tup (da_cons de_non da_nil)) (da_cons (de_tup (da_cons de_str da_nil)) (da_cons (de_tup (da_cons de_str (da_cons de_str da_nil))) (da_cons (de_tup (da_cons de_str (da_cons de_int da_nil))) (da_cons (de_lst da_nil) (da_cons de_dnew da_nil)))))))))))))) sc__law_odd.nd)
    (dss_cons (ds_s (i := 1) (de_op od_add (de_v 1) (de_lst (da_cons (de_tup (da_cons de_str (da_cons (de_tup (da_cons de_str da_nil)) da_nil))) (da_cons (de_tup (da_cons de_str (da_cons (de_tup (da_cons de_str da_nil)) da_nil))) (da_cons (de_tup (da_cons de_str (da_cons de_str (da_cons de_int da_nil)))) (da_cons (de_tup (da_cons de_str (da_cons de_str (da_cons de_str da_nil)))) (da_cons (de_lst (da_cons de_str da_nil)) (da_cons (de_disp (dps_cons de_str de_int dps_nil)) da_nil)))))))) sc__law_odd.nd)
    (dss_one (ds_ret (de_ok o__law_pick (hr.mono (by omega)) hgd (da_cons (de_v 0) (da_cons (de_op od_add (de_v 1) (de_lst (da_cons (de_tup (da_cons de_str da_nil)) (da_cons (de_tup (da_cons (de_un ud_neg de_int) (da_cons de_int da_nil))) (da_cons (de_tup (da_cons de_bl (da_cons de_int da_nil))) (da_cons (de_op od_add (de_op od_pow de_int de_int) de_int) (da_cons de_str (da_cons (de_tup (da_cons de_str (da_cons de_str (da_cons de_int da_nil)))) da_nil)))))))) da_nil)))))))
abbrev s__law_marks : Stmt := top 29
theorem sc__law_marks : FnScope n__law_marks ["error"] (defScope s__law_marks) := ⟨rfl, rfl, rfl, by decide +kernel, rfl, by decide +kernel, by decide +kernel⟩
theorem ok__law_marks {f : Addr} {fd : FuncData} (T : Txt P C K mg base) (a : At K mg "_law_marks" s__law_marks f fd) : Ok P w K mg base "_law_marks" s__law_marks 1 ["error"] (W__law_marks C) := by
  refine Ok.mk' a (a.fn.binds fun _ _ _ _ _ _ us hl => match us, hl with | [_], _ => rfl) (fnG_of a.fn sc__law_marks (w__law_marks C).1 (w__law_marks C).2 fun cdv A outer s H hr hgd => ⟨m__law_marks C, ?_, r__law_marks C⟩)
  unfold m__law_marks
  exact (dss_cons (ds_s (i := 1) (de_lst (da_cons (de_callB (cd_isX (relX_ok (all_E T))) (by rfl) T.nb.isinstance bt_isinstance (da_cons (de_v 0) (da_cons (de_glob T.cl.c_BadFields.glob) da_nil))) (da_cons (de_callB (cd_isX (relX_ok (all_E T))) (by rfl) T.nb.isinstance bt_isinstance (da_cons (de_v 0) (da_cons (de_glob T.cl.c_BadNumbers.glob) da_nil))) (da_cons (de_callB (cd_isX (relX_ok (all_E T))) (by rfl) T.nb.isinstance bt_isinstance (da_cons (de_v 0) (da_cons (de_glob T.cl.c_BadTree.glob) da_nil))) da_nil)))) sc__law_marks.nd)
    (dss_cons (ds_s (i := 1) (de_op od_add (de_v 1) (de_lst (da_cons (de_callB (cd_isX (relX_ok (all_E T))) (by rfl) T.nb.isinstance bt_isinstance (da_cons (de_v 0) (da_cons (de_glob T.cl.c_TooMany.glob) da_nil))) (da_cons (de_callB (cd_isX (relX_ok (all_E T))) (by rfl) T.nb.isinstance bt_isinstance (da_cons (de_v 0) (da_cons (de_glob T.cl.c_BadProgram.glob) da_nil))) (da_cons (de_callB (cd_isX (relX_ok (all_E T))) (by rfl) T.nb.isinstance bt_isinstance (da_cons (de_v 0) (da_cons (de_glob T.cl.c_OtherFields.glob) da_nil))) da_nil))))) sc__law_marks.nd)
    (dss_cons (ds_s (i := 1) (de_op od_add (de_v 1) (de_lst (da_cons (de_callB (cd_isX (relX_ok (all_E T))) (by rfl) T.nb.isinstance bt_isinstance (da_cons (de_v 0) (da_cons (de_glob T.cl.c_BadTest.glob) da_nil))) (da_cons (de_callB (cd_isX (relX_ok (all_E T))) (by rfl) T.nb.isinstance bt_isinstance (da_cons (de_v 0) (da_cons (de_glob T.cl.c_BadPacket.glob) da_nil))) (da_cons (de_callB (cd_isX (relX_ok (all_E T))) (by rfl) T.nb.isinstance bt_isinstance (da_cons (de_v 0) (da_cons (de_glob T.cl.c_BadMost.glob) da_nil))) da_nil))))) sc__law_marks.nd)
    (dss_cons (ds_s (i := 1) (de_op od_add (de_v 1) (de_lst (da_cons (de_callB (cd_isX (relX_ok (all_E T))) (by rfl) T.nb.isinstance bt_isinstance (da_cons (de_v 0) (da_cons (de_glob T.cl.c_NoPlace.glob) da_nil))) (da_cons (de_callB (cd_isX (relX_ok (all_E T))) (by rfl) T.nb.isinstance bt_isinstance (da_cons (de_v 0) (da_cons (de_glob T.cl.c_BadWord.glob) da_nil))) (da_cons (de_callB (cd_isX (relX_ok (all_E T))) (by rfl) T.nb.isinstance bt_isinstance (da_cons (de_v 0) (da_cons (de_glob T.cl.c_BadTests.glob) da_nil))) da_nil))))) sc__law_marks.nd)
    (dss_cons (ds_s (i := 1) (de_op od_add (de_v 1) (de_lst (da_cons (de_callB (cd_isX (relX_ok (all_E T))) (by rfl) T.nb.isinstance bt_isinstance (da_cons (de_v 0) (da_cons (de_glob T.cl.c_NoPart.glob) da_nil))) (da_cons (de_callB (cd_isX (relX_ok (all_E T))) (by rfl) T.nb.isinstance bt_isinstance (da_cons (de_v 0) (da_cons (de_glob T.cl.c_BadLot.glob) da_nil))) (da_cons (de_callB (cd_isX (relX_ok (all_E T))) (by rfl) T.nb.isinstance bt_isinstance (da_cons (de_v 0) (da_cons (de_glob T.cl.c_BadNet.glob) da_nil))) da_nil))))) sc__law_marks.nd)
    (dss_cons (ds_s (i := 1) (de_op od_add (de_v 1) (de_lst (da_cons (de_callB (cd_isX (relX_ok (all_E T))) (by rfl) T.nb.isinstance bt_isinstance (da_cons (de_v 0) (da_cons (de_glob T.cl.c_BadRule.glob) da_nil))) (da_cons (de_callB (cd_isX (relX_ok (all_E T))) (by rfl) T.nb.isinstance bt_isinstance (da_cons (de_v 0) (da_cons (de_glob T.cl.c_BadDeed.glob) da_nil))) (da_cons (de_callB (cd_isX (relX_ok (all_E T))) (by rfl) T.nb.isinstance bt_isinstance (da_cons (de_v 0) (da_cons (de_glob T.cl.c_NothingLeft.glob) da_nil))) da_nil))))) sc__law_marks.nd)
    (dss_one (ds_ret (de_op od_add (de_v 1) (de_lst (da_cons (de_callB (cd_isX (relX_ok (all_E T))) (by rfl) T.nb.isinstance bt_isinstance (da_cons (de_v 0) (da_cons (de_glob T.cl.c_BadJournal.glob) da_nil))) (da_cons (de_callB (cd_isX (relX_ok (all_E T))) (by rfl) T.nb.isinstance bt_isinstance (da_cons (de_v 0) (da_cons (de_glob T.cl.c_BadText.glob) da_nil))) (da_cons (de_callB (cd_isX (relX_ok (all_E T))) (by rfl) T.nb.isinstance bt_isinstance (da_cons (de_v 0) (da_cons (de_glob T.cl.c_BadName.glob) da_nil))) da_nil)))))))))))))
abbrev s__law_each : Stmt := top 30
theorem sc__law_each : FnScope n__law_each ["matter", "more"] (defScope s__law_each) := ⟨rfl, rfl, rfl, by decide +kernel, rfl, by decide +kernel, by decide +kernel⟩
theorem ok__law_each {f : Addr} {fd : FuncData} (T : Txt P C K mg base) (a : At K mg "_law_each" s__law_each f fd) : Ok P w K mg base "_law_each" s__law_each 3 ["matter", "more"] (W__law_each C) := by
  refine Ok.mk' a (a.fn.binds fun _ _ _ _ _ _ us hl => match us, hl with | [_, _], _ => rfl) (fnG_of a.fn sc__law_each (w__law_each C).1 (w__law_each C).2 fun cdv A outer s H hr hgd => ⟨m__law_each C, ?_, r__law_each C⟩)
  unfold m__law_each
  exact (dss_cons (ds_s (i := 2) (de_lst (da_cons (de_callC (cd_err0 T.cl.e_BadFields) T.cl.c_BadFields.mg T.cl.c_BadFields.kp (da_cons de_str da_nil)) (da_cons (de_callC (cd_err0 T.cl.e_BadNumbers) T.cl.c_BadNumbers.mg T.cl.c_BadNumbers.kp (da_cons de_str da_nil)) (da_cons (de_callC (cd_err0 T.cl.e_BadTree) T.cl.c_BadTree.mg T.cl.c_BadTree.kp (da_cons de_str da_nil)) (da_cons (de_callC (cd_err1 T.cl.k_TooMany en_TooMany eb_TooMany (hr.mono (by omega)) T.sup) T.cl.c_TooMany.mg T.cl.c_TooMany.kp (da_cons (de_v 0) (da_cons (de_v 1) da_nil))) da_nil))))) sc__law_each.nd)
    (dss_cons (ds_s (i := 2) (de_op od_add (de_v 2) (de_lst (da_cons (de_callC (cd_err1 T.cl.k_BadProgram en_BadProgram eb_BadProgram (hr.mono (by omega)) T.sup) T.cl.c_BadProgram.mg T.cl.c_BadProgram.kp (da_cons (de_v 0) da_nil)) (da_cons (de_callC (cd_err0 T.cl.e_OtherFields) T.cl.c_OtherFields.mg T.cl.c_OtherFields.kp (da_cons de_str da_nil)) (da_cons (de_callC (cd_err1 T.cl.k_BadTest en_BadTest eb_BadTest (hr.mono (by omega)) T.sup) T.cl.c_BadTest.mg T.cl.c_BadTest.kp (da_cons (de_v 0) da_nil)) (da_cons (de_callC (cd_err1 T.cl.k_BadPacket en_BadPacket eb_BadPacket (hr.mono (by omega)) T.sup) T.cl.c_BadPacket.mg T.cl.c_BadPacket.kp (da_cons (de_v 0) da_nil)) (da_cons (de_callC (cd_err1 T.cl.k_BadMost en_BadMost eb_BadMost (hr.mono (by omega)) T.sup) T.cl.c_BadMost.mg T.cl.c_BadMost.kp (da_cons (de_v 0) da_nil)) da_nil))))))) sc__law_each.nd)
    (dss_cons (ds_s (i := 2) (de_op od_add (de_v 2) (de_lst (da_cons (de_callC (cd_err1 T.cl.k_NoPlace en_NoPlace eb_NoPlace (hr.mono (by omega)) T.sup) T.cl.c_NoPlace.mg T.cl.c_NoPlace.kp (da_cons (de_v 0) da_nil)) (da_cons (de_callC (cd_err1 T.cl.k_BadWord en_BadWord eb_BadWord (hr.mono (by omega)) T.sup) T.cl.c_BadWord.mg T.cl.c_BadWord.kp (da_cons (de_v 0) da_nil)) (da_cons (de_callC (cd_err1 T.cl.k_BadTests en_BadTests eb_BadTests (hr.mono (by omega)) T.sup) T.cl.c_BadTests.mg T.cl.c_BadTests.kp (da_cons (de_v 0) da_nil)) (da_cons (de_callC (cd_err1 T.cl.k_NoPart en_NoPart eb_NoPart (hr.mono (by omega)) T.sup) T.cl.c_NoPart.mg T.cl.c_NoPart.kp (da_cons (de_v 0) da_nil)) (da_cons (de_callC (cd_err0 T.cl.e_BadLot) T.cl.c_BadLot.mg T.cl.c_BadLot.kp (da_cons de_str da_nil)) da_nil))))))) sc__law_each.nd)
    (dss_cons (ds_s (i := 2) (de_op od_add (de_v 2) (de_lst (da_cons (de_callC (cd_err1 T.cl.k_BadNet en_BadNet eb_BadNet (hr.mono (by omega)) T.sup) T.cl.c_BadNet.mg T.cl.c_BadNet.kp (da_cons (de_v 0) da_nil)) (da_cons (de_callC (cd_err1 T.cl.k_BadRule en_BadRule eb_BadRule (hr.mono (by omega)) T.sup) T.cl.c_BadRule.mg T.cl.c_BadRule.kp (da_cons (de_v 0) da_nil)) (da_cons (de_callC (cd_err1 T.cl.k_BadDeed en_BadDeed eb_BadDeed (hr.mono (by omega)) T.sup) T.cl.c_BadDeed.mg T.cl.c_BadDeed.kp (da_cons (de_v 0) da_nil)) (da_cons (de_callC (cd_err0 T.cl.e_NothingLeft) T.cl.c_NothingLeft.mg T.cl.c_NothingLeft.kp (da_cons de_str da_nil)) (da_cons (de_callC (cd_err1 T.cl.k_BadJournal en_BadJournal eb_BadJournal (hr.mono (by omega)) T.sup) T.cl.c_BadJournal.mg T.cl.c_BadJournal.kp (da_cons (de_v 0) da_nil)) da_nil))))))) sc__law_each.nd)
    (dss_one (ds_ret (de_op od_add (de_v 2) (de_lst (da_cons (de_callC (cd_err1 T.cl.k_BadText en_BadText eb_BadText (hr.mono (by omega)) T.sup) T.cl.c_BadText.mg T.cl.c_BadText.kp (da_cons (de_v 0) da_nil)) (da_cons (de_callC (cd_err1 T.cl.k_BadName en_BadName eb_BadName (hr.mono (by omega)) T.sup) T.cl.c_BadName.mg T.cl.c_BadName.kp (da_cons (de_v 0) da_nil)) da_nil))))))))))
abbrev s__law_by_name : Stmt := top 31
theorem sc__law_by_name : FnScope n__law_by_name ["matter", "more"] (defScope s__law_by_name) := ⟨rfl, rfl, rfl, by decide +kernel, rfl, by decide +kernel, by decide +kernel⟩
theorem ok__law_by_name {f : Addr} {fd : FuncData} (T : Txt P C K mg base) (a : At K mg "_law_by_name" s__law_by_name f fd) : Ok P w K mg base "_law_by_name" s__law_by_name 3 ["matter", "more"] (W__law_by_name C) := by
  refine Ok.mk' a (a.fn.binds fun _ _ _ _ _ _ us hl => match us, hl with | [_, _], _ => rfl) (fnG_of a.fn sc__law_by_name (w__law_by_name C).1 (w__law_by_name C).2 fun cdv A outer s H hr hgd => ⟨m__law_by_name C, ?_, r__law_by_name C⟩)
  unfold m__law_by_name
  exact (dss_cons (ds_s (i := 2) (de_lst (da_cons (de_errK T.cl.k_TooMany en_TooMany ebk_TooMany (hr.mono (by omega)) T.sup T.cl.c_TooMany.mg T.cl.c_TooMany.kp (dk_cons (de_v 1) (dk_cons (de_v 0) dk_nil))) (da_cons (de_errK T.cl.k_BadProgram en_BadProgram ebk_BadProgram (hr.mono (by omega)) T.sup T.cl.c_BadProgram.mg T.cl.c_BadProgram.kp (dk_cons (de_v 0) dk_nil)) (da_cons (de_errK T.cl.k_BadTest en_BadTest ebk_BadTest (hr.mono (by omega)) T.sup T.cl.c_BadTest.mg T.cl.c_BadTest.kp (dk_cons (de_v 0) dk_nil)) (da_cons (de_errK T.cl.k_BadPacket en_BadPacket ebk_BadPacket (hr.mono (by omega)) T.sup T.cl.c_BadPacket.mg T.cl.c_BadPacket.kp (dk_cons (de_v 0) dk_nil)) da_nil))))) sc__law_by_name.nd)
    (dss_cons (ds_s (i := 2) (de_op od_add (de_v 2) (de_lst (da_cons (de_errK T.cl.k_BadMost en_BadMost ebk_BadMost (hr.mono (by omega)) T.sup T.cl.c_BadMost.mg T.cl.c_BadMost.kp (dk_cons (de_v 0) dk_nil)) (da_cons (de_errK T.cl.k_NoPlace en_NoPlace ebk_NoPlace (hr.mono (by omega)) T.sup T.cl.c_NoPlace.mg T.cl.c_NoPlace.kp (dk_cons (de_v 0) dk_nil)) (da_cons (de_errK T.cl.k_BadWord en_BadWord ebk_BadWord (hr.mono (by omega)) T.sup T.cl.c_BadWord.mg T.cl.c_BadWord.kp (dk_cons (de_v 0) dk_nil)) (da_cons (de_errK T.cl.k_BadTests en_BadTests ebk_BadTests (hr.mono (by omega)) T.sup T.cl.c_BadTests.mg T.cl.c_BadTests.kp (dk_cons (de_v 0) dk_nil)) da_nil)))))) sc__law_by_name.nd)
    (dss_cons (ds_s (i := 2) (de_op od_add (de_v 2) (de_lst (da_cons (de_errK T.cl.k_NoPart en_NoPart ebk_NoPart (hr.mono (by omega)) T.sup T.cl.c_NoPart.mg T.cl.c_NoPart.kp (dk_cons (de_v 0) dk_nil)) (da_cons (de_errK T.cl.k_BadNet en_BadNet ebk_BadNet (hr.mono (by omega)) T.sup T.cl.c_BadNet.mg T.cl.c_BadNet.kp (dk_cons (de_v 0) dk_nil)) (da_cons (de_errK T.cl.k_BadRule en_BadRule ebk_BadRule (hr.mono (by omega)) T.sup T.cl.c_BadRule.mg T.cl.c_BadRule.kp (dk_cons (de_v 0) dk_nil)) (da_cons (de_errK T.cl.k_BadDeed en_BadDeed ebk_BadDeed (hr.mono (by omega)) T.sup T.cl.c_BadDeed.mg T.cl.c_BadDeed.kp (dk_cons (de_v 0) dk_nil)) da_nil)))))) sc__law_by_name.nd)
    (dss_one (ds_ret (de_op od_add (de_v 2) (de_lst (da_cons (de_errK T.cl.k_BadJournal en_BadJournal ebk_BadJournal (hr.mono (by omega)) T.sup T.cl.c_BadJournal.mg T.cl.c_BadJournal.kp (dk_cons (de_v 0) dk_nil)) (da_cons (de_errK T.cl.k_BadText en_BadText ebk_BadText (hr.mono (by omega)) T.sup T.cl.c_BadText.mg T.cl.c_BadText.kp (dk_cons (de_v 0) dk_nil)) (da_cons (de_errK T.cl.k_BadName en_BadName ebk_BadName (hr.mono (by omega)) T.sup T.cl.c_BadName.mg T.cl.c_BadName.kp (dk_cons (de_v 0) dk_nil)) da_nil))))))))))
abbrev s__law_kept : Stmt := top 32
theorem sc__law_kept : FnScope n__law_kept ["some"] (defScope s__law_kept) := ⟨rfl, rfl, rfl, by decide +kernel, rfl, by decide +kernel, by decide +kernel⟩
theorem ok__law_kept {f : Addr} {fd : FuncData} (T : Txt P C K mg base) (a : At K mg "_law_kept" s__law_kept f fd) : Ok P w K mg base "_law_kept" s__law_kept 1 ["some"] (W__law_kept C) := by
  refine Ok.mk' a (a.fn.binds fun _ _ _ _ _ _ us hl => match us, hl with | [_], _ => rfl) (fnG_of a.fn sc__law_kept (w__law_kept C).1 (w__law_kept C).2 fun cdv A outer s H hr hgd => ⟨m__law_kept C, ?_, r__law_kept C⟩)
  unfold m__law_kept
  exact (dss_cons (ds_s (i := 1) (de_lst (da_cons (de_attrE (attX_ok (att_E T)) (de_ix xd_ix (de_v 0) de_int (fun _ _ => rfl))) (da_cons (de_attrE (attX_ok (att_E T)) (de_ix xd_ix (de_v 0) de_int (fun _ _ => rfl))) (da_cons (de_attrE (attX_ok (att_E T)) (de_ix xd_ix (de_v 0) de_int (fun _ _ => rfl))) (da_cons (de_attrE (attX_ok (att_E T)) (de_ix xd_ix (de_v 0) de_int (fun _ _ => rfl))) (da_cons (de_attrE (attX_ok (att_E T)) (de_ix xd_ix (de_v 0) de_int (fun _ _ => rfl))) (da_cons (de_attrE (attX_ok (att_E T)) (de_ix xd_ix (de_v 0) de_int (fun _ _ => rfl))) (da_cons (de_attrE (attX_ok (att_E T)) (de_ix xd_ix (de_v 0) de_int (fun _ _ => rfl))) da_nil)))))))) sc__law_kept.nd)
    (dss_cons (ds_s (i := 1) (de_op od_add (de_v 1) (de_lst (da_cons (de_attrE (attX_ok (att_E T)) (de_ix xd_ix (de_v 0) de_int (fun _ _ => rfl))) (da_cons (de_attrE (attX_ok (att_E T)) (de_ix xd_ix (de_v 0) de_int (fun _ _ => rfl))) (da_cons (de_attrE (attX_ok (att_E T)) (de_ix xd_ix (de_v 0) de_int (fun _ _ => rfl))) (da_cons (de_attrE (attX_ok (att_E T)) (de_ix xd_ix (de_v 0) de_int (fun _ _ => rfl))) (da_cons (de_attrE (attX_ok (att_E T)) (de_ix xd_ix (de_v 0) de_int (fun _ _ => rfl))) (da_cons (de_attrE (attX_ok (att_E T)) (de_ix xd_ix (de_v 0) de_int (fun _ _ => rfl))) (da_cons (de_attrE (attX_ok (att_E T)) (de_ix xd_ix (de_v 0) de_int (fun _ _ => rfl))) da_nil))))))))) sc__law_kept.nd)
    (dss_one (ds_ret (de_op od_add (de_op od_add (de_lst (da_cons (de_attrE (attX_ok (att_E T)) (de_ix xd_ix (de_v 0) de_int (fun _ _ => rfl))) da_nil)) (de_v 1)) (de_lst (da_cons (de_attrE (attX_ok (att_E T)) (de_ix xd_ix (de_v 0) de_int (fun _ _ => rfl))) da_nil)))))))
abbrev s__law_keeping : Stmt := top 33
theorem sc__law_keeping : FnScope n__law_keeping ["some"] (defScope s__law_keeping) := ⟨rfl, rfl, rfl, by decide +kernel, rfl, by decide +kernel, by decide +kernel⟩
theorem ok__law_keeping {f : Addr} {fd : FuncData} (T : Txt P C K mg base) (a : At K mg "_law_keeping" s__law_keeping f fd) : Ok P w K mg base "_law_keeping" s__law_keeping 1 ["some"] W__law_keeping := by
  refine Ok.mk' a (a.fn.binds fun _ _ _ _ _ _ us hl => match us, hl with | [_], _ => rfl) (fnG_of a.fn sc__law_keeping w__law_keeping.1 w__law_keeping.2 fun cdv A outer s H hr hgd => ⟨m__law_keeping, ?_, r__law_keeping⟩)
  unfold m__law_keeping
  exact (dss_one (ds_ret (de_lc (p := fun z => z.w = w) (i := 1) (by first | exact fun _ _ _ h => h | exact fun _ _ _ h => h.1) rfl sc__law_keeping.nd (di_iter (de_lst (da_cons de_int (da_cons de_int (da_cons de_int (da_cons de_int (da_cons de_int (da_cons de_int (da_cons de_int (da_cons de_int (da_cons de_int (da_cons de_int (da_cons de_int (da_cons de_int (da_cons de_int (da_cons de_int (da_cons de_int da_nil))))))))))))))))) (blkOk_by (own := [("spot", 1)]) (N := n__law_keeping) (sc := defScope s__law_keeping) (by decide +kernel)) (fun _ _ _ _ _ => pg_name (i := 1) sc__law_keeping.nd rfl (by first | exact Or.inl rfl | exact Or.inr rfl)) (fun _ _ _ _ _ => dts_nil) (fun _ _ _ _ _ => (de_ix xd_ix (de_v 0) (de_v 1) (fun _ _ => rfl))))))
abbrev s_law : Stmt := top 34
abbrev n_law : List Str := ["script", "state", "turn", "matter", "more", "some", "others", "spot", "error", "k", "due", "turned"]
theorem sc_law : FnScope n_law ["script"] (defScope s_law) := ⟨rfl, rfl, rfl, by decide +kernel, rfl, by decide +kernel, by decide +kernel⟩
def m_law (C : Ad) : MS := (mSeq (mFor (mRange (mCons (mBin addW (mC (.int 3)) (mCB min2W (mCons (mCB lenW (mCons (mVar 0) mNil)) (mCons (mC (.int 10)) mNil)))) mNil)) (gN 2) (mSeq (mPar 3 4 (mCons (mCall W__law_odd (mCons (mVar 1) mNil)) (mCons (mCall W__law_pick (mCons (mVar 1) (mCons (mLst (mCons (mCall W__law_odd (mCons (mVar 1) mNil)) (mCons (mCall W__law_take (mCons (mVar 1) (mCons (mBin powW (mC (.int 10)) (mC (.int 9))) mNil))) mNil))) mNil))) mNil)))
  (mSeq (mAsgG (gN2 5 6) (mTup (mCons (mCall (W__law_each C) (mCons (mVar 3) (mCons (mVar 4) mNil))) (mCons (mCall (W__law_each C) (mCons (mVar 4) (mCons (mVar 3) mNil))) mNil))))
  (mSeq (mFor (mEnum (mCons (mVar 5) mNil)) (gN2 7 8) (mSeq (mIfS (mOr (mNot (mB (mCB (isXW (relX C.WayError (clsL_k01 C))) (mCons (mVar 8) (mCons (mC (.cls C.WayError)) mNil))))) (mNot (mB (mCB (isXW (relX C.WayError (clsL_k01 C))) (mCons (mVar 8) (mCons (mC (.ty "ValueError")) mNil)))))) (mRet (mC (.bl false))) mNext)
  (mIfS (mB (mBin neX (mCall (W__law_marks C) (mCons (mVar 8) mNil)) (mLc 9 (mRange (mCons (mC (.int 21)) mNil)) mYes (mBin eqX (mVar 9) (mVar 7))))) (mRet (mC (.bl false))) mNext)))
  (mSeq (mPar 10 11 (mCons (mCB reprW (mCons (mBin addW (mLst (mCons (mVar 4) mNil)) (mBin mulW (mLst (mCons (mVar 3) mNil)) (mC (.int 15)))) mNil)) (mCons (mCB reprW (mCons (mBin addW (mLst (mCons (mVar 3) mNil)) (mBin mulW (mLst (mCons (mVar 4) mNil)) (mC (.int 15)))) mNil)) mNil)))
  (mSeq (mIfS (mOr (mB (mBin neX (mCB reprW (mCons (mCall (W__law_kept C) (mCons (mCall W__law_keeping (mCons (mVar 5) mNil)) mNil)) mNil)) (mVar 10))) (mB (mBin neX (mCB reprW (mCons (mCall (W__law_kept C) (mCons (mCall (W__law_by_name C) (mCons (mVar 3) (mCons (mVar 4) mNil))) mNil)) mNil)) (mVar 10)))) (mRet (mC (.bl false))) mNext)
  (mSeq (mIfS (mB (mBin neX (mCB reprW (mCons (mCall (W__law_kept C) (mCons (mCall W__law_keeping (mCons (mVar 6) mNil)) mNil)) mNil)) (mVar 11))) (mRet (mC (.bl false))) mNext)
  (mIfS (mB (mBin neX (mLc 9 (mIter (mLst (mCons (mC (.int 0)) (mCons (mC (.int 1)) (mCons (mC (.int 2)) (mCons (mC (.int 5)) (mCons (mC (.int 13)) (mCons (mC (.int 17)) mNil)))))))) mYes (mCB (strEW (okC_k01 C)) (mCons (mBin ixW (mVar 5) (mVar 9)) mNil))) (mBin mulW (mLst (mCons (mC (.str "as said")) mNil)) (mC (.int 6))))) (mRet (mC (.bl false))) mNext))))))))
  (mRet (mAndV (mBin (inW true) (mC (.bl true)) (mCall (W__law_marks C) (mCons (mCB (errW0 C.WayError) (mCons (mC (.str "as said")) mNil)) mNil))) (mCB (isXW (relX C.WayError (clsL_k01 C))) (mCons (mCB (errW0 C.WayError) (mCons (mC (.str "as said")) mNil)) (mCons (mC (.ty "ValueError")) mNil))))))
theorem odd_sm : ∀ d ∈ oddL, d.sm 2000 2 = true := by decide +kernel
def okV (d : D) : Prop := d.sm 2000 2 = true
theorem show16 {a b : D} (ha : okV a) (hb : okV b) : (D.lst (b :: List.replicate 15 a)).showable = true := by
  have := sm_lst (ds := b :: List.replicate 15 a) (c := 2000) (k := 2) fun d hd => by
    rcases List.mem_cons.mp hd with rfl | hd
    · exact hb
    · rw [List.eq_of_mem_replicate hd]; exact ha
  exact showable_of_sm this (by simp [sizeLine]) (by decide)
theorem isX_W {W : Addr} {L : List Addr} {c : Addr} {ns : List Str} {fs : List D} {i : Nat} {k : KD} (hi : L[i]? = some c) (q : k (.bl true)) : isXW (relX W L) [.exn c ns fs, .cls W] k :=
  ⟨c, ns, fs, _, _, _, rfl, rfl, .inl ⟨i, hi, .inr (.inl ⟨rfl, rfl⟩)⟩, q⟩
theorem isX_V {W : Addr} {L : List Addr} {c : Addr} {ns : List Str} {fs : List D} {i : Nat} {k : KD} (hi : L[i]? = some c) (q : k (.bl true)) : isXW (relX W L) [.exn c ns fs, .ty "ValueError"] k :=
  ⟨c, ns, fs, _, _, _, rfl, rfl, .inl ⟨i, hi, .inr (.inr ⟨rfl, rfl⟩)⟩, q⟩
theorem isX_WV {W : Addr} {L : List Addr} {ns : List Str} {fs : List D} {k : KD} (q : k (.bl true)) : isXW (relX W L) [.exn W ns fs, .ty "ValueError"] k :=
  ⟨W, ns, fs, _, _, _, rfl, rfl, .inr ⟨rfl, .inr ⟨rfl, rfl⟩⟩, q⟩
theorem eqv_rfl {d : D} {p : PyData} (e : d.py = some p) (h : PySem.W.alike p p = true) : D.eqv d d = true := by
  unfold D.eqv
  rw [e]
  exact PySem.W.eqv_refl_alike p h
theorem pyA_bls : ∀ l : List Bool, D.pyA (l.map D.bl) = some (l.map PyData.bool)
  | [] => rfl
  | x :: l => by simp [D.pyA, D.py, pyA_bls l]
theorem alikeAll_bls : ∀ (a b : List Bool), PySem.W.alikeAll (a.map PyData.bool) (b.map PyData.bool) = true
  | [], _ => by simp [PySem.W.alikeAll]
  | _ :: _, [] => by simp [PySem.W.alikeAll]
  | x :: a, y :: b => by simp [PySem.W.alikeAll, PySem.W.alike, alikeAll_bls a b]
theorem eqv_bls (l : List Bool) : D.eqv (.lst (l.map D.bl)) (.lst (l.map D.bl)) = true := eqv_rfl (p := .list (l.map PyData.bool)) (by simp [D.py, pyA_bls]) (by simp [PySem.W.alike, alikeAll_bls])
theorem shaped_bls (l : List Bool) : (D.lst (l.map D.bl)).shaped = true := shaped_of_lay (lay_lst fun d hd => by
  obtain ⟨i, _, rfl⟩ := List.mem_map.mp hd
  exact lay_bl i) (by decide)
theorem marks_ne (i : Nat) {k : KD} (q : k (.bl false)) : neX (.lst (marksL i)) (.lst ((List.range 21).map fun j => D.bl (decide (i = j)))) k := by
  have e : marksL i = ((List.range 21).map fun j => decide (i = j)).map D.bl := by unfold marksL; rw [List.map_map]; rfl
  have e2 : ((List.range 21).map fun j => D.bl (decide (i = j))) = ((List.range 21).map fun j => decide (i = j)).map D.bl := by rw [List.map_map]; rfl
  rw [e, e2]
  exact ⟨.inr ⟨shaped_bls _, shaped_bls _⟩, by rw [eqv_bls]; exact q⟩
theorem rep15 (a : D) : rep [a] 15 = List.replicate 15 a := rfl
theorem keptR {C : Ad} {a b : D} {n : Nat} {k : D → Nat → Prop} (q : k (.lst (b :: List.replicate 15 a)) n) : W__law_kept C [.lst (keepL C a b)] n k := ⟨a, b, rfl, q⟩
theorem neS {x : Str} {k : KD} (q : k (.bl false)) : neX (.str x) (.str x) k := ⟨.inl rfl, by rw [eqv_str]; simpa using q⟩
theorem alikeAll_strs : ∀ (a b : List Str), PySem.W.alikeAll (a.map PyData.str) (b.map PyData.str) = true
  | [], _ => by simp [PySem.W.alikeAll]
  | _ :: _, [] => by simp [PySem.W.alikeAll]
  | x :: a, y :: b => by simp [PySem.W.alikeAll, PySem.W.alike, alikeAll_strs a b]
theorem pyA_strs : ∀ l : List Str, D.pyA (l.map D.str) = some (l.map PyData.str)
  | [] => rfl
  | x :: l => by simp [D.pyA, D.py, pyA_strs l]
theorem said_ne {k : KD} (q : k (.bl false)) : neX (.lst (List.replicate 6 (.str "as said"))) (.lst (rep [.str "as said"] 6)) k := by
  have e : rep [D.str "as said"] 6 = (List.replicate 6 ("as said" : Str)).map D.str := rfl
  have e2 : List.replicate 6 (D.str "as said") = (List.replicate 6 ("as said" : Str)).map D.str := rfl
  rw [e, e2]
  have h1 : (D.lst ((List.replicate 6 ("as said" : Str)).map D.str)).shaped = true := shaped_of_lay (lay_lst fun d hd => by
    obtain ⟨i, hi, rfl⟩ := List.mem_map.mp hd
    rw [List.eq_of_mem_replicate hi]
    exact lay_str (by decide +kernel)) (by decide)
  have h2 : D.eqv (.lst ((List.replicate 6 ("as said" : Str)).map D.str)) (.lst ((List.replicate 6 ("as said" : Str)).map D.str)) = true := eqv_rfl (p := .list ((List.replicate 6 ("as said" : Str)).map PyData.str)) (by simp only [D.py, pyA_strs, Option.map_some]) (by unfold PySem.W.alike; exact alikeAll_strs _ _)
  exact ⟨.inr ⟨h1, h1⟩, by rw [h2]; exact q⟩
theorem each_at (C : Ad) (a b : D) : ∀ d ∈ enumD 0 (eachL C a b), ∃ (i : Nat) (c : Addr) (ns : List Str) (fs : List D), d = .tup [.int (i : Int), .exn c ns fs] ∧ (clsL_k01 C)[i]? = some c := by
  intro d hd
  simp only [eachL, enumD, saidE, List.mem_cons, List.not_mem_nil, or_false] at hd
  rcases hd with rfl | rfl | rfl | rfl | rfl | rfl | rfl | rfl | rfl | rfl | rfl | rfl | rfl | rfl | rfl | rfl | rfl | rfl | rfl | rfl | rfl
  · exact ⟨0, _, _, _, rfl, rfl⟩
  · exact ⟨1, _, _, _, rfl, rfl⟩
  · exact ⟨2, _, _, _, rfl, rfl⟩
  · exact ⟨3, _, _, _, rfl, rfl⟩
  · exact ⟨4, _, _, _, rfl, rfl⟩
  · exact ⟨5, _, _, _, rfl, rfl⟩
  · exact ⟨6, _, _, _, rfl, rfl⟩
  · exact ⟨7, _, _, _, rfl, rfl⟩
  · exact ⟨8, _, _, _, rfl, rfl⟩
  · exact ⟨9, _, _, _, rfl, rfl⟩
  · exact ⟨10, _, _, _, rfl, rfl⟩
  · exact ⟨11, _, _, _, rfl, rfl⟩
  · exact ⟨12, _, _, _, rfl, rfl⟩
  · exact ⟨13, _, _, _, rfl, rfl⟩
  · exact ⟨14, _, _, _, rfl, rfl⟩
  · exact ⟨15, _, _, _, rfl, rfl⟩
  · exact ⟨16, _, _, _, rfl, rfl⟩
  · exact ⟨17, _, _, _, rfl, rfl⟩
  · exact ⟨18, _, _, _, rfl, rfl⟩
  · exact ⟨19, _, _, _, rfl, rfl⟩
  · exact ⟨20, _, _, _, rfl, rfl⟩
theorem r_law (C : Ad) : ∀ ns : List Int, ns.length ≤ 63 → m_law C (lawE n_law.length 1 ns) { nx := fun _ => False, rt := fun d _ => d = .bl true } := by
  intro ns hl
  refine seq_gen fun N hN => ?_
  simp only [mFor, mRange]
  simp [lawE, addW, min2W, mRet, mSeq, mNext, mIfS, mSet, mPar, mDrop, mB, mIf, mCB, mCons, mNil, mVar, mC, mBin, mUn, mTup, mLst, mCall, startE, DEnv.at, DEnv.put, lenW]
  refine ⟨⟨by split <;> omega, by split <;> omega⟩, ?_⟩
  have hrl : ∀ j : Int, (rangeD j).length = j.toNat := fun j => by simp [rangeD]
  refine forW_inv (fun ds env => (∃ s2 s3 s4 s5 s6 s7 s8 s9 s10 s11, env.sl = [.da (.scr ns), .da .sta, s2, s3, s4, s5, s6, s7, s8, s9, s10, s11]) ∧ env.mr = none ∧ 10 * ds.length + 10 ≤ env.cr) (fun d ds env k' i a1 a2 a3 a4 => ?_) (fun env i => ?_) _ _ ⟨⟨_, _, _, _, _, _, _, _, _, _, rfl⟩, rfl, by rw [hrl]; simp only; split <;> omega⟩
  · obtain ⟨⟨s2, s3, s4, s5, s6, s7, s8, s9, s10, s11, i1⟩, i2, i3⟩ := i
    obtain ⟨sl, cr, mr⟩ := env
    simp only [List.length_cons] at i1 i2 i3
    subst i1 i2
    clear a2 a3 a4 hN
    simp only [gN]
    refine seq_gen fun N1 hN1 => ?_
    simp [mPar, W__law_odd, W__law_take, powW, CPow, mCons, mNil, mVar, mC, mBin, mLst, mCall, DEnv.at, DEnv.put]
    refine ⟨by omega, fun a ha => ⟨by omega, fun b0 hb0 => ⟨by simp [CPow], _, rfl, by decide, by decide, by omega, fun v v0 v1 => ⟨by decide, ?_⟩⟩⟩⟩
    refine ⟨_, _, rfl, rfl, by simp, by simp, by omega, fun b hb => ?_⟩
    have oa : okV a := odd_sm a ha
    have ob : okV b := by
      simp only [List.mem_cons, List.not_mem_nil, or_false] at hb
      rcases hb with rfl | rfl
      · exact odd_sm _ hb0
      · have v1' : v < 1000000000 := v1
        have p1 : (1000000000 : Int) ≤ 2 ^ 200 := by decide +kernel
        exact (elem_int (by omega) (by omega)).1
    clear hb hb0 v0 v1
    rw [hN1]
    clear hN1
    refine seq_gen fun N2 hN2 => ?_
    simp [mAsgG, gN2, W__law_each, mCons, mNil, mVar, mTup, mCall, DEnv.at, DEnv.put]
    refine ⟨_, _, ⟨rfl, rfl⟩, _, _, ⟨rfl, rfl⟩, by decide, ?_⟩
    rw [hN2]
    clear hN2
    refine seq_gen fun N3 hN3 => ?_
    simp only [mFor, mEnum, mCons, mNil]
    refine var_at rfl ⟨_, rfl, ?_⟩
    have g3 : ∀ s7 s8 s9, N3 ⟨[.da (.scr ns), .da .sta, .da d, .da a, .da b, .da (.lst (eachL C a b)), .da (.lst (eachL C b a)), s7, s8, s9, s10, s11], cr - 1 - 1 - 1 - 1, none⟩ := fun s7 s8 s9 => by
      rw [hN3]
      clear hN3
      refine seq_gen fun N5 hN5 => ?_
      simp [mPar, mCons, mNil, mCB, mBin, mLst, mVar, mC, mulW, addW, DEnv.at, DEnv.put]
      refine ⟨by decide, by decide, by show 1 + 15 ≤ sizeLine; decide, show16 oa ob, by decide, by decide, by show 1 + 15 ≤ sizeLine; decide, show16 ob oa, ?_⟩
      rw [hN5]
      clear hN5
      refine seq_gen fun N6 hN6 => ?_
      simp only [mIfS, mOr, mB, mBin, mCB, mCons, mNil, mCall]
      refine var_at rfl ⟨C, a, b, rfl, keptR ⟨show16 oa ob, var_at rfl (neS ?_)⟩⟩
      simp only [Bool.false_eq_true, if_false]
      refine var_at rfl (var_at rfl ⟨a, b, rfl, keptR ⟨show16 oa ob, var_at rfl (neS ?_)⟩⟩)
      simp only [Bool.false_eq_true, if_false, mNext]
      rw [hN6]
      clear hN6
      refine seq_gen fun N7 hN7 => ?_
      simp only [mIfS, mB, mBin, mCB, mCons, mNil, mCall]
      refine var_at rfl ⟨C, b, a, rfl, keptR ⟨show16 ob oa, var_at rfl (neS ?_)⟩⟩
      simp only [Bool.false_eq_true, if_false, mNext]
      rw [hN7]
      clear hN7
      simp only [mIfS, mB, mBin, mLc, mIter, mLst, mCons, mNil, mC, mulW]
      refine ⟨by decide, ?_⟩
      refine compW_pure (f := fun _ => D.str "as said") _ _ _ (fun d hd k' q => ?_) (by show 0 + 6 ≤ sizeLine; decide) ?_
      · simp only [List.mem_cons, List.not_mem_nil, or_false] at hd
        rcases hd with rfl | rfl | rfl | rfl | rfl | rfl <;>
        · simp only [mCB, mCons, mNil, mBin]
          refine var_at rfl (var_at rfl ⟨_, rfl, _, _, rfl, by simp [okC_k01, clsL_k01], q⟩)
      · refine ⟨by decide, by decide, by decide, ?_⟩
        refine said_ne ?_
        simp only [Bool.false_eq_true, if_false, mNext]
        refine a1 _ ⟨⟨_, _, _, _, _, _, _, _, _, _, rfl⟩, rfl, ?_⟩
        simp only [compE]
        omega
    refine forW_inv (fun ds env => (∃ s7 s8 s9, env.sl = [.da (.scr ns), .da .sta, .da d, .da a, .da b, .da (.lst (eachL C a b)), .da (.lst (eachL C b a)), s7, s8, s9, s10, s11]) ∧ env.mr = none ∧ env.cr = cr - 1 - 1 - 1 - 1 ∧ ∀ d ∈ ds, ∃ (i : Nat) (c : Addr) (ns : List Str) (fs : List D), d = .tup [.int (i : Int), .exn c ns fs] ∧ (clsL_k01 C)[i]? = some c) (fun d1 ds1 env k2 i b1 b2 b3 b4 => ?_) (fun env i => ?_) _ _ ⟨⟨_, _, _, rfl⟩, rfl, rfl, each_at C a b⟩
    · obtain ⟨⟨t7, t8, t9, i1⟩, i2, i4, i5⟩ := i
      obtain ⟨sl, cr1, mr⟩ := env
      simp only at i1 i2 i4
      subst i1 i2 i4
      obtain ⟨i, c, nms, fs, rfl, hi⟩ := i5 d1 List.mem_cons_self
      simp only [gN2]
      refine seq_gen fun N4 hN4 => ?_
      simp [mIfS, mOr, mNot, mB, mCB, mCons, mNil, mVar, mC, DEnv.at, DEnv.put, mNext, mRet]
      refine isX_W hi ?_
      simp
      refine isX_V hi ?_
      simp
      rw [hN4]
      clear hN4
      simp only [mIfS, mB, mBin, mCall, mCons, mNil]
      refine var_at rfl ⟨_, _, _, rfl, .inl ⟨i, hi, ?_⟩⟩
      simp only [mLc, mRange, mCons, mNil, mC]
      refine ⟨by decide, ?_⟩
      refine compW_pure (f := fun d => match d with | .int j => D.bl (j == (i : Int)) | _ => .non) _ _ _ (fun d hd k' q => ?_) (by show 0 + 21 ≤ sizeLine; decide) ?_
      · obtain ⟨j, _, rfl⟩ := List.mem_map.mp hd
        simp [compE, noOw, mBin, mVar, DEnv.at, DEnv.put]
        exact ⟨.inr ⟨shaped_int _, shaped_int _⟩, by rw [eqv_int]; exact q⟩
      · have e : (([] : List D) ++ (rangeD 21).map fun d => match d with | .int j => D.bl (j == (i : Int)) | _ => .non) = (List.range 21).map fun j => D.bl (decide (i = j)) := by
          rw [List.nil_append]
          unfold rangeD
          rw [List.map_map]
          refine List.map_congr_left fun j _ => ?_
          show D.bl (((j : Nat) : Int) == (i : Int)) = _
          congr 1
          by_cases h : i = j
          · subst h; simp
          · have : ¬ ((j : Int) = (i : Int)) := by omega
            simp [h, this]
        rw [e]
        refine marks_ne i ?_
        simp only [Bool.false_eq_true, if_false, mNext]
        exact b1 _ ⟨⟨_, _, _, rfl⟩, rfl, rfl, fun d hd => i5 d (List.mem_cons_of_mem _ hd)⟩
    · obtain ⟨⟨t7, t8, t9, i1⟩, i2, i4, i5⟩ := i
      obtain ⟨sl, cr1, mr⟩ := env
      simp only at i1 i2 i4
      subst i1 i2 i4
      exact g3 _ _ _
  · obtain ⟨⟨s2, s3, s4, s5, s6, s7, s8, s9, s10, s11, i1⟩, i2, i3⟩ := i
    obtain ⟨sl, cr, mr⟩ := env
    simp only at i1 i2 i3
    subst i1 i2
    rw [hN]
    simp only [mRet, mAndV, mBin, mC, mCall, mCons, mNil, mCB, errW0]
    refine ⟨_, rfl, _, _, _, rfl, .inr ⟨rfl, ?_⟩⟩
    refine ⟨rfl, by decide, ?_⟩
    have e : inD (.bl true) (List.replicate 21 (.bl false)) = false := by decide +kernel
    rw [e]
    simp only [if_true, Bool.not_false]
    exact ⟨_, rfl, isX_WV rfl⟩
theorem law_all {f__law_mixed f__law_take f__law_begun f__law_pick f__law_odd f__law_marks f__law_each f__law_by_name f__law_kept f__law_keeping f_law : Addr} {fd__law_mixed fd__law_take fd__law_begun fd__law_pick fd__law_odd fd__law_marks fd__law_each fd__law_by_name fd__law_kept fd__law_keeping fd_law : FuncData} (nb : NB mg) (sup : mg "super" = none) (ve : mg "ValueError" = none) (enum : mg "enumerate" = none) (cl : Cls P C K mg) (at__law_mixed : At K mg "_law_mixed" s__law_mixed f__law_mixed fd__law_mixed) (at__law_take : At K mg "_law_take" s__law_take f__law_take fd__law_take) (at__law_begun : At K mg "_law_begun" s__law_begun f__law_begun fd__law_begun) (at__law_pick : At K mg "_law_pick" s__law_pick f__law_pick fd__law_pick) (at__law_odd : At K mg "_law_odd" s__law_odd f__law_odd fd__law_odd) (at__law_marks : At K mg "_law_marks" s__law_marks f__law_marks fd__law_marks) (at__law_each : At K mg "_law_each" s__law_each f__law_each fd__law_each) (at__law_by_name : At K mg "_law_by_name" s__law_by_name f__law_by_name fd__law_by_name) (at__law_kept : At K mg "_law_kept" s__law_kept f__law_kept fd__law_kept) (at__law_keeping : At K mg "_law_keeping" s__law_keeping f__law_keeping fd__law_keeping) (at_law : At K mg "law" s_law f_law fd_law) (low : ∃ o, base.get? sysModules = some o) : LawOk P w K mg base 5 f_law fd_law := by
  have T : Txt P C K mg base := ⟨nb, low, sup, ve, enum, cl⟩
  have t0 : FnOk P w K mg base CX0 2 f__law_take fd__law_take ["state", "size"] spTake := ok_take0 T at__law_take.fn at__law_mixed.fn at__law_mixed.mg
  have o__law_take : Ok P w K mg base "_law_take" s__law_take 2 ["state", "size"] W__law_take := Ok.mk' at__law_take (at__law_take.fn.binds (ps := ["state", "size"]) fun _ _ _ _ _ _ us hl => match us, hl with | [_, _], _ => rfl) (FnG.ofOk t0 w__law_take take_of)
  have o__law_pick := ok__law_pick (P := P) (w := w) T at__law_pick o__law_take
  have o__law_odd := ok__law_odd (P := P) (w := w) T at__law_odd o__law_pick
  have o__law_marks := ok__law_marks (P := P) (w := w) T at__law_marks
  have o__law_each := ok__law_each (P := P) (w := w) T at__law_each
  have o__law_by_name := ok__law_by_name (P := P) (w := w) T at__law_by_name
  have o__law_kept := ok__law_kept (P := P) (w := w) T at__law_kept
  have o__law_keeping := ok__law_keeping (P := P) (w := w) T at__law_keeping
  refine law_of (k := 4) (si := 1) (m := m_law C) at_law.fn sc_law rfl at__law_begun.fn at__law_begun.mg (at__law_begun.fn.binds (ps := ["script"]) fun _ _ _ _ _ _ us hl => match us, hl with | [_], _ => rfl) (ok_begun0 T at__law_begun.fn) (by decide) rfl rfl (by first | exact Or.inl rfl | exact Or.inr (Or.inl rfl) | exact Or.inr (Or.inr rfl)) (by first | exact Or.inl rfl | exact Or.inr rfl) rfl (fun cdv A outer s H hr hgd => ?_) (r_law C)
  unfold m_law
  exact (dss_cons (ds_for PassesOwn.never rfl (di_range (by rfl) T.nb.range (da_cons (de_op od_add de_int (de_callB (cd_min2 rfl) (by rfl) T.nb.min bt_min (da_cons (de_callB cd_len (by rfl) T.nb.len bt_len (da_cons (de_v 0) da_nil)) (da_cons de_int da_nil)))) da_nil)) (dg_name (i := 2) sc_law.nd rfl (by first | exact Or.inl rfl | exact Or.inr rfl)) (dss_cons (ds_par (i := 3) (j := 4) rfl sc_law.nd rfl rfl (by decide) rfl rfl (da_cons (de_ok o__law_odd (hr.mono (by omega)) hgd (da_cons (de_v 1) da_nil)) (da_cons (de_ok o__law_pick (hr.mono (by omega)) hgd (da_cons (de_v 1) (da_cons (de_lst (da_cons (de_ok o__law_odd (hr.mono (by omega)) hgd (da_cons (de_v 1) da_nil)) (da_cons (de_ok o__law_take (hr.mono (by omega)) hgd (da_cons (de_v 1) (da_cons (de_op od_pow de_int de_int) da_nil))) da_nil))) da_nil))) da_nil)) (by rfl))
    (dss_cons (ds_asgG (dg_pair (i := 5) (j := 6) rfl sc_law.nd rfl (by first | exact Or.inl rfl | exact Or.inr rfl) rfl (by first | exact Or.inl rfl | exact Or.inr rfl)) (de_tup (da_cons (de_ok o__law_each (hr.mono (by omega)) hgd (da_cons (de_v 3) (da_cons (de_v 4) da_nil))) (da_cons (de_ok o__law_each (hr.mono (by omega)) hgd (da_cons (de_v 4) (da_cons (de_v 3) da_nil))) da_nil))))
    (dss_cons (ds_for PassesOwn.never rfl (di_enum T.enum (da_cons (de_v 5) da_nil)) (dg_pair (i := 7) (j := 8) rfl sc_law.nd rfl (by first | exact Or.inl rfl | exact Or.inr rfl) rfl (by first | exact Or.inl rfl | exact Or.inr rfl)) (dss_cons (ds_if (DW.dt (dw_or (dt_not (dt_val (de_callB (cd_isX (relX_ok (all_E T))) (by rfl) T.nb.isinstance bt_isinstance (da_cons (de_v 8) (da_cons (de_glob T.cl.c_WayError.glob) da_nil))))) (dw_or1 (dt_not (dt_val (de_callB (cd_isX (relX_ok (all_E T))) (by rfl) T.nb.isinstance bt_isinstance (da_cons (de_v 8) (da_cons (de_ty T.ve bt_ValueError) da_nil)))))))) (dss_one (ds_ret de_bl)) dss_nil)
    (dss_one (ds_if (dt_cmp (od_neX hr.units T.low) (de_ok o__law_marks (hr.mono (by omega)) hgd (da_cons (de_v 8) da_nil)) (de_lc (p := fun z => z.w = w) (i := 9) (by first | exact fun _ _ _ h => h | exact fun _ _ _ h => h.1) rfl sc_law.nd (di_range (by rfl) T.nb.range (da_cons de_int da_nil)) (blkOk_by (own := [("k", 9)]) (N := n_law) (sc := defScope s_law) (by decide +kernel)) (fun _ _ _ _ _ => pg_name (i := 9) sc_law.nd rfl (by first | exact Or.inl rfl | exact Or.inr rfl)) (fun _ _ _ _ _ => dts_nil) (fun _ _ _ _ _ => (de_cmp (od_eqX hr.units T.low) (de_v 9) (de_v 7) (nomark _)))) (nomark _)) (dss_one (ds_ret de_bl)) dss_nil))))
    (dss_cons (ds_par (i := 10) (j := 11) rfl sc_law.nd rfl rfl (by decide) rfl rfl (da_cons (de_callB (cd_repr (by have := hr.un; omega) hgd T.low) (by rfl) T.nb.repr bt_repr (da_cons (de_op od_add (de_lst (da_cons (de_v 4) da_nil)) (de_op od_mul (de_lst (da_cons (de_v 3) da_nil)) de_int)) da_nil)) (da_cons (de_callB (cd_repr (by have := hr.un; omega) hgd T.low) (by rfl) T.nb.repr bt_repr (da_cons (de_op od_add (de_lst (da_cons (de_v 3) da_nil)) (de_op od_mul (de_lst (da_cons (de_v 4) da_nil)) de_int)) da_nil)) da_nil)) (by rfl))
    (dss_cons (ds_if (DW.dt (dw_or (dt_cmp (od_neX hr.units T.low) (de_callB (cd_repr (by have := hr.un; omega) hgd T.low) (by rfl) T.nb.repr bt_repr (da_cons (de_ok o__law_kept (hr.mono (by omega)) hgd (da_cons (de_ok o__law_keeping (hr.mono (by omega)) hgd (da_cons (de_v 5) da_nil)) da_nil)) da_nil)) (de_v 10) (nomark _)) (dw_or1 (dt_cmp (od_neX hr.units T.low) (de_callB (cd_repr (by have := hr.un; omega) hgd T.low) (by rfl) T.nb.repr bt_repr (da_cons (de_ok o__law_kept (hr.mono (by omega)) hgd (da_cons (de_ok o__law_by_name (hr.mono (by omega)) hgd (da_cons (de_v 3) (da_cons (de_v 4) da_nil))) da_nil)) da_nil)) (de_v 10) (nomark _))))) (dss_one (ds_ret de_bl)) dss_nil)
    (dss_cons (ds_if (dt_cmp (od_neX hr.units T.low) (de_callB (cd_repr (by have := hr.un; omega) hgd T.low) (by rfl) T.nb.repr bt_repr (da_cons (de_ok o__law_kept (hr.mono (by omega)) hgd (da_cons (de_ok o__law_keeping (hr.mono (by omega)) hgd (da_cons (de_v 6) da_nil)) da_nil)) da_nil)) (de_v 11) (nomark _)) (dss_one (ds_ret de_bl)) dss_nil)
    (dss_one (ds_if (dt_cmp (od_neX hr.units T.low) (de_lc (p := fun z => z.w = w) (i := 9) (by first | exact fun _ _ _ h => h | exact fun _ _ _ h => h.1) rfl sc_law.nd (di_iter (de_lst (da_cons de_int (da_cons de_int (da_cons de_int (da_cons de_int (da_cons de_int (da_cons de_int da_nil)))))))) (blkOk_by (own := [("k", 9)]) (N := n_law) (sc := defScope s_law) (by decide +kernel)) (fun _ _ _ _ _ => pg_name (i := 9) sc_law.nd rfl (by first | exact Or.inl rfl | exact Or.inr rfl)) (fun _ _ _ _ _ => dts_nil) (fun _ _ _ _ _ => (de_callTy (cd_strE hr.units (str_E T)) (by rfl) T.nb.str bt_str (da_cons (de_ix xd_ix (de_v 5) (de_v 9) (fun _ _ => rfl)) da_nil)))) (de_op od_mul (de_lst (da_cons de_str da_nil)) de_int) (nomark _)) (dss_one (ds_ret de_bl)) dss_nil)))))))))
    (dss_one (ds_ret (de_and (de_cmp od_notin de_bl (de_ok o__law_marks (hr.mono (by omega)) hgd (da_cons (de_callC (cd_err0 T.cl.e_WayError) T.cl.c_WayError.mg T.cl.c_WayError.kp (da_cons de_str da_nil)) da_nil)) (by rfl)) (de_one (de_callB (cd_isX (relX_ok (all_E T))) (by rfl) T.nb.isinstance bt_isinstance (da_cons (de_callC (cd_err0 T.cl.e_WayError) T.cl.c_WayError.mg T.cl.c_WayError.kp (da_cons de_str da_nil)) (da_cons (de_ty T.ve bt_ValueError) da_nil))))))))
end K01
open PySem PySem.W PyProof.Rows
set_option maxRecDepth 100000 in
set_option maxHeartbeats 0 in
theorem PySem.Challenge.cw_markedways_k01_errors_apart_holds : PySem.Challenge.rw_markedways_k01_errors_apart.Holds := by
  w_on; o_law; k_head; (case hw => w_witness2)
  k_fill
  refine DL.walk_law (l := PySem.Challenge.rw_markedways_k01_errors_apart) (k := 5) (by decide +kernel) rfl rfl ⟨rfl, by decide, by decide⟩ (fun w h Y => PySem.W.kIn_of Y) ?F
  case F =>
    intro w mg fa h KX G hmg
    obtain ⟨f__law_mixed, fd__law_mixed, at__law_mixed⟩ := DL.pick KX (p := fun K => ∃ f fd, DL.At K mg "_law_mixed" K01.s__law_mixed f fd) (by
      refine' DL.def_at KX G ?a ?l ?c ?k
      (case a => k_is); (case l => k_is); (case c => k_is); (case k => k_is))
    obtain ⟨f__law_take, fd__law_take, at__law_take⟩ := DL.pick KX (p := fun K => ∃ f fd, DL.At K mg "_law_take" K01.s__law_take f fd) (by
      refine' DL.def_at KX G ?a ?l ?c ?k
      (case a => k_is); (case l => k_is); (case c => k_is); (case k => k_is))
    obtain ⟨f__law_begun, fd__law_begun, at__law_begun⟩ := DL.pick KX (p := fun K => ∃ f fd, DL.At K mg "_law_begun" K01.s__law_begun f fd) (by
      refine' DL.def_at KX G ?a ?l ?c ?k
      (case a => k_is); (case l => k_is); (case c => k_is); (case k => k_is))
    obtain ⟨f__law_pick, fd__law_pick, at__law_pick⟩ := DL.pick KX (p := fun K => ∃ f fd, DL.At K mg "_law_pick" K01.s__law_pick f fd) (by
      refine' DL.def_at KX G ?a ?l ?c ?k
      (case a => k_is); (case l => k_is); (case c => k_is); (case k => k_is))
    obtain ⟨f__law_odd, fd__law_odd, at__law_odd⟩ := DL.pick KX (p := fun K => ∃ f fd, DL.At K mg "_law_odd" K01.s__law_odd f fd) (by
      refine' DL.def_at KX G ?a ?l ?c ?k
      (case a => k_is); (case l => k_is); (case c => k_is); (case k => k_is))
    obtain ⟨f__law_marks, fd__law_marks, at__law_marks⟩ := DL.pick KX (p := fun K => ∃ f fd, DL.At K mg "_law_marks" K01.s__law_marks f fd) (by
      refine' DL.def_at KX G ?a ?l ?c ?k
      (case a => k_is); (case l => k_is); (case c => k_is); (case k => k_is))
    obtain ⟨f__law_each, fd__law_each, at__law_each⟩ := DL.pick KX (p := fun K => ∃ f fd, DL.At K mg "_law_each" K01.s__law_each f fd) (by
      refine' DL.def_at KX G ?a ?l ?c ?k
      (case a => k_is); (case l => k_is); (case c => k_is); (case k => k_is))
    obtain ⟨f__law_by_name, fd__law_by_name, at__law_by_name⟩ := DL.pick KX (p := fun K => ∃ f fd, DL.At K mg "_law_by_name" K01.s__law_by_name f fd) (by
      refine' DL.def_at KX G ?a ?l ?c ?k
      (case a => k_is); (case l => k_is); (case c => k_is); (case k => k_is))
    obtain ⟨f__law_kept, fd__law_kept, at__law_kept⟩ := DL.pick KX (p := fun K => ∃ f fd, DL.At K mg "_law_kept" K01.s__law_kept f fd) (by
      refine' DL.def_at KX G ?a ?l ?c ?k
      (case a => k_is); (case l => k_is); (case c => k_is); (case k => k_is))
    obtain ⟨f__law_keeping, fd__law_keeping, at__law_keeping⟩ := DL.pick KX (p := fun K => ∃ f fd, DL.At K mg "_law_keeping" K01.s__law_keeping f fd) (by
      refine' DL.def_at KX G ?a ?l ?c ?k
      (case a => k_is); (case l => k_is); (case c => k_is); (case k => k_is))
    obtain ⟨f_law, fd_law, at_law⟩ := DL.pick KX (p := fun K => ∃ f fd, DL.At K mg "law" K01.s_law f fd) (by
      refine' DL.def_at KX G ?a ?l ?c ?k
      (case a => k_is); (case l => k_is); (case c => k_is); (case k => k_is))
    have sup : mg "super" = none := DL.pick KX (p := fun _ => mg "super" = none) (by
      refine' PySem.W.mg_none_of KX G ?q_sup
      (case q_sup => k_is))
    have ve : mg "ValueError" = none := DL.pick KX (p := fun _ => mg "ValueError" = none) (by
      refine' PySem.W.mg_none_of KX G ?q_ve
      (case q_ve => k_is))
    have enum : mg "enumerate" = none := DL.pick KX (p := fun _ => mg "enumerate" = none) (by
      refine' PySem.W.mg_none_of KX G ?q_enum
      (case q_enum => k_is))
    obtain ⟨C, cl⟩ := DL.pick KX (p := fun K => ∃ C, K01.Cls PySem.Challenge.rw_markedways_k01_errors_apart.prog C K mg) (by
      refine' K01.cls_mk ?c_WayError ?c_BadFields ?c_BadNumbers ?c_BadTree ?c_TooMany ?c_BadProgram ?c_OtherFields ?c_BadTest ?c_BadPacket ?c_BadMost ?c_NoPlace ?c_BadWord ?c_BadTests ?c_NoPart ?c_BadLot ?c_BadNet ?c_BadRule ?c_BadDeed ?c_NothingLeft ?c_BadJournal ?c_BadText ?c_BadName ?e_WayError ?e_BadFields ?e_BadNumbers ?e_BadTree ?k_TooMany ?k_BadProgram ?e_OtherFields ?k_BadTest ?k_BadPacket ?k_BadMost ?k_NoPlace ?k_BadWord ?k_BadTests ?k_NoPart ?e_BadLot ?k_BadNet ?k_BadRule ?k_BadDeed ?e_NothingLeft ?k_BadJournal ?k_BadText ?k_BadName ?m_WayError ?m_BadFields ?m_BadNumbers ?m_BadTree ?m_TooMany ?m_BadProgram ?m_OtherFields ?m_BadTest ?m_BadPacket ?m_BadMost ?m_NoPlace ?m_BadWord ?m_BadTests ?m_NoPart ?m_BadLot ?m_BadNet ?m_BadRule ?m_BadDeed ?m_NothingLeft ?m_BadJournal ?m_BadText ?m_BadName ?t_WayError ?t_BadFields ?t_BadNumbers ?t_BadTree ?t_TooMany ?t_BadProgram ?t_OtherFields ?t_BadTest ?t_BadPacket ?t_BadMost ?t_NoPlace ?t_BadWord ?t_BadTests ?t_NoPart ?t_BadLot ?t_BadNet ?t_BadRule ?t_BadDeed ?t_NothingLeft ?t_BadJournal ?t_BadText ?t_BadName ?nd
      (case c_WayError => refine' DL.clsE_of KX G ?z0_0 ?z0_1 ?z0_2 ?z0_3 ?z0_4 ?z0_5 ?z0_6 ?z0_7 ?z0_8 ?z0_9 ?z0_10; (case z0_0 => k_is); (case z0_1 => k_is); (case z0_2 => k_is); (case z0_3 => k_is); (case z0_4 => k_is); (case z0_5 => k_is); (case z0_6 => k_is); (case z0_7 => k_is); (case z0_8 => k_is); (case z0_9 => k_is); (case z0_10 => k_is))
      (case c_BadFields => refine' DL.clsE_of KX G ?z1_0 ?z1_1 ?z1_2 ?z1_3 ?z1_4 ?z1_5 ?z1_6 ?z1_7 ?z1_8 ?z1_9 ?z1_10; (case z1_0 => k_is); (case z1_1 => k_is); (case z1_2 => k_is); (case z1_3 => k_is); (case z1_4 => k_is); (case z1_5 => k_is); (case z1_6 => k_is); (case z1_7 => k_is); (case z1_8 => k_is); (case z1_9 => k_is); (case z1_10 => k_is))
      (case c_BadNumbers => refine' DL.clsE_of KX G ?z2_0 ?z2_1 ?z2_2 ?z2_3 ?z2_4 ?z2_5 ?z2_6 ?z2_7 ?z2_8 ?z2_9 ?z2_10; (case z2_0 => k_is); (case z2_1 => k_is); (case z2_2 => k_is); (case z2_3 => k_is); (case z2_4 => k_is); (case z2_5 => k_is); (case z2_6 => k_is); (case z2_7 => k_is); (case z2_8 => k_is); (case z2_9 => k_is); (case z2_10 => k_is))
      (case c_BadTree => refine' DL.clsE_of KX G ?z3_0 ?z3_1 ?z3_2 ?z3_3 ?z3_4 ?z3_5 ?z3_6 ?z3_7 ?z3_8 ?z3_9 ?z3_10; (case z3_0 => k_is); (case z3_1 => k_is); (case z3_2 => k_is); (case z3_3 => k_is); (case z3_4 => k_is); (case z3_5 => k_is); (case z3_6 => k_is); (case z3_7 => k_is); (case z3_8 => k_is); (case z3_9 => k_is); (case z3_10 => k_is))
      (case c_TooMany => refine' DL.clsE_of KX G ?z4_0 ?z4_1 ?z4_2 ?z4_3 ?z4_4 ?z4_5 ?z4_6 ?z4_7 ?z4_8 ?z4_9 ?z4_10; (case z4_0 => k_is); (case z4_1 => k_is); (case z4_2 => k_is); (case z4_3 => k_is); (case z4_4 => k_is); (case z4_5 => k_is); (case z4_6 => k_is); (case z4_7 => k_is); (case z4_8 => k_is); (case z4_9 => k_is); (case z4_10 => k_is))
      (case c_BadProgram => refine' DL.clsE_of KX G ?z5_0 ?z5_1 ?z5_2 ?z5_3 ?z5_4 ?z5_5 ?z5_6 ?z5_7 ?z5_8 ?z5_9 ?z5_10; (case z5_0 => k_is); (case z5_1 => k_is); (case z5_2 => k_is); (case z5_3 => k_is); (case z5_4 => k_is); (case z5_5 => k_is); (case z5_6 => k_is); (case z5_7 => k_is); (case z5_8 => k_is); (case z5_9 => k_is); (case z5_10 => k_is))
      (case c_OtherFields => refine' DL.clsE_of KX G ?z6_0 ?z6_1 ?z6_2 ?z6_3 ?z6_4 ?z6_5 ?z6_6 ?z6_7 ?z6_8 ?z6_9 ?z6_10; (case z6_0 => k_is); (case z6_1 => k_is); (case z6_2 => k_is); (case z6_3 => k_is); (case z6_4 => k_is); (case z6_5 => k_is); (case z6_6 => k_is); (case z6_7 => k_is); (case z6_8 => k_is); (case z6_9 => k_is); (case z6_10 => k_is))
      (case c_BadTest => refine' DL.clsE_of KX G ?z7_0 ?z7_1 ?z7_2 ?z7_3 ?z7_4 ?z7_5 ?z7_6 ?z7_7 ?z7_8 ?z7_9 ?z7_10; (case z7_0 => k_is); (case z7_1 => k_is); (case z7_2 => k_is); (case z7_3 => k_is); (case z7_4 => k_is); (case z7_5 => k_is); (case z7_6 => k_is); (case z7_7 => k_is); (case z7_8 => k_is); (case z7_9 => k_is); (case z7_10 => k_is))
      (case c_BadPacket => refine' DL.clsE_of KX G ?z8_0 ?z8_1 ?z8_2 ?z8_3 ?z8_4 ?z8_5 ?z8_6 ?z8_7 ?z8_8 ?z8_9 ?z8_10; (case z8_0 => k_is); (case z8_1 => k_is); (case z8_2 => k_is); (case z8_3 => k_is); (case z8_4 => k_is); (case z8_5 => k_is); (case z8_6 => k_is); (case z8_7 => k_is); (case z8_8 => k_is); (case z8_9 => k_is); (case z8_10 => k_is))
      (case c_BadMost => refine' DL.clsE_of KX G ?z9_0 ?z9_1 ?z9_2 ?z9_3 ?z9_4 ?z9_5 ?z9_6 ?z9_7 ?z9_8 ?z9_9 ?z9_10; (case z9_0 => k_is); (case z9_1 => k_is); (case z9_2 => k_is); (case z9_3 => k_is); (case z9_4 => k_is); (case z9_5 => k_is); (case z9_6 => k_is); (case z9_7 => k_is); (case z9_8 => k_is); (case z9_9 => k_is); (case z9_10 => k_is))
      (case c_NoPlace => refine' DL.clsE_of KX G ?z10_0 ?z10_1 ?z10_2 ?z10_3 ?z10_4 ?z10_5 ?z10_6 ?z10_7 ?z10_8 ?z10_9 ?z10_10; (case z10_0 => k_is); (case z10_1 => k_is); (case z10_2 => k_is); (case z10_3 => k_is); (case z10_4 => k_is); (case z10_5 => k_is); (case z10_6 => k_is); (case z10_7 => k_is); (case z10_8 => k_is); (case z10_9 => k_is); (case z10_10 => k_is))
      (case c_BadWord => refine' DL.clsE_of KX G ?z11_0 ?z11_1 ?z11_2 ?z11_3 ?z11_4 ?z11_5 ?z11_6 ?z11_7 ?z11_8 ?z11_9 ?z11_10; (case z11_0 => k_is); (case z11_1 => k_is); (case z11_2 => k_is); (case z11_3 => k_is); (case z11_4 => k_is); (case z11_5 => k_is); (case z11_6 => k_is); (case z11_7 => k_is); (case z11_8 => k_is); (case z11_9 => k_is); (case z11_10 => k_is))
      (case c_BadTests => refine' DL.clsE_of KX G ?z12_0 ?z12_1 ?z12_2 ?z12_3 ?z12_4 ?z12_5 ?z12_6 ?z12_7 ?z12_8 ?z12_9 ?z12_10; (case z12_0 => k_is); (case z12_1 => k_is); (case z12_2 => k_is); (case z12_3 => k_is); (case z12_4 => k_is); (case z12_5 => k_is); (case z12_6 => k_is); (case z12_7 => k_is); (case z12_8 => k_is); (case z12_9 => k_is); (case z12_10 => k_is))
      (case c_NoPart => refine' DL.clsE_of KX G ?z13_0 ?z13_1 ?z13_2 ?z13_3 ?z13_4 ?z13_5 ?z13_6 ?z13_7 ?z13_8 ?z13_9 ?z13_10; (case z13_0 => k_is); (case z13_1 => k_is); (case z13_2 => k_is); (case z13_3 => k_is); (case z13_4 => k_is); (case z13_5 => k_is); (case z13_6 => k_is); (case z13_7 => k_is); (case z13_8 => k_is); (case z13_9 => k_is); (case z13_10 => k_is))
      (case c_BadLot => refine' DL.clsE_of KX G ?z14_0 ?z14_1 ?z14_2 ?z14_3 ?z14_4 ?z14_5 ?z14_6 ?z14_7 ?z14_8 ?z14_9 ?z14_10; (case z14_0 => k_is); (case z14_1 => k_is); (case z14_2 => k_is); (case z14_3 => k_is); (case z14_4 => k_is); (case z14_5 => k_is); (case z14_6 => k_is); (case z14_7 => k_is); (case z14_8 => k_is); (case z14_9 => k_is); (case z14_10 => k_is))
      (case c_BadNet => refine' DL.clsE_of KX G ?z15_0 ?z15_1 ?z15_2 ?z15_3 ?z15_4 ?z15_5 ?z15_6 ?z15_7 ?z15_8 ?z15_9 ?z15_10; (case z15_0 => k_is); (case z15_1 => k_is); (case z15_2 => k_is); (case z15_3 => k_is); (case z15_4 => k_is); (case z15_5 => k_is); (case z15_6 => k_is); (case z15_7 => k_is); (case z15_8 => k_is); (case z15_9 => k_is); (case z15_10 => k_is))
      (case c_BadRule => refine' DL.clsE_of KX G ?z16_0 ?z16_1 ?z16_2 ?z16_3 ?z16_4 ?z16_5 ?z16_6 ?z16_7 ?z16_8 ?z16_9 ?z16_10; (case z16_0 => k_is); (case z16_1 => k_is); (case z16_2 => k_is); (case z16_3 => k_is); (case z16_4 => k_is); (case z16_5 => k_is); (case z16_6 => k_is); (case z16_7 => k_is); (case z16_8 => k_is); (case z16_9 => k_is); (case z16_10 => k_is))
      (case c_BadDeed => refine' DL.clsE_of KX G ?z17_0 ?z17_1 ?z17_2 ?z17_3 ?z17_4 ?z17_5 ?z17_6 ?z17_7 ?z17_8 ?z17_9 ?z17_10; (case z17_0 => k_is); (case z17_1 => k_is); (case z17_2 => k_is); (case z17_3 => k_is); (case z17_4 => k_is); (case z17_5 => k_is); (case z17_6 => k_is); (case z17_7 => k_is); (case z17_8 => k_is); (case z17_9 => k_is); (case z17_10 => k_is))
      (case c_NothingLeft => refine' DL.clsE_of KX G ?z18_0 ?z18_1 ?z18_2 ?z18_3 ?z18_4 ?z18_5 ?z18_6 ?z18_7 ?z18_8 ?z18_9 ?z18_10; (case z18_0 => k_is); (case z18_1 => k_is); (case z18_2 => k_is); (case z18_3 => k_is); (case z18_4 => k_is); (case z18_5 => k_is); (case z18_6 => k_is); (case z18_7 => k_is); (case z18_8 => k_is); (case z18_9 => k_is); (case z18_10 => k_is))
      (case c_BadJournal => refine' DL.clsE_of KX G ?z19_0 ?z19_1 ?z19_2 ?z19_3 ?z19_4 ?z19_5 ?z19_6 ?z19_7 ?z19_8 ?z19_9 ?z19_10; (case z19_0 => k_is); (case z19_1 => k_is); (case z19_2 => k_is); (case z19_3 => k_is); (case z19_4 => k_is); (case z19_5 => k_is); (case z19_6 => k_is); (case z19_7 => k_is); (case z19_8 => k_is); (case z19_9 => k_is); (case z19_10 => k_is))
      (case c_BadText => refine' DL.clsE_of KX G ?z20_0 ?z20_1 ?z20_2 ?z20_3 ?z20_4 ?z20_5 ?z20_6 ?z20_7 ?z20_8 ?z20_9 ?z20_10; (case z20_0 => k_is); (case z20_1 => k_is); (case z20_2 => k_is); (case z20_3 => k_is); (case z20_4 => k_is); (case z20_5 => k_is); (case z20_6 => k_is); (case z20_7 => k_is); (case z20_8 => k_is); (case z20_9 => k_is); (case z20_10 => k_is))
      (case c_BadName => refine' DL.clsE_of KX G ?z21_0 ?z21_1 ?z21_2 ?z21_3 ?z21_4 ?z21_5 ?z21_6 ?z21_7 ?z21_8 ?z21_9 ?z21_10; (case z21_0 => k_is); (case z21_1 => k_is); (case z21_2 => k_is); (case z21_3 => k_is); (case z21_4 => k_is); (case z21_5 => k_is); (case z21_6 => k_is); (case z21_7 => k_is); (case z21_8 => k_is); (case z21_9 => k_is); (case z21_10 => k_is))
      (case e_WayError => k_exc)
      (case e_BadFields => k_exc)
      (case e_BadNumbers => k_exc)
      (case e_BadTree => k_exc)
      (case k_TooMany => refine' DL.errK_of K01.io_TooMany ?x26_0 ?x26_1 ?x26_2 (DL.no2 ?v26_0 ?v26_1) ?x26_3 ?x26_4 ?x26_5 ?x26_6 ?x26_7 ?x26_8 ?x26_9 ?x26_10 ?x26_11 ?x26_12 ?x26_13 ?x26_14 ?x26_15; (case v26_0 => k_is); (case v26_1 => k_is); (case x26_0 => k_is); (case x26_1 => decide +kernel); (case x26_2 => k_is); (case x26_3 => k_is); (case x26_4 => k_is); (case x26_5 => k_is); (case x26_6 => k_is); (case x26_7 => k_is); (case x26_8 => kernel_rfl); (case x26_9 => k_is); (case x26_10 => k_is); (case x26_11 => k_is); (case x26_12 => exact rfl); (case x26_13 => kernel_rfl); (case x26_14 => k_is); (case x26_15 => kernel_rfl))
      (case k_BadProgram => refine' DL.errK_of K01.io_BadProgram ?x27_0 ?x27_1 ?x27_2 (DL.no1 ?v27_0) ?x27_3 ?x27_4 ?x27_5 ?x27_6 ?x27_7 ?x27_8 ?x27_9 ?x27_10 ?x27_11 ?x27_12 ?x27_13 ?x27_14 ?x27_15; (case v27_0 => k_is); (case x27_0 => k_is); (case x27_1 => decide +kernel); (case x27_2 => k_is); (case x27_3 => k_is); (case x27_4 => k_is); (case x27_5 => k_is); (case x27_6 => k_is); (case x27_7 => k_is); (case x27_8 => kernel_rfl); (case x27_9 => k_is); (case x27_10 => k_is); (case x27_11 => k_is); (case x27_12 => exact rfl); (case x27_13 => kernel_rfl); (case x27_14 => k_is); (case x27_15 => kernel_rfl))
      (case e_OtherFields => k_exc)
      (case k_BadTest => refine' DL.errK_of K01.io_BadTest ?x29_0 ?x29_1 ?x29_2 (DL.no1 ?v29_0) ?x29_3 ?x29_4 ?x29_5 ?x29_6 ?x29_7 ?x29_8 ?x29_9 ?x29_10 ?x29_11 ?x29_12 ?x29_13 ?x29_14 ?x29_15; (case v29_0 => k_is); (case x29_0 => k_is); (case x29_1 => decide +kernel); (case x29_2 => k_is); (case x29_3 => k_is); (case x29_4 => k_is); (case x29_5 => k_is); (case x29_6 => k_is); (case x29_7 => k_is); (case x29_8 => kernel_rfl); (case x29_9 => k_is); (case x29_10 => k_is); (case x29_11 => k_is); (case x29_12 => exact rfl); (case x29_13 => kernel_rfl); (case x29_14 => k_is); (case x29_15 => kernel_rfl))
      (case k_BadPacket => refine' DL.errK_of K01.io_BadPacket ?x30_0 ?x30_1 ?x30_2 (DL.no1 ?v30_0) ?x30_3 ?x30_4 ?x30_5 ?x30_6 ?x30_7 ?x30_8 ?x30_9 ?x30_10 ?x30_11 ?x30_12 ?x30_13 ?x30_14 ?x30_15; (case v30_0 => k_is); (case x30_0 => k_is); (case x30_1 => decide +kernel); (case x30_2 => k_is); (case x30_3 => k_is); (case x30_4 => k_is); (case x30_5 => k_is); (case x30_6 => k_is); (case x30_7 => k_is); (case x30_8 => kernel_rfl); (case x30_9 => k_is); (case x30_10 => k_is); (case x30_11 => k_is); (case x30_12 => exact rfl); (case x30_13 => kernel_rfl); (case x30_14 => k_is); (case x30_15 => kernel_rfl))
      (case k_BadMost => refine' DL.errK_of K01.io_BadMost ?x31_0 ?x31_1 ?x31_2 (DL.no1 ?v31_0) ?x31_3 ?x31_4 ?x31_5 ?x31_6 ?x31_7 ?x31_8 ?x31_9 ?x31_10 ?x31_11 ?x31_12 ?x31_13 ?x31_14 ?x31_15; (case v31_0 => k_is); (case x31_0 => k_is); (case x31_1 => decide +kernel); (case x31_2 => k_is); (case x31_3 => k_is); (case x31_4 => k_is); (case x31_5 => k_is); (case x31_6 => k_is); (case x31_7 => k_is); (case x31_8 => kernel_rfl); (case x31_9 => k_is); (case x31_10 => k_is); (case x31_11 => k_is); (case x31_12 => exact rfl); (case x31_13 => kernel_rfl); (case x31_14 => k_is); (case x31_15 => kernel_rfl))
      (case k_NoPlace => refine' DL.errK_of K01.io_NoPlace ?x32_0 ?x32_1 ?x32_2 (DL.no1 ?v32_0) ?x32_3 ?x32_4 ?x32_5 ?x32_6 ?x32_7 ?x32_8 ?x32_9 ?x32_10 ?x32_11 ?x32_12 ?x32_13 ?x32_14 ?x32_15; (case v32_0 => k_is); (case x32_0 => k_is); (case x32_1 => decide +kernel); (case x32_2 => k_is); (case x32_3 => k_is); (case x32_4 => k_is); (case x32_5 => k_is); (case x32_6 => k_is); (case x32_7 => k_is); (case x32_8 => kernel_rfl); (case x32_9 => k_is); (case x32_10 => k_is); (case x32_11 => k_is); (case x32_12 => exact rfl); (case x32_13 => kernel_rfl); (case x32_14 => k_is); (case x32_15 => kernel_rfl))
      (case k_BadWord => refine' DL.errK_of K01.io_BadWord ?x33_0 ?x33_1 ?x33_2 (DL.no1 ?v33_0) ?x33_3 ?x33_4 ?x33_5 ?x33_6 ?x33_7 ?x33_8 ?x33_9 ?x33_10 ?x33_11 ?x33_12 ?x33_13 ?x33_14 ?x33_15; (case v33_0 => k_is); (case x33_0 => k_is); (case x33_1 => decide +kernel); (case x33_2 => k_is); (case x33_3 => k_is); (case x33_4 => k_is); (case x33_5 => k_is); (case x33_6 => k_is); (case x33_7 => k_is); (case x33_8 => kernel_rfl); (case x33_9 => k_is); (case x33_10 => k_is); (case x33_11 => k_is); (case x33_12 => exact rfl); (case x33_13 => kernel_rfl); (case x33_14 => k_is); (case x33_15 => kernel_rfl))
      (case k_BadTests => refine' DL.errK_of K01.io_BadTests ?x34_0 ?x34_1 ?x34_2 (DL.no1 ?v34_0) ?x34_3 ?x34_4 ?x34_5 ?x34_6 ?x34_7 ?x34_8 ?x34_9 ?x34_10 ?x34_11 ?x34_12 ?x34_13 ?x34_14 ?x34_15; (case v34_0 => k_is); (case x34_0 => k_is); (case x34_1 => decide +kernel); (case x34_2 => k_is); (case x34_3 => k_is); (case x34_4 => k_is); (case x34_5 => k_is); (case x34_6 => k_is); (case x34_7 => k_is); (case x34_8 => kernel_rfl); (case x34_9 => k_is); (case x34_10 => k_is); (case x34_11 => k_is); (case x34_12 => exact rfl); (case x34_13 => kernel_rfl); (case x34_14 => k_is); (case x34_15 => kernel_rfl))
      (case k_NoPart => refine' DL.errK_of K01.io_NoPart ?x35_0 ?x35_1 ?x35_2 (DL.no1 ?v35_0) ?x35_3 ?x35_4 ?x35_5 ?x35_6 ?x35_7 ?x35_8 ?x35_9 ?x35_10 ?x35_11 ?x35_12 ?x35_13 ?x35_14 ?x35_15; (case v35_0 => k_is); (case x35_0 => k_is); (case x35_1 => decide +kernel); (case x35_2 => k_is); (case x35_3 => k_is); (case x35_4 => k_is); (case x35_5 => k_is); (case x35_6 => k_is); (case x35_7 => k_is); (case x35_8 => kernel_rfl); (case x35_9 => k_is); (case x35_10 => k_is); (case x35_11 => k_is); (case x35_12 => exact rfl); (case x35_13 => kernel_rfl); (case x35_14 => k_is); (case x35_15 => kernel_rfl))
      (case e_BadLot => k_exc)
      (case k_BadNet => refine' DL.errK_of K01.io_BadNet ?x37_0 ?x37_1 ?x37_2 (DL.no1 ?v37_0) ?x37_3 ?x37_4 ?x37_5 ?x37_6 ?x37_7 ?x37_8 ?x37_9 ?x37_10 ?x37_11 ?x37_12 ?x37_13 ?x37_14 ?x37_15; (case v37_0 => k_is); (case x37_0 => k_is); (case x37_1 => decide +kernel); (case x37_2 => k_is); (case x37_3 => k_is); (case x37_4 => k_is); (case x37_5 => k_is); (case x37_6 => k_is); (case x37_7 => k_is); (case x37_8 => kernel_rfl); (case x37_9 => k_is); (case x37_10 => k_is); (case x37_11 => k_is); (case x37_12 => exact rfl); (case x37_13 => kernel_rfl); (case x37_14 => k_is); (case x37_15 => kernel_rfl))
      (case k_BadRule => refine' DL.errK_of K01.io_BadRule ?x38_0 ?x38_1 ?x38_2 (DL.no1 ?v38_0) ?x38_3 ?x38_4 ?x38_5 ?x38_6 ?x38_7 ?x38_8 ?x38_9 ?x38_10 ?x38_11 ?x38_12 ?x38_13 ?x38_14 ?x38_15; (case v38_0 => k_is); (case x38_0 => k_is); (case x38_1 => decide +kernel); (case x38_2 => k_is); (case x38_3 => k_is); (case x38_4 => k_is); (case x38_5 => k_is); (case x38_6 => k_is); (case x38_7 => k_is); (case x38_8 => kernel_rfl); (case x38_9 => k_is); (case x38_10 => k_is); (case x38_11 => k_is); (case x38_12 => exact rfl); (case x38_13 => kernel_rfl); (case x38_14 => k_is); (case x38_15 => kernel_rfl))
      (case k_BadDeed => refine' DL.errK_of K01.io_BadDeed ?x39_0 ?x39_1 ?x39_2 (DL.no1 ?v39_0) ?x39_3 ?x39_4 ?x39_5 ?x39_6 ?x39_7 ?x39_8 ?x39_9 ?x39_10 ?x39_11 ?x39_12 ?x39_13 ?x39_14 ?x39_15; (case v39_0 => k_is); (case x39_0 => k_is); (case x39_1 => decide +kernel); (case x39_2 => k_is); (case x39_3 => k_is); (case x39_4 => k_is); (case x39_5 => k_is); (case x39_6 => k_is); (case x39_7 => k_is); (case x39_8 => kernel_rfl); (case x39_9 => k_is); (case x39_10 => k_is); (case x39_11 => k_is); (case x39_12 => exact rfl); (case x39_13 => kernel_rfl); (case x39_14 => k_is); (case x39_15 => kernel_rfl))
      (case e_NothingLeft => k_exc)
      (case k_BadJournal => refine' DL.errK_of K01.io_BadJournal ?x41_0 ?x41_1 ?x41_2 (DL.no1 ?v41_0) ?x41_3 ?x41_4 ?x41_5 ?x41_6 ?x41_7 ?x41_8 ?x41_9 ?x41_10 ?x41_11 ?x41_12 ?x41_13 ?x41_14 ?x41_15; (case v41_0 => k_is); (case x41_0 => k_is); (case x41_1 => decide +kernel); (case x41_2 => k_is); (case x41_3 => k_is); (case x41_4 => k_is); (case x41_5 => k_is); (case x41_6 => k_is); (case x41_7 => k_is); (case x41_8 => kernel_rfl); (case x41_9 => k_is); (case x41_10 => k_is); (case x41_11 => k_is); (case x41_12 => exact rfl); (case x41_13 => kernel_rfl); (case x41_14 => k_is); (case x41_15 => kernel_rfl))
      (case k_BadText => refine' DL.errK_of K01.io_BadText ?x42_0 ?x42_1 ?x42_2 (DL.no1 ?v42_0) ?x42_3 ?x42_4 ?x42_5 ?x42_6 ?x42_7 ?x42_8 ?x42_9 ?x42_10 ?x42_11 ?x42_12 ?x42_13 ?x42_14 ?x42_15; (case v42_0 => k_is); (case x42_0 => k_is); (case x42_1 => decide +kernel); (case x42_2 => k_is); (case x42_3 => k_is); (case x42_4 => k_is); (case x42_5 => k_is); (case x42_6 => k_is); (case x42_7 => k_is); (case x42_8 => kernel_rfl); (case x42_9 => k_is); (case x42_10 => k_is); (case x42_11 => k_is); (case x42_12 => exact rfl); (case x42_13 => kernel_rfl); (case x42_14 => k_is); (case x42_15 => kernel_rfl))
      (case k_BadName => refine' DL.errK_of K01.io_BadName ?x43_0 ?x43_1 ?x43_2 (DL.no1 ?v43_0) ?x43_3 ?x43_4 ?x43_5 ?x43_6 ?x43_7 ?x43_8 ?x43_9 ?x43_10 ?x43_11 ?x43_12 ?x43_13 ?x43_14 ?x43_15; (case v43_0 => k_is); (case x43_0 => k_is); (case x43_1 => decide +kernel); (case x43_2 => k_is); (case x43_3 => k_is); (case x43_4 => k_is); (case x43_5 => k_is); (case x43_6 => k_is); (case x43_7 => k_is); (case x43_8 => kernel_rfl); (case x43_9 => k_is); (case x43_10 => k_is); (case x43_11 => k_is); (case x43_12 => exact rfl); (case x43_13 => kernel_rfl); (case x43_14 => k_is); (case x43_15 => kernel_rfl))
      (case m_WayError => refine' DL.mro_of ?w44_1 ?w44_2; (case w44_1 => k_is); (case w44_2 => exact rfl))
      (case m_BadFields => refine' DL.mro_of ?w45_1 ?w45_2; (case w45_1 => k_is); (case w45_2 => exact rfl))
      (case m_BadNumbers => refine' DL.mro_of ?w46_1 ?w46_2; (case w46_1 => k_is); (case w46_2 => exact rfl))
      (case m_BadTree => refine' DL.mro_of ?w47_1 ?w47_2; (case w47_1 => k_is); (case w47_2 => exact rfl))
      (case m_TooMany => refine' DL.mro_of ?w48_1 ?w48_2; (case w48_1 => k_is); (case w48_2 => exact rfl))
      (case m_BadProgram => refine' DL.mro_of ?w49_1 ?w49_2; (case w49_1 => k_is); (case w49_2 => exact rfl))
      (case m_OtherFields => refine' DL.mro_of ?w50_1 ?w50_2; (case w50_1 => k_is); (case w50_2 => exact rfl))
      (case m_BadTest => refine' DL.mro_of ?w51_1 ?w51_2; (case w51_1 => k_is); (case w51_2 => exact rfl))
      (case m_BadPacket => refine' DL.mro_of ?w52_1 ?w52_2; (case w52_1 => k_is); (case w52_2 => exact rfl))
      (case m_BadMost => refine' DL.mro_of ?w53_1 ?w53_2; (case w53_1 => k_is); (case w53_2 => exact rfl))
      (case m_NoPlace => refine' DL.mro_of ?w54_1 ?w54_2; (case w54_1 => k_is); (case w54_2 => exact rfl))
      (case m_BadWord => refine' DL.mro_of ?w55_1 ?w55_2; (case w55_1 => k_is); (case w55_2 => exact rfl))
      (case m_BadTests => refine' DL.mro_of ?w56_1 ?w56_2; (case w56_1 => k_is); (case w56_2 => exact rfl))
      (case m_NoPart => refine' DL.mro_of ?w57_1 ?w57_2; (case w57_1 => k_is); (case w57_2 => exact rfl))
      (case m_BadLot => refine' DL.mro_of ?w58_1 ?w58_2; (case w58_1 => k_is); (case w58_2 => exact rfl))
      (case m_BadNet => refine' DL.mro_of ?w59_1 ?w59_2; (case w59_1 => k_is); (case w59_2 => exact rfl))
      (case m_BadRule => refine' DL.mro_of ?w60_1 ?w60_2; (case w60_1 => k_is); (case w60_2 => exact rfl))
      (case m_BadDeed => refine' DL.mro_of ?w61_1 ?w61_2; (case w61_1 => k_is); (case w61_2 => exact rfl))
      (case m_NothingLeft => refine' DL.mro_of ?w62_1 ?w62_2; (case w62_1 => k_is); (case w62_2 => exact rfl))
      (case m_BadJournal => refine' DL.mro_of ?w63_1 ?w63_2; (case w63_1 => k_is); (case w63_2 => exact rfl))
      (case m_BadText => refine' DL.mro_of ?w64_1 ?w64_2; (case w64_1 => k_is); (case w64_2 => exact rfl))
      (case m_BadName => refine' DL.mro_of ?w65_1 ?w65_2; (case w65_1 => k_is); (case w65_2 => exact rfl))
      (case t_WayError => k_is)
      (case t_BadFields => k_is)
      (case t_BadNumbers => k_is)
      (case t_BadTree => k_is)
      (case t_TooMany => k_is)
      (case t_BadProgram => k_is)
      (case t_OtherFields => k_is)
      (case t_BadTest => k_is)
      (case t_BadPacket => k_is)
      (case t_BadMost => k_is)
      (case t_NoPlace => k_is)
      (case t_BadWord => k_is)
      (case t_BadTests => k_is)
      (case t_NoPart => k_is)
      (case t_BadLot => k_is)
      (case t_BadNet => k_is)
      (case t_BadRule => k_is)
      (case t_BadDeed => k_is)
      (case t_NothingLeft => k_is)
      (case t_BadJournal => k_is)
      (case t_BadText => k_is)
      (case t_BadName => k_is)
      (case nd => decide))
    have nb : DL.NB mg := by
      refine' DL.nb_of KX G ?z0 ?z1 ?z2 ?z3 ?z4 ?z5 ?z6 ?z7 ?z8 ?z9 ?z10 ?z11 ?z12 ?z13 ?z14 ?z15 ?z16 ?z17 ?z18 <;> k_is
    cases hmg.symm.trans at_law.mg
    exact ⟨fd_law, DL.law_binds at_law.fn (fun _ _ _ _ _ _ _ => rfl), fun base _ _ low => K01.law_all nb sup ve enum cl at__law_mixed at__law_take at__law_begun at__law_pick at__law_odd at__law_marks at__law_each at__law_by_name at__law_kept at__law_keeping at_law low⟩
