import PyProof.Rows.All
import Wide.All
import OpenK.AllK
import Wide.FinOn
import HandS.ForMost
import HandS.Exc
import HandS.Codes
import HandS.CallSlots
import HandS.WordsExc
import HandS.IsInst
import HandS.Deep
import HandS.Style
import HandS.WordsDict
import HandS.Text
import HandS.CallLocal
import HandS.Zip
import HandS.DictComp
import PySem.Challenge.RW_callwright_k11_whole_answers_to_offers
set_option Elab.async false
set_option linter.all false
set_option maxRecDepth 100000
set_option maxHeartbeats 0
namespace DL
open PySem L2

/-- data: what a value stands for; cell i is the i-th changeable object -/
inductive D where
  | non | bl (b : Bool) | int (i : Int) | str (s : Str)
  | tup (xs : List D) | lst (xs : List D) | dic (kvs : List (Key × D))
  | cell (i : Nat) | any (v : V)

inductive Cell where
  | lst (xs : List D) | dic (kvs : List (Key × D)) | obj (C : Addr) (fs : List (Str × D))
abbrev Mem := List (Option Cell)
abbrev Env := List (Option D)

section
variable (K : PySem.W.Frag) (G : Hp) (μ : List Addr)
mutual
inductive Rep : V → D → Prop
  | non : Rep .non .non
  | bl (b : Bool) : Rep (.bl b) (.bl b)
  | int (i : Int) : Rep (.int i) (.int i)
  | str (x : Str) : Rep (.str x) (.str x)
  | tup {a : Addr} {vs : List V} {ds : List D} : SqT K G a vs → ds.length ≤ 16777216 → RepL vs ds → Rep (.ref a) (.tup ds)
  | lst {a : Addr} {vs : List V} {ds : List D} : SqL K G a vs → ds.length ≤ 16777216 → RepL vs ds → Rep (.ref a) (.lst ds)
  | dic {a : Addr} {kvs : List (Key × V)} {es : List (Key × D)} : Rd G a (.dK kvs) → es.length ≤ 16777216 → RepK kvs es → Rep (.ref a) (.dic es)
  | cell {i : Nat} {a : Addr} : μ[i]? = some a → Rep (.ref a) (.cell i)
  | any (v : V) : Rep v (.any v)
inductive RepL : List V → List D → Prop
  | nil : RepL [] []
  | cons {v : V} {vs : List V} {d : D} {ds : List D} : Rep v d → RepL vs ds → RepL (v :: vs) (d :: ds)
inductive RepK : List (Key × V) → List (Key × D) → Prop
  | nil : RepK [] []
  | cons {k : Key} {v : V} {vs : List (Key × V)} {d : D} {ds : List (Key × D)} : Rep v d → RepK vs ds → RepK ((k, v) :: vs) ((k, d) :: ds)
end
end

structure Ext (G : Hp) (μ : List Addr) (G' : Hp) (μ' : List Addr) : Prop where
  sub : ∀ a o, G a = some o → G' a = some o
  pre : ∀ (i : Nat) (a : Addr), μ[i]? = some a → μ'[i]? = some a
theorem Ext.refl {G : Hp} {μ : List Addr} : Ext G μ G μ := ⟨fun _ _ h => h, fun _ _ h => h⟩
theorem Ext.trans {G G1 G2 : Hp} {μ μ1 μ2 : List Addr} (a : Ext G μ G1 μ1) (b : Ext G1 μ1 G2 μ2) : Ext G μ G2 μ2 :=
  ⟨fun x o h => b.sub x o (a.sub x o h), fun i x h => b.pre i x (a.pre i x h)⟩
theorem sub_rd {G G' : Hp} (e : ∀ a o, G a = some o → G' a = some o) {a : Addr} {u : HO} (h : Rd G a u) : Rd G' a u := by
  rcases h with h | ⟨o, h⟩
  · exact .inl (e _ _ h)
  · exact .inr ⟨o, e _ _ h⟩
theorem sub_l {K : PySem.W.Frag} {G G' : Hp} (e : ∀ a o, G a = some o → G' a = some o) {a : Addr} {vs : List V} (h : SqL K G a vs) : SqL K G' a vs := by
  rcases h with h | h
  · exact .inl (sub_rd e h)
  · exact .inr h
theorem sub_t {K : PySem.W.Frag} {G G' : Hp} (e : ∀ a o, G a = some o → G' a = some o) {a : Addr} {vs : List V} (h : SqT K G a vs) : SqT K G' a vs := by
  rcases h with h | h
  · exact .inl (sub_rd e h)
  · exact .inr h

section
variable {K : PySem.W.Frag} {G G' : Hp} {μ μ' : List Addr}
mutual
theorem Rep.mono (x : Ext G μ G' μ') : ∀ (d : D) {v : V}, Rep K G μ v d → Rep K G' μ' v d
  | .non, _, h => by cases h; exact .non
  | .bl b, _, h => by cases h; exact .bl b
  | .int i, _, h => by cases h; exact .int i
  | .str s, _, h => by cases h; exact .str s
  | .tup ds, _, h => by cases h with | tup h1 hz h2 => exact .tup (sub_t x.sub h1) hz (RepL.mono x ds h2)
  | .lst ds, _, h => by cases h with | lst h1 hz h2 => exact .lst (sub_l x.sub h1) hz (RepL.mono x ds h2)
  | .dic es, _, h => by cases h with | dic h1 hz h2 => exact .dic (sub_rd x.sub h1) hz (RepK.mono x es h2)
  | .cell i, _, h => by cases h with | cell h1 => exact .cell (x.pre _ _ h1)
  | .any v, _, h => by cases h; exact .any v
theorem RepL.mono (x : Ext G μ G' μ') : ∀ (ds : List D) {vs : List V}, RepL K G μ vs ds → RepL K G' μ' vs ds
  | [], _, h => by cases h; exact .nil
  | d :: ds, _, h => by cases h with | cons h1 h2 => exact .cons (Rep.mono x d h1) (RepL.mono x ds h2)
theorem RepK.mono (x : Ext G μ G' μ') : ∀ (ds : List (Key × D)) {vs : List (Key × V)}, RepK K G μ vs ds → RepK K G' μ' vs ds
  | [], _, h => by cases h; exact .nil
  | (k, d) :: ds, _, h => by cases h with | cons h1 h2 => exact .cons (Rep.mono x d h1) (RepK.mono x ds h2)
end
/-! pure data -/
mutual
def D.pure : D → Bool
  | .non => true | .bl _ => true | .int _ => true | .str _ => true
  | .tup ds => pureL ds | .lst ds => pureL ds | .dic es => pureK es
  | .cell _ => false | .any _ => true
def pureL : List D → Bool
  | [] => true
  | d :: ds => d.pure && pureL ds
def pureK : List (Key × D) → Bool
  | [] => true
  | (_, d) :: ds => d.pure && pureK ds
end
mutual
theorem Rep.purely : ∀ (d : D) {v : V}, d.pure = true → Rep K G μ v d → Rep K G μ' v d
  | .non, _, _, h => by cases h; exact .non
  | .bl b, _, _, h => by cases h; exact .bl b
  | .int i, _, _, h => by cases h; exact .int i
  | .str s, _, _, h => by cases h; exact .str s
  | .tup ds, _, p, h => by cases h with | tup h1 hz h2 => exact .tup h1 hz (RepL.purely ds p h2)
  | .lst ds, _, p, h => by cases h with | lst h1 hz h2 => exact .lst h1 hz (RepL.purely ds p h2)
  | .dic es, _, p, h => by cases h with | dic h1 hz h2 => exact .dic h1 hz (RepK.purely es p h2)
  | .cell i, _, p, _ => by cases p
  | .any v, _, _, h => by cases h; exact .any v
theorem RepL.purely : ∀ (ds : List D) {vs : List V}, pureL ds = true → RepL K G μ vs ds → RepL K G μ' vs ds
  | [], _, _, h => by cases h; exact .nil
  | d :: ds, _, p, h => by
    have p' : d.pure = true ∧ pureL ds = true := by simpa [pureL] using p
    cases h with | cons h1 h2 => exact .cons (Rep.purely d p'.1 h1) (RepL.purely ds p'.2 h2)
theorem RepK.purely : ∀ (ds : List (Key × D)) {vs : List (Key × V)}, pureK ds = true → RepK K G μ vs ds → RepK K G μ' vs ds
  | [], _, _, h => by cases h; exact .nil
  | (k, d) :: ds, _, p, h => by
    have p' : d.pure = true ∧ pureK ds = true := by simpa [pureK] using p
    cases h with | cons h1 h2 => exact .cons (Rep.purely d p'.1 h1) (RepK.purely ds p'.2 h2)
end
/-! lists of data -/
theorem RepL.length : ∀ {ds : List D} {vs : List V}, RepL K G μ vs ds → vs.length = ds.length
  | [], _, h => by cases h; rfl
  | d :: ds, _, h => by cases h with | cons h1 h2 => simp [RepL.length h2]
theorem RepL.get : ∀ {ds : List D} {vs : List V} {i : Nat} {d : D}, RepL K G μ vs ds → ds[i]? = some d → ∃ v, vs[i]? = some v ∧ Rep K G μ v d
  | [], _, _, _, _, e => by simp at e
  | d :: ds, _, 0, _, h, e => by cases h with | cons h1 h2 => simp at e; subst e; exact ⟨_, rfl, h1⟩
  | d :: ds, _, i + 1, _, h, e => by cases h with | cons h1 h2 => simpa using RepL.get (i := i) h2 (by simpa using e)
theorem RepL.append : ∀ {ds es : List D} {vs ws : List V}, RepL K G μ vs ds → RepL K G μ ws es → RepL K G μ (vs ++ ws) (ds ++ es)
  | [], _, _, _, h, h' => by cases h; exact h'
  | d :: ds, _, _, _, h, h' => by cases h with | cons h1 h2 => exact .cons h1 (RepL.append h2 h')
theorem RepL.take : ∀ {ds : List D} {vs : List V} (n : Nat), RepL K G μ vs ds → RepL K G μ (vs.take n) (ds.take n)
  | _, _, 0, _ => by simp; exact .nil
  | [], _, n + 1, h => by cases h; exact .nil
  | d :: ds, _, n + 1, h => by cases h with | cons h1 h2 => exact .cons h1 (RepL.take n h2)
theorem RepL.drop : ∀ {ds : List D} {vs : List V} (n : Nat), RepL K G μ vs ds → RepL K G μ (vs.drop n) (ds.drop n)
  | _, _, 0, h => h
  | [], _, n + 1, h => by cases h; exact .nil
  | d :: ds, _, n + 1, h => by cases h with | cons h1 h2 => exact RepL.drop n h2
theorem RepL.set : ∀ {ds : List D} {vs : List V} {v : V} {d : D} (i : Nat), RepL K G μ vs ds → Rep K G μ v d → RepL K G μ (vs.set i v) (ds.set i d)
  | [], _, _, _, _, h, _ => by cases h; exact .nil
  | d :: ds, _, _, _, 0, h, r => by cases h with | cons h1 h2 => exact .cons r h2
  | d :: ds, _, _, _, i + 1, h, r => by cases h with | cons h1 h2 => exact .cons h1 (RepL.set i h2 r)
theorem RepL.of_get : ∀ {ds : List D} {vs : List V}, vs.length = ds.length → (∀ (i : Nat) d v, ds[i]? = some d → vs[i]? = some v → Rep K G μ v d) → RepL K G μ vs ds
  | [], [], _, _ => .nil
  | [], _ :: _, h, _ => by simp at h
  | _ :: _, [], h, _ => by simp at h
  | d :: ds, v :: vs, h, f => .cons (f 0 d v rfl rfl) (RepL.of_get (by simpa using h) fun i d' v' h1 h2 => f (i + 1) d' v' (by simpa using h1) (by simpa using h2))
theorem RepL.reverse {ds : List D} {vs : List V} (h : RepL K G μ vs ds) : RepL K G μ vs.reverse ds.reverse := by
  have hl := h.length
  refine .of_get (by simp [hl]) fun i d v h1 h2 => ?_
  have hi : i < ds.length := by have := (List.getElem?_eq_some_iff.mp h1).1; simpa using this
  rw [List.getElem?_reverse hi] at h1
  rw [List.getElem?_reverse (by omega), hl] at h2
  obtain ⟨v', e, r⟩ := h.get h1
  rw [h2] at e; cases e
  exact r
theorem RepL.ints : ∀ {ns : List Int} {vs : List V}, RepL K G μ vs (ns.map D.int) → vs = ns.map V.int
  | [], _, h => by cases h; rfl
  | n :: ns, _, h => by cases h with | cons h1 h2 => cases h1; rw [RepL.ints h2]; rfl
theorem RepL.of_ints : ∀ (ns : List Int), RepL K G μ (ns.map V.int) (ns.map D.int)
  | [] => .nil
  | n :: ns => .cons (.int n) (RepL.of_ints ns)
theorem RepL.strs : ∀ {ns : List Str} {vs : List V}, RepL K G μ vs (ns.map D.str) → vs = ns.map V.str
  | [], _, h => by cases h; rfl
  | n :: ns, _, h => by cases h with | cons h1 h2 => cases h1; rw [RepL.strs h2]; rfl
theorem RepL.bls : ∀ {ns : List Bool} {vs : List V}, RepL K G μ vs (ns.map D.bl) → vs = ns.map V.bl
  | [], _, h => by cases h; rfl
  | n :: ns, _, h => by cases h with | cons h1 h2 => cases h1; rw [RepL.bls h2]; rfl
end

/-! ### what a cell holds -/
def RepF (K : PySem.W.Frag) (G : Hp) (μ : List Addr) : List (Str × V) → List (Str × D) → Prop := Paired fun p q => p.1 = q.1 ∧ Rep K G μ p.2 q.2
def CellOk (K : PySem.W.Frag) (G : Hp) (μ : List Addr) (H : Hp) (a : Addr) : Cell → Prop
  | .lst ds => ∃ vs, H a = some (.lst vs) ∧ ds.length ≤ 16777216 ∧ RepL K G μ vs ds
  | .dic es => ∃ kvs, H a = some (.dK kvs) ∧ es.length ≤ 16777216 ∧ RepK K G μ kvs es
  | .obj C fs => ∃ dx fvs, H a = some (.ins C dx fvs) ∧ RepF K G μ fvs fs
theorem CellOk.there {K : PySem.W.Frag} {G H : Hp} {μ : List Addr} {a : Addr} {c : Cell} (x : CellOk K G μ H a c) : ∃ o, H a = some o := by
  cases c with
  | lst ds => obtain ⟨vs, h, _⟩ := x; exact ⟨_, h⟩
  | dic es => obtain ⟨vs, h, _⟩ := x; exact ⟨_, h⟩
  | obj C fs => obtain ⟨_, _, h, _⟩ := x; exact ⟨_, h⟩
theorem RepF.mono {K : PySem.W.Frag} {G G' : Hp} {μ μ' : List Addr} (x : Ext G μ G' μ') {vs : List (Str × V)} {ds : List (Str × D)} (h : RepF K G μ vs ds) : RepF K G' μ' vs ds :=
  Paired.mapP h fun p q z => ⟨z.1, Rep.mono x q.2 z.2⟩
theorem CellOk.mono {K : PySem.W.Frag} {G G' H H' : Hp} {μ μ' : List Addr} {a : Addr} {c : Cell} (x : Ext G μ G' μ') (e : H' a = H a) (h : CellOk K G μ H a c) : CellOk K G' μ' H' a c := by
  cases c with
  | lst ds => obtain ⟨vs, h1, hz, h2⟩ := h; exact ⟨vs, e.trans h1, hz, h2.mono x⟩
  | dic es => obtain ⟨vs, h1, hz, h2⟩ := h; exact ⟨vs, e.trans h1, hz, h2.mono x⟩
  | obj C fs => obtain ⟨dx, fvs, h1, h2⟩ := h; exact ⟨dx, fvs, e.trans h1, h2.mono x⟩

/-- F: the frame (kept); G: what stands for pure data (grows); μ: where the cells are -/
structure Rel (K : PySem.W.Frag) (F G : Hp) (μ : List Addr) (M : Mem) (H : Hp) : Prop where
  sub : ∀ a o, G a = some o → H a = some o
  len : μ.length = M.length
  cel : ∀ (i : Nat) (c : Cell), M[i]? = some (some c) → ∃ a, μ[i]? = some a ∧ CellOk K G μ H a c ∧ G a = none ∧ F a = none
  inj : ∀ (i j : Nat) (c d : Cell) (a : Addr), M[i]? = some (some c) → M[j]? = some (some d) → μ[i]? = some a → μ[j]? = some a → i = j
  frm : ∀ a o, F a = some o → H a = some o ∧ G a = none

section
variable {K : PySem.W.Frag} {F G H : Hp} {μ : List Addr} {M : Mem}
theorem Rel.fresh (r : Rel K F G μ M H) {p : Addr} (h : H p = none) : G p = none := by
  cases e : G p with
  | none => rfl
  | some o => rw [r.sub _ _ e] at h; cases h
theorem Rel.freshF (r : Rel K F G μ M H) {p : Addr} (h : H p = none) : F p = none := by
  cases e : F p with
  | none => rfl
  | some o => rw [(r.frm _ _ e).1] at h; cases h
theorem ext_upd {p : Addr} {o : HO} (h : G p = none) : Ext G μ (upd G p o) μ :=
  ⟨fun a u e => by rw [upd_ne (ne_of_none e h)]; exact e, fun _ _ e => e⟩
/-- new pure data at p -/
theorem Rel.data (r : Rel K F G μ M H) {p : Addr} {o : HO} (h : H p = none) : Rel K F (upd G p o) μ M (upd H p o) := by
  have hG := r.fresh h
  refine ⟨fun a u e => ?_, r.len, fun i c e => ?_, r.inj, fun a u e => ?_⟩
  · by_cases q : a = p
    · subst q; rw [upd_same] at e ⊢; exact e
    · rw [upd_ne q] at e ⊢; exact r.sub _ _ e
  · obtain ⟨a, h1, h2, h3, h4⟩ := r.cel i c e
    obtain ⟨o', h5⟩ := h2.there
    have q : a ≠ p := ne_of_none h5 h
    exact ⟨a, h1, h2.mono (ext_upd hG) (upd_ne q), by rw [upd_ne q]; exact h3, h4⟩
  · obtain ⟨h1, h2⟩ := r.frm a u e
    have q : a ≠ p := ne_of_none h1 h
    exact ⟨by rw [upd_ne q]; exact h1, by rw [upd_ne q]; exact h2⟩
/-- the heap has grown by things of no interest -/
theorem Rel.grow (r : Rel K F G μ M H) {p : Addr} {o : HO} (h : H p = none) : Rel K F G μ M (upd H p o) := by
  refine ⟨fun a u e => ?_, r.len, fun i c e => ?_, r.inj, fun a u e => ?_⟩
  · have e' := r.sub _ _ e
    rw [upd_ne (ne_of_none e' h)]; exact e'
  · obtain ⟨a, h1, h2, h3, h4⟩ := r.cel i c e
    obtain ⟨o', h5⟩ := h2.there
    exact ⟨a, h1, h2.mono Ext.refl (upd_ne (ne_of_none h5 h)), h3, h4⟩
  · obtain ⟨h1, h2⟩ := r.frm a u e
    exact ⟨by rw [upd_ne (ne_of_none h1 h)]; exact h1, h2⟩
theorem ext_cell {p : Addr} : Ext G μ G (μ ++ [p]) :=
  ⟨fun _ _ e => e, fun i a e => by rw [List.getElem?_append_left (List.getElem?_eq_some_iff.mp e).1]; exact e⟩
/-- a new cell at p, which stands in H -/
theorem Rel.cellAt (r : Rel K F G μ M H) {p : Addr} {c : Cell} (h : CellOk K G μ H p c) (hG : G p = none) (hF : F p = none) (hn : ∀ (i : Nat) (d : Cell) (a : Addr), M[i]? = some (some d) → μ[i]? = some a → a ≠ p) :
    Rel K F G (μ ++ [p]) (M ++ [some c]) H := by
  have old : ∀ {i : Nat} {d : Cell}, i < M.length → (M ++ [some c])[i]? = some (some d) → M[i]? = some (some d) := fun {i d} hi e => by
    rwa [List.getElem?_append_left hi] at e
  have new : ∀ {i : Nat} {d : Cell}, ¬ i < M.length → (M ++ [some c])[i]? = some (some d) → i = M.length ∧ d = c := fun {i d} hi e => by
    rw [List.getElem?_append_right (by omega)] at e
    have hz : i - M.length = 0 := by
      have := (List.getElem?_eq_some_iff.mp e).1
      simp at this
      omega
    rw [hz] at e
    simp at e
    exact ⟨by omega, e.symm⟩
  have mold : ∀ {i : Nat} {a : Addr}, i < M.length → (μ ++ [p])[i]? = some a → μ[i]? = some a := fun {i a} hi e => by
    rwa [List.getElem?_append_left (by rw [r.len]; exact hi)] at e
  have mnew : (μ ++ [p])[M.length]? = some p := by
    rw [List.getElem?_append_right (by rw [r.len]; exact Nat.le_refl _), r.len]; simp
  refine ⟨r.sub, by simp [r.len], fun i d e => ?_, fun i j d d' a e1 e2 m1 m2 => ?_, r.frm⟩
  · by_cases hi : i < M.length
    · obtain ⟨a, h1, h2, h3, h4⟩ := r.cel i d (old hi e)
      exact ⟨a, ext_cell (G := G).pre _ _ h1, h2.mono ext_cell rfl, h3, h4⟩
    · obtain ⟨e1, e2⟩ := new hi e
      subst e1 e2
      exact ⟨p, mnew, h.mono ext_cell rfl, hG, hF⟩
  · by_cases hi : i < M.length
    · by_cases hj : j < M.length
      · exact r.inj i j d d' a (old hi e1) (old hj e2) (mold hi m1) (mold hj m2)
      · obtain ⟨z, _⟩ := new hj e2
        subst z
        rw [mnew] at m2; cases m2
        exact absurd rfl (hn i d p (old hi e1) (mold hi m1))
    · obtain ⟨z, _⟩ := new hi e1
      subst z
      by_cases hj : j < M.length
      · rw [mnew] at m1; cases m1
        exact absurd rfl (hn j d' p (old hj e2) (mold hj m2))
      · exact (new hj e2).1.symm
/-- a new cell -/
theorem Rel.cellNew (r : Rel K F G μ M H) {p : Addr} {o : HO} {c : Cell} (h : H p = none) (hc : CellOk K G μ (upd H p o) p c) : Rel K F G (μ ++ [p]) (M ++ [some c]) (upd H p o) :=
  (r.grow h).cellAt hc (r.fresh h) (r.freshF h) fun i d a e1 e2 q => by
    obtain ⟨a', h1, h2, _⟩ := r.cel i d e1
    rw [e2] at h1; cases h1
    obtain ⟨o', h5⟩ := h2.there
    rw [q, h] at h5; cases h5
/-- a cell is written -/
theorem Rel.write (r : Rel K F G μ M H) {i : Nat} {a : Addr} {o : HO} {c c' : Cell} (hi : M[i]? = some (some c)) (ha : μ[i]? = some a) (hc : CellOk K G μ (upd H a o) a c') :
    Rel K F G μ (M.set i (some c')) (upd H a o) := by
  obtain ⟨a', h1, h2, h3, h4⟩ := r.cel i c hi
  rw [ha] at h1; cases h1
  have li : i < M.length := (List.getElem?_eq_some_iff.mp hi).1
  have old : ∀ {j : Nat} {d : Cell}, j ≠ i → (M.set i (some c'))[j]? = some (some d) → M[j]? = some (some d) := fun {j d} hj e => by
    rwa [List.getElem?_set_ne (Ne.symm hj)] at e
  have any : ∀ {j : Nat} {d : Cell}, (M.set i (some c'))[j]? = some (some d) → ∃ d', M[j]? = some (some d') := fun {j d} e => by
    by_cases hj : j = i
    · subst hj; exact ⟨c, hi⟩
    · exact ⟨d, old hj e⟩
  refine ⟨fun b u e => ?_, by simp [r.len], fun j d e => ?_, fun j k d d' b e1 e2 m1 m2 => ?_, fun b u e => ?_⟩
  · have : b ≠ a := fun q => by subst q; rw [h3] at e; cases e
    rw [upd_ne this]; exact r.sub _ _ e
  · by_cases hj : j = i
    · subst hj
      rw [List.getElem?_set_self li] at e
      simp at e; subst e
      exact ⟨a, ha, hc, h3, h4⟩
    · obtain ⟨b, g1, g2, g3, g4⟩ := r.cel j d (old hj e)
      refine ⟨b, g1, g2.mono Ext.refl (upd_ne fun q => ?_), g3, g4⟩
      subst q
      exact hj (r.inj j i d c b (old hj e) hi g1 ha)
  · obtain ⟨d1, e1'⟩ := any e1
    obtain ⟨d2, e2'⟩ := any e2
    exact r.inj j k d1 d2 b e1' e2' m1 m2
  · obtain ⟨g1, g2⟩ := r.frm b u e
    have : b ≠ a := fun q => by subst q; rw [h4] at e; cases e
    exact ⟨by rw [upd_ne this]; exact g1, g2⟩
/-- a cell is changed no more: its object stands for pure data -/
theorem Rel.freeze (r : Rel K F G μ M H) {i : Nat} {a : Addr} {o : HO} {c : Cell} (hi : M[i]? = some (some c)) (ha : μ[i]? = some a) (ho : H a = some o) :
    Rel K F (upd G a o) μ (M.set i none) H ∧ G a = none := by
  obtain ⟨a', h1, h2, h3, h4⟩ := r.cel i c hi
  rw [ha] at h1; cases h1
  have old : ∀ {j : Nat} {d : Cell}, (M.set i none)[j]? = some (some d) → j ≠ i ∧ M[j]? = some (some d) := fun {j d} e => by
    by_cases hj : j = i
    · subst hj
      rw [List.getElem?_set_self (List.getElem?_eq_some_iff.mp hi).1] at e; cases e
    · exact ⟨hj, by rwa [List.getElem?_set_ne (Ne.symm hj)] at e⟩
  refine ⟨⟨fun b u e => ?_, by simp [r.len], fun j d e => ?_, fun j k d d' b e1 e2 m1 m2 => ?_, fun b u e => ?_⟩, h3⟩
  · by_cases q : b = a
    · subst q; rw [upd_same] at e; cases e; exact ho
    · rw [upd_ne q] at e; exact r.sub _ _ e
  · obtain ⟨hj, e'⟩ := old e
    obtain ⟨b, g1, g2, g3, g4⟩ := r.cel j d e'
    have q : b ≠ a := fun q => by subst q; exact hj (r.inj j i d c b e' hi g1 ha)
    exact ⟨b, g1, g2.mono (ext_upd h3) rfl, by rw [upd_ne q]; exact g3, g4⟩
  · exact r.inj j k d d' b (old e1).2 (old e2).2 m1 m2
  · obtain ⟨g1, g2⟩ := r.frm b u e
    have q : b ≠ a := fun q => by subst q; rw [h4] at e; cases e
    exact ⟨g1, by rw [upd_ne q]; exact g2⟩
end
/-- slots -/
structure EnvR (K : PySem.W.Frag) (G : Hp) (μ : List Addr) (ρ : Env) (σ : L2.St) : Prop where
  len : ρ.length = σ.length
  at_ : ∀ (i : Nat) (d : D), ρ[i]? = some (some d) → ∃ v, σ[i]? = some (some v) ∧ Rep K G μ v d
theorem EnvR.mono {K : PySem.W.Frag} {G G' : Hp} {μ μ' : List Addr} {ρ : Env} {σ : L2.St} (x : Ext G μ G' μ') (h : EnvR K G μ ρ σ) : EnvR K G' μ' ρ σ :=
  ⟨h.len, fun i d e => let ⟨v, h1, h2⟩ := h.at_ i d e; ⟨v, h1, Rep.mono x d h2⟩⟩
theorem EnvR.set {K : PySem.W.Frag} {G : Hp} {μ : List Addr} {ρ : Env} {σ : L2.St} {i : Nat} {d : D} {v : V} (h : EnvR K G μ ρ σ) (r : Rep K G μ v d) : EnvR K G μ (ρ.set i (some d)) (σ.set i (some v)) := by
  refine ⟨by simp [h.len], fun j e q => ?_⟩
  by_cases hj : j = i
  · subst hj
    have hl : j < ρ.length := by have := (List.getElem?_eq_some_iff.mp q).1; simpa using this
    rw [List.getElem?_set_self hl] at q
    simp at q; subst q
    exact ⟨v, by rw [List.getElem?_set_self (by rw [← h.len]; exact hl)], r⟩
  · rw [List.getElem?_set_ne (Ne.symm hj)] at q ⊢
    exact h.at_ j e q
end DL

namespace DL
open PySem L2 PySem.Spec PyProof.Rows

/-- an exception: its class, the fields of its own dict -/
structure Exn where
  cls : Value
  fs : List (Str × D)
inductive R (α : Type) where
  | ok (a : α) | exc (x : Exn)
def ExcR (K : PySem.W.Frag) (G : Hp) (μ : List Addr) (x : Exn) (cls : Value) (dd : Option Addr) : Prop :=
  cls = x.cls ∧ (x.fs = [] ∨ ∃ d fvs, dd = some d ∧ G d = some (.xd fvs) ∧ RepF K G μ fvs x.fs)
theorem ExcR.mono {K : PySem.W.Frag} {G G' : Hp} {μ μ' : List Addr} {x : Exn} {cls : Value} {dd : Option Addr} (e : Ext G μ G' μ') (h : ExcR K G μ x cls dd) : ExcR K G' μ' x cls dd := by
  obtain ⟨h1, h2⟩ := h
  refine ⟨h1, ?_⟩
  rcases h2 with h2 | ⟨d, fvs, h3, h4, h5⟩
  · exact .inl h2
  · exact .inr ⟨d, fvs, h3, e.sub _ _ h4, h5.mono e⟩

abbrev Fn (α : Type) := Env → Mem → Option (R α × Mem)
def bnd {α β : Type} (x : Option (R α × Mem)) (k : α → Mem → Option (R β × Mem)) : Option (R β × Mem) :=
  match x with
  | some (.ok a, M) => k a M
  | some (.exc e, M) => some (.exc e, M)
  | none => none
@[simp] theorem bnd_ok {α β : Type} (a : α) (M : Mem) (k : α → Mem → Option (R β × Mem)) : bnd (some (.ok a, M)) k = k a M := rfl
@[simp] theorem bnd_exc {α β : Type} (e : Exn) (M : Mem) (k : α → Mem → Option (R β × Mem)) : bnd (some (.exc e, M)) k = some (.exc e, M) := rfl
@[simp] theorem bnd_none {α β : Type} (k : α → Mem → Option (R β × Mem)) : bnd none k = none := rfl

section
variable {α β α' β' : Type}
/-- what is wanted behind -/
def Post (K : PySem.W.Frag) (F : Hp) (W : WX) (Rp : Hp → List Addr → β → α → Prop) (σ : L2.St) (Q : β → Hp → Prop) (G : Hp) (μ : List Addr) (r : R α) (M' : Mem) : Prop :=
  ∀ G' μ' H', Ext G μ G' μ' → Rel K F G' μ' M' H' → (∀ a, r = .ok a → ∀ b, Rp G' μ' b a → Q b H') ∧ (∀ x, r = .exc x → ∀ cls dd, ExcR K G' μ' x cls dd → W cls dd σ H')
/-- a reading t does what f tells -/
def DX (K : PySem.W.Frag) (W : WX) (Rp : Hp → List Addr → β → α → Prop) (t : L2.St → Hp → (β → Hp → Prop) → Prop) (f : Fn α) : Prop :=
  ∀ (F G H : Hp) (μ : List Addr) (M : Mem) (σ : L2.St) (ρ : Env) (r : R α) (M' : Mem) (Q : β → Hp → Prop), Rel K F G μ M H → EnvR K G μ ρ σ → f ρ M = some (r, M') → Post K F W Rp σ Q G μ r M' → t σ H Q
variable {K : PySem.W.Frag} {F G H : Hp} {W : WX} {μ : List Addr} {M M' : Mem} {σ : L2.St} {ρ : Env} {Rp : Hp → List Addr → β → α → Prop} {Rp' : Hp → List Addr → β' → α' → Prop} {t : L2.St → Hp → (β → Hp → Prop) → Prop} {f : Fn α} {r : R α} {r' : R α'} {Q : β → Hp → Prop} {Q' : β' → Hp → Prop}
theorem Post.ext {G1 : Hp} {μ1 : List Addr} (e : Ext G μ G1 μ1) (P : Post K F W Rp σ Q G μ r M') : Post K F W Rp σ Q G1 μ1 r M' := fun G' μ' H' x R => P G' μ' H' (e.trans x) R
theorem Post.now {a : α} (P : Post K F W Rp σ Q G μ (.ok a) M) (R : Rel K F G μ M H) {b : β} (h : Rp G μ b a) : Q b H := (P G μ H Ext.refl R).1 a rfl b h
theorem DX.go (h : DX K W Rp t f) (R : Rel K F G μ M H) (E : EnvR K G μ ρ σ) {k : α → Mem → Option (DL.R α' × Mem)} (e : bnd (f ρ M) k = some (r', M')) (P : Post K F W Rp' σ Q' G μ r' M') {T : β → Hp → Prop}
    (hk : ∀ G1 μ1 H1 M1 b a, Ext G μ G1 μ1 → Rel K F G1 μ1 M1 H1 → EnvR K G1 μ1 ρ σ → Rp G1 μ1 b a → k a M1 = some (r', M') → Post K F W Rp' σ Q' G1 μ1 r' M' → T b H1) : t σ H T := by
  cases q : f ρ M with
  | none => rw [q] at e; cases e
  | some z =>
    obtain ⟨z, M1⟩ := z
    rw [q] at e
    cases z with
    | ok a => exact h F G H μ M σ ρ _ _ T R E q fun G1 μ1 H1 x R1 => ⟨fun a' ha b hb => by cases ha; exact hk G1 μ1 H1 M1 b a x R1 (E.mono x) hb e (P.ext x), fun x hx => nomatch hx⟩
    | exc x => 
      have e' : some (DL.R.exc x, M1) = some (r', M') := e
      cases e'
      exact h F G H μ M σ ρ _ _ T R E q fun G1 μ1 H1 y R1 => ⟨(fun a' ha => nomatch ha), fun x' hx => by cases hx; exact (P G1 μ1 H1 y R1).2 x rfl⟩
end
abbrev RpB : Hp → List Addr → Bool → Bool → Prop := fun _ _ a b => a = b
abbrev RpO : Hp → List Addr → Option Int → Option Int → Prop := fun _ _ a b => a = b
structure DE (X : Cx) (W : WX) (e : Expr) (t : TE) (f : Fn D) : Prop where
  pe : PE X e t
  dx : DX X.K W (Rep X.K) t f
structure DT (X : Cx) (W : WX) (e : Expr) (t : TT) (f : Fn Bool) : Prop where
  pe : PT X e t
  dx : DX X.K W RpB t f
structure DW (X : Cx) (W : WX) (e : Expr) (t : TT) (f : Fn Bool) : Prop where
  pe : PW X e t
  dx : DX X.K W RpB t f
structure DA (X : Cx) (W : WX) (es : List Expr) (t : TA) (f : Fn (List D)) : Prop where
  pe : PA X es t
  dx : DX X.K W (RepL X.K) t f
structure DO (X : Cx) (W : WX) (e : Option Expr) (t : TO) (f : Fn (Option Int)) : Prop where
  pe : PO X e t
  dx : DX X.K W RpO t f

/-! ### new data -/
section
variable {K : PySem.W.Frag} {F G H : Hp} {W : WX} {μ : List Addr} {M : Mem} {σ : L2.St} {Q : VK}
theorem Post.newL {vs : List V} {ds : List D} {p : Addr} (P : Post K F W (Rep K) σ Q G μ (.ok (.lst ds)) M) (R : Rel K F G μ M H) (hp : H p = none) (hz : ds.length ≤ 16777216) (h : RepL K G μ vs ds) : Q (.ref p) (upd H p (.lst vs)) :=
  (P (upd G p (.lst vs)) μ _ (ext_upd (R.fresh hp)) (R.data hp)).1 _ rfl _ (.lst (.inl (.inl upd_same)) hz (h.mono (ext_upd (R.fresh hp))))
theorem Post.newT {vs : List V} {ds : List D} {p : Addr} (P : Post K F W (Rep K) σ Q G μ (.ok (.tup ds)) M) (R : Rel K F G μ M H) (hp : H p = none) (hz : ds.length ≤ 16777216) (h : RepL K G μ vs ds) : Q (.ref p) (upd H p (.tup vs)) :=
  (P (upd G p (.tup vs)) μ _ (ext_upd (R.fresh hp)) (R.data hp)).1 _ rfl _ (.tup (.inl (.inl upd_same)) hz (h.mono (ext_upd (R.fresh hp))))
theorem Post.newD {kvs : List (Key × V)} {ds : List (Key × D)} {p : Addr} (P : Post K F W (Rep K) σ Q G μ (.ok (.dic ds)) M) (R : Rel K F G μ M H) (hp : H p = none) (hz : ds.length ≤ 16777216) (h : RepK K G μ kvs ds) : Q (.ref p) (upd H p (.dK kvs)) :=
  (P (upd G p (.dK kvs)) μ _ (ext_upd (R.fresh hp)) (R.data hp)).1 _ rfl _ (.dic (.inl upd_same) hz (h.mono (ext_upd (R.fresh hp))))
theorem Post.newC {c : Cell} {o : HO} {p : Addr} (P : Post K F W (Rep K) σ Q G μ (.ok (.cell M.length)) (M ++ [some c])) (R : Rel K F G μ M H) (hp : H p = none) (h : CellOk K G μ (upd H p o) p c) : Q (.ref p) (upd H p o) :=
  (P G (μ ++ [p]) _ ext_cell (R.cellNew hp h)).1 _ rfl _ (.cell (by rw [← R.len, List.getElem?_append_right (Nat.le_refl _)]; simp))

/-! ### reading lists -/
/-- the items of a list, of a tuple -/
def listOf (M : Mem) : D → Option (List D)
  | .lst xs => some xs
  | .cell i => match M[i]? with
    | some (some (.lst xs)) => some xs
    | _ => none
  | _ => none
def tupOf : D → Option (List D)
  | .tup xs => some xs
  | _ => none
def dicOf (M : Mem) : D → Option (List (Key × D))
  | .dic xs => some xs
  | .cell i => match M[i]? with
    | some (some (.dic xs)) => some xs
    | _ => none
  | _ => none
@[simp] theorem listOf_lst (M : Mem) (xs : List D) : listOf M (.lst xs) = some xs := rfl
@[simp] theorem listOf_tup (M : Mem) (xs : List D) : listOf M (.tup xs) = none := rfl
@[simp] theorem listOf_int (M : Mem) (i : Int) : listOf M (.int i) = none := rfl
@[simp] theorem listOf_str (M : Mem) (i : Str) : listOf M (.str i) = none := rfl
@[simp] theorem listOf_bl (M : Mem) (i : Bool) : listOf M (.bl i) = none := rfl
@[simp] theorem listOf_non (M : Mem) : listOf M .non = none := rfl
@[simp] theorem listOf_dic (M : Mem) (i) : listOf M (.dic i) = none := rfl
theorem listOf_cell {M : Mem} {i : Nat} {xs : List D} (h : M[i]? = some (some (.lst xs))) : listOf M (.cell i) = some xs := by simp [listOf, h]
theorem dicOf_cell {M : Mem} {i : Nat} {xs : List (Key × D)} (h : M[i]? = some (some (.dic xs))) : dicOf M (.cell i) = some xs := by simp [dicOf, h]
theorem Rel.listR (R : Rel K F G μ M H) {v : V} {d : D} {ds : List D} (r : Rep K G μ v d) (e : listOf M d = some ds) : ∃ a vs, v = .ref a ∧ SqL K H a vs ∧ ds.length ≤ 16777216 ∧ RepL K G μ vs ds := by
  cases r with
  | lst h1 hz h2 => simp at e; subst e; exact ⟨_, _, rfl, sub_l R.sub h1, hz, h2⟩
  | @cell i a h1 =>
    have e' : (match M[i]? with | some (some (.lst xs)) => some xs | _ => none) = some ds := e
    split at e'
    · rename_i xs hq
      cases e'
      obtain ⟨a', h3, h4, _⟩ := R.cel i _ hq
      rw [h1] at h3; cases h3
      obtain ⟨vs, h5, hz, h6⟩ := h4
      exact ⟨_, vs, rfl, .inl (.inl h5), hz, h6⟩
    · cases e'
  | _ => cases e
theorem Rel.listQ (R : Rel K F G μ M H) {v : V} {d : D} {ds : List D} (r : Rep K G μ v d) (e : listOf M d = some ds) : ∃ a vs, v = .ref a ∧ SqL K H a vs ∧ ds.length ≤ 16777216 ∧ RepL K G μ vs ds :=
  R.listR r e
theorem Rel.tupQ (R : Rel K F G μ M H) {v : V} {d : D} {ds : List D} (r : Rep K G μ v d) (e : tupOf d = some ds) : ∃ a vs, v = .ref a ∧ SqT K H a vs ∧ ds.length ≤ 16777216 ∧ RepL K G μ vs ds := by
  cases r with
  | tup h1 hz h2 => cases e; exact ⟨_, _, rfl, sub_t R.sub h1, hz, h2⟩
  | _ => cases e
theorem Rel.dicQ (R : Rel K F G μ M H) {v : V} {d : D} {es : List (Key × D)} (r : Rep K G μ v d) (e : dicOf M d = some es) : ∃ a kvs, v = .ref a ∧ Rd H a (.dK kvs) ∧ es.length ≤ 16777216 ∧ RepK K G μ kvs es := by
  cases r with
  | dic h1 hz h2 => cases e; exact ⟨_, _, rfl, sub_rd R.sub h1, hz, h2⟩
  | @cell i a h1 =>
    have e' : (match M[i]? with | some (some (.dic xs)) => some xs | _ => none) = some es := e
    split at e'
    · rename_i xs hq
      cases e'
      obtain ⟨a', h3, h4, _⟩ := R.cel i _ hq
      rw [h1] at h3; cases h3
      obtain ⟨vs, h5, hz, h6⟩ := h4
      exact ⟨_, vs, rfl, .inl h5, hz, h6⟩
    · cases e'
  | _ => cases e
/-- a list cell, as an object that may be written -/
theorem Rel.cellL (R : Rel K F G μ M H) {v : V} {i : Nat} {ds : List D} (r : Rep K G μ v (.cell i)) (e : M[i]? = some (some (.lst ds))) : ∃ a vs, v = .ref a ∧ μ[i]? = some a ∧ H a = some (.lst vs) ∧ ds.length ≤ 16777216 ∧ RepL K G μ vs ds := by
  cases r with
  | cell h1 =>
    obtain ⟨a', h3, h4, _⟩ := R.cel i _ e
    rw [h1] at h3; cases h3
    obtain ⟨vs, h5, hz, h6⟩ := h4
    exact ⟨_, vs, rfl, h1, h5, hz, h6⟩
theorem Rel.cellD (R : Rel K F G μ M H) {v : V} {i : Nat} {ds : List (Key × D)} (r : Rep K G μ v (.cell i)) (e : M[i]? = some (some (.dic ds))) : ∃ a vs, v = .ref a ∧ μ[i]? = some a ∧ H a = some (.dK vs) ∧ ds.length ≤ 16777216 ∧ RepK K G μ vs ds := by
  cases r with
  | cell h1 =>
    obtain ⟨a', h3, h4, _⟩ := R.cel i _ e
    rw [h1] at h3; cases h3
    obtain ⟨vs, h5, hz, h6⟩ := h4
    exact ⟨_, vs, rfl, h1, h5, hz, h6⟩
theorem Rel.cellO (R : Rel K F G μ M H) {v : V} {i : Nat} {C : Addr} {fs : List (Str × D)} (r : Rep K G μ v (.cell i)) (e : M[i]? = some (some (.obj C fs))) : ∃ a dx fvs, v = .ref a ∧ μ[i]? = some a ∧ H a = some (.ins C dx fvs) ∧ RepF K G μ fvs fs := by
  cases r with
  | cell h1 =>
    obtain ⟨a', h3, h4, _⟩ := R.cel i _ e
    rw [h1] at h3; cases h3
    obtain ⟨dx, vs, h5, h6⟩ := h4
    exact ⟨_, dx, vs, rfl, h1, h5, h6⟩
/-- behind a cell's change -/
theorem Post.wrote {i : Nat} {a : Addr} {o : HO} {c c' : Cell} {d : D} {v : V} (P : Post K F W (Rep K) σ Q G μ (.ok d) (M.set i (some c'))) (R : Rel K F G μ M H) (hi : M[i]? = some (some c)) (ha : μ[i]? = some a)
    (hc : CellOk K G μ (upd H a o) a c') (hv : Rep K G μ v d) : Q v (upd H a o) :=
  (P G μ _ Ext.refl (R.write hi ha hc)).1 d rfl v hv
end
theorem line : (sizeLine : Nat) = 16777216 := sizeLine_eq

/-! ### names, constants -/
section
variable {X : Cx} {W : WX} {pos : Pos} {e a b c : Expr} {fe fa fb fc : Fn D} {te ua ub uc : TE}
def fVar (i : Nat) : Fn D := fun ρ M => match ρ[i]? with
  | some (some d) => some (.ok d, M)
  | _ => none
def fC (d : D) : Fn D := fun _ M => some (.ok d, M)
theorem de_var (i : Nat) {x : Str} (hN : X.N[i]? = some x := by rfl) (hv : Vis X.env.scope x := by first | exact Or.inl rfl | exact Or.inr (Or.inl rfl) | exact Or.inr (Or.inr rfl)) (hd : (x == ("__debug__" : Str)) = false := by decide)
    (hcd : (x == ("__classdict__" : Str)) = false := by decide) : DE X W (.Name x pos) (tVar i) (fVar i) := by
  refine ⟨pe_var hN hv hd hcd, fun F G H μ M σ ρ r M' Q R E h P => ?_⟩
  unfold fVar at h
  split at h
  · rename_i d hd
    cases h
    obtain ⟨v, h1, h2⟩ := E.at_ i d hd
    exact ⟨v, h1, P.now R h2⟩
  · cases h
theorem dx_const {v : V} {d : D} {K : PySem.W.Frag} (h : ∀ G μ, Rep K G μ v d) : DX K W (Rep K) (tC v) (fC d) := fun F G H μ M σ ρ r M' Q R E e P => by
  have e' : some (DL.R.ok d, M) = some (r, M') := e
  cases e'
  exact P.now R (h G μ)
theorem de_int {i : Int} {j : Nat} : DE X W (.Constant (.int i) j pos) (tC (.int i)) (fC (.int i)) := ⟨pe_int, dx_const fun _ _ => .int i⟩
theorem de_bl {i : Bool} {j : Nat} : DE X W (.Constant (.bool i) j pos) (tC (.bl i)) (fC (.bl i)) := ⟨pe_bl, dx_const fun _ _ => .bl i⟩
theorem de_non {j : Nat} : DE X W (.Constant .none j pos) (tC .non) (fC .non) := ⟨pe_non, dx_const fun _ _ => .non⟩
theorem de_str {x : Str} {j : Nat} : DE X W (.Constant (.str x) j pos) (tC (.str x)) (fC (.str x)) := ⟨pe_str, dx_const fun _ _ => .str x⟩
/-- a constant of the module -/
structure GlobC (K : PySem.W.Frag) (mg : Str → Option Value) (x : Str) (v : V) (d : D) : Prop where
  ex : ∃ u, mg x = some u ∧ RelV v u
  rep : ∀ G μ, Rep K G μ v d
theorem de_glob {x : Str} {v : V} {d : D} (g : GlobC X.K X.mg x v d) (hg : Gl X x := by rfl) (hd : (x == ("__debug__" : Str)) = false := by decide) : DE X W (.Name x pos) (tC v) (fC d) :=
  ⟨C8.pe_gc hg g.ex hd, dx_const g.rep⟩

/-! ### two-place operations -/
abbrev Op2 := D → D → Mem → Option (R D × Mem)
def OpD (K : PySem.W.Frag) (r : R2) (g : Op2) : Prop :=
  ∀ {F G H : Hp} {W : WX} {μ : List Addr} {M : Mem} {σ : L2.St} {x y : V} {dx dy : D} {r' : R D} {M' : Mem} {Q : VK}, Rel K F G μ M H → Rep K G μ x dx → Rep K G μ y dy → g dx dy M = some (r', M') → Post K F W (Rep K) σ Q G μ r' M' → r x y H Q
def fBin (g : Op2) (fa fb : Fn D) : Fn D := fun ρ M => bnd (fa ρ M) fun x M1 => bnd (fb ρ M1) fun y M2 => g x y M2
theorem dx_bin {K : PySem.W.Frag} {r : R2} {g : Op2} {ta tb : TE} (hd : OpD K r g) (ha : DX K W (Rep K) ta fa) (hb : DX K W (Rep K) tb fb) : DX K W (Rep K) (tOp r ta tb) (fBin g fa fb) :=
  fun F G H μ M σ ρ r M' Q R E e P => ha.go R E e P fun G1 μ1 H1 M1 x dx e1 R1 E1 rx e2 P1 => hb.go R1 E1 e2 P1 fun G2 μ2 H2 M2 y dy e3 R2 E2 ry e4 P2 => hd R2 (Rep.mono e3 dx rx) ry e4 P2
theorem de_bin {op : Operator} {r : R2} {g : Op2} (ho : OpR X (binaryOp op) r) (hd : OpD X.K r g) (ha : DE X W a ua fa) (hb : DE X W b ub fb) : DE X W (.BinOp a op b pos) (tOp r ua ub) (fBin g fa fb) :=
  ⟨pe_op ho ha.pe hb.pe, dx_bin hd ha.dx hb.dx⟩
theorem de_cmp {op : CmpOp} {r : R2} {g : Op2} (ho : OpR X (compareOp op) r) (hd : OpD X.K r g) (ha : DE X W a ua fa) (hb : DE X W b ub fb) (hm : behindInMarks op b = false) : DE X W (.Compare a [op] [b] pos) (tOp r ua ub) (fBin g fa fb) :=
  ⟨pe_cmpR ho ha.pe hb.pe hm, dx_bin hd ha.dx hb.dx⟩
/-- a value that is a truth value, as a test -/
def asB (f : Fn D) : Fn Bool := fun ρ M => bnd (f ρ M) fun d M1 => match d with
  | .bl k => some (.ok k, M1)
  | _ => none
theorem dx_asB {K : PySem.W.Frag} {t : TE} (h : DX K W (Rep K) t fa) : DX K W RpB (tTest t) (asB fa) :=
  fun F G H μ M σ ρ r M' Q R E e P => h.go R E e P fun G1 μ1 H1 M1 x dx e1 R1 E1 rx e2 P1 => by
    split at e2
    · cases rx; cases e2; exact ⟨_, rfl, P1.now R1 rfl⟩
    · cases e2
theorem dt_cmp {op : CmpOp} {r : R2} {g : Op2} (ho : OpR X (compareOp op) r) (hd : OpD X.K r g) (ha : DE X W a ua fa) (hb : DE X W b ub fb) (hm : behindInMarks op b = false) : DT X W (.Compare a [op] [b] pos) (tTest (tOp r ua ub)) (asB (fBin g fa fb)) :=
  ⟨pt_cmpR ho ha.pe hb.pe hm, dx_asB (dx_bin hd ha.dx hb.dx)⟩
/-- an expression whose value is a truth value -/
theorem dt_val (h : DE X W e te fe) (he : ∀ whole, isTrue e X.env whole = (do let v ← whole; standAt e.pos; holding [v] (truthy v)) := by intro _; rfl) : DT X W e (tB te) (asB fe) :=
  ⟨pt_val h.pe he, dx_asB h.dx⟩
/-- a < b < c -/
def fChain (g g' : Op2) (fa fb fc : Fn D) : Fn D := fun ρ M => bnd (fa ρ M) fun x M1 => bnd (fb ρ M1) fun y M2 => bnd (g x y M2) fun k M3 => match k with
  | .bl true => bnd (fc ρ M3) fun z M4 => g' y z M4
  | .bl false => some (.ok (.bl false), M3)
  | _ => none
def NoX (g : Op2) : Prop := ∀ x y M e M', g x y M ≠ some (.exc e, M')
theorem dx_chain {K : PySem.W.Frag} {r r' : R2} {g g' : Op2} {ta tb tc : TE} (hd : OpD K r g) (hd' : OpD K r' g') (hx : NoX g) (ha : DX K W (Rep K) ta fa) (hb : DX K W (Rep K) tb fb) (hc : DX K W (Rep K) tc fc) : DX K W (Rep K) (tChain r r' ta tb tc) (fChain g g' fa fb fc) :=
  fun F G H μ M σ ρ r M' Q R E e P => ha.go R E e P fun G1 μ1 H1 M1 x dx e1 R1 E1 rx e2 P1 => hb.go R1 E1 e2 P1 fun G2 μ2 H2 M2 y dy e3 R2 E2 ry e4 P2 => by
    cases q : g dx dy M2 with
    | none => rw [q] at e4; cases e4
    | some z =>
      obtain ⟨z, M3⟩ := z
      cases z with
      | exc x => exact absurd q (hx _ _ _ _ _)
      | ok k =>
        rw [q] at e4
        refine hd (W := W) (σ := σ) R2 (Rep.mono e3 dx rx) ry q fun G3 μ3 H3 x3 R3 => ⟨fun k' hk b hb => ?_, fun x hx => nomatch hx⟩
        cases hk
        simp only [bnd_ok] at e4
        split at e4
        · cases hb
          exact ⟨true, rfl, hc.go R3 (E2.mono x3) e4 (P2.ext x3) fun G4 μ4 H4 M4 z dz e5 R4 E4 rz e6 P4 => hd' R4 (Rep.mono (x3.trans e5) dy ry) rz e6 P4⟩
        · cases hb
          cases e4
          exact ⟨false, rfl, (P2.ext x3).now R3 (.bl false)⟩
        · cases e4
theorem de_chain {op op' : CmpOp} {r r' : R2} {g g' : Op2} (ho : OpR X (compareOp op) r) (ho' : OpR X (compareOp op') r') (hd : OpD X.K r g) (hd' : OpD X.K r' g') (hx : NoX g) (ha : DE X W a ua fa) (hb : DE X W b ub fb) (hc : DE X W c uc fc)
    (hm : lastMarks [op, op'] [b, c] = false := by with_unfolding_all rfl) : DE X W (.Compare a [op, op'] [b, c] pos) (tChain r r' ua ub uc) (fChain g g' fa fb fc) :=
  ⟨pe_chain ho ho' ha.pe hb.pe hc.pe hm, dx_chain hd hd' hx ha.dx hb.dx hc.dx⟩
theorem dt_chain {op op' : CmpOp} {r r' : R2} {g g' : Op2} (ho : OpR X (compareOp op) r) (ho' : OpR X (compareOp op') r') (hd : OpD X.K r g) (hd' : OpD X.K r' g') (hx : NoX g) (ha : DE X W a ua fa) (hb : DE X W b ub fb) (hc : DE X W c uc fc)
    (hm : lastMarks [op, op'] [b, c] = false := by with_unfolding_all rfl) : DT X W (.Compare a [op, op'] [b, c] pos) (tTest (tChain r r' ua ub uc)) (asB (fChain g g' fa fb fc)) :=
  ⟨pt_chain ho ho' ha.pe hb.pe hc.pe hm, dx_asB (dx_chain hd hd' hx ha.dx hb.dx hc.dx)⟩
theorem OpD.or {K : PySem.W.Frag} {r r' : R2} {g g' : Op2} (h : OpD K r g) (h' : OpD K r' g') : OpD K (fun x y H Q => r x y H Q ∨ r' x y H Q) (fun x y M => (g x y M).orElse fun _ => g' x y M) := by
  intro F G H W μ M σ x y dx dy r0 M' Q R rx ry e P
  have e : ((g dx dy M).orElse fun _ => g' dx dy M) = some (r0, M') := e
  cases q : g dx dy M with
  | none => rw [q] at e; exact .inr (h' R rx ry e P)
  | some z => rw [q] at e; exact .inl (h R rx ry (q.trans e) P)

/-! ### unary -/
def UnD (K : PySem.W.Frag) (r : V → Hp → VK → Prop) (g : D → Mem → Option (R D × Mem)) : Prop :=
  ∀ {F G H : Hp} {W : WX} {μ : List Addr} {M : Mem} {σ : L2.St} {x : V} {dx : D} {r' : R D} {M' : Mem} {Q : VK}, Rel K F G μ M H → Rep K G μ x dx → g dx M = some (r', M') → Post K F W (Rep K) σ Q G μ r' M' → r x H Q
def fUn (g : D → Mem → Option (R D × Mem)) (fa : Fn D) : Fn D := fun ρ M => bnd (fa ρ M) g
theorem de_un {op : UnaryOp} {r : V → Hp → VK → Prop} {g : D → Mem → Option (R D × Mem)} (ho : UnR X (unaryOp op) r) (hd : UnD X.K r g) (ha : DE X W a ua fa) : DE X W (.UnaryOp op a pos) (tUn r ua) (fUn g fa) :=
  ⟨pe_un ho ha.pe, fun F G H μ M σ ρ r M' Q R E e P => ha.dx.go R E e P fun G1 μ1 H1 M1 x dx e1 R1 E1 rx e2 P1 => hd R1 rx e2 P1⟩

/-! ### and, or, not, if -/
variable {ta tb : Fn Bool} {va vb : TT} {rest : List Expr}
def fAnd (ta tb : Fn Bool) : Fn Bool := fun ρ M => bnd (ta ρ M) fun k M1 => if k = true then tb ρ M1 else some (.ok false, M1)
def fOr (ta tb : Fn Bool) : Fn Bool := fun ρ M => bnd (ta ρ M) fun k M1 => if k = true then some (.ok true, M1) else tb ρ M1
def fNot (ta : Fn Bool) : Fn Bool := fun ρ M => bnd (ta ρ M) fun k M1 => some (.ok (!k), M1)
theorem dw_and1 (h : DT X W a va ta) : DW X W (.BoolOp .And [a] pos) va ta := ⟨pw_and1 h.pe, h.dx⟩
theorem dw_or1 (h : DT X W a va ta) : DW X W (.BoolOp .Or [a] pos) va ta := ⟨pw_or1 h.pe, h.dx⟩
theorem dx_and {K : PySem.W.Frag} {t u : TT} (h1 : DX K W RpB t ta) (h2 : DX K W RpB u tb) : DX K W RpB (tAnd t u) (fAnd ta tb) :=
  fun F G H μ M σ ρ r M' Q R E e P => h1.go R E e P fun G1 μ1 H1 M1 k k' e1 R1 E1 rk e2 P1 => by
    have rk' : k = k' := rk
    subst rk'
    cases k with
    | true => exact h2 F G1 H1 μ1 M1 σ ρ r M' Q R1 E1 e2 P1
    | false => cases e2; exact P1.now R1 rfl
theorem dx_or {K : PySem.W.Frag} {t u : TT} (h1 : DX K W RpB t ta) (h2 : DX K W RpB u tb) : DX K W RpB (tOr t u) (fOr ta tb) :=
  fun F G H μ M σ ρ r M' Q R E e P => h1.go R E e P fun G1 μ1 H1 M1 k k' e1 R1 E1 rk e2 P1 => by
    have rk' : k = k' := rk
    subst rk'
    cases k with
    | false => exact h2 F G1 H1 μ1 M1 σ ρ r M' Q R1 E1 e2 P1
    | true => cases e2; exact P1.now R1 rfl
theorem dw_and (h1 : DT X W a va ta) (h2 : DW X W (.BoolOp .And (b :: rest) pos) vb tb) : DW X W (.BoolOp .And (a :: b :: rest) pos) (tAnd va vb) (fAnd ta tb) := ⟨pw_and h1.pe h2.pe, dx_and h1.dx h2.dx⟩
theorem dw_or (h1 : DT X W a va ta) (h2 : DW X W (.BoolOp .Or (b :: rest) pos) vb tb) : DW X W (.BoolOp .Or (a :: b :: rest) pos) (tOr va vb) (fOr ta tb) := ⟨pw_or h1.pe h2.pe, dx_or h1.dx h2.dx⟩
theorem dt_bool (h : DW X W e va ta) : DT X W e va ta := ⟨h.pe.pt, h.dx⟩
theorem dt_not (h : DT X W a va ta) : DT X W (.UnaryOp .Not a pos) (tNot va) (fNot ta) := by
  refine ⟨pt_not h.pe, fun F G H μ M σ ρ r M' Q R E e P => h.dx.go R E e P fun G1 μ1 H1 M1 k k' e1 R1 E1 rk e2 P1 => ?_⟩
  have rk' : k = k' := rk
  subst rk'
  cases e2
  exact P1.now R1 rfl
/-- as values: truth values -/
def fAndV (fa fb : Fn D) : Fn D := fun ρ M => bnd (fa ρ M) fun k M1 => match k with
  | .bl true => fb ρ M1
  | .bl false => some (.ok (.bl false), M1)
  | _ => none
def fOrV (fa fb : Fn D) : Fn D := fun ρ M => bnd (fa ρ M) fun k M1 => match k with
  | .bl false => fb ρ M1
  | .bl true => some (.ok (.bl true), M1)
  | _ => none
def fNotV (fa : Fn D) : Fn D := fun ρ M => bnd (fa ρ M) fun k M1 => match k with
  | .bl k => some (.ok (.bl (!k)), M1)
  | _ => none
theorem de_one {op : BoolOp} (h : DE X W a ua fa) : DE X W (.BoolOp op [a] pos) ua fa := ⟨pe_one h.pe, h.dx⟩
theorem de_and (h1 : DE X W a ua fa) (h2 : DE X W (.BoolOp .And (b :: rest) pos) ub fb) : DE X W (.BoolOp .And (a :: b :: rest) pos) (tAndV ua ub) (fAndV fa fb) := by
  refine ⟨pe_and h1.pe h2.pe, fun F G H μ M σ ρ r M' Q R E e P => h1.dx.go R E e P fun G1 μ1 H1 M1 x dx e1 R1 E1 rx e2 P1 => ?_⟩
  split at e2
  · cases rx; exact ⟨true, rfl, iteT (h2.dx F G1 H1 μ1 M1 σ ρ r M' Q R1 E1 e2 P1)⟩
  · cases rx; cases e2; exact ⟨false, rfl, iteF (P1.now R1 (.bl false))⟩
  · cases e2
theorem de_or (h1 : DE X W a ua fa) (h2 : DE X W (.BoolOp .Or (b :: rest) pos) ub fb) : DE X W (.BoolOp .Or (a :: b :: rest) pos) (tOrV ua ub) (fOrV fa fb) := by
  refine ⟨pe_or h1.pe h2.pe, fun F G H μ M σ ρ r M' Q R E e P => h1.dx.go R E e P fun G1 μ1 H1 M1 x dx e1 R1 E1 rx e2 P1 => ?_⟩
  split at e2
  · cases rx; exact ⟨false, rfl, iteF (h2.dx F G1 H1 μ1 M1 σ ρ r M' Q R1 E1 e2 P1)⟩
  · cases rx; cases e2; exact ⟨true, rfl, iteT (P1.now R1 (.bl true))⟩
  · cases e2
theorem de_not (h1 : DE X W a ua fa) : DE X W (.UnaryOp .Not a pos) (tNotV ua) (fNotV fa) := by
  refine ⟨pe_not h1.pe, fun F G H μ M σ ρ r M' Q R E e P => h1.dx.go R E e P fun G1 μ1 H1 M1 x dx e1 R1 E1 rx e2 P1 => ?_⟩
  split at e2
  · cases rx; cases e2; exact ⟨_, rfl, P1.now R1 (.bl _)⟩
  · cases e2
def fIf (t : Fn Bool) (fa fb : Fn D) : Fn D := fun ρ M => bnd (t ρ M) fun k M1 => if k = true then fa ρ M1 else fb ρ M1
theorem de_if (hc : DT X W c va ta) (h1 : DE X W a ua fa) (h2 : DE X W b ub fb) : DE X W (.IfExp c a b pos) (tIf va ua ub) (fIf ta fa fb) := by
  refine ⟨pe_ifExp hc.pe h1.pe h2.pe, fun F G H μ M σ ρ r M' Q R E e P => hc.dx.go R E e P fun G1 μ1 H1 M1 k k' e1 R1 E1 rk e2 P1 => ?_⟩
  have rk' : k = k' := rk
  subst rk'
  cases k with
  | true => exact iteT (h1.dx F G1 H1 μ1 M1 σ ρ r M' Q R1 E1 e2 P1)
  | false => exact iteF (h2.dx F G1 H1 μ1 M1 σ ρ r M' Q R1 E1 e2 P1)

/-! ### argument lists, displays -/
variable {es : List Expr} {fs : Fn (List D)} {us : TA}
def fNil : Fn (List D) := fun _ M => some (.ok [], M)
def fCons (fa : Fn D) (fs : Fn (List D)) : Fn (List D) := fun ρ M => bnd (fa ρ M) fun x M1 => bnd (fs ρ M1) fun xs M2 => some (.ok (x :: xs), M2)
theorem da_nil : DA X W [] tNil fNil := ⟨pa_nil, fun F G H μ M σ ρ r M' Q R E e P => by cases e; exact P.now R .nil⟩
theorem da_cons (h1 : DE X W e te fe) (h2 : DA X W es us fs) (hs : starEach (e :: es) X.env = (false, eval e X.env) :: starEach es X.env := by rfl) : DA X W (e :: es) (tCons te us) (fCons fe fs) := by
  refine ⟨pa_cons h1.pe h2.pe hs, fun F G H μ M σ ρ r M' Q R E e P => h1.dx.go R E e P fun G1 μ1 H1 M1 x dx e1 R1 E1 rx e2 P1 => h2.dx.go R1 E1 e2 P1 fun G2 μ2 H2 M2 xs dxs e3 R2 E2 rxs e4 P2 => ?_⟩
  cases e4
  exact P2.now R2 (.cons (Rep.mono e3 dx rx) rxs)
/-- a display that is not changed any more -/
def fTup (fs : Fn (List D)) : Fn D := fun ρ M => bnd (fs ρ M) fun xs M1 => if xs.length ≤ 16777216 then some (.ok (.tup xs), M1) else none
def fLst (fs : Fn (List D)) : Fn D := fun ρ M => bnd (fs ρ M) fun xs M1 => if xs.length ≤ 16777216 then some (.ok (.lst xs), M1) else none
def fLstC (fs : Fn (List D)) : Fn D := fun ρ M => bnd (fs ρ M) fun xs M1 => if xs.length ≤ 16777216 then some (.ok (.cell M1.length), M1 ++ [some (.lst xs)]) else none
theorem de_tup {x1} (h : DA X W es us fs) : DE X W (.Tuple es x1 pos) (tTup us) (fTup fs) := by
  refine ⟨pe_tup h.pe, fun F G H μ M σ ρ r M' Q R E e P => h.dx.go R E e P fun G1 μ1 H1 M1 xs dxs e1 R1 E1 rx e2 P1 => ?_⟩
  split at e2
  · rename_i hz
    cases e2
    exact ⟨by rw [rx.length, line]; exact hz, fun p hp => P1.newT R1 hp hz rx⟩
  · cases e2
theorem de_lst (h : DA X W es us fs) : DE X W (.List es pos) (tLst us) (fLst fs) := by
  refine ⟨pe_lst h.pe, fun F G H μ M σ ρ r M' Q R E e P => h.dx.go R E e P fun G1 μ1 H1 M1 xs dxs e1 R1 E1 rx e2 P1 => ?_⟩
  split at e2
  · rename_i hz
    cases e2
    exact ⟨by rw [rx.length, line]; exact hz, fun p hp => P1.newL R1 hp hz rx⟩
  · cases e2
theorem de_lstC (h : DA X W es us fs) : DE X W (.List es pos) (tLst us) (fLstC fs) := by
  refine ⟨pe_lst h.pe, fun F G H μ M σ ρ r M' Q R E e P => h.dx.go R E e P fun G1 μ1 H1 M1 xs dxs e1 R1 E1 rx e2 P1 => ?_⟩
  split at e2
  · rename_i hz
    cases e2
    exact ⟨by rw [rx.length, line]; exact hz, fun p hp => P1.newC R1 hp ⟨xs, upd_same, hz, rx⟩⟩
  · cases e2
/-- a list (dict) cell is changed no more: from here on it is data -/
def fFrz (f : Fn D) : Fn D := fun ρ M => bnd (f ρ M) fun d M1 => match d with
  | .cell i => match M1[i]? with
    | some (some (.lst xs)) => some (.ok (.lst xs), M1.set i none)
    | some (some (.dic xs)) => some (.ok (.dic xs), M1.set i none)
    | _ => none
  | _ => none
theorem de_frz (h : DE X W e te fe) : DE X W e te (fFrz fe) := by
  refine ⟨h.pe, fun F G H μ M σ ρ r M' Q R E e P => h.dx.go R E e P fun G1 μ1 H1 M1 x dx e1 R1 E1 rx e2 P1 => ?_⟩
  split at e2
  · rename_i i
    split at e2
    · rename_i xs hq
      cases e2
      obtain ⟨a, vs, rfl, ha, h3, hz, h4⟩ := R1.cellL rx hq
      obtain ⟨R2, hG⟩ := R1.freeze hq ha h3
      exact (P1 _ _ _ (ext_upd hG) R2).1 _ rfl _ (.lst (.inl (.inl upd_same)) hz (h4.mono (ext_upd hG)))
    · rename_i xs hq
      cases e2
      obtain ⟨a, vs, rfl, ha, h3, hz, h4⟩ := R1.cellD rx hq
      obtain ⟨R2, hG⟩ := R1.freeze hq ha h3
      exact (P1 _ _ _ (ext_upd hG) R2).1 _ rfl _ (.dic (.inl upd_same) hz (h4.mono (ext_upd hG)))
    · cases e2
  · cases e2
end
end DL

namespace DL
open PySem L2 PySem.Spec PyProof.Rows

/-! ### statements -/
inductive Out where
  | nx | bk | ct | rt (d : D) | exc (x : Exn)
abbrev Sn := Env → Mem → Option (Out × Env × Mem)
def SPost (K : PySem.W.Frag) (F : Hp) (W : WX) (Z : Ends) (G : Hp) (μ : List Addr) (o : Out) (ρ' : Env) (M' : Mem) : Prop :=
  ∀ G' μ' H' σ', Ext G μ G' μ' → Rel K F G' μ' M' H' → EnvR K G' μ' ρ' σ' →
    (o = .nx → Z.nx σ' H') ∧ (o = .bk → Z.bk σ' H') ∧ (o = .ct → Z.ct σ' H') ∧ (∀ d, o = .rt d → ∀ v, Rep K G' μ' v d → Z.rt v H') ∧ (∀ x, o = .exc x → ∀ cls dd, ExcR K G' μ' x cls dd → W cls dd σ' H')
def SX (K : PySem.W.Frag) (W : WX) (t : TS) (g : Sn) : Prop :=
  ∀ (F G H : Hp) (μ : List Addr) (M : Mem) (σ : L2.St) (ρ : Env) (o : Out) (ρ' : Env) (M' : Mem) (Z : Ends), Rel K F G μ M H → EnvR K G μ ρ σ → g ρ M = some (o, ρ', M') → SPost K F W Z G μ o ρ' M' → t Z σ H
structure DS (X : Cx) (W : WX) (st : Stmt) (t : TS) (g : Sn) : Prop where
  ps : PS X st t
  sx : SX X.K W t g
structure DSs (X : Cx) (W : WX) (st : List Stmt) (t : TS) (g : Sn) : Prop where
  ps : PSs X st t
  sx : SX X.K W t g
section
variable {K : PySem.W.Frag} {F G H G1 : Hp} {W : WX} {Z : Ends} {μ μ1 : List Addr} {o : Out} {ρ ρ' : Env} {M M' : Mem} {σ : L2.St} {d : D} {v : V}
theorem SPost.ext (e : Ext G μ G1 μ1) (P : SPost K F W Z G μ o ρ' M') : SPost K F W Z G1 μ1 o ρ' M' := fun G' μ' H' σ' x => P G' μ' H' σ' (e.trans x)
theorem SPost.nx (P : SPost K F W Z G μ .nx ρ M) (R : Rel K F G μ M H) (E : EnvR K G μ ρ σ) : Z.nx σ H := (P G μ H σ Ext.refl R E).1 rfl
theorem SPost.rt (P : SPost K F W Z G μ (.rt d) ρ M) (R : Rel K F G μ M H) (E : EnvR K G μ ρ σ) (r : Rep K G μ v d) : Z.rt v H := (P G μ H σ Ext.refl R E).2.2.2.1 d rfl v r
end
/-- an expression in a statement -/
def bndS {α : Type} (x : Option (R α × Mem)) (ρ : Env) (k : α → Mem → Option (Out × Env × Mem)) : Option (Out × Env × Mem) :=
  match x with
  | some (.ok a, M) => k a M
  | some (.exc e, M) => some (.exc e, ρ, M)
  | none => none
@[simp] theorem bndS_ok {α : Type} (a : α) (M : Mem) (ρ : Env) (k : α → Mem → Option (Out × Env × Mem)) : bndS (some (.ok a, M)) ρ k = k a M := rfl
@[simp] theorem bndS_exc {α : Type} (e : Exn) (M : Mem) (ρ : Env) (k : α → Mem → Option (Out × Env × Mem)) : bndS (some (.exc e, M)) ρ k = some (.exc e, ρ, M) := rfl
@[simp] theorem bndS_none {α : Type} (ρ : Env) (k : α → Mem → Option (Out × Env × Mem)) : bndS none ρ k = none := rfl
section
variable {α β : Type} {K : PySem.W.Frag} {F G H : Hp} {W : WX} {Z : Ends} {μ : List Addr} {o : Out} {ρ ρ' : Env} {M M' : Mem} {σ : L2.St} {Rp : Hp → List Addr → β → α → Prop} {t : L2.St → Hp → (β → Hp → Prop) → Prop} {f : Fn α}
theorem DX.goS (h : DX K W Rp t f) (R : Rel K F G μ M H) (E : EnvR K G μ ρ σ) {k : α → Mem → Option (Out × Env × Mem)} (e : bndS (f ρ M) ρ k = some (o, ρ', M')) (P : SPost K F W Z G μ o ρ' M') {T : β → Hp → Prop}
    (hk : ∀ G1 μ1 H1 M1 b a, Ext G μ G1 μ1 → Rel K F G1 μ1 M1 H1 → EnvR K G1 μ1 ρ σ → Rp G1 μ1 b a → k a M1 = some (o, ρ', M') → SPost K F W Z G1 μ1 o ρ' M' → T b H1) : t σ H T := by
  cases q : f ρ M with
  | none => rw [q] at e; cases e
  | some z =>
    obtain ⟨z, M1⟩ := z
    rw [q] at e
    cases z with
    | ok a => exact h F G H μ M σ ρ _ _ T R E q fun G1 μ1 H1 x R1 => ⟨fun a' ha b hb => by cases ha; exact hk G1 μ1 H1 M1 b a x R1 (E.mono x) hb e (P.ext x), fun x hx => nomatch hx⟩
    | exc x =>
      have e' : some (Out.exc x, ρ, M1) = some (o, ρ', M') := e
      cases e'
      exact h F G H μ M σ ρ _ _ T R E q fun G1 μ1 H1 y R1 => ⟨(fun a' ha => nomatch ha), fun x' hx => by cases hx; exact (P G1 μ1 H1 σ y R1 (E.mono y)).2.2.2.2 x rfl⟩
end
section
variable {X : Cx} {W : WX} {pos : Pos} {e c : Expr} {te : TE} {fe : Fn D} {st : Stmt} {rest a b : List Stmt} {t u : TS} {g h : Sn} {va : TT} {ta : Fn Bool}
def sNext : Sn := fun ρ M => some (.nx, ρ, M)
def sSeq (g h : Sn) : Sn := fun ρ M => match g ρ M with
  | some (.nx, ρ1, M1) => h ρ1 M1
  | r => r
theorem dss_nil : DSs X W [] tNext sNext := ⟨pss_nil, fun F G H μ M σ ρ o ρ' M' Z R E e P => by cases e; exact P.nx R E⟩
theorem SX.seq {K : PySem.W.Frag} (h1 : SX K W t g) (h2 : SX K W u h) : SX K W (tSeq t u) (sSeq g h) := fun F G H μ M σ ρ o ρ' M' Z R E e P => by
  unfold sSeq at e
  cases q : g ρ M with
  | none => rw [q] at e; cases e
  | some z =>
    obtain ⟨o1, ρ1, M1⟩ := z
    rw [q] at e
    refine h1 F G H μ M σ ρ o1 ρ1 M1 _ R E q fun G' μ' H' σ' x R' E' => ?_
    cases o1 with
    | nx => exact ⟨fun _ => h2 F G' H' μ' M1 σ' ρ1 o ρ' M' Z R' E' e (P.ext x), (fun z => nomatch z), (fun z => nomatch z), (fun _ z => nomatch z), fun _ z => nomatch z⟩
    | bk => cases e; exact ⟨(fun z => nomatch z), (P G' μ' H' σ' x R' E').2⟩
    | ct => cases e; exact ⟨(fun z => nomatch z), (P G' μ' H' σ' x R' E').2⟩
    | rt d => cases e; exact ⟨(fun z => nomatch z), (P G' μ' H' σ' x R' E').2⟩
    | exc y => cases e; exact ⟨(fun z => nomatch z), (P G' μ' H' σ' x R' E').2⟩
theorem dss_cons (h1 : DS X W st t g) (h2 : DSs X W rest u h) : DSs X W (st :: rest) (tSeq t u) (sSeq g h) := ⟨pss_cons h1.ps h2.ps, h1.sx.seq h2.sx⟩
theorem dss_one (h1 : DS X W st t g) : DSs X W [st] t g := ⟨pss_one h1.ps, h1.sx⟩
theorem ds_pass : DS X W (.Pass pos) tNext sNext := ⟨ps_pass, fun F G H μ M σ ρ o ρ' M' Z R E e P => by cases e; exact P.nx R E⟩
theorem ds_doc {x j pos pos'} : DS X W (.Expr (.Constant (.str x) j pos) pos') tNext sNext := ⟨ps_doc, fun F G H μ M σ ρ o ρ' M' Z R E e P => by cases e; exact P.nx R E⟩
theorem ds_break : DS X W (.Break pos) tBreak (fun ρ M => some (.bk, ρ, M)) := ⟨ps_break, fun F G H μ M σ ρ o ρ' M' Z R E e P => by cases e; exact (P G μ H σ Ext.refl R E).2.1 rfl⟩
theorem ds_continue : DS X W (.Continue pos) tCont (fun ρ M => some (.ct, ρ, M)) := ⟨ps_continue, fun F G H μ M σ ρ o ρ' M' Z R E e P => by cases e; exact (P G μ H σ Ext.refl R E).2.2.1 rfl⟩
def sExpr (f : Fn D) : Sn := fun ρ M => bndS (f ρ M) ρ fun _ M1 => some (.nx, ρ, M1)
theorem ds_expr (he : DE X W e te fe) (hs : swapsWith e none pos.line X.env = pure false := by rfl) : DS X W (.Expr e pos) (tDrop te) (sExpr fe) :=
  ⟨ps_expr he.pe hs, fun F G H μ M σ ρ o ρ' M' Z R E e P => he.dx.goS R E e P fun G1 μ1 H1 M1 v d e1 R1 E1 r1 e2 P1 => by cases e2; exact P1.nx R1 E1⟩
def sRet (f : Fn D) : Sn := fun ρ M => bndS (f ρ M) ρ fun d M1 => some (.rt d, ρ, M1)
theorem ds_ret (he : DE X W e te fe) : DS X W (.Return (some e) pos) (tRet te) (sRet fe) :=
  ⟨ps_ret he.pe, fun F G H μ M σ ρ o ρ' M' Z R E e P => he.dx.goS R E e P fun G1 μ1 H1 M1 v d e1 R1 E1 r1 e2 P1 => by cases e2; exact P1.rt R1 E1 r1⟩
def sRetN : Sn := fun ρ M => some (.rt .non, ρ, M)
theorem ds_retN : DS X W (.Return none pos) tRetN sRetN := ⟨ps_retN, fun F G H μ M σ ρ o ρ' M' Z R E e P => by cases e; exact P.rt R E .non⟩
def sIf (t : Fn Bool) (g h : Sn) : Sn := fun ρ M => bndS (t ρ M) ρ fun k M1 => if k = true then g ρ M1 else h ρ M1
theorem ds_if (hc : DT X W c va ta) (ha : DSs X W a t g) (hb : DSs X W b u h) : DS X W (.If c a b pos) (tIfS va t u) (sIf ta g h) := by
  refine ⟨ps_if hc.pe ha.ps hb.ps, fun F G H μ M σ ρ o ρ' M' Z R E e P => hc.dx.goS R E e P fun G1 μ1 H1 M1 k k' e1 R1 E1 rk e2 P1 => ?_⟩
  have rk' : k = k' := rk
  subst rk'
  cases k with
  | true => exact iteT (ha.sx F G1 H1 μ1 M1 σ ρ o ρ' M' Z R1 E1 e2 P1)
  | false => exact iteF (hb.sx F G1 H1 μ1 M1 σ ρ o ρ' M' Z R1 E1 e2 P1)
theorem ds_never {g : Sn} (hg : ∀ ρ M, g ρ M = none) : DS X W st tNever g := ⟨ps_never, fun F G H μ M σ ρ o ρ' M' Z R E e P => by rw [hg] at e; cases e⟩

/-! ### targets -/
abbrev Tg := D → Env → Option Env
def Kp (js : List Nat) (σ σ' : L2.St) : Prop := ∀ i : Nat, i ∉ js → σ'[i]? = σ[i]?
theorem Kp.refl {js : List Nat} {σ : L2.St} : Kp js σ σ := fun _ _ => rfl
/-- js: the slots that are written -/
structure DG (X : Cx) (tg : Expr) (t : TG) (g : Tg) (js : List Nat) : Prop where
  pg : PG X tg t
  gx : ∀ (F G H : Hp) (μ : List Addr) (M : Mem) (σ : L2.St) (ρ ρ' : Env) (v : V) (d : D) (Q : L2.St → Hp → Prop), Rel X.K F G μ M H → EnvR X.K G μ ρ σ → Rep X.K G μ v d → g d ρ = some ρ' → (∀ σ', EnvR X.K G μ ρ' σ' → Kp js σ σ' → Q σ' H) → t v σ H Q
structure DGs (X : Cx) (ts : List Expr) (t : TGs) (g : List D → Env → Option Env) (js : List Nat) : Prop where
  pg : PGs X ts t
  gx : ∀ (F G H : Hp) (μ : List Addr) (M : Mem) (σ : L2.St) (ρ ρ' : Env) (vs : List V) (ds : List D) (Q : L2.St → Hp → Prop), Rel X.K F G μ M H → EnvR X.K G μ ρ σ → RepL X.K G μ vs ds → g ds ρ = some ρ' → (∀ σ', EnvR X.K G μ ρ' σ' → Kp js σ σ' → Q σ' H) → t vs σ H Q
def yName (i : Nat) : Tg := fun d ρ => some (ρ.set i (some d))
theorem dg_name (i : Nat) {x : Str} (hN : X.N.Nodup) (hi : X.N[i]? = some x := by rfl) (hx : Loc X.env.scope x := by first | exact Or.inl rfl | exact Or.inr rfl)
    (hf : X.fn x = true ∨ X.env.scope.names.lookup x = some .local := by first | exact .inl rfl | exact .inr rfl | assumption) : DG X (.Name x pos) (gName i) (yName i) [i] :=
  ⟨pg_name hN hi hx hf, fun F G H μ M σ ρ ρ' v d Q R E r e q => by cases e; exact q _ (E.set r) fun j hj => List.getElem?_set_ne fun z => hj (by simp [z])⟩
def yNil : List D → Env → Option Env := fun ds ρ => match ds with
  | [] => some ρ
  | _ => none
def yCons (g : Tg) (h : List D → Env → Option Env) : List D → Env → Option Env := fun ds ρ => match ds with
  | d :: r => (g d ρ).bind (h r)
  | _ => none
theorem dgs_nil : DGs X [] gNil yNil [] := ⟨pgs_nil, fun F G H μ M σ ρ ρ' vs ds Q R E r e q => by
  cases r with
  | nil => cases e; exact ⟨rfl, q _ E Kp.refl⟩
  | cons _ _ => cases e⟩
theorem dgs_cons {es : List Expr} {t : TG} {u : TGs} {g : Tg} {h : List D → Env → Option Env} {js ks : List Nat} (h1 : DG X e t g js) (h2 : DGs X es u h ks)
    (hs : (assignEach (e :: es) X.env).map (·.2) = assign e X.env :: (assignEach es X.env).map (·.2) := by rfl) : DGs X (e :: es) (gCons t u) (yCons g h) (js ++ ks) :=
  ⟨pgs_cons h1.pg h2.pg hs, fun F G H μ M σ ρ ρ' vs ds Q R E r e q => by
    cases r with
    | nil => cases e
    | @cons v vs d ds r1 r2 =>
      have e' : (g d ρ).bind (h ds) = some ρ' := e
      cases z : g d ρ with
      | none => rw [z] at e'; cases e'
      | some ρ1 =>
        rw [z] at e'
        exact ⟨v, vs, rfl, h1.gx F G H μ M σ ρ ρ1 v d _ R E r1 z fun σ1 E1 k1 => h2.gx F G H μ M σ1 ρ1 ρ' vs ds Q R E1 r2 e' fun σ2 E2 k2 => q σ2 E2 fun i hi => (k2 i fun z => hi (List.mem_append_right _ z)).trans (k1 i fun z => hi (List.mem_append_left _ z))⟩⟩
def yTup (n : Nat) (g : List D → Env → Option Env) : Tg := fun d ρ => match d with
  | .tup ds => if ds.length = n then g ds ρ else none
  | _ => none
theorem dg_tup {es : List Expr} {k : Nat} {t : TGs} {n : Nat} {g : List D → Env → Option Env} {js : List Nat} (hc : X.calm = true) (h : DGs X es t g js)
    (hn : (assignEach es X.env).length = n := by rfl) (hst : (assignEach es X.env).findIdx? (·.1) = none := by rfl) : DG X (.Tuple es k pos) (gTup X.K n t) (yTup n g) js :=
  ⟨pg_tup hc h.pg hn hst, fun F G H μ M σ ρ ρ' v d Q R E r e q => by
    unfold yTup at e
    split at e
    · split at e
      · rename_i ds hl
        obtain ⟨a, vs, h1, h2, hz, h3⟩ := R.tupQ r rfl
        exact ⟨a, vs, h1, h2, h3.length.trans hl, h.gx F G H μ M σ ρ ρ' vs ds Q R E h3 e q⟩
      · cases e
    · cases e⟩
def sAsg (f : Fn D) (g : Tg) : Sn := fun ρ M => bndS (f ρ M) ρ fun d M1 => match g d ρ with
  | some ρ1 => some (.nx, ρ1, M1)
  | none => none
theorem sx_asg {K : PySem.W.Frag} {tg : TG} {g : Tg} {js : List Nat} (h1 : DX K W (Rep K) te fe) (h2 : ∀ (F G H : Hp) (μ : List Addr) (M : Mem) (σ : L2.St) (ρ ρ' : Env) (v : V) (d : D) (Q : L2.St → Hp → Prop), Rel K F G μ M H → EnvR K G μ ρ σ → Rep K G μ v d → g d ρ = some ρ' → (∀ σ', EnvR K G μ ρ' σ' → Kp js σ σ' → Q σ' H) → tg v σ H Q) :
    SX K W (tAsg te tg) (sAsg fe g) := fun F G H μ M σ ρ o ρ' M' Z R E e P => h1.goS R E e P fun G1 μ1 H1 M1 v d e1 R1 E1 r1 e2 P1 => by
  cases z : g d ρ with
  | none => simp [z] at e2
  | some ρ1 =>
    simp only [z] at e2
    cases e2
    exact h2 F G1 H1 μ1 _ σ ρ _ v d _ R1 E1 r1 z fun σ' E' _ => P1.nx R1 E'
theorem ds_asg {tg : Expr} {t : TG} {g : Tg} {js : List Nat} (he : DE X W e te fe) (hg : DG X tg t g js) (hs : swapsWithSole [tg] e pos.line X.env = pure false := by rfl) (hw : swappedStores [tg] e X.env = pure none := by rfl)
    (h1 : (assignEach [tg] X.env).map (·.2) = [assign tg X.env] := by rfl) : DS X W (.Assign [tg] e pos) (tAsg te t) (sAsg fe g) := ⟨ps_asg he.pe hg.pg hs hw h1, sx_asg he.dx hg.gx⟩
theorem ds_set (i : Nat) {x : Str} {pos' : Pos} (hN : X.N.Nodup) (he : DE X W e te fe) (hi : X.N[i]? = some x := by rfl) (hx : Loc X.env.scope x := by first | exact Or.inl rfl | exact Or.inr rfl) (hs : swapsWith e (some (.Name x pos')) pos.line X.env = pure false := by rfl)
    (hf : X.fn x = true ∨ X.env.scope.names.lookup x = some .local := by first | exact .inl rfl | exact .inr rfl | assumption) : DS X W (.Assign [.Name x pos'] e pos) (tAsg te (gName i)) (sAsg fe (yName i)) :=
  ⟨ps_set hN hi hx he.pe hs hf, sx_asg (js := [i]) he.dx fun F G H μ M σ ρ ρ' v d Q R E r e q => by cases e; exact q _ (E.set r) fun j hj => List.getElem?_set_ne fun z => hj (by simp [z])⟩
/-- a, b = x, y: plain local names -/
def sPar (i j : Nat) (fs : Fn (List D)) : Sn := fun ρ M => bndS (fs ρ M) ρ fun ds M1 => match ds with
  | [d, d'] => some (.nx, (ρ.set i (some d)).set j (some d'), M1)
  | _ => none
theorem ds_par {i j : Nat} {x y : Str} {a b : Expr} {us : TA} {fs : Fn (List D)} {px py pt : Pos} {kt k2 pt2} (hc : X.calm = true) (hN : X.N.Nodup) (hi : X.N[i]? = some x) (hj : X.N[j]? = some y) (hij : i ≠ j)
    (hx : X.env.scope.names.lookup x = some .local) (hy : X.env.scope.names.lookup y = some .local) (ha : DA X W [a, b] us fs)
    (hw : swappedStores [.Tuple [.Name x px, .Name y py] kt pt] (.Tuple [a, b] k2 pt2) X.env = pure (some [x, y]))
    (hs : swapsWithSole [.Tuple [.Name x px, .Name y py] kt pt] (.Tuple [a, b] k2 pt2) pos.line X.env = pure false := by rfl) :
    DS X W (.Assign [.Tuple [.Name x px, .Name y py] kt pt] (.Tuple [a, b] k2 pt2) pos) (tPar i j us) (sPar i j fs) :=
  ⟨ps_par hc hN hi hj hij hx hy ha.pe hw hs, fun F G H μ M σ ρ o ρ' M' Z R E e P => ha.dx.goS R E e P fun G1 μ1 H1 M1 vs ds e1 R1 E1 r1 e2 P1 => by
    split at e2
    · cases e2
      cases r1 with
      | cons q1 r2 => cases r2 with
        | cons q2 r3 => cases r3; exact ⟨_, _, rfl, P1.nx R1 ((E1.set q1).set q2)⟩
    · cases e2⟩
/-- name op= e -/
def sAug (i : Nat) (op : Op2) (f : Fn D) : Sn := fun ρ M => match ρ[i]? with
  | some (some x) => bndS (bnd (f ρ M) fun y M1 => op x y M1) ρ fun z M2 => some (.nx, ρ.set i (some z), M2)
  | _ => none
theorem ds_aug (i : Nat) {x : Str} {op : Operator} {r : R2} {g : Op2} {pos' : Pos} (hN : X.N.Nodup) (he : DE X W e te fe) (ho : OpR X (inplaceOp op) r) (hd : OpD X.K r g) (hi : X.N[i]? = some x := by rfl) (hx : Loc X.env.scope x := by first | exact Or.inl rfl | exact Or.inr rfl)
    (hf : X.fn x = true ∨ X.env.scope.names.lookup x = some .local := by first | exact .inl rfl | exact .inr rfl | assumption) : DS X W (.AugAssign (.Name x pos') op e pos) (tAug i te r) (sAug i g fe) := by
  refine ⟨ps_aug hN hi hx he.pe (fun pins s σ H x y v u Q I r1 r2 h => ho pins s σ H x y v u Q I r1 r2 h) hf, fun F G H μ M σ ρ o ρ' M' Z R E e P => ?_⟩
  unfold sAug at e
  split at e
  · rename_i dx hq
    obtain ⟨v, h1, h2⟩ := E.at_ i dx hq
    refine ⟨v, h1, ?_⟩
    have he' : DX X.K W (fun G' μ' (b : V) (a : D) => Rep X.K G' μ' b a) te fe := he.dx
    cases q : fe ρ M with
    | none => rw [q] at e; cases e
    | some z =>
      obtain ⟨z, M1⟩ := z
      rw [q] at e
      cases z with
      | exc y =>
        have e' : some (Out.exc y, ρ, M1) = some (o, ρ', M') := e
        cases e'
        exact he.dx F G H μ M σ ρ _ _ _ R E q fun G1 μ1 H1 y R1 => ⟨(fun a' ha => nomatch ha), fun x' hx => by cases hx; exact (P G1 μ1 H1 σ y R1 (E.mono y)).2.2.2.2 _ rfl⟩
      | ok dy =>
        refine he.dx F G H μ M σ ρ _ _ _ R E q fun G1 μ1 H1 x1 R1 => ⟨fun a' ha b hb => ?_, fun x hx => nomatch hx⟩
        cases ha
        simp only [bnd_ok] at e
        cases q2 : g dx dy M1 with
        | none => rw [q2] at e; cases e
        | some z2 =>
          obtain ⟨z2, M2⟩ := z2
          rw [q2] at e
          cases z2 with
          | ok dz =>
            cases e
            refine hd (W := W) (σ := σ) R1 (Rep.mono x1 dx h2) hb q2 fun G2 μ2 H2 x2 R2 => ⟨fun a' ha b' hb' => ?_, fun x hx => nomatch hx⟩
            cases ha
            exact (P G2 μ2 H2 _ (x1.trans x2) R2 ((E.mono (x1.trans x2)).set hb')).1 rfl
          | exc y =>
            have e' : some (Out.exc y, ρ, M2) = some (o, ρ', M') := e
            cases e'
            refine hd (W := W) (σ := σ) R1 (Rep.mono x1 dx h2) hb q2 fun G2 μ2 H2 x2 R2 => ⟨(fun a' ha => nomatch ha), fun x' hx => ?_⟩
            cases hx
            exact (P G2 μ2 H2 σ (x1.trans x2) R2 (E.mono (x1.trans x2))).2.2.2.2 _ rfl
  · cases e

/-! ### while -/
def loopN (c : Fn Bool) (b : Sn) : Nat → Sn
  | 0 => fun _ _ => none
  | n + 1 => fun ρ M => bndS (c ρ M) ρ fun k M1 => if k = true then (match b ρ M1 with
      | some (.nx, ρ2, M2) => loopN c b n ρ2 M2
      | some (.ct, ρ2, M2) => loopN c b n ρ2 M2
      | some (.bk, ρ2, M2) => some (.nx, ρ2, M2)
      | r => r) else some (.nx, ρ, M1)
theorem loopN_mono {c : Fn Bool} {b : Sn} : ∀ {n : Nat} {ρ : Env} {M : Mem} {r}, loopN c b n ρ M = some r → loopN c b (n + 1) ρ M = some r
  | 0, _, _, _, h => by cases h
  | n + 1, ρ, M, r, h => by
    unfold loopN at h ⊢
    cases q : c ρ M with
    | none => rw [q] at h; cases h
    | some z =>
      obtain ⟨z, M1⟩ := z
      rw [q] at h
      cases z with
      | exc y => exact h
      | ok k =>
        simp only [bndS_ok] at h ⊢
        cases k with
        | false => exact h
        | true =>
          rw [if_pos rfl] at h ⊢
          cases q2 : b ρ M1 with
          | none => rw [q2] at h; cases h
          | some z2 =>
            obtain ⟨o2, ρ2, M2⟩ := z2
            rw [q2] at h
            cases o2 with
            | nx => exact loopN_mono h
            | ct => exact loopN_mono h
            | bk => exact h
            | rt d => exact h
            | exc x => exact h
theorem loopN_le {c : Fn Bool} {b : Sn} {n m : Nat} (h : n ≤ m) {ρ : Env} {M : Mem} {r} (e : loopN c b n ρ M = some r) : loopN c b m ρ M = some r := by
  induction h with
  | refl => exact e
  | step _ ih => exact loopN_mono ih
open Classical in
noncomputable def sWhile (c : Fn Bool) (b : Sn) : Sn := fun ρ M => if h : ∃ n r, loopN c b n ρ M = some r then some h.choose_spec.choose else none
theorem sWhile_of {c : Fn Bool} {b : Sn} {n : Nat} {ρ : Env} {M : Mem} {r} (e : loopN c b n ρ M = some r) : sWhile c b ρ M = some r := by
  have h : ∃ n r, loopN c b n ρ M = some r := ⟨n, r, e⟩
  unfold sWhile
  rw [dif_pos h]
  have q := h.choose_spec.choose_spec
  rcases Nat.le_total n h.choose with l | l
  · exact q.symm.trans (loopN_le l e)
  · exact (loopN_le l q).symm.trans e
theorem sWhile_some {c : Fn Bool} {b : Sn} {ρ : Env} {M : Mem} {r} (e : sWhile c b ρ M = some r) : ∃ n, loopN c b n ρ M = some r := by
  unfold sWhile at e
  split at e
  · rename_i h
    cases e
    exact ⟨_, h.choose_spec.choose_spec⟩
  · cases e
/-- one turn -/
theorem sWhile_eq (c : Fn Bool) (b : Sn) (ρ : Env) (M : Mem) : sWhile c b ρ M = bndS (c ρ M) ρ fun k M1 => if k = true then (match b ρ M1 with
      | some (.nx, ρ2, M2) => sWhile c b ρ2 M2
      | some (.ct, ρ2, M2) => sWhile c b ρ2 M2
      | some (.bk, ρ2, M2) => some (.nx, ρ2, M2)
      | r => r) else some (.nx, ρ, M1) := by
  have lift : ∀ (ρ2 : Env) (M2 : Mem) (k : Nat → Option (Out × Env × Mem)), True := fun _ _ _ => trivial
  cases q : c ρ M with
  | none =>
    cases z : sWhile c b ρ M with
    | none => rfl
    | some r =>
      obtain ⟨n, e⟩ := sWhile_some z
      cases n with
      | zero => cases e
      | succ n => unfold loopN at e; rw [q] at e; cases e
  | some y =>
    obtain ⟨y, M1⟩ := y
    cases y with
    | exc x => exact sWhile_of (n := 1) (by unfold loopN; rw [q]; rfl)
    | ok k =>
      cases k with
      | false => exact sWhile_of (n := 1) (by unfold loopN; rw [q]; rfl)
      | true =>
        simp only [bndS_ok, if_true]
        have go : ∀ {n r}, loopN c b (n + 1) ρ M = some r ↔ (match b ρ M1 with
            | some (.nx, ρ2, M2) => loopN c b n ρ2 M2
            | some (.ct, ρ2, M2) => loopN c b n ρ2 M2
            | some (.bk, ρ2, M2) => some (.nx, ρ2, M2)
            | r => r) = some r := fun {n r} => by
          show (bndS (c ρ M) ρ fun k M1 => _) = some r ↔ _
          rw [q]
          simp only [bndS_ok, if_true]
        have back : ∀ {r}, sWhile c b ρ M = some r → ∃ n, loopN c b (n + 1) ρ M = some r := fun {r} z => by
          obtain ⟨n, e⟩ := sWhile_some z
          exact ⟨n, loopN_mono e⟩
        cases q2 : b ρ M1 with
        | none =>
          cases z : sWhile c b ρ M with
          | none => rfl
          | some r => obtain ⟨n, e⟩ := back z; rw [go, q2] at e; cases e
        | some z2 =>
          obtain ⟨o2, ρ2, M2⟩ := z2
          have rec2 : (∀ {n r}, loopN c b (n + 1) ρ M = some r ↔ loopN c b n ρ2 M2 = some r) → sWhile c b ρ M = sWhile c b ρ2 M2 := fun hh => by
            cases z : sWhile c b ρ2 M2 with
            | some r => obtain ⟨n, e⟩ := sWhile_some z; exact sWhile_of (hh.mpr e)
            | none =>
              cases z' : sWhile c b ρ M with
              | none => rfl
              | some r => obtain ⟨n, e⟩ := back z'; rw [sWhile_of (hh.mp e)] at z; cases z
          cases o2 with
          | nx => exact rec2 fun {n r} => by rw [go, q2]
          | ct => exact rec2 fun {n r} => by rw [go, q2]
          | bk => exact sWhile_of (n := 1) (by rw [go, q2])
          | rt d => exact sWhile_of (n := 1) (by rw [go, q2])
          | exc x => exact sWhile_of (n := 1) (by rw [go, q2])
theorem ds_while {body : List Stmt} (hp : PassesOwn (model X.prog X.w) X.A X.env X.xe) (hc : DT X W c va ta) (hb : DSs X W body t g) : DS X W (.While c body [] pos) (tWhile va t) (sWhile ta g) := by
  refine ⟨ps_while hp hc.pe hb.ps, fun F G H μ M σ ρ o ρ' M' Z R E e P => ?_⟩
  obtain ⟨n, e⟩ := sWhile_some e
  refine ⟨fun m σ1 H1 => ∃ G1 μ1 M1 ρ1, Ext G μ G1 μ1 ∧ Rel X.K F G1 μ1 M1 H1 ∧ EnvR X.K G1 μ1 ρ1 σ1 ∧ loopN ta g m ρ1 M1 = some (o, ρ', M'), ⟨n, G, μ, M, ρ, Ext.refl, R, E, e⟩, ?_⟩
  rintro m σ1 H1 ⟨G1, μ1, M1, ρ1, x1, R1, E1, e1⟩
  cases m with
  | zero => cases e1
  | succ m =>
    unfold loopN at e1
    refine hc.dx.goS R1 E1 e1 (P.ext x1) fun G2 μ2 H2 M2 k k' x2 R2 E2 rk e2 P2 => ?_
    have rk' : k = k' := rk
    subst rk'
    cases k with
    | false =>
      cases e2
      exact iteF (P2.nx R2 E2)
    | true =>
      rw [if_pos rfl] at e2
      refine iteT ⟨fun σ3 H3 => ∃ G3 μ3 M3 ρ3, Ext G μ G3 μ3 ∧ Rel X.K F G3 μ3 M3 H3 ∧ EnvR X.K G3 μ3 ρ3 σ3 ∧ loopN ta g m ρ3 M3 = some (o, ρ', M'), fun σ3 H3 q => ⟨m, Nat.lt_succ_self m, q⟩, ?_⟩
      cases q : g ρ1 M2 with
      | none => rw [q] at e2; cases e2
      | some z =>
        obtain ⟨o2, ρ2, M3⟩ := z
        rw [q] at e2
        refine hb.sx F G2 H2 μ2 M2 σ1 ρ1 o2 ρ2 M3 _ R2 E2 q fun G3 μ3 H3 σ3 x3 R3 E3 => ?_
        cases o2 with
        | nx => exact ⟨fun _ => ⟨G3, μ3, M3, ρ2, (x1.trans x2).trans x3, R3, E3, e2⟩, (fun z => nomatch z), (fun z => nomatch z), (fun _ z => nomatch z), fun _ z => nomatch z⟩
        | ct => exact ⟨(fun z => nomatch z), (fun z => nomatch z), fun _ => ⟨G3, μ3, M3, ρ2, (x1.trans x2).trans x3, R3, E3, e2⟩, (fun _ z => nomatch z), fun _ z => nomatch z⟩
        | bk => cases e2; exact ⟨(fun z => nomatch z), fun _ => (P2 G3 μ3 H3 σ3 x3 R3 E3).1 rfl, (fun z => nomatch z), (fun _ z => nomatch z), fun _ z => nomatch z⟩
        | rt d => cases e2; exact ⟨(fun z => nomatch z), (fun z => nomatch z), (fun z => nomatch z), (P2 G3 μ3 H3 σ3 x3 R3 E3).2.2.2⟩
        | exc y => cases e2; exact ⟨(fun z => nomatch z), (fun z => nomatch z), (fun z => nomatch z), (P2 G3 μ3 H3 σ3 x3 R3 E3).2.2.2⟩

/-! ### what is walked -/
def ItOk (K : PySem.W.Frag) (G : Hp) (μ : List Addr) (J : It) (xs : List D) : Prop := xs.length ≤ 16777216 ∧
  ∀ (i : Nat) (F G' H' : Hp) (μ' : List Addr) (M' : Mem), Ext G μ G' μ' → Rel K F G' μ' M' H' → (xs[i]? = none → J.stop i H') ∧
    ∀ d, xs[i]? = some d → J.go i H' ∧ ∀ v H'', J.yld i H' v H'' → ∃ G'', Ext G' μ' G'' μ' ∧ Rel K F G'' μ' M' H'' ∧ Rep K G'' μ' v d
structure DI (X : Cx) (W : WX) (tg iter : Expr) (wi : TI) (f : Fn (List D)) : Prop where
  pi : PI X tg iter wi
  dx : DX X.K W (ItOk X.K) wi f
def forL (g : Tg) (b : Sn) : List D → Sn
  | [] => fun ρ M => some (.nx, ρ, M)
  | x :: xs => fun ρ M => match g x ρ with
    | none => none
    | some ρ1 => match b ρ1 M with
      | some (.nx, ρ2, M2) => forL g b xs ρ2 M2
      | some (.ct, ρ2, M2) => forL g b xs ρ2 M2
      | some (.bk, ρ2, M2) => some (.nx, ρ2, M2)
      | r => r
def sFor (f : Fn (List D)) (g : Tg) (b : Sn) : Sn := fun ρ M => bndS (f ρ M) ρ fun xs M1 => forL g b xs ρ M1
theorem ds_for {tg iter : Expr} {body : List Stmt} {wi : TI} {gt : TG} {f : Fn (List D)} {gg : Tg} {js : List Nat} (hp : PassesOwn (model X.prog X.w) X.A X.env X.xe) (hc : X.calm = true) (hi : DI X W tg iter wi f) (hg : DG X tg gt gg js) (hb : DSs X W body t g)
    (hs : ∀ x, foldedSetIterable iter X.env x = pure x := by intro _; rfl) : DS X W (.For tg iter body [] pos) (tFor wi gt t) (sFor f gg g) := by
  refine ⟨ps_for hp hc hi.pi hg.pg hb.ps hs, fun F G H μ M σ ρ o ρ' M' Z R E e P => hi.dx.goS R E e P fun G1 μ1 H1 M1 J xs x1 R1 E1 r1 e1 P1 => ?_⟩
  refine ⟨fun i m σ2 H2 => m = xs.length - i ∧ i ≤ xs.length ∧ ∃ G2 μ2 M2 ρ2, Ext G1 μ1 G2 μ2 ∧ Rel X.K F G2 μ2 M2 H2 ∧ EnvR X.K G2 μ2 ρ2 σ2 ∧ forL gg g (xs.drop i) ρ2 M2 = some (o, ρ', M'), ⟨xs.length, by simp, Nat.zero_le _, G1, μ1, M1, ρ, Ext.refl, R1, E1, e1⟩, ?_⟩
  rintro i m σ2 H2 ⟨rfl, hi, G2, μ2, M2, ρ2, x2, R2, E2, e2⟩
  obtain ⟨k1, k2⟩ := r1.2 i F G2 H2 μ2 M2 x2 R2
  by_cases hlt : i < xs.length
  · have hx : xs[i]? = some xs[i] := by simp [hlt]
    obtain ⟨go, yl⟩ := k2 _ hx
    rw [List.drop_eq_getElem_cons hlt] at e2
    unfold forL at e2
    refine .inr ⟨go, fun σ3 H3 => ∃ G3 μ3 M3 ρ3, Ext G1 μ1 G3 μ3 ∧ Rel X.K F G3 μ3 M3 H3 ∧ EnvR X.K G3 μ3 ρ3 σ3 ∧ forL gg g (xs.drop (i + 1)) ρ3 M3 = some (o, ρ', M'), fun σ3 H3 q => ⟨xs.length - (i + 1), by omega, rfl, hlt, q⟩, fun v H3 yv => ?_⟩
    obtain ⟨G3, x3, R3, r3⟩ := yl v H3 yv
    cases q : gg xs[i] ρ2 with
    | none => simp [q] at e2
    | some ρ3 =>
      simp only [q] at e2
      refine hg.gx F G3 H3 μ2 M2 σ2 ρ2 ρ3 v xs[i] _ R3 (E2.mono x3) r3 q fun σ4 E4 _ => ?_
      cases q2 : g ρ3 M2 with
      | none => simp [q2] at e2
      | some z =>
        obtain ⟨o4, ρ4, M4⟩ := z
        simp only [q2] at e2
        refine hb.sx F G3 H3 μ2 M2 σ4 ρ3 o4 ρ4 M4 _ R3 E4 q2 fun G5 μ5 H5 σ5 x5 R5 E5 => ?_
        have x15 := (x2.trans x3).trans x5
        cases o4 with
        | nx => exact ⟨fun _ => ⟨G5, μ5, M4, ρ4, x15, R5, E5, e2⟩, (fun z => nomatch z), (fun z => nomatch z), (fun _ z => nomatch z), fun _ z => nomatch z⟩
        | ct => exact ⟨(fun z => nomatch z), (fun z => nomatch z), fun _ => ⟨G5, μ5, M4, ρ4, x15, R5, E5, e2⟩, (fun _ z => nomatch z), fun _ z => nomatch z⟩
        | bk => cases e2; exact ⟨(fun z => nomatch z), fun _ => (P1 G5 μ5 H5 σ5 x15 R5 E5).1 rfl, (fun z => nomatch z), (fun _ z => nomatch z), fun _ z => nomatch z⟩
        | rt d => cases e2; exact ⟨(fun z => nomatch z), (fun z => nomatch z), (fun z => nomatch z), (P1 G5 μ5 H5 σ5 x15 R5 E5).2.2.2⟩
        | exc y => cases e2; exact ⟨(fun z => nomatch z), (fun z => nomatch z), (fun z => nomatch z), (P1 G5 μ5 H5 σ5 x15 R5 E5).2.2.2⟩
  · have e3 : i = xs.length := by omega
    subst e3
    rw [List.drop_length] at e2
    cases e2
    exact .inl ⟨k1 (by simp), (P1.ext x2).nx R2 E2⟩
/-- a list of data, a tuple, a range -/
def wList (f : Fn D) : Fn (List D) := fun ρ M => bnd (f ρ M) fun d M1 => match d with
  | .lst xs => some (.ok xs, M1)
  | _ => none
def wTup (f : Fn D) : Fn (List D) := fun ρ M => bnd (f ρ M) fun d M1 => match d with
  | .tup xs => some (.ok xs, M1)
  | _ => none
theorem itl_ok {K : PySem.W.Frag} {G : Hp} {μ : List Addr} {a : Addr} {vs : List V} {ds : List D} (h : SqL K G a vs) (hz : ds.length ≤ 16777216) (r : RepL K G μ vs ds) : ItOk K G μ (Itl K a) ds := ⟨hz, fun i F G' H' μ' M' x R => by
  have hl := r.length
  have q : SqL K H' a vs := sub_l R.sub (sub_l x.sub h)
  refine ⟨fun e => ⟨vs, q, by have := List.getElem?_eq_none_iff.mp e; omega⟩, fun d e => ?_⟩
  obtain ⟨v, e1, r1⟩ := r.get e
  refine ⟨⟨vs, v, q, e1⟩, fun v' H'' y => ?_⟩
  obtain ⟨rfl, y2⟩ := y
  have e3 := y2 vs (q)
  rw [e1] at e3; cases e3
  exact ⟨G', Ext.refl, R, Rep.mono x d r1⟩⟩
theorem itt_ok {K : PySem.W.Frag} {G : Hp} {μ : List Addr} {a : Addr} {vs : List V} {ds : List D} (h : SqT K G a vs) (hz : ds.length ≤ 16777216) (r : RepL K G μ vs ds) : ItOk K G μ (Itt K a) ds := ⟨hz, fun i F G' H' μ' M' x R => by
  have hl := r.length
  have q : SqT K H' a vs := sub_t R.sub (sub_t x.sub h)
  refine ⟨fun e => ⟨vs, q, by have := List.getElem?_eq_none_iff.mp e; omega⟩, fun d e => ?_⟩
  obtain ⟨v, e1, r1⟩ := r.get e
  refine ⟨⟨vs, v, q, e1⟩, fun v' H'' y => ?_⟩
  obtain ⟨rfl, y2⟩ := y
  have e3 := y2 vs q
  rw [e1] at e3; cases e3
  exact ⟨G', Ext.refl, R, Rep.mono x d r1⟩⟩
def rangeD (lo : Int) (n : Nat) : List D := (List.range n).map fun i => .int (lo + (i : Nat))
theorem itr_ok {K : PySem.W.Frag} {G : Hp} {μ : List Addr} {lo : Int} {n : Nat} (hn : n ≤ 16777216) : ItOk K G μ (Itr lo n) (rangeD lo n) := ⟨by simpa [rangeD] using hn, fun i F G' H' μ' M' x R => by
  refine ⟨fun e => ?_, fun d e => ?_⟩
  · have := List.getElem?_eq_none_iff.mp e
    simp [rangeD] at this
    exact this
  · have hi : i < n := by have := (List.getElem?_eq_some_iff.mp e).1; simpa [rangeD] using this
    have hd : d = .int (lo + i) := by
      rw [rangeD, List.getElem?_map, List.getElem?_range hi] at e
      exact (Option.some.inj e).symm
    subst hd
    refine ⟨hi, fun v H'' y => ?_⟩
    obtain ⟨rfl, rfl⟩ := y
    exact ⟨G', Ext.refl, R, .int _⟩⟩
theorem di_list {K' : PySem.W.Frag} {l tg : Expr} (h : DE X W l te fe) (hK : X.K = K' := by rfl) : DI X W tg l (iList K' te) (wList fe) := by
  subst hK
  refine ⟨pi_list h.pe, fun F G H μ M σ ρ r M' Q R E e P => h.dx.go R E e P fun G1 μ1 H1 M1 x dx e1 R1 E1 rx e2 P1 => ?_⟩
  split at e2
  · rename_i xs
    cases e2
    cases rx with
    | lst h1 hz h2 => exact ⟨_, rfl, ⟨_, sub_l R1.sub h1⟩, P1.now R1 (itl_ok h1 hz h2)⟩
  · cases e2
theorem di_tup {K' : PySem.W.Frag} {l tg : Expr} (h : DE X W l te fe) (hK : X.K = K' := by rfl) : DI X W tg l (iTup K' te) (wTup fe) := by
  subst hK
  refine ⟨pi_tup h.pe, fun F G H μ M σ ρ r M' Q R E e P => h.dx.go R E e P fun G1 μ1 H1 M1 x dx e1 R1 E1 rx e2 P1 => ?_⟩
  split at e2
  · rename_i xs
    cases e2
    cases rx with
    | tup h1 hz h2 => exact ⟨_, rfl, ⟨_, sub_t R1.sub h1⟩, P1.now R1 (itt_ok h1 hz h2)⟩
  · cases e2
def wRange1 (fs : Fn (List D)) : Fn (List D) := fun ρ M => bnd (fs ρ M) fun ds M1 => match ds with
  | [.int j] => if -(2 ^ 62) ≤ j ∧ j ≤ 16777216 then some (.ok (rangeD 0 j.toNat), M1) else none
  | _ => none
def wRange2 (fs : Fn (List D)) : Fn (List D) := fun ρ M => bnd (fs ρ M) fun ds M1 => match ds with
  | [.int i, .int j] => if (-(2 ^ 62) ≤ i ∧ i < 2 ^ 62 ∧ -(2 ^ 62) ≤ j ∧ j < 2 ^ 62) ∧ j - i ≤ 16777216 then some (.ok (rangeD i (j - i).toNat), M1) else none
  | _ => none
theorem RepL.one {K : PySem.W.Frag} {G : Hp} {μ : List Addr} {vs : List V} {d : D} (h : RepL K G μ vs [d]) : ∃ v, vs = [v] ∧ Rep K G μ v d := by
  cases h with | cons h1 h2 => cases h2; exact ⟨_, rfl, h1⟩
theorem RepL.two {K : PySem.W.Frag} {G : Hp} {μ : List Addr} {vs : List V} {d d' : D} (h : RepL K G μ vs [d, d']) : ∃ v v', vs = [v, v'] ∧ Rep K G μ v d ∧ Rep K G μ v' d' := by
  cases h with | cons h1 h2 => cases h2 with | cons h2 h3 => cases h3; exact ⟨_, _, rfl, h1, h2⟩
theorem di_range1 {a tg : Expr} {us : TA} {fs : Fn (List D)} {p : Pos} (hm : X.mg "range" = none) (ha : DA X W [a] us fs) (hg : Gl X "range" := by rfl) (hs : starEach [a] X.env = [(false, eval a X.env)] := by rfl) : DI X W tg (.Call (.Name "range" p) [a] [] pos) (iRng1 us) (wRange1 fs) := by
  refine ⟨pi_range1 hg hm ha.pe hs, fun F G H μ M σ ρ r M' Q R E e P => ha.dx.go R E e P fun G1 μ1 H1 M1 xs dxs e1 R1 E1 rx e2 P1 => ?_⟩
  split at e2
  · split at e2
    · rename_i j hj
      cases e2
      obtain ⟨v, rfl, h1⟩ := rx.one
      cases h1
      exact ⟨j, rfl, hj.1, by omega, P1.now R1 (itr_ok (by omega))⟩
    · cases e2
  · cases e2
theorem di_range2 {a b tg : Expr} {us : TA} {fs : Fn (List D)} {p : Pos} (hm : X.mg "range" = none) (ha : DA X W [a, b] us fs) (hg : Gl X "range" := by rfl) (hs : starEach [a, b] X.env = [(false, eval a X.env), (false, eval b X.env)] := by rfl) (hs2 : starEach [b] X.env = [(false, eval b X.env)] := by rfl) :
    DI X W tg (.Call (.Name "range" p) [a, b] [] pos) (iRng2 us) (wRange2 fs) := by
  refine ⟨pi_range2 hg hm ha.pe hs hs2, fun F G H μ M σ ρ r M' Q R E e P => ha.dx.go R E e P fun G1 μ1 H1 M1 xs dxs e1 R1 E1 rx e2 P1 => ?_⟩
  split at e2
  · split at e2
    · rename_i i j hj
      cases e2
      obtain ⟨v, v', rfl, h1, h2⟩ := rx.two
      cases h1
      cases h2
      exact ⟨i, j, rfl, hj.1, P1.now R1 (itr_ok (by omega))⟩
    · cases e2
  · cases e2
end

/-! ### comprehensions -/
section
variable {K : PySem.W.Frag} {F G H : Hp} {μ : List Addr} {M : Mem}
/-- an object of the frame: made, changed, handed over as data -/
theorem Rel.frame (R : Rel K F G μ M H) {p : Addr} {o : HO} (h : H p = none) : Rel K (upd F p o) G μ M (upd H p o) := by
  have R' := R.grow (o := o) h
  refine ⟨R'.sub, R'.len, fun i c e => ?_, R'.inj, fun a u e => ?_⟩
  · obtain ⟨a, h1, h2, h3, h4⟩ := R.cel i c e
    obtain ⟨o', h5⟩ := h2.there
    have q : a ≠ p := ne_of_none h5 h
    exact ⟨a, h1, h2.mono Ext.refl (upd_ne q), h3, by rw [upd_ne q]; exact h4⟩
  · by_cases q : a = p
    · subst q; rw [upd_same] at e; cases e; exact ⟨upd_same, R.fresh h⟩
    · rw [upd_ne q] at e
      obtain ⟨h1, h2⟩ := R.frm a u e
      exact ⟨by rw [upd_ne q]; exact h1, h2⟩
theorem upd_upd' {H : Hp} {a : Addr} {o u : HO} : upd (upd H a o) a u = upd H a u := by
  funext b; unfold upd; split <;> rfl
theorem Rel.reframe {F₀ : Hp} {p : Addr} {o o' : HO} (R : Rel K (upd F₀ p o) G μ M H) : Rel K (upd F₀ p o') G μ M (upd H p o') := by
  obtain ⟨hH, hG⟩ := R.frm p o upd_same
  have ng : ∀ a u, G a = some u → a ≠ p := fun a u e z => by rw [z, hG] at e; cases e
  refine ⟨fun a u e => by rw [upd_ne (ng a u e)]; exact R.sub a u e, R.len, fun i c e => ?_, R.inj, fun a u e => ?_⟩
  · obtain ⟨a, h1, h2, h3, h4⟩ := R.cel i c e
    have q : a ≠ p := fun z => by rw [z, upd_same] at h4; cases h4
    exact ⟨a, h1, h2.mono Ext.refl (upd_ne q), h3, by rw [upd_ne q] at h4 ⊢; exact h4⟩
  · by_cases q : a = p
    · subst q; rw [upd_same] at e; cases e; exact ⟨upd_same, hG⟩
    · rw [upd_ne q] at e
      obtain ⟨h1, h2⟩ := R.frm a u (by rw [upd_ne q]; exact e)
      exact ⟨by rw [upd_ne q]; exact h1, h2⟩
/-- the frame's object p becomes data -/
theorem Rel.unframe {p : Addr} {o : HO} (R : Rel K (upd F p o) G μ M H) (hF : F p = none) : Rel K F (upd G p o) μ M H ∧ G p = none := by
  obtain ⟨hH, hG⟩ := R.frm p o upd_same
  refine ⟨⟨fun a u e => ?_, R.len, fun i c e => ?_, R.inj, fun a u e => ?_⟩, hG⟩
  · by_cases q : a = p
    · subst q; rw [upd_same] at e; cases e; exact hH
    · rw [upd_ne q] at e; exact R.sub a u e
  · obtain ⟨a, h1, h2, h3, h4⟩ := R.cel i c e
    have q : a ≠ p := fun z => by rw [z, upd_same] at h4; cases h4
    exact ⟨a, h1, h2.mono (ext_upd hG) rfl, by rw [upd_ne q]; exact h3, by rw [upd_ne q] at h4; exact h4⟩
  · have q : a ≠ p := fun z => by rw [z, hF] at e; cases e
    obtain ⟨h1, h2⟩ := R.frm a u (by rw [upd_ne q]; exact e)
    exact ⟨h1, by rw [upd_ne q]; exact h2⟩
/-- .. a cell -/
theorem Rel.uncell {p : Addr} {o : HO} {c : Cell} (R : Rel K (upd F p o) G μ M H) (hF : F p = none) (hc : CellOk K G μ H p c) : Rel K F G (μ ++ [p]) (M ++ [some c]) H := by
  obtain ⟨hH, hG⟩ := R.frm p o upd_same
  have np : ∀ (i : Nat) (d : Cell) (a : Addr), M[i]? = some (some d) → μ[i]? = some a → a ≠ p := fun i d a e1 e2 z => by
    obtain ⟨a', h1, h2, h3, h4⟩ := R.cel i d e1
    rw [e2] at h1; cases h1
    rw [z, upd_same] at h4; cases h4
  have R0 : Rel K F G μ M H := ⟨R.sub, R.len, fun i d e => by
      obtain ⟨a, h1, h2, h3, h4⟩ := R.cel i d e
      exact ⟨a, h1, h2, h3, by rw [upd_ne (np i d a e h1)] at h4; exact h4⟩, R.inj, fun a u e => R.frm a u (by
      have q : a ≠ p := fun z => by rw [z, hF] at e; cases e
      rw [upd_ne q]; exact e)⟩
  exact R0.cellAt hc hG hF np
end
def wipeE (ρ : Env) : List Nat → Env
  | [] => ρ
  | v :: vs => (wipeE ρ vs).set v none
theorem wipeE_length (ρ : Env) : ∀ vs : List Nat, (wipeE ρ vs).length = ρ.length
  | [] => rfl
  | v :: vs => by unfold wipeE; rw [List.length_set, wipeE_length ρ vs]
theorem wipeE_some {ρ : Env} {i : Nat} {x : D} : ∀ {vs : List Nat}, (wipeE ρ vs)[i]? = some (some x) → ρ[i]? = some (some x) ∧ i ∉ vs
  | [], h => ⟨h, by simp⟩
  | v :: vs, h => by
    unfold wipeE at h
    by_cases hi : v = i
    · subst hi
      have hv := (List.getElem?_eq_some_iff.mp h).1
      rw [List.length_set] at hv
      rw [List.getElem?_set_self hv] at h; cases h
    · rw [List.getElem?_set_ne hi] at h
      obtain ⟨h1, h2⟩ := wipeE_some h
      exact ⟨h1, by simp only [List.mem_cons, not_or]; exact ⟨fun e => hi e.symm, h2⟩⟩
theorem wipe_off {σ : L2.St} {i : Nat} : ∀ {vs : List Nat}, i ∉ vs → (wipe σ vs)[i]? = σ[i]?
  | [], _ => rfl
  | v :: vs, h => by
    unfold wipe
    rw [List.getElem?_set_ne fun z => h (by simp [z])]
    exact wipe_off fun z => h (by simp [z])
theorem wipe_on {σ : L2.St} {i : Nat} : ∀ {vs : List Nat}, i ∈ vs → (wipe σ vs)[i]? = if i < σ.length then some none else none
  | [], h => by simp at h
  | v :: vs, h => by
    unfold wipe
    by_cases z : v = i
    · subst z
      rw [List.getElem?_set_self']
      by_cases q : v < σ.length
      · rw [if_pos q, List.getElem?_eq_getElem (by rw [wipe_length]; exact q)]; rfl
      · rw [if_neg q, List.getElem?_eq_none (by rw [wipe_length]; omega)]; rfl
    · rw [List.getElem?_set_ne z]
      exact wipe_on (by simpa [Ne.symm z] using h)
theorem EnvR.wiped {K : PySem.W.Frag} {G : Hp} {μ : List Addr} {ρ : Env} {σ : L2.St} (E : EnvR K G μ ρ σ) (vs : List Nat) : EnvR K G μ (wipeE ρ vs) (wipe σ vs) := by
  refine ⟨by rw [wipeE_length, wipe_length, E.len], fun i d e => ?_⟩
  obtain ⟨e1, e2⟩ := wipeE_some e
  rw [wipe_off e2]
  exact E.at_ i d e1
theorem wipe_kp {vs js : List Nat} {σ σ2 : L2.St} (hj : ∀ j ∈ js, j ∈ vs) (hl : σ2.length = σ.length) (k : Kp js (wipe σ vs) σ2) : wipe σ2 vs = wipe σ vs := by
  refine List.ext_getElem? fun i => ?_
  by_cases hi : i ∈ vs
  · rw [wipe_on hi, wipe_on hi, hl]
  · rw [wipe_off hi, wipe_off hi, k i fun z => hi (hj i z), wipe_off hi]
structure DTs (X : Cx) (W : WX) (ifs : List Expr) (t : TT) (f : Fn Bool) : Prop where
  pe : PTs X ifs t
  dx : DX X.K W RpB t f
def fYes : Fn Bool := fun _ M => some (.ok true, M)
theorem dts_nil {X : Cx} {W : WX} : DTs X W [] tYes fYes := ⟨pts_nil, fun F G H μ M σ ρ r M' Q R E e P => by cases e; exact P.now R rfl⟩
theorem dts_one {X : Cx} {W : WX} {c : Expr} {t : TT} {f : Fn Bool} (h : DT X W c t f) : DTs X W [c] t f := ⟨pts_one h.pe, h.dx⟩
/-- the items made; no exception -/
def compL (g : Tg) (tt : Fn Bool) (fe : Fn D) (ρ : Env) : List D → Mem → Option (List D × Mem)
  | [], M => some ([], M)
  | x :: xs, M => match g x ρ with
    | none => none
    | some ρ1 => match tt ρ1 M with
      | some (.ok true, M1) => (match fe ρ1 M1 with
        | some (.ok y, M2) => (match compL g tt fe ρ xs M2 with
          | some (ys, M3) => some (y :: ys, M3)
          | none => none)
        | _ => none)
      | some (.ok false, M1) => compL g tt fe ρ xs M1
      | _ => none
def fComp (f : Fn (List D)) (g : Tg) (tt : Fn Bool) (fe : Fn D) (vs : List Nat) : Fn D := fun ρ M => bnd (f ρ M) fun xs M1 => match compL g tt fe (wipeE ρ vs) xs M1 with
  | some (ys, M2) => some (.ok (.lst ys), M2)
  | none => none
/-- .. as a cell -/
def fCompC (f : Fn (List D)) (g : Tg) (tt : Fn Bool) (fe : Fn D) (vs : List Nat) : Fn D := fun ρ M => bnd (f ρ M) fun xs M1 => match compL g tt fe (wipeE ρ vs) xs M1 with
  | some (ys, M2) => some (.ok (.cell M2.length), M2 ++ [some (.lst ys)])
  | none => none
theorem compL_length {g : Tg} {tt : Fn Bool} {fe : Fn D} {ρ : Env} : ∀ {xs : List D} {M : Mem} {ys : List D} {M' : Mem}, compL g tt fe ρ xs M = some (ys, M') → ys.length ≤ xs.length
  | [], M, ys, M', e => by cases e; simp
  | x :: xs, M, ys, M', e => by
    unfold compL at e
    split at e
    · cases e
    · split at e
      · split at e
        · split at e
          · rename_i hq
            cases e
            have := compL_length hq
            simp; omega
          · cases e
        · cases e
      · have := compL_length e
        simp; omega
      · cases e
section
variable {X : Cx} {W : WX} {pos : Pos} {elt tg iter : Expr} {ifs : List Expr} {scope : Scope} {own : List (Str × Nat)} {wi : TI} {gt : TG} {tt : TT} {te : TE} {f : Fn (List D)} {gg : Tg} {ft : Fn Bool} {fe : Fn D} {js : List Nat}
abbrev W0 : WX := fun _ _ _ _ => False
theorem dx_comp {K : PySem.W.Frag} {vs : List Nat} (hi : DX K W (ItOk K) wi f)
    (hg : ∀ (F G H : Hp) (μ : List Addr) (M : Mem) (σ : L2.St) (ρ ρ' : Env) (v : V) (d : D) (Q : L2.St → Hp → Prop), Rel K F G μ M H → EnvR K G μ ρ σ → Rep K G μ v d → gg d ρ = some ρ' → (∀ σ', EnvR K G μ ρ' σ' → Kp js σ σ' → Q σ' H) → gt v σ H Q)
    (hgl : ∀ d ρ ρ', gg d ρ = some ρ' → ρ'.length = ρ.length) (hj : ∀ j ∈ js, j ∈ vs) (ht : DX K W0 RpB tt ft) (he : DX K W0 (Rep K) te fe)
    {F G H : Hp} {μ : List Addr} {M : Mem} {σ : L2.St} {ρ : Env} {r : R D} {M' : Mem} {Q : VK} (R : Rel K F G μ M H) (E : EnvR K G μ ρ σ) {k : List D → Mem → Option (DL.R D × Mem)}
    (e : (bnd (f ρ M) fun xs M1 => match compL gg ft fe (wipeE ρ vs) xs M1 with | some (ys, M2) => k ys M2 | none => none) = some (r, M')) (P : Post K F W (Rep K) σ Q G μ r M')
    (fin : ∀ G1 μ1 H1 M1 p ws ys, Ext G μ G1 μ1 → Rel K (upd F p (.lst ws)) G1 μ1 M1 H1 → F p = none → RepL K G1 μ1 ws ys → ys.length ≤ 16777216 → k ys M1 = some (r, M') → Q (.ref p) H1) : tLc wi gt tt te vs σ H Q := by
  refine hi.go R E e P fun G1 μ1 H1 M1 J xs x1 R1 E1 r1 e1 P1 => ?_
  intro p hp
  have hF : F p = none := R1.freshF hp
  cases q0 : compL gg ft fe (wipeE ρ vs) xs M1 with
  | none => rw [q0] at e1; cases e1
  | some z =>
    obtain ⟨ys, M2⟩ := z
    rw [q0] at e1
    have hz' := Nat.le_trans (compL_length q0) r1.1
    refine ⟨fun i m H2 => m = xs.length - i ∧ i ≤ xs.length ∧ ∃ G2 μ2 M3 ws ds rs, Ext G1 μ1 G2 μ2 ∧ Rel K (upd F p (.lst ws)) G2 μ2 M3 H2 ∧ RepL K G2 μ2 ws ds ∧ ys = ds ++ rs ∧ compL gg ft fe (wipeE ρ vs) (xs.drop i) M3 = some (rs, M2),
      ⟨xs.length, by simp, Nat.zero_le _, G1, μ1, M1, [], [], ys, Ext.refl, R1.frame hp, .nil, rfl, q0⟩, ?_⟩
    rintro i m H2 ⟨rfl, hi2, G2, μ2, M3, ws, ds, rs, x2, R2, rw2, ey, e2⟩
    obtain ⟨k1, k2⟩ := r1.2 i _ G2 H2 μ2 M3 x2 R2
    by_cases hlt : i < xs.length
    · have hx : xs[i]? = some xs[i] := by simp [hlt]
      obtain ⟨go, yl⟩ := k2 _ hx
      rw [List.drop_eq_getElem_cons hlt] at e2
      refine .inr ⟨go, fun H3 => ∃ G3 μ3 M4 ws ds rs, Ext G1 μ1 G3 μ3 ∧ Rel K (upd F p (.lst ws)) G3 μ3 M4 H3 ∧ RepL K G3 μ3 ws ds ∧ ys = ds ++ rs ∧ compL gg ft fe (wipeE ρ vs) (xs.drop (i + 1)) M4 = some (rs, M2), fun H3 q => ⟨xs.length - (i + 1), by omega, rfl, hlt, q⟩, fun v H3 yv => ?_⟩
      obtain ⟨G3, x3, R3, r3⟩ := yl v H3 yv
      have E3 := ((E1.mono x2).mono x3).wiped vs
      unfold compL at e2
      cases q : gg xs[i] (wipeE ρ vs) with
      | none => simp [q] at e2
      | some ρ3 =>
        simp only [q] at e2
        refine hg _ G3 H3 μ2 M3 _ _ ρ3 v xs[i] _ R3 E3 r3 q fun σ4 E4 k4 => ⟨wipe_kp hj ?_ k4, ?_⟩
        · rw [← E4.len, hgl _ _ _ q, wipeE_length, E1.len]
        · cases q2 : ft ρ3 M3 with
          | none => simp [q2] at e2
          | some z2 =>
            obtain ⟨z2, M4⟩ := z2
            cases z2 with
            | exc y => simp [q2] at e2
            | ok b =>
              refine ht _ G3 H3 μ2 M3 σ4 ρ3 _ _ _ R3 E4 q2 fun G5 μ5 H5 x5 R5 => ⟨fun b' hb b2 hb2 => ?_, fun _ z => nomatch z⟩
              cases hb
              have hb3 : b2 = b := hb2
              subst hb3
              cases b2 with
              | false =>
                simp only [q2] at e2
                exact iteF ⟨G5, μ5, M4, ws, ds, rs, (x2.trans x3).trans x5, R5, rw2.mono (x3.trans x5), ey, e2⟩
              | true =>
                simp only [q2] at e2
                refine iteT ?_
                cases q3 : fe ρ3 M4 with
                | none => simp [q3] at e2
                | some z3 =>
                  obtain ⟨z3, M5⟩ := z3
                  cases z3 with
                  | exc y => simp [q3] at e2
                  | ok y =>
                    simp only [q3] at e2
                    refine he _ G5 H5 μ5 M4 σ4 ρ3 _ _ _ R5 (E4.mono x5) q3 fun G6 μ6 H6 x6 R6 => ⟨fun y' hy' w hw => ?_, fun _ z => nomatch z⟩
                    cases hy'
                    cases q4 : compL gg ft fe (wipeE ρ vs) (xs.drop (i + 1)) M5 with
                    | none => simp [q4] at e2
                    | some z4 =>
                      obtain ⟨rs', M6⟩ := z4
                      simp only [q4] at e2
                      cases e2
                      have rw6 := rw2.mono ((x3.trans x5).trans x6)
                      refine ⟨ws, (R6.frm p _ upd_same).1, ?_, G6, μ6, M5, ws ++ [w], ds ++ [y], rs', ((x2.trans x3).trans x5).trans x6, R6.reframe, rw6.append (.cons hw .nil), by rw [ey]; simp, q4⟩
                      have l1 := rw2.length
                      have l2 : ys.length = ds.length + (rs'.length + 1) := by rw [ey]; simp
                      rw [line]; omega
    · have e3 : i = xs.length := by omega
      subst e3
      rw [List.drop_length] at e2
      cases e2
      refine .inl ⟨k1 (by simp), ?_⟩
      rw [List.append_nil] at ey
      subst ey
      exact fin G2 μ2 H2 _ p ws ys (x1.trans x2) R2 hF rw2 hz' e1
def TgL (g : Tg) : Prop := ∀ d ρ ρ', g d ρ = some ρ' → ρ'.length = ρ.length
theorem tgl_name (i : Nat) : TgL (yName i) := fun d ρ ρ' e => by cases e; simp
def TgsL (g : List D → Env → Option Env) : Prop := ∀ d ρ ρ', g d ρ = some ρ' → ρ'.length = ρ.length
theorem tgl_nil : TgsL yNil := fun d ρ ρ' e => by unfold yNil at e; split at e <;> cases e; rfl
theorem tgl_cons {g : Tg} {h : List D → Env → Option Env} (a : TgL g) (b : TgsL h) : TgsL (yCons g h) := fun ds ρ ρ' e => by
  unfold yCons at e
  split at e
  · rename_i d r
    cases z : g d ρ with
    | none => simp [z] at e
    | some ρ1 =>
      rw [z] at e
      exact (b r ρ1 ρ' e).trans (a d ρ ρ1 z)
  · cases e
theorem tgl_tup {n : Nat} {g : List D → Env → Option Env} (a : TgsL g) : TgL (yTup n g) := fun d ρ ρ' e => by
  unfold yTup at e
  split at e
  · split at e
    · exact a _ _ _ e
    · cases e
  · cases e
/-- all that a comprehension of one clause wants -/
structure DC (X : Cx) (W : WX) (elt tg iter : Expr) (ifs : List Expr) (scope : Scope) (own : List (Str × Nat)) (wi : TI) (gt : TG) (tt : TT) (te : TE) (f : Fn (List D)) (gg : Tg) (ft : Fn Bool) (fe : Fn D) (js : List Nat) : Prop where
  hc : X.calm = true
  hN : X.N.Nodup
  hi : DI X W tg iter wi f
  ok : blkC X.N X.env.scope scope own = true
  hg : ∀ (s : Shared) (H : Hp) (C : Addr) (cl : List (Str × Addr)) (fp : List Addr), DG (X.blk s H scope (compEnvC scope cl C X.env) fp) tg gt gg js
  hl : TgL gg
  hj : (js.all fun j => (own.map (·.2)).contains j) = true
  ht : ∀ (s : Shared) (H : Hp) (C : Addr) (cl : List (Str × Addr)) (fp : List Addr), DTs (X.blk s H scope (compEnvC scope cl C X.env) fp) W0 ifs tt ft
  he : ∀ (s : Shared) (H : Hp) (C : Addr) (cl : List (Str × Addr)) (fp : List Addr), DE (X.blk s H scope (compEnvC scope cl C X.env) fp) W0 elt te fe
  hs : ∀ x, foldedSetIterable iter X.env x = pure x
theorem DC.hj' (h : DC X W elt tg iter ifs scope own wi gt tt te f gg ft fe js) : ∀ j ∈ js, j ∈ own.map (·.2) := fun j hj => by
  have := List.all_eq_true.mp h.hj j hj
  simpa using this
theorem DC.dx (h : DC X W elt tg iter ifs scope own wi gt tt te f gg ft fe js) (s : Shared) (H₀ : Hp) (C : Addr) (cl : List (Str × Addr)) (fp : List Addr) :
    DX X.K W (Rep X.K) (tLc wi gt tt te (own.map (·.2))) (fComp f gg ft fe (own.map (·.2))) := fun F G H μ M σ ρ r M' Q R E e P => by
  have h1 := (h.hg s H₀ C cl fp).gx
  have h2 := (h.ht s H₀ C cl fp).dx
  have h3 := (h.he s H₀ C cl fp).dx
  refine dx_comp (k := fun ys M2 => some (.ok (.lst ys), M2)) h.hi.dx h1 h.hl h.hj' h2 h3 R E e P fun G1 μ1 H1 M1 p ws ys x1 R1 hF rw1 hz2 e1 => ?_
  cases e1
  obtain ⟨R2, hG⟩ := R1.unframe hF
  exact (P _ _ _ (x1.trans (ext_upd hG)) R2).1 _ rfl _ (.lst (.inl (.inl upd_same)) hz2 (rw1.mono (ext_upd hG)))
theorem de_lc (h : DC X W elt tg iter ifs scope own wi gt tt te f gg ft fe js) : DE X W (.ListComp elt [⟨tg, iter, ifs, 0⟩] scope pos) (tLc wi gt tt te (own.map (·.2))) (fComp f gg ft fe (own.map (·.2))) :=
  ⟨⟨fun pins s σ H Q I hq => (pe_lc h.hc h.hN h.hi.pi (blkOk_by h.ok) (fun s H C cl fp => (h.hg s H C cl fp).pg) (fun s H C cl fp => (h.ht s H C cl fp).pe) (fun s H C cl fp => (h.he s H C cl fp).pe) h.hs).run pins s σ H Q I hq⟩,
   h.dx X.s_0 X.H_0 0 [] []⟩
end
end DL

namespace DL
open PySem L2 PySem.Spec PyProof.Rows

/-! ### operations by values: ints -/
section
variable {K : PySem.W.Frag}
theorem opd_I0 {h : Int → Int → V} {h' : Int → Int → D} (hr : ∀ i j G μ, Rep K G μ (h i j) (h' i j)) : OpD K (rI0 h) (fun x y M => match x, y with | .int i, .int j => some (.ok (h' i j), M) | _, _ => none) := by
  intro F G H W μ M σ x y dx dy r' M' Q R rx ry e P
  dsimp only at e
  split at e
  · cases e
    cases rx
    cases ry
    exact ⟨_, _, rfl, rfl, P.now R (hr _ _ _ _)⟩
  · cases e
open Classical in
theorem opd_I {C : Int → Int → Prop} {h : Int → Int → V} {h' : Int → Int → D} (b : Int → Int → Bool) (hb : ∀ i j, b i j = true → C i j) (hr : ∀ i j G μ, Rep K G μ (h i j) (h' i j)) :
    OpD K (rI C h) (fun x y M => match x, y with | .int i, .int j => if b i j = true then some (.ok (h' i j), M) else none | _, _ => none) := by
  intro F G H W μ M σ x y dx dy r' M' Q R rx ry e P
  dsimp only at e
  split at e
  · split at e
    · rename_i i j hc
      cases e
      cases rx
      cases ry
      exact ⟨i, j, rfl, rfl, hb i j hc, P.now R (hr _ _ _ _)⟩
    · cases e
  · cases e
def intOp (f : Int → Int → Int) : Op2 := fun x y M => match x, y with | .int i, .int j => some (.ok (.int (f i j)), M) | _, _ => none
def intOpC (b : Int → Int → Bool) (f : Int → Int → Int) : Op2 := fun x y M => match x, y with | .int i, .int j => if b i j = true then some (.ok (.int (f i j)), M) else none | _, _ => none
def intCmp (f : Int → Int → Bool) : Op2 := fun x y M => match x, y with | .int i, .int j => some (.ok (.bl (f i j)), M) | _, _ => none
@[simp] theorem intOp_int (f : Int → Int → Int) (i j : Int) (M : Mem) : intOp f (.int i) (.int j) M = some (.ok (.int (f i j)), M) := rfl
@[simp] theorem intOpC_int (b : Int → Int → Bool) (f : Int → Int → Int) (i j : Int) (M : Mem) : intOpC b f (.int i) (.int j) M = if b i j = true then some (.ok (.int (f i j)), M) else none := rfl
@[simp] theorem intCmp_int (f : Int → Int → Bool) (i j : Int) (M : Mem) : intCmp f (.int i) (.int j) M = some (.ok (.bl (f i j)), M) := rfl
theorem nox_cmp (f : Int → Int → Bool) : NoX (intCmp f) := fun x y M e M' h => by
  unfold intCmp at h
  split at h <;> cases h
def bDiv (i j : Int) : Bool := decide (j ≠ 0 ∧ j.natAbs < 1073741824)
def bPow (i j : Int) : Bool := decide (0 ≤ j ∧ j ≤ 1000000 ∧ i.natAbs < 18446744073709551616)
def bMul (i j : Int) : Bool := decide ((-18446744073709551616 < i ∧ i < 18446744073709551616) ∨ (-18446744073709551616 < j ∧ j < 18446744073709551616))
def bNe0 (i j : Int) : Bool := decide (j ≠ 0)
def bNN (i j : Int) : Bool := decide (0 ≤ j)
theorem opd_addI : OpD K (rI0 fun i j => .int (i + j)) (intOp fun i j => i + j) := opd_I0 fun _ _ _ _ => .int _
theorem opd_subI : OpD K (rI0 fun i j => .int (i - j)) (intOp fun i j => i - j) := opd_I0 fun _ _ _ _ => .int _
theorem opd_mulI : OpD K (rI CMul fun i j => .int (i * j)) (intOpC bMul fun i j => i * j) := opd_I bMul (fun i j h => by
  have h := of_decide_eq_true h
  have e : (2 : Int) ^ 64 = 18446744073709551616 := by decide
  unfold CMul; rw [e]; exact h) fun _ _ _ _ => .int _
theorem opd_fdivI : OpD K (rI CDivN fun i j => .int (i.fdiv j)) (intOpC bDiv fun i j => i.fdiv j) := opd_I bDiv (fun i j h => of_decide_eq_true h) fun _ _ _ _ => .int _
theorem opd_modI : OpD K (rI (fun _ j => j ≠ 0) fun i j => .int (i.fmod j)) (intOpC bNe0 fun i j => i.fmod j) := opd_I bNe0 (fun i j h => of_decide_eq_true h) fun _ _ _ _ => .int _
theorem opd_powI : OpD K (rI CPow fun i j => .int (i ^ j.toNat)) (intOpC bPow fun i j => i ^ j.toNat) := opd_I bPow (fun i j h => by
  have h := of_decide_eq_true h
  have e : (2 : Nat) ^ 64 = 18446744073709551616 := by decide
  unfold CPow; rw [e]; exact h) fun _ _ _ _ => .int _
theorem opd_shlI : OpD K (rI CPow fun i j => .int (i * 2 ^ j.toNat)) (intOpC bPow fun i j => i * 2 ^ j.toNat) := opd_I bPow (fun i j h => by
  have h := of_decide_eq_true h
  have e : (2 : Nat) ^ 64 = 18446744073709551616 := by decide
  unfold CPow; rw [e]; exact h) fun _ _ _ _ => .int _
theorem opd_shrI : OpD K (rI (fun _ j => 0 ≤ j) fun i j => .int (i / 2 ^ j.toNat)) (intOpC bNN fun i j => i / 2 ^ j.toNat) := opd_I bNN (fun i j h => of_decide_eq_true h) fun _ _ _ _ => .int _
theorem opd_xorI : OpD K (rI0 fun i j => .int (Builtin.bitXor i j)) (intOp Builtin.bitXor) := opd_I0 fun _ _ _ _ => .int _
theorem opd_ltI : OpD K (rI0 fun i j => .bl (decide (i < j))) (intCmp fun i j => decide (i < j)) := opd_I0 fun _ _ _ _ => .bl _
theorem opd_leI : OpD K (rI0 fun i j => .bl (decide (i ≤ j))) (intCmp fun i j => decide (i ≤ j)) := opd_I0 fun _ _ _ _ => .bl _
theorem opd_gtI : OpD K (rI0 fun i j => .bl (decide (j < i))) (intCmp fun i j => decide (j < i)) := opd_I0 fun _ _ _ _ => .bl _
theorem opd_geI : OpD K (rI0 fun i j => .bl (decide (j ≤ i))) (intCmp fun i j => decide (j ≤ i)) := opd_I0 fun _ _ _ _ => .bl _

/-! ### +: texts, tuples, lists -/
def addS : Op2 := fun x y M => match x, y with | .str a, .str b => if a.length + b.length ≤ 16777216 then some (.ok (.str (a ++ b)), M) else none | _, _ => none
theorem opd_addS : OpD K (fun x y H Q => ∃ i j, x = .str i ∧ y = .str j ∧ i.length + j.length ≤ sizeLine ∧ Q (.str (i ++ j)) H) addS := by
  intro F G H W μ M σ x y dx dy r' M' Q R rx ry e P
  unfold addS at e
  split at e
  · split at e
    · rename_i hz
      cases e
      cases rx
      cases ry
      exact ⟨_, _, rfl, rfl, by rw [line]; exact hz, P.now R (.str _)⟩
    · cases e
  · cases e
theorem RepL.ne {G : Hp} {μ : List Addr} {vs : List V} {ds : List D} (h : RepL K G μ vs ds) (n : ds ≠ []) : vs ≠ [] := by
  intro z
  subst z
  cases h
  exact n rfl
theorem RepL.nil_of {G : Hp} {μ : List Addr} {vs : List V} (h : RepL K G μ vs []) : vs = [] := by cases h; rfl
def addT : Op2 := fun x y M => match x, y with
  | .tup xs, .tup ys => if xs = [] then none else if xs.length + ys.length ≤ 16777216 then some (.ok (.tup (xs ++ ys)), M) else none
  | _, _ => none
theorem opd_addT : OpD K (rCatT K) addT := by
  intro F G H W μ M σ x y dx dy r' M' Q R rx ry e P
  unfold addT at e
  split at e
  · split at e
    · cases e
    · rename_i hn
      split at e
      · rename_i hz
        cases e
        obtain ⟨a, vs, rfl, h1, h2, h3⟩ := R.tupQ rx rfl
        obtain ⟨b, ws, rfl, g1, g2, g3⟩ := R.tupQ ry rfl
        have l1 := h3.length
        have l2 := g3.length
        refine ⟨a, b, vs, ws, rfl, rfl, h1, g1, h3.ne hn, by rw [line]; omega, fun z => ?_, fun z p hp => P.newT R hp (by rw [List.length_append]; exact hz) (h3.append g3)⟩
        subst z
        cases g3
        rw [List.append_nil] at P
        exact P.now R rx
      · cases e
  · cases e
end
section
variable {X : Cx} {pins : List (Addr × Obj)} {σ : L2.St} {H : Hp} {s : Shared}
def rCatR (K : PySem.W.Frag) : R2 := fun x y H Q => ∃ l b xs zs, x = .ref l ∧ y = .ref b ∧ SqL K H l xs ∧ SqL K H b zs ∧ xs.length + zs.length ≤ sizeLine ∧ ∀ p, H p = none → Q (.ref p) (upd H p (.lst (xs ++ zs)))
theorem op_catR : OpR X (binaryOp .Add) (rCatR X.K) := by
  intro pins s σ H x y v u Q I rx ry h
  obtain ⟨l, b, xs, zs, rfl, rfl, h1, h2, hz, q⟩ := h
  cases rx
  cases ry
  obtain ⟨us, r1, p1, z1⟩ := I.list h1
  obtain ⟨ws, r2, p2, z2⟩ := I.list h2
  obtain ⟨⟨c1, d1, t1, s1⟩, n, g1, e1, f1, k1⟩ := p1
  obtain ⟨⟨c2, d2, t2, s2⟩, m, g2, e2, f2, k2⟩ := p2
  dsimp only at e1 f1 k1 e2 f2 k2
  subst e1 f1 k1 e2 f2 k2
  have hl1 := r1.length
  have hl2 := r2.length
  have hcat : us.toArray ++ ws.toArray = (us ++ ws).toArray := by simp
  have fits : us.toArray.size + ws.toArray.size ≤ sizeLine := by simp only [List.size_toArray]; omega
  have hlen : (xs ++ zs).length ≤ sizeLine := by simp only [List.length_append]; exact hz
  refine PySem.concat_meets
    ⟨_, g1, rfl⟩ ⟨_, g2, rfl⟩
    PySem.noFill_list_add
    PySem.seq_list_add
    F.slot_list_add F.entry_list_add
    (F.args_list_add_2 _ _)
    (PyProof.Rows.list_addW l b us.toArray ws.toArray n m none none s1 s2 fits) ⟨g1, g2, ?_⟩
  rw [hcat]
  exact ⟨.ref _, _, I.lnew (t' := s.toks) (r1.append r2) hlen, rfl, q _ I.fresh⟩
end
section
variable {K : PySem.W.Frag}
def addL : Op2 := fun x y M => match listOf M x, listOf M y with
  | some xs, some ys => if xs.length + ys.length ≤ 16777216 then some (.ok (.lst (xs ++ ys)), M) else none
  | _, _ => none
@[simp] theorem addL_lst (xs ys : List D) (M : Mem) : addL (.lst xs) (.lst ys) M = if xs.length + ys.length ≤ 16777216 then some (.ok (.lst (xs ++ ys)), M) else none := rfl
theorem opd_addL : OpD K (rCatR K) addL := by
  intro F G H W μ M σ x y dx dy r' M' Q R rx ry e P
  unfold addL at e
  split at e
  · rename_i xs ys e1 e2
    split at e
    · rename_i hz
      cases e
      obtain ⟨a, vs, rfl, h1, h2, h3⟩ := R.listR rx e1
      obtain ⟨b, ws, rfl, g1, g2, g3⟩ := R.listR ry e2
      have l1 := h3.length
      have l2 := g3.length
      exact ⟨a, b, vs, ws, rfl, rfl, h1, g1, by rw [line]; omega, fun p hp => P.newL R hp (by rw [List.length_append]; exact hz) (h3.append g3)⟩
    · cases e
  · cases e
/-- x + y -/
def gAdd : Op2 := fun x y M => match x, y with
  | .int i, .int j => some (.ok (.int (i + j)), M)
  | .str _, .str _ => addS x y M
  | .tup _, .tup _ => addT x y M
  | _, _ => addL x y M
def rAddX : R2 := fun x y H Q => rI0 (fun i j => .int (i + j)) x y H Q ∨ (∃ i j, x = .str i ∧ y = .str j ∧ i.length + j.length ≤ sizeLine ∧ Q (.str (i ++ j)) H) ∨ rCatT K x y H Q ∨ rCatR K x y H Q
theorem opd_add : OpD K (rAddX (K := K)) gAdd := by
  intro F G H W μ M σ x y dx dy r' M' Q R rx ry e P
  unfold gAdd at e
  split at e
  · exact .inl (opd_addI R rx ry e P)
  · exact .inr (.inl (opd_addS R rx ry e P))
  · exact .inr (.inr (.inl (opd_addT R rx ry e P)))
  · exact .inr (.inr (.inr (opd_addL R rx ry e P)))
@[simp] theorem gAdd_int (i j : Int) (M : Mem) : gAdd (.int i) (.int j) M = some (.ok (.int (i + j)), M) := rfl
@[simp] theorem gAdd_lst (xs ys : List D) (M : Mem) : gAdd (.lst xs) (.lst ys) M = if xs.length + ys.length ≤ 16777216 then some (.ok (.lst (xs ++ ys)), M) else none := rfl
@[simp] theorem gAdd_tup (xs ys : List D) (M : Mem) : gAdd (.tup xs) (.tup ys) M = if xs = [] then none else if xs.length + ys.length ≤ 16777216 then some (.ok (.tup (xs ++ ys)), M) else none := rfl
@[simp] theorem gAdd_str (a b : Str) (M : Mem) : gAdd (.str a) (.str b) M = if a.length + b.length ≤ 16777216 then some (.ok (.str (a ++ b)), M) else none := rfl
end
section
variable {X : Cx}
theorem op_addX : OpR X (binaryOp .Add) (rAddX (K := X.K)) := op_add.or (op_add_str.or (op_catT.or op_catR))
theorem iop_addX : OpR X (inplaceOp .Add) (fun x y H Q => rI0 (fun i j => .int (i + j)) x y H Q ∨ (∃ i j, x = .str i ∧ y = .str j ∧ i.length + j.length ≤ sizeLine ∧ Q (.str (i ++ j)) H)) := iop_add.or iop_add_str
end
section
variable {K : PySem.W.Frag}
def gAddI : Op2 := fun x y M => match x, y with
  | .int i, .int j => some (.ok (.int (i + j)), M)
  | x, y => addS x y M
theorem opd_iadd : OpD K (fun x y H Q => rI0 (fun i j => .int (i + j)) x y H Q ∨ (∃ i j, x = .str i ∧ y = .str j ∧ i.length + j.length ≤ sizeLine ∧ Q (.str (i ++ j)) H)) gAddI := by
  intro F G H W μ M σ x y dx dy r' M' Q R rx ry e P
  unfold gAddI at e
  split at e
  · exact .inl (opd_addI R rx ry e P)
  · exact .inr (opd_addS R rx ry e P)
@[simp] theorem gAddI_int (i j : Int) (M : Mem) : gAddI (.int i) (.int j) M = some (.ok (.int (i + j)), M) := rfl

/-! ### == -/
mutual
def D.py : D → PyData
  | .non => .none | .bl b => .bool b | .int i => .int i | .str s => .str s
  | .tup ds => .tuple (pyL ds) | .lst ds => .list (pyL ds) | _ => .none
def pyL : List D → List PyData
  | [] => []
  | d :: ds => d.py :: pyL ds
end
mutual
/-- data without dicts and cells, no deeper than n -/
def D.flat : Nat → D → Bool
  | _, .non => true | _, .bl _ => true | _, .int _ => true | _, .str s => s.cps.all (· < 0x110000)
  | n + 1, .tup ds => flatL n ds | n + 1, .lst ds => flatL n ds | _, _ => false
def flatL : Nat → List D → Bool
  | _, [] => true
  | n, d :: ds => d.flat n && flatL n ds
end
mutual
theorem Rep.dp {G H : Hp} {μ : List Addr} (hs : ∀ a o, G a = some o → H a = some o) : ∀ (n : Nat) (d : D) {v : V}, d.flat n = true → Rep K G μ v d → Dp K H v d.py
  | _, .non, _, _, h => by cases h; exact .non
  | _, .bl b, _, _, h => by cases h; exact .bl b
  | _, .int i, _, _, h => by cases h; exact .int i
  | _, .str s, _, _, h => by cases h; exact .str s
  | n + 1, .tup ds, _, f, h => by cases h with | tup h1 hz h2 => exact .tup (sub_t hs h1) (RepL.dp hs n ds (by simpa [D.flat] using f) h2)
  | n + 1, .lst ds, _, f, h => by cases h with | lst h1 hz h2 => exact .lst (sub_l hs h1) (RepL.dp hs n ds (by simpa [D.flat] using f) h2)
  | 0, .tup ds, _, f, h => by simp [D.flat] at f
  | 0, .lst ds, _, f, h => by simp [D.flat] at f
  | 0, .dic ds, _, f, h => by simp [D.flat] at f
  | n + 1, .dic ds, _, f, h => by simp [D.flat] at f
  | 0, .cell ds, _, f, h => by simp [D.flat] at f
  | n + 1, .cell ds, _, f, h => by simp [D.flat] at f
  | 0, .any ds, _, f, h => by simp [D.flat] at f
  | n + 1, .any ds, _, f, h => by simp [D.flat] at f
theorem RepL.dp {G H : Hp} {μ : List Addr} (hs : ∀ a o, G a = some o → H a = some o) : ∀ (n : Nat) (ds : List D) {vs : List V}, flatL n ds = true → RepL K G μ vs ds → DpAll K H vs (pyL ds)
  | _, [], _, _, h => by cases h; exact .nil
  | n, d :: ds, _, f, h => by
    have f' : d.flat n = true ∧ flatL n ds = true := by simpa [flatL] using f
    cases h with | cons h1 h2 => exact .cons (Rep.dp hs n d f'.1 h1) (RepL.dp hs n ds f'.2 h2)
end
mutual
theorem flat_lay : ∀ (n : Nat) (d : D), d.flat n = true → d.py.canLay0 = true ∧ d.py.depth ≤ n
  | _, .non, _ => by simp [D.py, PyData.canLay0, PyData.depth]
  | _, .bl b, _ => by simp [D.py, PyData.canLay0, PyData.depth]
  | _, .int i, _ => by simp [D.py, PyData.canLay0, PyData.depth]
  | _, .str s, f => by
    have f' : s.cps.all (· < 0x110000) = true := by simpa [D.flat] using f
    exact ⟨f', by simp [D.py, PyData.depth]⟩
  | n + 1, .tup ds, f => by
    obtain ⟨h1, h2⟩ := flat_layL n ds (by simpa [D.flat] using f)
    exact ⟨by simpa [D.py, PyData.canLay0] using h1, by simp only [D.py, PyData.depth]; omega⟩
  | n + 1, .lst ds, f => by
    obtain ⟨h1, h2⟩ := flat_layL n ds (by simpa [D.flat] using f)
    exact ⟨by simpa [D.py, PyData.canLay0] using h1, by simp only [D.py, PyData.depth]; omega⟩
  | 0, .tup ds, f => by simp [D.flat] at f
  | 0, .lst ds, f => by simp [D.flat] at f
  | 0, .dic ds, f => by simp [D.flat] at f
  | n + 1, .dic ds, f => by simp [D.flat] at f
  | 0, .cell ds, f => by simp [D.flat] at f
  | n + 1, .cell ds, f => by simp [D.flat] at f
  | 0, .any ds, f => by simp [D.flat] at f
  | n + 1, .any ds, f => by simp [D.flat] at f
theorem flat_layL : ∀ (n : Nat) (ds : List D), flatL n ds = true → PyData.canLayAll0 (pyL ds) = true ∧ PyData.depthAll (pyL ds) ≤ n
  | _, [], _ => by simp [pyL, PyData.canLayAll0, PyData.depthAll]
  | n, d :: ds, f => by
    have f' : d.flat n = true ∧ flatL n ds = true := by simpa [flatL] using f
    obtain ⟨h1, h2⟩ := flat_lay n d f'.1
    obtain ⟨h3, h4⟩ := flat_layL n ds f'.2
    exact ⟨by simp [pyL, PyData.canLayAll0, h1, h3], by simp only [pyL, PyData.depthAll]; omega⟩
end
theorem flat_shaped {d : D} (f : d.flat 64 = true) : SeqAt.shaped d.py = true := by
  obtain ⟨h1, h2⟩ := flat_lay 64 d f
  simp [SeqAt.shaped, h1, h2]
def eqD (x y : D) : Bool := PyData.eqv x.py y.py
def toV : D → Option V
  | .non => some .non | .bl b => some (.bl b) | .int i => some (.int i) | .str s => some (.str s) | _ => none
theorem toV_rep {G : Hp} {μ : List Addr} {v w : V} {d : D} (h : Rep K G μ v d) (e : toV d = some w) : v = w := by
  cases h <;> first | (cases e; rfl) | cases e
def gEq : Op2 := fun x y M => match toV x, toV y with
  | some a, some b => if scal a b = true then some (.ok (.bl (decide (a = b))), M) else none
  | _, _ => if x.flat 64 = true ∧ y.flat 64 = true then some (.ok (.bl (eqD x y)), M) else none
def gNe : Op2 := fun x y M => match toV x, toV y with
  | some a, some b => if scal a b = true then some (.ok (.bl (!decide (a = b))), M) else none
  | _, _ => if x.flat 64 = true ∧ y.flat 64 = true then some (.ok (.bl (!eqD x y)), M) else none
def rEqX : R2 := fun x y H Q => rEq x y H Q ∨ rEqD K x y H Q
def rNeX : R2 := fun x y H Q => rNe x y H Q ∨ rNeD K x y H Q
theorem opd_eq : OpD K (rEqX (K := K)) gEq := by
  intro F G H W μ M σ x y dx dy r' M' Q R rx ry e P
  unfold gEq at e
  split at e
  · rename_i a b e1 e2
    split at e
    · rename_i hs
      cases e
      rw [toV_rep rx e1, toV_rep ry e2]
      exact .inl ⟨hs, P.now R (.bl _)⟩
    · cases e
  · split at e
    · rename_i hf
      cases e
      exact .inr ⟨_, _, Rep.dp R.sub 64 dx hf.1 rx, Rep.dp R.sub 64 dy hf.2 ry, flat_shaped hf.1, flat_shaped hf.2, P.now R (.bl _)⟩
    · cases e
theorem opd_ne : OpD K (rNeX (K := K)) gNe := by
  intro F G H W μ M σ x y dx dy r' M' Q R rx ry e P
  unfold gNe at e
  split at e
  · rename_i a b e1 e2
    split at e
    · rename_i hs
      cases e
      rw [toV_rep rx e1, toV_rep ry e2]
      exact .inl ⟨hs, P.now R (.bl _)⟩
    · cases e
  · split at e
    · rename_i hf
      cases e
      exact .inr ⟨_, _, Rep.dp R.sub 64 dx hf.1 rx, Rep.dp R.sub 64 dy hf.2 ry, flat_shaped hf.1, flat_shaped hf.2, P.now R (.bl _)⟩
    · cases e
@[simp] theorem gEq_int (i j : Int) (M : Mem) : gEq (.int i) (.int j) M = some (.ok (.bl (decide (i = j))), M) := by simp [gEq, toV, scal]
@[simp] theorem gNe_int (i j : Int) (M : Mem) : gNe (.int i) (.int j) M = some (.ok (.bl (!decide (i = j))), M) := by simp [gNe, toV, scal]
@[simp] theorem gEq_str (i j : Str) (M : Mem) : gEq (.str i) (.str j) M = some (.ok (.bl (decide (i = j))), M) := by simp [gEq, toV, scal]
@[simp] theorem gNe_str (i j : Str) (M : Mem) : gNe (.str i) (.str j) M = some (.ok (.bl (!decide (i = j))), M) := by simp [gNe, toV, scal]
@[simp] theorem gEq_bl (i j : Bool) (M : Mem) : gEq (.bl i) (.bl j) M = some (.ok (.bl (decide (i = j))), M) := by simp [gEq, toV, scal]
@[simp] theorem gEq_non (M : Mem) : gEq .non .non M = some (.ok (.bl true), M) := by simp [gEq, toV, scal]

/-! ### is None -/
def gIsN : Op2 := fun x y M => match y with
  | .non => (match x with
    | .non => some (.ok (.bl true), M)
    | .any _ => none
    | _ => some (.ok (.bl false), M))
  | _ => none
def gNotN : Op2 := fun x y M => match y with
  | .non => (match x with
    | .non => some (.ok (.bl false), M)
    | .any _ => none
    | _ => some (.ok (.bl true), M))
  | _ => none
theorem opd_isN : OpD K (fun x y H Q => y = .non ∧ Q (.bl (decide (x = .non))) H) gIsN := by
  intro F G H W μ M σ x y dx dy r' M' Q R rx ry e P
  unfold gIsN at e
  split at e
  · cases ry
    refine ⟨rfl, ?_⟩
    cases rx <;> first | (cases e; exact P.now R (.bl _)) | cases e
  · cases e
theorem opd_notN : OpD K (fun x y H Q => y = .non ∧ Q (.bl (!decide (x = .non))) H) gNotN := by
  intro F G H W μ M σ x y dx dy r' M' Q R rx ry e P
  unfold gNotN at e
  split at e
  · cases ry
    refine ⟨rfl, ?_⟩
    cases rx <;> first | (cases e; exact P.now R (.bl _)) | cases e
  · cases e

/-! ### texts compared -/
def strCmp (f : Str → Str → Bool) : Op2 := fun x y M => match x, y with | .str i, .str j => some (.ok (.bl (f i j)), M) | _, _ => none
theorem opd_S {f : Str → Str → Bool} : OpD K (fun x y H Q => ∃ i j, x = .str i ∧ y = .str j ∧ Q (.bl (f i j)) H) (strCmp f) := by
  intro F G H W μ M σ x y dx dy r' M' Q R rx ry e P
  unfold strCmp at e
  split at e
  · cases e
    cases rx
    cases ry
    exact ⟨_, _, rfl, rfl, P.now R (.bl _)⟩
  · cases e
def gLe : Op2 := fun x y M => match x, y with
  | .int i, .int j => some (.ok (.bl (decide (i ≤ j))), M)
  | _, _ => strCmp (fun i j => !decide (j.cps.toList < i.cps.toList)) x y M
theorem opd_le : OpD K (fun x y H Q => rI0 (fun i j => .bl (decide (i ≤ j))) x y H Q ∨ ∃ i j, x = .str i ∧ y = .str j ∧ Q (.bl (!decide (j.cps.toList < i.cps.toList))) H) gLe := by
  intro F G H W μ M σ x y dx dy r' M' Q R rx ry e P
  unfold gLe at e
  split at e
  · exact .inl (opd_leI R rx ry e P)
  · exact .inr (opd_S R rx ry e P)
@[simp] theorem gLe_int (i j : Int) (M : Mem) : gLe (.int i) (.int j) M = some (.ok (.bl (decide (i ≤ j))), M) := rfl
theorem nox_le : NoX gLe := fun x y M e M' h => by
  unfold gLe strCmp at h
  split at h
  · cases h
  · split at h <;> cases h

/-! ### in -/
def itemsOf (M : Mem) (d : D) : Option (List D) := match d with
  | .tup xs => some xs
  | d => listOf M d
def toVs : List D → Option (List V)
  | [] => some []
  | d :: ds => match toV d, toVs ds with
    | some v, some vs => some (v :: vs)
    | _, _ => none
theorem toV_flat {d : D} {v : V} (e : toV d = some v) : flatV v = true := by
  cases d <;> first | (cases e; rfl) | cases e
theorem toVs_rep {G : Hp} {μ : List Addr} : ∀ {ds : List D} {vs ws : List V}, RepL K G μ vs ds → toVs ds = some ws → vs = ws ∧ ws.all flatV = true
  | [], _, _, h, e => by cases h; cases e; exact ⟨rfl, rfl⟩
  | d :: ds, _, _, h, e => by
    unfold toVs at e
    split at e
    · rename_i v vs e1 e2
      cases e
      cases h with
      | cons h1 h2 =>
        obtain ⟨z1, z2⟩ := toVs_rep h2 e2
        have z3 := toV_rep h1 e1
        have z4 := toV_flat e1
        subst z1 z3
        exact ⟨rfl, by simp only [List.all_cons, z4, z2, Bool.and_self]⟩
    · cases e
def inFlat (neg : Bool) : Op2 := fun x y M => match itemsOf M y with
  | some ds => (match toV x, toVs ds with
    | some v, some vs => some (.ok (.bl (if neg then !inV v vs else inV v vs)), M)
    | _, _ => none)
  | none => none
theorem Rel.itemsQ {F G H : Hp} {μ : List Addr} {M : Mem} (R : Rel K F G μ M H) {v : V} {d : D} {ds : List D} (r : Rep K G μ v d) (e : itemsOf M d = some ds) : ∃ a vs, v = .ref a ∧ (SqL K H a vs ∨ SqT K H a vs) ∧ ds.length ≤ 16777216 ∧ RepL K G μ vs ds := by
  unfold itemsOf at e
  split at e
  · cases e
    obtain ⟨a, vs, h1, h2, h3⟩ := R.tupQ r rfl
    exact ⟨a, vs, h1, .inr h2, h3⟩
  · obtain ⟨a, vs, h1, h2, h3⟩ := R.listQ r e
    exact ⟨a, vs, h1, .inl h2, h3⟩
theorem opd_inFlat (neg : Bool) : OpD K (rIn K neg) (inFlat neg) := by
  intro F G H W μ M σ x y dx dy r' M' Q R rx ry e P
  unfold inFlat at e
  split at e
  · rename_i ds e0
    split at e
    · rename_i v vs e1 e2
      cases e
      obtain ⟨a, ws, h1, h2, h3, h4⟩ := R.itemsQ ry e0
      obtain ⟨z1, z2⟩ := toVs_rep h4 e2
      subst z1
      have z3 := toV_rep rx e1
      subst z3
      exact ⟨a, ws, h1, h2, toV_flat e1, z2, P.now R (.bl _)⟩
    · cases e
  · cases e
def inDeep (neg : Bool) : Op2 := fun x y M => match y with
  | .lst ds => if x.flat 64 = true ∧ (D.lst ds).flat 64 = true then some (.ok (.bl (if neg then !(ds.any fun z => eqD z x) else ds.any fun z => eqD z x)), M) else none
  | _ => none
theorem any_py (x : D) : ∀ ds : List D, (pyL ds).any (fun z => PyData.eqv z x.py) = ds.any fun z => eqD z x
  | [] => rfl
  | d :: ds => by
    show (PyData.eqv d.py x.py || (pyL ds).any _) = (eqD d x || ds.any _)
    rw [any_py x ds]
    rfl
theorem opd_inDeep : OpD K (rInD K) (inDeep false) := by
  intro F G H W μ M σ x y dx dy r' M' Q R rx ry e P
  unfold inDeep at e
  split at e
  · rename_i ds
    split at e
    · rename_i hf
      cases e
      have h2 := Rep.dp R.sub 64 _ hf.2 ry
      exact ⟨dx.py, pyL ds, Rep.dp R.sub 64 dx hf.1 rx, h2, flat_shaped hf.1, flat_shaped hf.2, by rw [any_py]; exact P.now R (.bl _)⟩
    · cases e
  · cases e
theorem opd_notInDeep : OpD K (rNotInD K) (inDeep true) := by
  intro F G H W μ M σ x y dx dy r' M' Q R rx ry e P
  unfold inDeep at e
  split at e
  · rename_i ds
    split at e
    · rename_i hf
      cases e
      have h2 := Rep.dp R.sub 64 _ hf.2 ry
      exact ⟨dx.py, pyL ds, Rep.dp R.sub 64 dx hf.1 rx, h2, flat_shaped hf.1, flat_shaped hf.2, by rw [any_py]; exact P.now R (.bl _)⟩
    · cases e
  · cases e
/-- keys -/
def keyOf : D → Option Key
  | .int i => some (.inl i)
  | .str s => some (.inr s)
  | _ => none
theorem keyOf_rep {G : Hp} {μ : List Addr} {v : V} {d : D} {k : Key} (h : Rep K G μ v d) (e : keyOf d = some k) : v = kV k := by
  cases h <;> first | (cases e; rfl) | cases e
def getK (es : List (Key × D)) (k : Key) : Option D := (es.find? fun e => decide (e.1 = k)).map (·.2)
theorem getK_cons (k j : Key) (d : D) (r : List (Key × D)) : getK ((k, d) :: r) j = if k = j then some d else getK r j := by
  unfold getK
  by_cases h : k = j
  · simp [List.find?_cons, h]
  · simp [List.find?_cons, h]
def putD (es : List (Key × D)) (k : Key) (d : D) : List (Key × D) := if (getK es k).isSome = true then es.map (fun e => if e.1 = k then (e.1, d) else e) else es ++ [(k, d)]
theorem RepK.get {G : Hp} {μ : List Addr} (k : Key) : ∀ {kvs : List (Key × V)} {es : List (Key × D)}, RepK K G μ kvs es → (getK es k = none → valV kvs k = none) ∧ ∀ d, getK es k = some d → ∃ v, valV kvs k = some v ∧ Rep K G μ v d
  | [], [], h => by cases h; exact ⟨(fun _ => rfl), fun d e => by cases e⟩
  | [], _ :: _, h => by cases h
  | _ :: _, [], h => by cases h
  | (k', v) :: kvs, (k2, d) :: es, h => by
    cases h with
    | cons h1 h2 =>
      obtain ⟨g1, g2⟩ := RepK.get k h2
      rw [getK_cons]
      by_cases hk : k' = k
      · rw [if_pos hk]
        exact ⟨(fun e => by cases e), fun d' e => by cases e; exact ⟨v, valV_pos hk, h1⟩⟩
      · rw [if_neg hk, valV_neg hk]
        exact ⟨g1, g2⟩
theorem RepK.length {G : Hp} {μ : List Addr} : ∀ {kvs : List (Key × V)} {es : List (Key × D)}, RepK K G μ kvs es → kvs.length = es.length
  | [], [], _ => rfl
  | [], _ :: _, h => by cases h
  | _ :: _, [], h => by cases h
  | _ :: _, _ :: _, h => by cases h with | cons h1 h2 => simp [RepK.length h2]
theorem RepK.append {G : Hp} {μ : List Addr} : ∀ {kvs kvs' : List (Key × V)} {es es' : List (Key × D)}, RepK K G μ kvs es → RepK K G μ kvs' es' → RepK K G μ (kvs ++ kvs') (es ++ es')
  | [], _, [], _, _, h' => h'
  | [], _, _ :: _, _, h, _ => by cases h
  | _ :: _, _, [], _, h, _ => by cases h
  | _ :: _, _, _ :: _, _, h, h' => by cases h with | cons h1 h2 => exact .cons h1 (RepK.append h2 h')
theorem RepK.repl {G : Hp} {μ : List Addr} {k : Key} {v : V} {d : D} (r : Rep K G μ v d) : ∀ {kvs : List (Key × V)} {es : List (Key × D)}, RepK K G μ kvs es → RepK K G μ (kvs.map fun e => if e.1 = k then (e.1, v) else e) (es.map fun e => if e.1 = k then (e.1, d) else e)
  | [], [], _ => .nil
  | [], _ :: _, h => by cases h
  | _ :: _, [], h => by cases h
  | (k', v') :: _, (_, d') :: _, h => by
    cases h with
    | cons h1 h2 =>
      rw [List.map_cons, List.map_cons]
      by_cases hk : k' = k
      · simp only [if_pos hk]; exact .cons r (RepK.repl r h2)
      · simp only [if_neg hk]; exact .cons h1 (RepK.repl r h2)
theorem RepK.put {G : Hp} {μ : List Addr} {k : Key} {v : V} {d : D} (r : Rep K G μ v d) {kvs : List (Key × V)} {es : List (Key × D)} (h : RepK K G μ kvs es) : RepK K G μ (putK kvs k v) (putD es k d) := by
  obtain ⟨g1, g2⟩ := h.get k
  have hk : (kvs.any fun kv => decide (kv.1 = k)) = (getK es k).isSome := by
    rw [valV_any]
    cases q : getK es k with
    | none => rw [g1 q]; rfl
    | some d' => obtain ⟨v', e, _⟩ := g2 d' q; rw [e]; rfl
  unfold putK putD
  by_cases hb : (getK es k).isSome = true
  · rw [if_pos hb]
    rw [hb] at hk
    first
      | (rw [if_pos hk]; exact h.repl r)
      | (simp only [hk, if_true]; exact h.repl r)
  · rw [if_neg hb]
    have hb' : (getK es k).isSome = false := by simpa using hb
    rw [hb'] at hk
    first
      | (rw [if_neg (by rw [hk]; exact Bool.false_ne_true)]; exact h.append (.cons r .nil))
      | (simp only [hk]; exact h.append (.cons r .nil))
end
end DL

namespace DL
open PySem L2 PySem.Spec PyProof.Rows

/-! ### in: all kinds -/
section
variable {X : Cx}
def rDIn (neg : Bool) : R2 := fun x y H Q => ∃ a o, y = .ref a ∧ DGet H a x o ∧ Q (.bl (if neg then !o.isSome else o.isSome)) H
theorem op_dIn (hu : X.A.units + 1 < cLine) : OpR X (compareOp .In) (rDIn false) := by
  intro pins s σ H x y v u Q I rx ry h
  obtain ⟨a, o, rfl, g, q⟩ := h
  cases ry
  exact d_in hu I g rx fun s' I' => ⟨.bl o.isSome, H, I', rfl, q⟩
theorem op_dNotIn (hu : X.A.units + 1 < cLine) : OpR X (compareOp .NotIn) (rDIn true) := by
  intro pins s σ H x y v u Q I rx ry h
  obtain ⟨a, o, rfl, g, q⟩ := h
  cases ry
  exact d_notIn hu I g rx fun s' I' => ⟨.bl (!o.isSome), H, I', rfl, q⟩
def rInStr (neg : Bool) : R2 := fun x y H Q => ∃ i j, x = .str i ∧ y = .str j ∧ Q (.bl (if neg then !(!(Builtin.Str.occurrences j i 0 j.length 1).isEmpty) else !(Builtin.Str.occurrences j i 0 j.length 1).isEmpty)) H
theorem op_inX (hr : ∃ k, Room k X.A) : OpR X (compareOp .In) (fun x y H Q => rIn X.K false x y H Q ∨ rInStr false x y H Q ∨ rDIn false x y H Q ∨ rInD X.K x y H Q) := by
  obtain ⟨k, hr⟩ := hr
  have h1 := hr.un
  exact op_in_seq.or (OpR.or (r := rInStr false) op_in_str ((op_dIn (by omega)).or (op_inD (by omega))))
theorem op_notInX (hr : ∃ k, Room k X.A) : OpR X (compareOp .NotIn) (fun x y H Q => rIn X.K true x y H Q ∨ rInStr true x y H Q ∨ rDIn true x y H Q ∨ rNotInD X.K x y H Q) := by
  obtain ⟨k, hr⟩ := hr
  have h1 := hr.un
  exact op_notIn_seq.or (OpR.or (r := rInStr true) L2.op_notIn_str ((op_dNotIn (by omega)).or (op_notInD (by omega))))
end
section
variable {K : PySem.W.Frag}
def inStr (i j : Str) : Bool := !(Builtin.Str.occurrences j i 0 j.length 1).isEmpty
def gInB (neg b : Bool) : Bool := if neg then !b else b
/-- x in y -/
def gIn (neg : Bool) : Op2 := fun x y M => match y with
  | .str j => (match x with
    | .str i => some (.ok (.bl (gInB neg (inStr i j))), M)
    | _ => none)
  | y => match dicOf M y with
    | some es => (match keyOf x with
      | some k => some (.ok (.bl (gInB neg (getK es k).isSome)), M)
      | none => none)
    | none => match inFlat neg x y M with
      | some z => some z
      | none => inDeep neg x y M
theorem Rel.dget {F G H : Hp} {μ : List Addr} {M : Mem} (R : Rel K F G μ M H) {v w : V} {d dk : D} {es : List (Key × D)} {k : Key} (r : Rep K G μ v d) (e : dicOf M d = some es) (rk : Rep K G μ w dk) (ek : keyOf dk = some k) :
    ∃ a o, v = .ref a ∧ DGet H a w o ∧ o.isSome = (getK es k).isSome ∧ (∀ d', getK es k = some d' → ∃ v', o = some v' ∧ Rep K G μ v' d') := by
  obtain ⟨a, kvs, rfl, h1, h2, h3⟩ := R.dicQ r e
  have hw := keyOf_rep rk ek
  subst hw
  obtain ⟨g1, g2⟩ := h3.get k
  refine ⟨a, valV kvs k, rfl, .inl ⟨kvs, k, h1, rfl, rfl⟩, ?_, g2⟩
  cases q : getK es k with
  | none => rw [g1 q]; rfl
  | some d' => obtain ⟨v', e', _⟩ := g2 d' q; rw [e']; rfl
theorem opd_in : OpD K (fun x y H Q => rIn K false x y H Q ∨ rInStr false x y H Q ∨ rDIn false x y H Q ∨ rInD K x y H Q) (gIn false) := by
  intro F G H W μ M σ x y dx dy r' M' Q R rx ry e P
  unfold gIn at e
  split at e
  · split at e
    · cases e
      cases rx
      cases ry
      exact .inr (.inl ⟨_, _, rfl, rfl, P.now R (.bl _)⟩)
    · cases e
  · split at e
    · rename_i es e1
      split at e
      · rename_i k e2
        cases e
        obtain ⟨a, o, rfl, g, hs, _⟩ := R.dget ry e1 rx e2
        exact .inr (.inr (.inl ⟨a, o, rfl, g, by
          show Q (.bl o.isSome) H
          rw [hs]
          exact P.now R (.bl _)⟩))
      · cases e
    · split at e
      · rename_i z e1
        exact .inl (opd_inFlat false R rx ry (e1.trans e) P)
      · exact .inr (.inr (.inr (opd_inDeep R rx ry e P)))
theorem opd_notIn : OpD K (fun x y H Q => rIn K true x y H Q ∨ rInStr true x y H Q ∨ rDIn true x y H Q ∨ rNotInD K x y H Q) (gIn true) := by
  intro F G H W μ M σ x y dx dy r' M' Q R rx ry e P
  unfold gIn at e
  split at e
  · split at e
    · cases e
      cases rx
      cases ry
      exact .inr (.inl ⟨_, _, rfl, rfl, P.now R (.bl _)⟩)
    · cases e
  · split at e
    · rename_i es e1
      split at e
      · rename_i k e2
        cases e
        obtain ⟨a, o, rfl, g, hs, _⟩ := R.dget ry e1 rx e2
        exact .inr (.inr (.inl ⟨a, o, rfl, g, by
          show Q (.bl (!o.isSome)) H
          rw [hs]
          exact P.now R (.bl _)⟩))
      · cases e
    · split at e
      · rename_i z e1
        exact .inl (opd_inFlat true R rx ry (e1.trans e) P)
      · exact .inr (.inr (.inr (opd_notInDeep R rx ry e P)))

/-! ### * of lists -/
end
section
variable {X : Cx}
end
section
variable {K : PySem.W.Frag}
theorem RepL.rep {G : Hp} {μ : List Addr} {vs : List V} {ds : List D} (h : RepL K G μ vs ds) : ∀ k : Nat, RepL K G μ (List.replicate k vs).flatten (List.replicate k ds).flatten
  | 0 => .nil
  | k + 1 => by
    rw [List.replicate_succ, List.replicate_succ, List.flatten_cons, List.flatten_cons]
    exact h.append (RepL.rep h k)

/-! ### subscripts -/
/-- x[i] -/
def gIx : Op2 := fun x y M => match dicOf M x with
  | some es => (match keyOf y with
    | some k => (match getK es k with
      | some d => some (.ok d, M)
      | none => none)
    | none => none)
  | none => match y with
    | .int i => (match x with
      | .tup ds => (match atI ds i with
        | some d => some (.ok d, M)
        | none => none)
      | .str z => if z.length ≤ 16777216 then (match atI z.cps.toList i with
        | some c => some (.ok (.str ⟨#[c]⟩), M)
        | none => none) else none
      | x => match listOf M x with
        | some ds => (match atI ds i with
          | some d => some (.ok d, M)
          | none => none)
        | none => none)
    | _ => none
def rIxD : R2 := fun x y H Q => ∃ a v, x = .ref a ∧ DGet H a y (some v) ∧ Q v H
theorem RepL.at {G : Hp} {μ : List Addr} {vs : List V} {ds : List D} {i : Int} {d : D} (h : RepL K G μ vs ds) (e : atI ds i = some d) : ∃ v, atI vs i = some v ∧ Rep K G μ v d := by
  unfold atI at e ⊢
  rw [h.length]
  cases q : ixN ds.length i with
  | none => rw [q] at e; cases e
  | some j => rw [q] at e; exact h.get e
theorem opd_ix : OpD K (fun x y H Q => rIxL K x y H Q ∨ rIxT K x y H Q ∨ rIxS x y H Q ∨ rIxD x y H Q) gIx := by
  intro F G H W μ M σ x y dx dy r' M' Q R rx ry e P
  unfold gIx at e
  split at e
  · rename_i es e1
    split at e
    · rename_i k e2
      split at e
      · rename_i d e3
        cases e
        obtain ⟨a, o, rfl, g, hs, ho⟩ := R.dget rx e1 ry e2
        obtain ⟨v', rfl, rv⟩ := ho d e3
        exact .inr (.inr (.inr ⟨a, v', rfl, g, P.now R rv⟩))
      · cases e
    · cases e
  · split at e
    · rename_i i
      cases ry
      split at e
      · split at e
        · rename_i ds d e3
          cases e
          obtain ⟨a, vs, rfl, h1, h2, h3⟩ := R.tupQ rx rfl
          obtain ⟨v, e4, rv⟩ := h3.at e3
          exact .inr (.inl ⟨a, vs, i, v, rfl, rfl, h1, e4, P.now R rv⟩)
        · cases e
      · split at e
        · rename_i hz
          split at e
          · rename_i c e3
            cases e
            cases rx
            exact .inr (.inr (.inl ⟨_, i, c, rfl, rfl, by rw [line]; exact hz, e3, P.now R (.str _)⟩))
          · cases e
        · cases e
      · split at e
        · rename_i ds e2
          split at e
          · rename_i d e3
            cases e
            obtain ⟨a, vs, rfl, h1, h2, h3⟩ := R.listQ rx e2
            obtain ⟨v, e4, rv⟩ := h3.at e3
            exact .inl ⟨a, vs, i, v, rfl, rfl, h1, e4, P.now R rv⟩
          · cases e
        · cases e
    · cases e
end
section
variable {X : Cx} {W : WX} {pos : Pos} {e a b c o : Expr} {fe fa fb fc fo : Fn D} {te ua ub uc uo : TE} {es : List Expr} {us : TA} {fs : Fn (List D)}
theorem ix_dic (hu : X.A.units + 1 < cLine) : IxR X rIxD := by
  intro value slice pins s σ H x y v u Q I rx ry h hs
  obtain ⟨a, w, rfl, g, q⟩ := h
  cases rx
  have ht := dict_typeIs I g
  exact tail_any ht F.slot_dict_getitem.lookup (d_getItem hu I g ry fun w' s' I' r' => ⟨w, H, I', r', q⟩) hs
theorem ix_all (hr : ∃ k, Room k X.A) : IxR X (fun x y H Q => rIxL X.K x y H Q ∨ rIxT X.K x y H Q ∨ rIxS x y H Q ∨ rIxD x y H Q) := by
  obtain ⟨k, hr⟩ := hr
  have h1 := hr.un
  exact ix_list.or (ix_tup.or (ix_str.or (ix_dic (by omega))))
theorem de_ix {K' : PySem.W.Frag} (hr : ∃ k, Room k X.A) (ha : DE X W a ua fa) (hb : DE X W b ub fb) (hs : PlainIx b := by exact fun _ _ => rfl) (hK : X.K = K' := by rfl) : DE X W (.Subscript a b pos) (tOp (fun x y H Q => rIxL K' x y H Q ∨ rIxT K' x y H Q ∨ rIxS x y H Q ∨ rIxD x y H Q) ua ub) (fBin gIx fa fb) := by
  subst hK
  exact ⟨pe_ix (ix_all hr) ha.pe hb.pe hs, dx_bin opd_ix ha.dx hb.dx⟩
/-! ### slices -/
def fNone : Fn (Option Int) := fun _ M => some (.ok none, M)
def fPart (f : Fn D) : Fn (Option Int) := fun ρ M => bnd (f ρ M) fun d M1 => match d with
  | .int i => some (.ok (some i), M1)
  | _ => none
theorem do_none : DO X W none tNoPart fNone := ⟨po_none, fun F G H μ M σ ρ r M' Q R E e P => by cases e; exact P.now R rfl⟩
theorem do_some (h : DE X W a ua fa) : DO X W (some a) (tPart ua) (fPart fa) := ⟨po_some h.pe, fun F G H μ M σ ρ r M' Q R E e P => h.dx.go R E e P fun G1 μ1 H1 M1 x dx e1 R1 E1 rx e2 P1 => by
  split at e2
  · cases e2
    cases rx
    exact ⟨_, rfl, P1.now R1 rfl⟩
  · cases e2⟩
def cutD (xs : List D) (lo hi : Option Int) : List D := (xs.drop (HT.sIx xs.length 0 lo)).take (HT.sIx xs.length xs.length hi - HT.sIx xs.length 0 lo)
theorem RepL.cut {K : PySem.W.Frag} {G : Hp} {μ : List Addr} {vs : List V} {ds : List D} (h : RepL K G μ vs ds) (lo hi : Option Int) : RepL K G μ (cutV vs lo hi) (cutD ds lo hi) := by
  unfold cutV cutD
  rw [h.length]
  exact (h.drop _).take _
theorem cutD_length (xs : List D) (lo hi : Option Int) : (cutD xs lo hi).length ≤ xs.length := by
  unfold cutD
  rw [List.length_take, List.length_drop]
  omega
def gSl (x : D) (lo hi : Option Int) (M : Mem) : Option (R D × Mem) := match x with
  | .str z => if z.length ≤ 16777216 then some (.ok (.str (cutS z lo hi)), M) else none
  | .tup ds => if HT.sIx ds.length 0 lo = 0 ∧ HT.sIx ds.length ds.length hi = ds.length then none else some (.ok (.tup (cutD ds lo hi)), M)
  | x => match listOf M x with
    | some ds => some (.ok (.lst (cutD ds lo hi)), M)
    | none => none
def fSl (fa : Fn D) (fl fh : Fn (Option Int)) : Fn D := fun ρ M => bnd (fa ρ M) fun x M1 => bnd (fl ρ M1) fun l M2 => bnd (fh ρ M2) fun h M3 => gSl x l h M3
def rSlX (K : PySem.W.Frag) : V → Option Int → Option Int → Hp → VK → Prop := fun x lo hi H Q => rSlL K x lo hi H Q ∨ rSlT K x lo hi H Q ∨ rSlS x lo hi H Q
theorem de_sl {K' : PySem.W.Frag} {p2 : Pos} {lo hi : Option Expr} {tl th : TO} {fl fh : Fn (Option Int)} (ha : DE X W a ua fa) (hl : DO X W lo tl fl) (hh : DO X W hi th fh) (hK : X.K = K' := by rfl) : DE X W (.Subscript a (.Slice lo hi none p2) pos) (tSl (rSlX K') ua tl th) (fSl fa fl fh) := by
  subst hK
  refine ⟨pe_slice (sl_list.or (sl_tup.or sl_str)) ha.pe hl.pe hh.pe, fun F G H μ M σ ρ r M' Q R E e P => ha.dx.go R E e P fun G1 μ1 H1 M1 x dx e1 R1 E1 rx e2 P1 => hl.dx.go R1 E1 e2 P1 fun G2 μ2 H2 M2 l l' e3 R2 E2 rl e4 P2 => hh.dx.go R2 E2 e4 P2 fun G3 μ3 H3 M3 h h' e5 R3 E3 rh e6 P3 => ?_⟩
  have rl' : l = l' := rl
  have rh' : h = h' := rh
  subst rl' rh'
  have rx3 := Rep.mono (e3.trans e5) dx rx
  unfold gSl at e6
  split at e6
  · split at e6
    · rename_i z hz
      cases e6
      cases rx3
      exact .inr (.inr ⟨z, rfl, by rw [line]; exact hz, P3.now R3 (.str _)⟩)
    · cases e6
  · split at e6
    · cases e6
    · rename_i ds hn
      cases e6
      obtain ⟨a', vs, rfl, h1, h2, h3⟩ := R3.tupQ rx3 rfl
      exact .inr (.inl ⟨a', vs, rfl, h1, by rw [h3.length]; exact hn, fun p hp => P3.newT R3 hp (Nat.le_trans (cutD_length _ _ _) h2) (h3.cut _ _)⟩)
  · split at e6
    · rename_i ds e7
      cases e6
      obtain ⟨a', vs, rfl, h1, h2, h3⟩ := R3.listQ rx3 e7
      exact .inl ⟨a', vs, rfl, h1, fun p hp => P3.newL R3 hp (Nat.le_trans (cutD_length _ _ _) h2) (h3.cut _ _)⟩
    · cases e6
/-- xs[::-1] -/
def fRev (fa : Fn D) : Fn D := fun ρ M => bnd (fa ρ M) fun x M1 => match listOf M1 x with
  | some ds => some (.ok (.lst ds.reverse), M1)
  | none => none
theorem de_rev {K' : PySem.W.Frag} {k : Nat} {p1 p2 p3 : Pos} (ha : DE X W a ua fa) (hK : X.K = K' := by rfl) : DE X W (.Subscript a (.Slice none none (some (.UnaryOp .USub (.Constant (.int 1) k p1) p2)) p3) pos) (tRevL K' ua) (fRev fa) := by
  subst hK
  exact ⟨pe_revL ha.pe, fun F G H μ M σ ρ r M' Q R E e P => ha.dx.go R E e P fun G1 μ1 H1 M1 x dx e1 R1 E1 rx e2 P1 => by
    split at e2
    · rename_i ds e7
      cases e2
      obtain ⟨a', vs, rfl, h1, h2, h3⟩ := R1.listQ rx e7
      exact ⟨a', vs, rfl, h1, fun p hp => P1.newL R1 hp (by rw [List.length_reverse]; exact h2) h3.reverse⟩
    · cases e2⟩
/-! ### built-ins called by name -/
abbrev OpN := List D → Mem → Option (R D × Mem)
def CallD (K : PySem.W.Frag) (r : List V → Hp → VK → Prop) (g : OpN) : Prop :=
  ∀ {F G H : Hp} {W : WX} {μ : List Addr} {M : Mem} {σ : L2.St} {xs : List V} {ds : List D} {r' : R D} {M' : Mem} {Q : VK}, Rel K F G μ M H → RepL K G μ xs ds → g ds M = some (r', M') → Post K F W (Rep K) σ Q G μ r' M' → r xs H Q
def fCall (g : OpN) (fs : Fn (List D)) : Fn D := fun ρ M => bnd (fs ρ M) g
theorem dx_cb {K : PySem.W.Frag} {r : List V → Hp → VK → Prop} {g : OpN} (hd : CallD K r g) (ha : DX K W (RepL K) us fs) : DX K W (Rep K) (tCB r us) (fCall g fs) :=
  fun F G H μ M σ ρ r M' Q R E e P => ha.go R E e P fun G1 μ1 H1 M1 xs ds e1 R1 E1 rx e2 P1 => hd R1 rx e2 P1
theorem de_callB {x : Str} {id : String} {r : List V → Hp → VK → Prop} {g : OpN} {p : Pos} (hc : CallR X (.builtin id) r) (hd : CallD X.K r g) (hm : X.mg x = none) (hv : bootBuiltins x = some (.builtin id)) (ha : DA X W (e :: es) us fs) (hg : Gl X x := by rfl) (hn : x ≠ "__name__" := by decide) (hdb : (x == ("__debug__" : Str)) = false := by decide)
    (he : starEach (e :: es) X.env = (false, eval e X.env) :: starEach es X.env := by rfl) (hpl : (backTo pos (starEach es X.env)).any (·.1) = false := by rfl) : DE X W (.Call (.Name x p) (e :: es) [] pos) (tCB r us) (fCall g fs) :=
  ⟨pe_callB hc hg hm hv ha.pe hn hdb he hpl, dx_cb hd ha.dx⟩
theorem de_callTy {x : Str} {T : String} {r : List V → Hp → VK → Prop} {g : OpN} {p : Pos} (hc : CallR X (.type T) r) (hd : CallD X.K r g) (hm : X.mg x = none) (hv : bootBuiltins x = some (.type T)) (ha : DA X W (e :: es) us fs) (hg : Gl X x := by rfl) (hn : x ≠ "__name__" := by decide) (hdb : (x == ("__debug__" : Str)) = false := by decide)
    (he : starEach (e :: es) X.env = (false, eval e X.env) :: starEach es X.env := by rfl) (hpl : (backTo pos (starEach es X.env)).any (·.1) = false := by rfl) : DE X W (.Call (.Name x p) (e :: es) [] pos) (tCB r us) (fCall g fs) :=
  ⟨pe_callTy hc hg hm hv ha.pe hn hdb he hpl, dx_cb hd ha.dx⟩
end
section
variable {K : PySem.W.Frag}
theorem RepL.none_of {G : Hp} {μ : List Addr} {vs : List V} (h : RepL K G μ vs []) : vs = [] := by cases h; rfl
/-- len -/
def gLen : OpN := fun ds M => match ds with
  | [.str s] => if s.length ≤ 16777216 then some (.ok (.int s.length), M) else none
  | [.tup xs] => some (.ok (.int xs.length), M)
  | [d] => (match listOf M d with
    | some xs => some (.ok (.int xs.length), M)
    | none => match dicOf M d with
      | some es => some (.ok (.int es.length), M)
      | none => none)
  | _ => none
def rLenD : List V → Hp → VK → Prop := fun xs H Q => ∃ a kvs, xs = [V.ref a] ∧ Rd H a (.dK kvs) ∧ Q (.int kvs.length) H
def rLenX (K : PySem.W.Frag) : List V → Hp → VK → Prop := fun xs H Q => (∃ x n, xs = [x] ∧ LenV K x H n ∧ Q (.int n) H) ∨ rLenD xs H Q
theorem cad_len : CallD K (rLenX K) gLen := by
  intro F G H W μ M σ xs ds r' M' Q R rx e P
  unfold gLen at e
  split at e
  · split at e
    · rename_i s hz
      cases e
      obtain ⟨v, rfl, h1⟩ := rx.one
      cases h1
      exact .inl ⟨_, s.length, rfl, ⟨by rw [line]; exact hz, rfl⟩, P.now R (.int _)⟩
    · cases e
  · rename_i ys
    cases e
    obtain ⟨v, rfl, h1⟩ := rx.one
    obtain ⟨a, vs, rfl, h2, h3, h4⟩ := R.tupQ h1 rfl
    exact .inl ⟨_, ys.length, rfl, .inr ⟨vs, h2, h4.length.symm⟩, P.now R (.int _)⟩
  · obtain ⟨v, rfl, h1⟩ := rx.one
    split at e
    · rename_i ys e1
      cases e
      obtain ⟨a, vs, rfl, h2, h3, h4⟩ := R.listQ h1 e1
      exact .inl ⟨_, ys.length, rfl, .inl ⟨vs, h2, h4.length.symm⟩, P.now R (.int _)⟩
    · split at e
      · rename_i es e1
        cases e
        obtain ⟨a, kvs, rfl, h2, h3, h4⟩ := R.dicQ h1 e1
        exact .inr ⟨a, kvs, rfl, h2, by rw [h4.length]; exact P.now R (.int _)⟩
      · cases e
  · cases e
def gAbs : OpN := fun ds M => match ds with
  | [.int i] => some (.ok (.int (if i < 0 then -i else i)), M)
  | _ => none
theorem cad_abs : CallD K (fun xs H Q => ∃ i, xs = [.int i] ∧ Q (.int (if i < 0 then -i else i)) H) gAbs := by
  intro F G H W μ M σ xs ds r' M' Q R rx e P
  unfold gAbs at e
  split at e
  · cases e
    obtain ⟨v, rfl, h1⟩ := rx.one
    cases h1
    exact ⟨_, rfl, P.now R (.int _)⟩
  · cases e
def gInt : OpN := fun ds M => match ds with
  | [.int i] => some (.ok (.int i), M)
  | [.bl k] => some (.ok (.int (if k then 1 else 0)), M)
  | _ => none
theorem cad_int : CallD K (fun xs H Q => (∃ i, xs = [.int i] ∧ Q (.int i) H) ∨ ∃ k, xs = [.bl k] ∧ Q (.int (if k then 1 else 0)) H) gInt := by
  intro F G H W μ M σ xs ds r' M' Q R rx e P
  unfold gInt at e
  split at e
  · cases e
    obtain ⟨v, rfl, h1⟩ := rx.one
    cases h1
    exact .inl ⟨_, rfl, P.now R (.int _)⟩
  · cases e
    obtain ⟨v, rfl, h1⟩ := rx.one
    cases h1
    exact .inr ⟨_, rfl, P.now R (.int _)⟩
  · cases e
/-- lists of ints -/
def toInts : List D → Option (List Int)
  | [] => some []
  | .int i :: ds => (match toInts ds with
    | some ns => some (i :: ns)
    | none => none)
  | _ :: _ => none
theorem toInts_map : ∀ ns : List Int, toInts (ns.map D.int) = some ns
  | [] => rfl
  | n :: ns => by show (match toInts (ns.map D.int) with | some ns => some (n :: ns) | none => none) = _; rw [toInts_map ns]
theorem toInts_of : ∀ {ds : List D} {ns : List Int}, toInts ds = some ns → ds = ns.map D.int
  | [], _, e => by cases e; rfl
  | .int i :: ds, ns, e => by
    have e' : (match toInts ds with | some ns => some (i :: ns) | none => none) = some ns := e
    split at e'
    · rename_i e1
      cases e'
      rw [toInts_of e1]; rfl
    · cases e'
  | .non :: ds, ns, e => by cases e
  | .bl _ :: ds, ns, e => by cases e
  | .str _ :: ds, ns, e => by cases e
  | .tup _ :: ds, ns, e => by cases e
  | .lst _ :: ds, ns, e => by cases e
  | .dic _ :: ds, ns, e => by cases e
  | .cell _ :: ds, ns, e => by cases e
  | .any _ :: ds, ns, e => by cases e
def maxL : List Int → Int
  | [] => 0
  | x :: xs => xs.foldl max x
def minL : List Int → Int
  | [] => 0
  | x :: xs => xs.foldl min x
theorem foldl_max_le : ∀ (xs : List Int) (a m : Int), xs.foldl max a ≤ m ↔ a ≤ m ∧ ∀ x ∈ xs, x ≤ m
  | [], a, m => by simp
  | x :: xs, a, m => by
    rw [List.foldl_cons, foldl_max_le xs]
    simp only [List.mem_cons, forall_eq_or_imp]
    have : max a x ≤ m ↔ a ≤ m ∧ x ≤ m := by omega
    rw [this, and_assoc]
theorem foldl_min_le : ∀ (xs : List Int) (a m : Int), m ≤ xs.foldl min a ↔ m ≤ a ∧ ∀ x ∈ xs, m ≤ x
  | [], a, m => by simp
  | x :: xs, a, m => by
    rw [List.foldl_cons, foldl_min_le xs]
    simp only [List.mem_cons, forall_eq_or_imp]
    have : m ≤ min a x ↔ m ≤ a ∧ m ≤ x := by omega
    rw [this, and_assoc]
theorem maxL_of {xs : List Int} {m : Int} (hm : m ∈ xs) (h : ∀ y ∈ xs, y ≤ m) : m = maxL xs := by
  cases xs with
  | nil => simp at hm
  | cons x xs =>
    have h1 : maxL (x :: xs) ≤ m := (foldl_max_le xs x m).mpr ⟨h x (by simp), fun y hy => h y (by simp [hy])⟩
    have h2 := (foldl_max_le xs x (maxL (x :: xs))).mp (Int.le_refl _)
    have h3 : m ≤ maxL (x :: xs) := by
      rcases List.mem_cons.mp hm with e | e
      · rw [e]; exact h2.1
      · exact h2.2 m e
    omega
theorem minL_of {xs : List Int} {m : Int} (hm : m ∈ xs) (h : ∀ y ∈ xs, m ≤ y) : m = minL xs := by
  cases xs with
  | nil => simp at hm
  | cons x xs =>
    have h1 : m ≤ minL (x :: xs) := (foldl_min_le xs x m).mpr ⟨h x (by simp), fun y hy => h y (by simp [hy])⟩
    have h2 := (foldl_min_le xs x (minL (x :: xs))).mp (Int.le_refl _)
    have h3 : minL (x :: xs) ≤ m := by
      rcases List.mem_cons.mp hm with e | e
      · rw [e]; exact h2.1
      · exact h2.2 m e
    omega
/-- max, min: of two ints, of a list of ints -/
def gMax : OpN := fun ds M => match ds with
  | [.int i, .int j] => some (.ok (.int (max i j)), M)
  | [d] => (match listOf M d with
    | some xs => (match toInts xs with
      | some (n :: ns) => some (.ok (.int (maxL (n :: ns))), M)
      | _ => none)
    | none => none)
  | _ => none
def gMin : OpN := fun ds M => match ds with
  | [.int i, .int j] => some (.ok (.int (min i j)), M)
  | [d] => (match listOf M d with
    | some xs => (match toInts xs with
      | some (n :: ns) => some (.ok (.int (minL (n :: ns))), M)
      | _ => none)
    | none => none)
  | _ => none
theorem cad_max : CallD K (fun xs H Q => (∃ i j, xs = [.int i, .int j] ∧ Q (.int (if j > i then j else i)) H) ∨ rMax K xs H Q) gMax := by
  intro F G H W μ M σ xs ds r' M' Q R rx e P
  unfold gMax at e
  split at e
  · rename_i i j
    cases e
    obtain ⟨v, w, rfl, h1, h2⟩ := rx.two
    cases h1
    cases h2
    refine .inl ⟨i, j, rfl, ?_⟩
    have : (if j > i then j else i) = max i j := by omega
    rw [this]
    exact P.now R (.int _)
  · split at e
    · rename_i ys e1
      split at e
      · rename_i n ns e2
        cases e
        obtain ⟨v, rfl, h1⟩ := rx.one
        obtain ⟨a, vs, rfl, h2, h3, h4⟩ := R.listQ h1 e1
        have h5 := toInts_of e2
        subst h5
        have h6 := h4.ints
        subst h6
        refine .inr ⟨a, n :: ns, rfl, h2, by simp, fun m hm hle => ?_⟩
        rw [maxL_of hm hle]
        exact P.now R (.int _)
      · cases e
    · cases e
  · cases e
theorem cad_min : CallD K (fun xs H Q => (∃ i j, xs = [.int i, .int j] ∧ Q (.int (if j < i then j else i)) H) ∨ rMin K xs H Q) gMin := by
  intro F G H W μ M σ xs ds r' M' Q R rx e P
  unfold gMin at e
  split at e
  · rename_i i j
    cases e
    obtain ⟨v, w, rfl, h1, h2⟩ := rx.two
    cases h1
    cases h2
    refine .inl ⟨i, j, rfl, ?_⟩
    have : (if j < i then j else i) = min i j := by omega
    rw [this]
    exact P.now R (.int _)
  · split at e
    · rename_i ys e1
      split at e
      · rename_i n ns e2
        cases e
        obtain ⟨v, rfl, h1⟩ := rx.one
        obtain ⟨a, vs, rfl, h2, h3, h4⟩ := R.listQ h1 e1
        have h5 := toInts_of e2
        subst h5
        have h6 := h4.ints
        subst h6
        refine .inr ⟨a, n :: ns, rfl, h2, by simp, fun m hm hle => ?_⟩
        rw [minL_of hm hle]
        exact P.now R (.int _)
      · cases e
    · cases e
  · cases e
def gSum : OpN := fun ds M => match ds with
  | [d] => (match listOf M d with
    | some xs => (match toInts xs with
      | some ns => some (.ok (.int ns.sum), M)
      | none => none)
    | none => none)
  | _ => none
theorem cad_sum : CallD K (rSum K) gSum := by
  intro F G H W μ M σ xs ds r' M' Q R rx e P
  unfold gSum at e
  split at e
  · split at e
    · rename_i ys e1
      split at e
      · rename_i ns e2
        cases e
        obtain ⟨v, rfl, h1⟩ := rx.one
        obtain ⟨a, vs, rfl, h2, h3, h4⟩ := R.listQ h1 e1
        have h5 := toInts_of e2
        subst h5
        have h6 := h4.ints
        subst h6
        exact ⟨a, ns, rfl, h2, P.now R (.int _)⟩
      · cases e
    · cases e
  · cases e
def toBls : List D → Option (List Bool)
  | [] => some []
  | .bl i :: ds => (match toBls ds with
    | some ns => some (i :: ns)
    | none => none)
  | _ :: _ => none
theorem toBls_map : ∀ ns : List Bool, toBls (ns.map D.bl) = some ns
  | [] => rfl
  | n :: ns => by show (match toBls (ns.map D.bl) with | some ns => some (n :: ns) | none => none) = _; rw [toBls_map ns]
theorem toBls_of : ∀ {ds : List D} {ns : List Bool}, toBls ds = some ns → ds = ns.map D.bl
  | [], _, e => by cases e; rfl
  | .bl i :: ds, ns, e => by
    have e' : (match toBls ds with | some ns => some (i :: ns) | none => none) = some ns := e
    split at e'
    · rename_i e1
      cases e'
      rw [toBls_of e1]; rfl
    · cases e'
  | .non :: ds, ns, e => by cases e
  | .int _ :: ds, ns, e => by cases e
  | .str _ :: ds, ns, e => by cases e
  | .tup _ :: ds, ns, e => by cases e
  | .lst _ :: ds, ns, e => by cases e
  | .dic _ :: ds, ns, e => by cases e
  | .cell _ :: ds, ns, e => by cases e
  | .any _ :: ds, ns, e => by cases e
def gAll : OpN := fun ds M => match ds with
  | [.lst xs] => (match toBls xs with
      | some ns => some (.ok (.bl (ns.all id)), M)
      | none => none)
  | _ => none
def gAny : OpN := fun ds M => match ds with
  | [.lst xs] => (match toBls xs with
      | some ns => some (.ok (.bl (ns.any id)), M)
      | none => none)
  | _ => none
theorem cad_all : CallD K (rAll K) gAll := by
  intro F G H W μ M σ xs ds r' M' Q R rx e P
  unfold gAll at e
  split at e
  · split at e
    · rename_i ns e2
      cases e
      obtain ⟨v, rfl, h1⟩ := rx.one
      obtain ⟨a, vs, rfl, h2, h3, h4⟩ := R.listQ h1 rfl
      have h5 := toBls_of e2
      subst h5
      have h6 := h4.bls
      subst h6
      exact ⟨a, ns, rfl, h2, P.now R (.bl _)⟩
    · cases e
  · cases e
theorem cad_any : CallD K (rAny K) gAny := by
  intro F G H W μ M σ xs ds r' M' Q R rx e P
  unfold gAny at e
  split at e
  · split at e
    · rename_i ns e2
      cases e
      obtain ⟨v, rfl, h1⟩ := rx.one
      obtain ⟨a, vs, rfl, h2, h3, h4⟩ := R.listQ h1 rfl
      have h5 := toBls_of e2
      subst h5
      have h6 := h4.bls
      subst h6
      exact ⟨a, ns, rfl, h2, P.now R (.bl _)⟩
    · cases e
  · cases e
/-- list(x), tuple(x) -/
def gList : OpN := fun ds M => match ds with
  | [d] => (match itemsOf M d with
    | some xs => some (.ok (.lst xs), M)
    | none => none)
  | _ => none
def gListC : OpN := fun ds M => match ds with
  | [d] => (match itemsOf M d with
    | some xs => some (.ok (.cell M.length), M ++ [some (.lst xs)])
    | none => none)
  | _ => none
theorem cad_list : CallD K (fun xs H Q => ∃ p ys, xs = [.ref p] ∧ (SqL K H p ys ∨ SqT K H p ys) ∧ ∀ l, H l = none → Q (.ref l) (upd H l (.lst ys))) gList := by
  intro F G H W μ M σ xs ds r' M' Q R rx e P
  unfold gList at e
  split at e
  · split at e
    · rename_i ys e1
      cases e
      obtain ⟨v, rfl, h1⟩ := rx.one
      obtain ⟨a, vs, rfl, h2, h3, h4⟩ := R.itemsQ h1 e1
      exact ⟨a, vs, rfl, h2, fun p hp => P.newL R hp h3 h4⟩
    · cases e
  · cases e
theorem cad_listC : CallD K (fun xs H Q => ∃ p ys, xs = [.ref p] ∧ (SqL K H p ys ∨ SqT K H p ys) ∧ ∀ l, H l = none → Q (.ref l) (upd H l (.lst ys))) gListC := by
  intro F G H W μ M σ xs ds r' M' Q R rx e P
  unfold gListC at e
  split at e
  · split at e
    · rename_i ys e1
      cases e
      obtain ⟨v, rfl, h1⟩ := rx.one
      obtain ⟨a, vs, rfl, h2, h3, h4⟩ := R.itemsQ h1 e1
      exact ⟨a, vs, rfl, h2, fun p hp => P.newC R hp ⟨vs, upd_same, h3, h4⟩⟩
    · cases e
  · cases e
def gTuple : OpN := fun ds M => match ds with
  | [.tup xs] => some (.ok (.tup xs), M)
  | [d] => (match listOf M d with
    | some xs => some (.ok (.tup xs), M)
    | none => none)
  | _ => none
theorem cad_tuple : CallD K (fun xs H Q => ∃ p ys, xs = [.ref p] ∧ ((SqL K H p ys ∧ ∀ l, H l = none → Q (.ref l) (upd H l (.tup ys))) ∨ (SqT K H p ys ∧ Q (.ref p) H))) gTuple := by
  intro F G H W μ M σ xs ds r' M' Q R rx e P
  unfold gTuple at e
  split at e
  · cases e
    obtain ⟨v, rfl, h1⟩ := rx.one
    obtain ⟨a, vs, rfl, h2, h3, h4⟩ := R.tupQ h1 rfl
    exact ⟨a, vs, rfl, .inr ⟨h2, P.now R h1⟩⟩
  · split at e
    · rename_i ys e1
      cases e
      obtain ⟨v, rfl, h1⟩ := rx.one
      obtain ⟨a, vs, rfl, h2, h3, h4⟩ := R.listQ h1 e1
      exact ⟨a, vs, rfl, .inl ⟨h2, fun p hp => P.newT R hp h3 h4⟩⟩
    · cases e
  · cases e
end
section
variable {X : Cx}
theorem cr_lenX : CallR X (.builtin "len") (rLenX X.K) := CallR.or call_len (by
  intro pins s σ H xs us Q I r h
  obtain ⟨a, kvs, rfl, ha, q⟩ := h
  obtain ⟨u, rfl, ru⟩ := vals1 r
  cases ru
  exact d_len I ha fun t s' I' => ⟨.int kvs.length, H, I', ⟨t, rfl⟩, q⟩)
end
end DL

namespace DL
open PySem L2 PySem.Spec PyProof.Rows

/-! ### functions -/
def spD (K : PySem.W.Frag) (φ : OpN) : Sp := fun vs H Q E => ∃ F G μ M ds r M', Rel K F G μ M H ∧ RepL K G μ vs ds ∧ φ ds M = some (r, M') ∧
  ∀ G' μ' H', Ext G μ G' μ' → Rel K F G' μ' M' H' → (∀ d, r = .ok d → ∀ v, Rep K G' μ' v d → Q v H') ∧ (∀ x, r = .exc x → ∀ cls dd, ExcR K G' μ' x cls dd → E cls dd H')
/-- a def's body, N slots, n parameters -/
def fnD (N n : Nat) (g : Sn) : OpN := fun ds M => if ds.length = n then (match g (ds.map some ++ List.replicate (N - n) none) M with
  | some (.nx, _, M') => some (.ok .non, M')
  | some (.rt d, _, M') => some (.ok d, M')
  | some (.exc x, _, M') => some (.exc x, M')
  | _ => none) else none
theorem EnvR.start {K : PySem.W.Frag} {G : Hp} {μ : List Addr} {N : List Str} {vs : List V} {ds : List D} {n : Nat} (h : RepL K G μ vs ds) (hn : ds.length = n) : EnvR K G μ (ds.map some ++ List.replicate (N.length - n) none) (start N vs) := by
  have hl := h.length
  refine ⟨by simp [L2.start, hl, hn], fun i d e => ?_⟩
  by_cases hi : i < ds.length
  · rw [List.getElem?_append_left (by simpa using hi), List.getElem?_map] at e
    cases q : ds[i]? with
    | none => rw [q] at e; cases e
    | some d' =>
      rw [q] at e
      cases e
      obtain ⟨v, h1, h2⟩ := h.get q
      refine ⟨v, ?_, h2⟩
      unfold L2.start
      rw [List.getElem?_append_left (by simp; omega), List.getElem?_map, h1]
      rfl
  · rw [List.getElem?_append_right (by simpa using hi), List.getElem?_replicate] at e
    split at e <;> cases e
section
variable {P : Program} {w : World} {K : PySem.W.Frag} {mg : Str → Option Value} {base : Heap}
theorem fn_ok {x qual : Str} {st : Stmt} {f : Addr} {fd : FuncData} {N ps : List Str} {k : Nat} {g : Sn} (F : Fun K x qual st f fd) (S : FnScope N ps (defScope st))
    (body : ∀ (cdv : Value) (A : Around) (outer : List PySem.Env) (s : Shared) (H : Hp) (E : XK), Room k (A.deeper (envOfC qual (defScope st) s.heap.objs.size f cdv)) →
      ∃ t, DSs (cxOf (L2.CX P w) P w K mg base N qual (defScope st) f cdv A outer s H E) (fun cls d _ H => E cls d H) (defBody st) t g) :
    FnOk P w K mg base (L2.CX P w) (k + 1) f fd ps (spD K (fnD N.length ps.length g)) := by
  have len : ∀ {ds : List D} {M : Mem} {r}, fnD N.length ps.length g ds M = some r → ds.length = ps.length := fun {ds M r} e => by
    unfold fnD at e
    split at e
    · assumption
    · cases e
  refine F.okX S (fun vs H Q E h => ?_) fun cdv A outer s H vs Q E hr h => ?_
  · obtain ⟨F0, G, μ, M, ds, r, M', R, rv, e, _⟩ := h
    rw [rv.length]; exact len e
  · obtain ⟨F0, G, μ, M, ds, r, M', R, rv, e, P⟩ := h
    have hl := len e
    obtain ⟨t, ht⟩ := body cdv A outer s H E hr
    refine ⟨t, ht.ps, ?_⟩
    unfold fnD at e
    rw [if_pos hl] at e
    cases q : g (ds.map some ++ List.replicate (N.length - ps.length) none) M with
    | none => rw [q] at e; cases e
    | some z =>
      obtain ⟨o, ρ', M1⟩ := z
      rw [q] at e
      refine ht.sx F0 G H μ M (start N vs) _ o ρ' M1 _ R (EnvR.start rv hl) q fun G' μ' H' σ' x R' E' => ?_
      cases o with
      | nx =>
        cases e
        exact ⟨fun _ => (P G' μ' H' x R').1 _ rfl _ .non, (fun z => nomatch z), (fun z => nomatch z), (fun _ z => nomatch z), fun _ z => nomatch z⟩
      | bk => cases e
      | ct => cases e
      | rt d =>
        cases e
        exact ⟨(fun z => nomatch z), (fun z => nomatch z), (fun z => nomatch z), (fun d' z => by cases z; exact (P G' μ' H' x R').1 _ rfl), fun _ z => nomatch z⟩
      | exc y =>
        cases e
        exact ⟨(fun z => nomatch z), (fun z => nomatch z), (fun z => nomatch z), (fun _ z => nomatch z), fun y' z => by cases z; exact (P G' μ' H' x R').2 _ rfl⟩
end
/-- a def of the module that keeps its promise; dvs: what its defaults stand for -/
structure Cal (P : Program) (w : World) (K : PySem.W.Frag) (mg : Str → Option Value) (base : Heap) (k : Nat) (x : Str) (φ : OpN) : Prop where
  ex : ∃ (f : Addr) (fd : FuncData) (ps : List Str), FnOk P w K mg base (L2.CX P w) k f fd ps (spD K φ) ∧ mg x = some (.ref f) ∧ PySem.W.keepIn K (.ref f) = true ∧ Binds K fd ps []
/-- a method of the class at C -/
structure Met (P : Program) (w : World) (K : PySem.W.Frag) (mg : Str → Option Value) (base : Heap) (k : Nat) (C : Addr) (m : Str) (φ : OpN) : Prop where
  ex : ∃ (f : Addr) (fd : FuncData) (ps : List Str), Cls K C ∧ Meth K C m f ∧ FnOk P w K mg base (L2.CX P w) k f fd ps (spD K φ) ∧ Binds K fd ps []
/-- a class, called -/
structure Mak (P : Program) (w : World) (K : PySem.W.Frag) (mg : Str → Option Value) (base : Heap) (k : Nat) (x : Str) (C : Addr) (φ : OpN) : Prop where
  ex : ∃ (f : Addr) (fd : FuncData) (ps : List Str), Mk K C f ∧ FnOk P w K mg base (L2.CX P w) k f fd ps (spD K φ) ∧ mg x = some (.ref C) ∧ Binds K fd ps []
theorem Cal.mono {P : Program} {w : World} {K : PySem.W.Frag} {mg : Str → Option Value} {base : Heap} {j k : Nat} {x : Str} {φ : OpN} (c : Cal P w K mg base j x φ) (h : j ≤ k) : Cal P w K mg base k x φ :=
  let ⟨f, fd, ps, h1, h2⟩ := c.ex
  ⟨f, fd, ps, h1.mono h, h2⟩

section
variable {X : Cx} {W : WX} {pos p : Pos} {e o : Expr} {fe fo : Fn D} {te uo : TE} {es : List Expr} {us : TA} {fs : Fn (List D)} {k j : Nat} {x m : Str} {φ : OpN} {C : Addr} {apos : Pos}
theorem spD_of {K : PySem.W.Frag} {F G H : Hp} {μ : List Addr} {M M' : Mem} {vs : List V} {ds : List D} {r : R D} {Q : VK} {σ : L2.St} (R : Rel K F G μ M H) (rv : RepL K G μ vs ds) (e : φ ds M = some (r, M')) (P : Post K F W (Rep K) σ Q G μ r M') : spD K φ vs H Q (WE W σ) :=
  ⟨F, G, μ, M, ds, r, M', R, rv, e, fun G' μ' H' x R' => ⟨(P G' μ' H' x R').1, (P G' μ' H' x R').2⟩⟩
theorem dx_call {K : PySem.W.Frag} (ha : DX K W (RepL K) us fs) : DX K W (Rep K) (tCallSD (spD K φ) [] (WE W) us) (fCall φ fs) :=
  fun F G H μ M σ ρ r M' Q R E e P => ha.go R E e P fun G1 μ1 H1 M1 xs ds e1 R1 E1 rx e2 P1 => by
    rw [List.append_nil]
    exact spD_of R1 rx e2 P1
theorem de_call {K' : PySem.W.Frag} (c : Cal X.prog X.w X.K X.mg X.base k x φ) (hr : Room j X.A) (tk : Takes X W) (hk : k ≤ j) (ha : DA X W (e :: es) us fs) (hg : Gl X x := by rfl)
    (hdb : (x == ("__debug__" : Str)) = false := by decide) (he : starEach (e :: es) X.env = (false, eval e X.env) :: starEach es X.env := by rfl) (hpl : (backTo pos (starEach es X.env)).any (·.1) = false := by rfl) (hK : X.K = K' := by rfl) :
    DE X W (.Call (.Name x p) (e :: es) [] pos) (tCallSD (spD K' φ) [] (WE W) us) (fCall φ fs) := by
  subst hK
  obtain ⟨f, fd, ps, hf, hm, hkp, hb⟩ := c.ex
  exact ⟨pe_callSD hf (hr.mono hk) hg hm hkp hb .nil (fun σ => passAt tk σ) ha.pe hdb he hpl, dx_call ha.dx⟩
def tCall0 (sp : Sp) (W : WX) : TE := fun σ H Q => sp [] H Q (WE W σ)
theorem de_call0 {K' : PySem.W.Frag} (c : Cal X.prog X.w X.K X.mg X.base k x φ) (hr : Room j X.A) (tk : Takes X W) (hk : k ≤ j) (hg : Gl X x := by rfl) (hdb : (x == ("__debug__" : Str)) = false := by decide) (hK : X.K = K' := by rfl) :
    DE X W (.Call (.Name x p) [] [] pos) (tCall0 (spD K' φ) W) (fCall φ fNil) := by
  subst hK
  obtain ⟨f, fd, ps, hf, hm, hkp, hb⟩ := c.ex
  refine ⟨⟨fun pins s σ H Q I h => ?_⟩, fun F G H μ M σ ρ r M' Q R E e P => spD_of R .nil e P⟩
  refine wpAny_Call_Name_kw (ld_glob I hg hm ?_ hdb)
  exact PySem.W.callWith_K0 I.kIn hkp (run_fnSD (us := []) (vs := []) (dvs := []) (ds := []) (E := WE W) hf (hr.mono hk) hb .nil (passAt tk σ) I .nil h)

/-! ### a call that neither reads nor changes cells -/
mutual
def pureF : List (Str × D) → Bool
  | [] => true
  | (_, d) :: r => d.pure && pureF r
end
def runP (φ : OpN) (ds : List D) : Option (R D) := match φ ds [] with
  | some (.ok d, _) => if d.pure = true then some (.ok d) else none
  | some (.exc x, _) => if pureF x.fs = true then some (.exc x) else none
  | none => none
def pureOp (φ : OpN) : OpN := fun ds M => if pureL ds = true then (match runP φ ds with
  | some r => some (r, M)
  | none => none) else none
theorem RepF.purely {K : PySem.W.Frag} {G : Hp} {μ μ' : List Addr} : ∀ {vs : List (Str × V)} {ds : List (Str × D)}, pureF ds = true → RepF K G μ vs ds → RepF K G μ' vs ds
  | [], [], _, _ => .nil
  | [], _ :: _, _, h => by cases h
  | _ :: _, [], _, h => by cases h
  | (_, v) :: vs, (_, d) :: ds, p, h => by
    have p' : d.pure = true ∧ pureF ds = true := by simpa [pureF] using p
    cases h with
    | cons h1 h2 => exact .cons ⟨h1.1, Rep.purely d p'.1 h1.2⟩ (RepF.purely p'.2 h2)
open Classical in
/-- cells become frame -/
theorem Rel.shut {K : PySem.W.Frag} {F G H : Hp} {μ : List Addr} {M : Mem} (R : Rel K F G μ M H) : ∃ F', Rel K F' G [] [] H ∧ ∀ G' H' μ' M', (∀ a o, G a = some o → G' a = some o) → Rel K F' G' μ' M' H' → Rel K F G' μ M H' := by
  refine ⟨fun a => if ∃ (i : Nat) (c : Cell), M[i]? = some (some c) ∧ μ[i]? = some a then H a else F a, ⟨R.sub, rfl, fun i c e => by simp at e, fun i j c d a e => by simp at e, fun a o e => ?_⟩, fun G' H' μ' M' hs R' => ?_⟩
  · split at e
    · rename_i hl
      obtain ⟨i, c, h1, h2⟩ := hl
      obtain ⟨a', h3, _, h4, _⟩ := R.cel i c h1
      rw [h2] at h3; cases h3
      exact ⟨e, h4⟩
    · exact R.frm a o e
  · have live : ∀ (i : Nat) (c : Cell) (a : Addr), M[i]? = some (some c) → μ[i]? = some a → H' a = H a ∧ G' a = none := fun i c a e1 e2 => by
      obtain ⟨a', h1, h2, _⟩ := R.cel i c e1
      rw [e2] at h1; cases h1
      obtain ⟨o, ho⟩ := h2.there
      have := R'.frm a o (by rw [if_pos ⟨i, c, e1, e2⟩]; exact ho)
      exact ⟨this.1.trans ho.symm, this.2⟩
    refine ⟨R'.sub, R.len, fun i c e => ?_, R.inj, fun a o e => ?_⟩
    · obtain ⟨a, h1, h2, h3, h4⟩ := R.cel i c e
      obtain ⟨l1, l2⟩ := live i c a e h1
      exact ⟨a, h1, h2.mono ⟨hs, fun _ _ z => z⟩ l1, l2, h4⟩
    · refine R'.frm a o ?_
      rw [if_neg ?_]
      · exact e
      · rintro ⟨i, c, e1, e2⟩
        obtain ⟨a', h1, h2, h3, h4⟩ := R.cel i c e1
        rw [e2] at h1; cases h1
        rw [h4] at e; cases e
theorem Cal.pure {P : Program} {w : World} {K : PySem.W.Frag} {mg : Str → Option Value} {base : Heap} (c : Cal P w K mg base k x φ) : Cal P w K mg base k x (pureOp φ) := by
  obtain ⟨f, fd, ps, hf, h2⟩ := c.ex
  refine ⟨f, fd, ps, hf.imp fun vs H Q E h => ?_, h2⟩
  obtain ⟨F, G, μ, M, ds, r, M', R, rv, e, P⟩ := h
  unfold pureOp at e
  split at e
  · rename_i hp
    split at e
    · rename_i r0 e1
      cases e
      unfold runP at e1
      obtain ⟨F', R0, back⟩ := R.shut
      cases q : φ ds [] with
      | none => rw [q] at e1; cases e1
      | some z =>
        obtain ⟨r1, M1⟩ := z
        rw [q] at e1
        refine ⟨F', G, [], [], ds, r1, M1, R0, rv.purely (μ' := []) ds hp, q, fun G' μ' H' x R' => ?_⟩
        have R2 := back G' H' μ' M1 x.sub R'
        have x2 : Ext G μ G' μ := ⟨x.sub, fun _ _ z => z⟩
        cases r1 with
        | ok d =>
          simp only at e1
          split at e1
          · rename_i hd
            cases e1
            exact ⟨fun d' z v rv' => by cases z; exact (P G' μ H' x2 R2).1 _ rfl v (Rep.purely d hd rv'), fun _ z => nomatch z⟩
          · cases e1
        | exc y =>
          simp only at e1
          split at e1
          · rename_i hd
            cases e1
            refine ⟨(fun _ z => nomatch z), fun y' z cls dd ex => ?_⟩
            cases z
            refine (P G' μ H' x2 R2).2 _ rfl cls dd ⟨ex.1, ?_⟩
            rcases ex.2 with z | ⟨d, fvs, h3, h4, h5⟩
            · exact .inl z
            · exact .inr ⟨d, fvs, h3, h4, h5.purely hd⟩
          · cases e1
    · cases e
  · cases e

/-! ### methods, instances -/
/-- the object behind a value: an instance of the class at C -/
def objOf (C : Addr) (M : Mem) (d : D) : Option (List (Str × D)) := match d with
  | .cell i => match M[i]? with
    | some (some (.obj C' fs)) => if C' = C then some fs else none
    | _ => none
  | _ => none
def fMeth (C : Addr) (m : Str) (φ : OpN) (fo : Fn D) (fs : Fn (List D)) : Fn D := fun ρ M => bnd (fo ρ M) fun d M1 => match objOf C M1 d with
  | some flds => if flds.lookup m = none then bnd (fs ρ M1) fun ds M2 => φ (d :: ds) M2 else none
  | none => none
theorem RepF.lookup {K : PySem.W.Frag} {G : Hp} {μ : List Addr} (f : Str) : ∀ {vs : List (Str × V)} {ds : List (Str × D)}, RepF K G μ vs ds → (ds.lookup f = none → vs.lookup f = none) ∧ ∀ d, ds.lookup f = some d → ∃ v, vs.lookup f = some v ∧ Rep K G μ v d
  | [], [], _ => ⟨(fun _ => rfl), fun d e => by cases e⟩
  | [], _ :: _, h => by cases h
  | _ :: _, [], h => by cases h
  | (g, v) :: vs, (g', d) :: ds, h => by
    cases h with
    | cons h1 h2 =>
      obtain ⟨e1, e2⟩ := h1
      have e1' : g = g' := e1
      subst e1'
      obtain ⟨i1, i2⟩ := RepF.lookup f h2
      by_cases hf : (f == g) = true
      · simp only [List.lookup, hf]
        exact ⟨(fun e => by cases e), fun d' e => by cases e; exact ⟨v, rfl, e2⟩⟩
      · have hf' : (f == g) = false := by simpa using hf
        simp only [List.lookup, hf']
        exact ⟨i1, i2⟩
def putFD (f : Str) (v : D) : List (Str × D) → List (Str × D)
  | [] => [(f, v)]
  | (g, x) :: r => if g = f then (g, v) :: r else (g, x) :: putFD f v r
theorem RepF.put {K : PySem.W.Frag} {G : Hp} {μ : List Addr} {f : Str} {v : V} {d : D} (r : Rep K G μ v d) : ∀ {vs : List (Str × V)} {ds : List (Str × D)}, RepF K G μ vs ds → RepF K G μ (putF f v vs) (putFD f d ds)
  | [], [], _ => .cons ⟨rfl, r⟩ .nil
  | [], _ :: _, h => by cases h
  | _ :: _, [], h => by cases h
  | (g, v') :: vs, (g', d') :: ds, h => by
    cases h with
    | cons h1 h2 =>
      obtain ⟨e1, e2⟩ := h1
      have e1' : g = g' := e1
      subst e1'
      unfold putF putFD
      by_cases hg : g = f
      · rw [if_pos hg, if_pos hg]; exact .cons ⟨rfl, r⟩ h2
      · rw [if_neg hg, if_neg hg]; exact .cons ⟨rfl, e2⟩ (RepF.put r h2)
theorem RepF.length {K : PySem.W.Frag} {G : Hp} {μ : List Addr} {vs : List (Str × V)} {ds : List (Str × D)} (h : RepF K G μ vs ds) : vs.length = ds.length := Paired.length h
theorem Rel.objQ {K : PySem.W.Frag} {F G H : Hp} {μ : List Addr} {M : Mem} (R : Rel K F G μ M H) {v : V} {d : D} {fs : List (Str × D)} (r : Rep K G μ v d) (e : objOf C M d = some fs) :
    ∃ i a dx fvs, d = .cell i ∧ M[i]? = some (some (.obj C fs)) ∧ v = .ref a ∧ μ[i]? = some a ∧ H a = some (.ins C dx fvs) ∧ RepF K G μ fvs fs := by
  cases d with
  | cell i =>
    have e' : (match M[i]? with | some (some (.obj C' fs)) => if C' = C then some fs else none | _ => none) = some fs := e
    split at e'
    · rename_i C' fs' hq
      split at e'
      · rename_i hC
        subst hC
        cases e'
        obtain ⟨a, dx, fvs, h1, h2, h3, h4⟩ := R.cellO r hq
        exact ⟨i, a, dx, fvs, rfl, hq, h1, h2, h3, h4⟩
      · cases e'
    · cases e'
  | _ => cases e
def tMethS (C : Addr) (m : Str) (sp : Sp) (W : WX) (ta : TE) (t : TA) : TE := fun σ H Q => ta σ H fun x H1 => ∃ a dx fs, x = .ref a ∧ H1 a = some (.ins C dx fs) ∧ fs.lookup m = none ∧
  t σ H1 fun vs H2 => sp (x :: vs) H2 Q (WE W σ)
theorem dx_meth {K : PySem.W.Frag} (ho : DX K W (Rep K) uo fo) (ha : DX K W (RepL K) us fs) : DX K W (Rep K) (tMethS C m (spD K φ) W uo us) (fMeth C m φ fo fs) :=
  fun F G H μ M σ ρ r M' Q R E e P => ho.go R E e P fun G1 μ1 H1 M1 v d e1 R1 E1 r1 e2 P1 => by
    split at e2
    · rename_i flds hq
      split at e2
      · rename_i hl
        obtain ⟨i, a, dx, fvs, rfl, hM, rfl, hμ, hH, hF⟩ := R1.objQ r1 hq
        exact ⟨a, dx, fvs, rfl, hH, (hF.lookup m).1 hl, ha.go R1 E1 e2 P1 fun G2 μ2 H2 M2 xs ds e3 R2 E2 rx e4 P2 => spD_of R2 (.cons (Rep.mono e3 _ r1) rx) e4 P2⟩
      · cases e2
    · cases e2
theorem de_meth {K' : PySem.W.Frag} {pl : Sem Bool} (c : Met X.prog X.w X.K X.mg X.base k C m φ) (hr : Room j X.A) (tk : Takes X W) (hk : k ≤ j) (ho : DE X W o uo fo) (ha : DA X W (e :: es) us fs)
    (hst : starEach (e :: es) X.env = (false, eval e X.env) :: starEach es X.env := by rfl) (hpl : (backTo pos (starEach es X.env)).any (·.1) = false := by rfl)
    (ht : eval (.Call (.Attribute o m apos) (e :: es) [] pos) X.env = (do
      let ov ← eval o X.env
      standAt apos.atName
      let (f, first) ← holding [ov] (getMethod ov m pl)
      callWith pos f first (backTo pos (starEach (e :: es) X.env)) (backToKw pos (keywordEach [] X.env))) := by rfl) (hK : X.K = K' := by rfl) :
    DE X W (.Call (.Attribute o m apos) (e :: es) [] pos) (tMethS C m (spD K' φ) W uo us) (fMeth C m φ fo fs) := by
  subst hK
  obtain ⟨f, fd, ps, hc, hm, hf, hb⟩ := c.ex
  refine ⟨⟨fun pins s σ H Q I h => ?_⟩, dx_meth ho.dx ha.dx⟩
  refine PySem.W.methodCall_KW (pl := pl) (thn (ho.pe.run pins s σ H _ I h) fun u s1 hh => ?_) ht
  obtain ⟨x, H1, I1, rx, a, dx, fs, ex, ea, l, q⟩ := hh
  subst ex
  obtain rfl : u = Value.ref a := rx
  refine getmeth_ok I1 ea hc hm l ?_
  refine PySem.W.callWith_K (first := [.ref a]) (h₀ := X.base) I.ok.mod.kin hm.kp (thn (ha.pe.run pos pins s1 σ H1 _ I1 q) fun us s2 ⟨vs, H2, I2, r, q2⟩ => ⟨I2.kIn, ?_⟩) hst hpl
  exact run_fnSD (us := .ref a :: us) (vs := .ref a :: vs) (dvs := []) (ds := []) (E := WE W) hf (hr.mono hk) hb .nil (passAt tk σ) I2 (.cons rfl r) (by rw [List.append_nil]; exact q2)
theorem de_meth0 {K' : PySem.W.Frag} {pl : Sem Bool} (c : Met X.prog X.w X.K X.mg X.base k C m φ) (hr : Room j X.A) (tk : Takes X W) (hk : k ≤ j) (ho : DE X W o uo fo)
    (ht : eval (.Call (.Attribute o m apos) [] [] pos) X.env = (do
      let ov ← eval o X.env
      standAt apos.atName
      let (f, first) ← holding [ov] (getMethod ov m pl)
      callWith pos f first (backTo pos (starEach [] X.env)) (backToKw pos (keywordEach [] X.env))) := by rfl) (hK : X.K = K' := by rfl) :
    DE X W (.Call (.Attribute o m apos) [] [] pos) (tMethS C m (spD K' φ) W uo tNil) (fMeth C m φ fo fNil) := by
  subst hK
  obtain ⟨f, fd, ps, hc, hm, hf, hb⟩ := c.ex
  refine ⟨⟨fun pins s σ H Q I h => ?_⟩, dx_meth ho.dx da_nil.dx⟩
  · refine PySem.W.methodCall_KW (pl := pl) (thn (ho.pe.run pins s σ H _ I h) fun u s1 hh => ?_) ht
    obtain ⟨x, H1, I1, rx, a, dx, fs, ex, ea, l, q⟩ := hh
    subst ex
    obtain rfl : u = Value.ref a := rx
    refine getmeth_ok I1 ea hc hm l ?_
    exact PySem.W.callWith_K0 (first := [.ref a]) I1.kIn hm.kp (run_fnSD (us := [.ref a]) (vs := [.ref a]) (dvs := []) (ds := []) (E := WE W) hf (hr.mono hk) hb .nil (passAt tk σ) I1 (.cons rfl .nil) q)
/-- o.f -/
def fFld (C : Addr) (f : Str) (fo : Fn D) : Fn D := fun ρ M => bnd (fo ρ M) fun d M1 => match objOf C M1 d with
  | some flds => (match flds.lookup f with
    | some v => some (.ok v, M1)
    | none => none)
  | none => none
theorem de_fld {K' : PySem.W.Frag} {f : Str} (hc : Cls X.K C) (hn : NoAttr X.K C f) (ho : DE X W o uo fo) (hb : attributeBase o f X.env (eval o X.env) = eval o X.env := by rfl) (hK : X.K = K' := by rfl) : DE X W (.Attribute o f pos) (tFld K' uo f) (fFld C f fo) := by
  subst hK
  exact ⟨pe_fld ho.pe hb, fun F G H μ M σ ρ r M' Q R E e P => ho.dx.go R E e P fun G1 μ1 H1 M1 v d e1 R1 E1 r1 e2 P1 => by
    split at e2
    · rename_i flds hq
      split at e2
      · rename_i v' hl
        cases e2
        obtain ⟨i, a, dx, fvs, rfl, hM, rfl, hμ, hH, hF⟩ := R1.objQ r1 hq
        obtain ⟨u, h1, h2⟩ := (hF.lookup f).2 _ hl
        exact ⟨a, C, dx, fvs, u, rfl, hH, hc, hn, h1, P1.now R1 h2⟩
      · cases e2
    · cases e2⟩
/-- o.f = e -/
def sFldD (C : Addr) (f : Str) (fo fe : Fn D) : Sn := fun ρ M => bndS (fe ρ M) ρ fun v M1 => bndS (fo ρ M1) ρ fun d M2 => match d with
  | .cell i => (match objOf C M2 (.cell i) with
    | some flds => if flds.length < 1000 then some (.nx, ρ, M2.set i (some (.obj C (putFD f v flds)))) else none
    | none => none)
  | _ => none
theorem ds_fld {f : Str} {pos' : Pos} (hc : Cls X.K C) (hn : NoAttr X.K C f) (ho : DE X W o uo fo) (he : DE X W e te fe) (hs : swapsWith e (some (.Attribute o f pos')) pos.line X.env = pure false := by rfl) :
    DS X W (.Assign [.Attribute o f pos'] e pos) (sFld X.K uo te f) (sFldD C f fo fe) :=
  ⟨ps_fld ho.pe he.pe hs, fun F G H μ M σ ρ oo ρ' M' Z R E e P => he.dx.goS R E e P fun G1 μ1 H1 M1 v dv e1 R1 E1 r1 e2 P1 => ho.dx.goS R1 E1 e2 P1 fun G2 μ2 H2 M2 x dx e3 R2 E2 r2 e4 P2 => by
    split at e4
    · rename_i i
      split at e4
      · rename_i flds hq
        split at e4
        · rename_i hl
          cases e4
          obtain ⟨i', a, dx', fvs, hi, hM, rfl, hμ, hH, hF⟩ := R2.objQ r2 hq
          cases hi
          have rv := Rep.mono e3 dv r1
          exact ⟨a, C, dx', fvs, rfl, hH, hc, hn, by rw [hF.length]; exact hl, (P2 G2 μ2 _ σ Ext.refl (R2.write (c' := .obj C (putFD f dv flds)) hM hμ ⟨dx', putF f v fvs, upd_same, hF.put rv⟩) E2).1 rfl⟩
        · cases e4
      · cases e4
    · cases e4⟩
/-- o.f op= e (ints, texts) -/
def sFldAugD (C : Addr) (f : Str) (op : Op2) (fo fe : Fn D) : Sn := fun ρ M => bndS (fo ρ M) ρ fun d M1 => match d with
  | .cell i => (match objOf C M1 (.cell i) with
    | some flds => (match flds.lookup f with
      | some v => bndS (fe ρ M1) ρ fun y M2 => bndS (op v y M2) ρ fun z M3 => (match objOf C M3 (.cell i) with
        | some flds' => if flds'.length < 1000 then some (.nx, ρ, M3.set i (some (.obj C (putFD f z flds')))) else none
        | none => none)
      | none => none)
    | none => none)
  | _ => none
theorem ds_fldaug {f : Str} {tpos : Pos} {op : Operator} {r : R2} {g : Op2} (hc : Cls X.K C) (hn : NoAttr X.K C f) (ho : DE X W o uo fo) (he : DE X W e te fe) (hop : OpR X (inplaceOp op) r) (hd : OpD X.K r g) :
    DS X W (.AugAssign (.Attribute o f tpos) op e pos) (sFldAug X.K uo te r f) (sFldAugD C f g fo fe) :=
  ⟨ps_fldaug ho.pe he.pe (fun pins s σ H x y u v Q I r1 r2 h => hop pins s σ H x y u v Q I r1 r2 h), fun F G H μ M σ ρ oo ρ' M' Z R E e P => ho.dx.goS R E e P fun G1 μ1 H1 M1 x dx e1 R1 E1 r1 e2 P1 => by
    split at e2
    · rename_i i
      split at e2
      · rename_i flds hq
        split at e2
        · rename_i dv hl
          obtain ⟨i', a, dx', fvs, hi, hM, rfl, hμ, hH, hF⟩ := R1.objQ r1 hq
          cases hi
          obtain ⟨u, h1, h2⟩ := (hF.lookup f).2 _ hl
          refine ⟨a, C, dx', fvs, u, rfl, hH, hc, hn, h1, he.dx.goS R1 E1 e2 P1 fun G2 μ2 H2 M2 y dy e3 R2 E2 r2 e4 P2 => ?_⟩
          cases q : g dv dy M2 with
          | none => rw [q] at e4; cases e4
          | some z =>
            obtain ⟨z, M3⟩ := z
            rw [q] at e4
            cases z with
            | exc y =>
              have e' : some (Out.exc y, ρ, M3) = some (oo, ρ', M') := e4
              cases e'
              exact hd (W := W) (σ := σ) R2 (Rep.mono e3 dv h2) r2 q fun G3 μ3 H3 x3 R3 => ⟨(fun _ z => nomatch z), fun x' hx => by cases hx; exact (P2 G3 μ3 H3 σ x3 R3 (E2.mono x3)).2.2.2.2 _ rfl⟩
            | ok dz =>
              refine hd (W := W) (σ := σ) R2 (Rep.mono e3 dv h2) r2 q fun G3 μ3 H3 x3 R3 => ⟨fun d' hd' b hb => ?_, fun _ z => nomatch z⟩
              cases hd'
              simp only [bndS_ok] at e4
              split at e4
              · rename_i flds' hq'
                split at e4
                · rename_i hl'
                  cases e4
                  have rc : Rep X.K G3 μ3 (.ref a) (.cell i) := Rep.mono (e3.trans x3) _ r1
                  obtain ⟨i2, a2, dx2, fvs2, hi2, hM2, ha2, hμ2, hH2, hF2⟩ := R3.objQ rc hq'
                  cases hi2
                  cases ha2
                  exact ⟨dx2, fvs2, hH2, by rw [hF2.length]; exact hl', (P2 G3 μ3 _ σ x3 (R3.write (c' := .obj C (putFD f dz flds')) hM2 hμ2 ⟨dx2, putF f b fvs2, upd_same, hF2.put hb⟩) (E2.mono x3)).1 rfl⟩
                · cases e4
              · cases e4
        · cases e2
      · cases e2
    · cases e2⟩
/-- C(..) -/
def fMake (C : Addr) (φ : OpN) (fs : Fn (List D)) : Fn D := fun ρ M => bnd (fs ρ M) fun ds M1 => match φ (.cell M1.length :: ds) (M1 ++ [some (.obj C [])]) with
  | some (.ok .non, M2) => some (.ok (.cell M1.length), M2)
  | _ => none
theorem dx_make {K : PySem.W.Frag} (ha : DX K W (RepL K) us fs) : DX K W (Rep K) (tMake C (spD K φ) [] E0 us) (fMake C φ fs) :=
  fun F G H μ M σ ρ r M' Q R E e P => ha.go R E e P fun G1 μ1 H1 M1 vs ds e1 R1 E1 rx e2 P1 => by
    intro x dx hx hdx hne
    have hx' : upd H1 dx (.own x) x = none := by rw [upd_ne (Ne.symm hne)]; exact hx
    have R2 := (R1.grow (o := .own x) hdx).cellNew (o := .ins C dx []) (c := .obj C []) hx' ⟨dx, [], upd_same, .nil⟩
    have rs : Rep K G1 (μ1 ++ [x]) (.ref x) (.cell M1.length) := .cell (by rw [← R1.len, List.getElem?_append_right (Nat.le_refl _)]; simp)
    split at e2
    · rename_i M2 q
      cases e2
      refine ⟨F, G1, μ1 ++ [x], _, _, _, _, R2, .cons rs (by rw [List.append_nil]; exact rx.mono ext_cell), q, fun G' μ' H' x' R' => ⟨fun d hd v rv => ?_, fun _ z => nomatch z⟩⟩
      cases hd
      cases rv
      exact ⟨rfl, (P1 G' μ' H' (Ext.trans ext_cell x') R').1 _ rfl _ (Rep.mono x' _ rs)⟩
    · cases e2
theorem de_make {K' : PySem.W.Frag} (c : Mak X.prog X.w X.K X.mg X.base k x C φ) (hr : Room j X.A) (hk : k + 1 ≤ j) (ha : DA X W (e :: es) us fs) (hg : Gl X x := by rfl) (hdb : (x == ("__debug__" : Str)) = false := by decide)
    (he : starEach (e :: es) X.env = (false, eval e X.env) :: starEach es X.env := by rfl) (hpl : (backTo pos (starEach es X.env)).any (·.1) = false := by rfl) (hK : X.K = K' := by rfl) :
    DE X W (.Call (.Name x p) (e :: es) [] pos) (tMake C (spD K' φ) [] E0 us) (fMake C φ fs) := by
  subst hK
  obtain ⟨f, fd, ps, hm, hf, hx, hb⟩ := c.ex
  exact ⟨pe_make hm hf (hr.mono hk) hg hx hb .nil passL ha.pe hdb he hpl, dx_make ha.dx⟩
theorem de_make0 {K' : PySem.W.Frag} (c : Mak X.prog X.w X.K X.mg X.base k x C φ) (hr : Room j X.A) (hk : k + 1 ≤ j) (hg : Gl X x := by rfl) (hdb : (x == ("__debug__" : Str)) = false := by decide) (hK : X.K = K' := by rfl) :
    DE X W (.Call (.Name x p) [] [] pos) (tMake C (spD K' φ) [] E0 tNil) (fMake C φ fNil) := by
  subst hK
  obtain ⟨f, fd, ps, hm, hf, hx, hb⟩ := c.ex
  exact ⟨pe_make0 hm hf (hr.mono hk) hg hx hb .nil passL hdb, dx_make (da_nil (X := X)).dx⟩

/-! ### o[i] = e : a list's cell, a dict's -/
def sSet (fo fi fe : Fn D) : Sn := fun ρ M => bndS (fe ρ M) ρ fun v M1 => bndS (fo ρ M1) ρ fun d M2 => bndS (fi ρ M2) ρ fun y M3 => match d with
  | .cell i => (match M3[i]? with
    | some (some (.lst ds)) => (match y with
      | .int z => (match ixN ds.length z with
        | some n => some (.nx, ρ, M3.set i (some (.lst (ds.set n v))))
        | none => none)
      | _ => none)
    | some (some (.dic es)) => (match keyOf y with
      | some k => if es.length < 16777216 then some (.nx, ρ, M3.set i (some (.dic (putD es k v)))) else none
      | none => none)
    | _ => none)
  | _ => none
def rSetX : V → V → V → Hp → (Hp → Prop) → Prop := fun o i v H Q => rSetL o i v H Q ∨ ∃ a H', o = .ref a ∧ DPut H a i v H' ∧ Q H'
theorem set_all (hr : ∃ k, Room k X.A) : PSet X rSetX := by
  intro pins s σ H o i v ov iv u Q I ro ri rv h
  obtain ⟨k, hr⟩ := hr
  have hu := hr.un
  rcases h with h | ⟨a, H', rfl, g, q⟩
  · exact set_list pins s σ H o i v ov iv u Q I ro ri rv h
  · cases ro
    exact d_setItem (by omega) I g ri rv fun s' I' => ⟨H', I', q⟩
theorem putD_length (es : List (Key × D)) (k : Key) (d : D) : (putD es k d).length ≤ es.length + 1 := by
  unfold putD
  split
  · simp
  · simp
theorem ds_setI {i : Expr} {fi : Fn D} {ui : TE} {tpos : Pos} (hr : ∃ k, Room k X.A) (ho : DE X W o uo fo) (hi : DE X W i ui fi) (he : DE X W e te fe)
    (ha : ∀ v, assign (.Subscript o i tpos) X.env v = (do
      let ov ← holding [v] (eval o X.env)
      let iv ← holding [v, ov] (eval i X.env)
      standAt tpos
      holding [v, ov, iv] (setItem ov iv v)
      release [v, ov, iv] []) := by intro _; rfl)
    (hs : swapsWithSole [.Subscript o i tpos] e pos.line X.env = pure false := by rfl) (hw : swappedStores [.Subscript o i tpos] e X.env = pure none := by rfl)
    (h1 : (assignEach [.Subscript o i tpos] X.env).map (·.2) = [assign (.Subscript o i tpos) X.env] := by rfl) :
    DS X W (.Assign [.Subscript o i tpos] e pos) (tAsg te (gSub uo ui rSetX)) (sSet fo fi fe) :=
  ⟨ps_asg he.pe (pg_sub ho.pe hi.pe (set_all hr) ha) hs hw h1, fun F G H μ M σ ρ oo ρ' M' Z R E e P => he.dx.goS R E e P fun G1 μ1 H1 M1 v dv e1 R1 E1 r1 e2 P1 => ho.dx.goS R1 E1 e2 P1 fun G2 μ2 H2 M2 x dx e3 R2 E2 r2 e4 P2 => hi.dx.goS R2 E2 e4 P2 fun G3 μ3 H3 M3 y dy e5 R3 E3 r3 e6 P3 => by
    have rv := Rep.mono (e3.trans e5) dv r1
    have rx := Rep.mono e5 dx r2
    split at e6
    · rename_i i
      split at e6
      · rename_i ds hM
        split at e6
        · split at e6
          · rename_i n hn
            cases e6
            cases r3
            obtain ⟨a, vs, rfl, hμ, hH, hz, hl⟩ := R3.cellL rx hM
            refine .inl ⟨a, vs, _, n, rfl, rfl, hH, by rw [hl.length]; exact hn, ?_⟩
            exact (P3 G3 μ3 _ σ Ext.refl (R3.write (c' := .lst (ds.set n dv)) hM hμ ⟨vs.set n v, upd_same, by rw [List.length_set]; exact hz, hl.set n rv⟩) E3).1 rfl
          · cases e6
        · cases e6
      · rename_i es hM
        split at e6
        · rename_i kk hk
          split at e6
          · rename_i hlt
            cases e6
            obtain ⟨a, kvs, rfl, hμ, hH, hz, hl⟩ := R3.cellD rx hM
            have hy := keyOf_rep r3 hk
            subst hy
            refine .inr ⟨a, _, rfl, DPut.k (k := kk) hH (by rw [hl.length, line]; exact hlt), ?_⟩
            exact (P3 G3 μ3 _ σ Ext.refl (R3.write (c' := .dic (putD es kk dv)) hM hμ ⟨putK kvs kk v, upd_same, by have := putD_length es kk dv; omega, hl.put rv⟩) E3).1 rfl
          · cases e6
        · cases e6
      · cases e6
    · cases e6⟩

/-! ### methods of built-in types -/
def MtD (K : PySem.W.Frag) (r : V → List V → Hp → VK → Prop) (T : String) (g : D → OpN) : Prop :=
  ∀ {F G H : Hp} {W : WX} {μ : List Addr} {M : Mem} {σ : L2.St} {x : V} {dx : D} {xs : List V} {ds : List D} {r' : R D} {M' : Mem} {Q : VK}, Rel K F G μ M H → Rep K G μ x dx → RepL K G μ xs ds → g dx ds M = some (r', M') → Post K F W (Rep K) σ Q G μ r' M' → r x xs H Q
/-- what the receiver is, ahead of the arguments -/
def isTy (T : String) (M : Mem) (d : D) : Bool := match d with
  | .str _ => T == "str"
  | .cell i => (match M[i]? with
    | some (some (.lst _)) => T == "list"
    | some (some (.dic _)) => T == "dict"
    | _ => false)
  | .lst _ => T == "list"
  | _ => false
def fBM (T : String) (g : D → OpN) (fo : Fn D) (fs : Fn (List D)) : Fn D := fun ρ M => bnd (fo ρ M) fun d M1 => if isTy T M1 d = true then bnd (fs ρ M1) fun ds M2 => g d ds M2 else none
end
end DL

namespace DL
open PySem L2 PySem.Spec PyProof.Rows

abbrev gSub : Op2 := intOp fun i j => i - j
abbrev gDiv : Op2 := intOpC bDiv fun i j => i.fdiv j
abbrev gMod : Op2 := intOpC bNe0 fun i j => i.fmod j
abbrev gPow : Op2 := intOpC bPow fun i j => i ^ j.toNat
abbrev gShl : Op2 := intOpC bPow fun i j => i * 2 ^ j.toNat
abbrev gShr : Op2 := intOpC bNN fun i j => i / 2 ^ j.toNat
abbrev gXor : Op2 := intOp Builtin.bitXor
abbrev gMulI : Op2 := intOpC bMul fun i j => i * j
abbrev gLt : Op2 := intCmp fun i j => decide (i < j)
abbrev gGt : Op2 := intCmp fun i j => decide (j < i)
abbrev gGe : Op2 := intCmp fun i j => decide (j ≤ i)
theorem nox_lt : NoX gLt := nox_cmp _
theorem nox_gt : NoX gGt := nox_cmp _
theorem nox_ge : NoX gGe := nox_cmp _
section
variable {X : Cx}
theorem op_eqX (hr : ∃ k, Room k X.A) : OpR X (compareOp .Eq) (rEqX (K := X.K)) := by
  obtain ⟨k, hr⟩ := hr
  have h1 := hr.un
  exact op_eq.or (op_eqD (by omega))
theorem op_neX (hr : ∃ k, Room k X.A) : OpR X (compareOp .NotEq) (rNeX (K := X.K)) := by
  obtain ⟨k, hr⟩ := hr
  have h1 := hr.un
  exact op_ne.or (op_neD (by omega))
theorem iop_fdivN : OpR X (inplaceOp .FloorDiv) (rI CDivN fun i j => .int (i.fdiv j)) := opI fun _ _ _ _ _ _ _ hc q => ifloordiv_int hc.1 q (.inl (PyProof.noPylong_small hc.2))
theorem iop_modN : OpR X (inplaceOp .Mod) (rI (fun _ j => j ≠ 0) fun i j => .int (i.fmod j)) := opI fun _ _ _ _ _ _ _ hc q => imod_int hc q
end
section
variable {K : PySem.W.Frag}
def mulL : Op2 := fun x y M => match listOf M x, y with
  | some xs, .int k => if (-(2 ^ 63) ≤ k ∧ k < 2 ^ 63) ∧ xs.length * k.toNat ≤ 16777216 then some (.ok (.lst (List.replicate k.toNat xs).flatten), M) else none
  | _, _ => none
def rRepR : R2 := fun x y H Q => ∃ l k xs, x = .ref l ∧ y = .int k ∧ H l = some (.lst xs) ∧ -(2 ^ 63) ≤ k ∧ k < 2 ^ 63 ∧ xs.length * k.toNat ≤ sizeLine ∧ ∀ p, H p = none → Q (.ref p) (upd H p (.lst (List.replicate k.toNat xs).flatten))
/-- where it is a tracked list (not the script) -/
theorem opd_neg : True := trivial
def gNeg : D → Mem → Option (R D × Mem) := fun d M => match d with
  | .int i => some (.ok (.int (-i)), M)
  | _ => none
@[simp] theorem gNeg_int (i : Int) (M : Mem) : gNeg (.int i) M = some (.ok (.int (-i)), M) := rfl
theorem und_neg : UnD K (rU fun i => .int (-i)) gNeg := by
  intro F G H W μ M σ x dx r' M' Q R rx e P
  unfold gNeg at e
  split at e
  · cases e
    cases rx
    exact ⟨_, rfl, P.now R (.int _)⟩
  · cases e

/-! ### isinstance -/
def tyName (M : Mem) : D → Option String
  | .non => some "NoneType" | .bl _ => some "bool" | .int _ => some "int" | .str _ => some "str" | .tup _ => some "tuple" | .lst _ => some "list" | .dic _ => some "dict"
  | .cell i => (match M[i]? with
    | some (some (.lst _)) => some "list"
    | some (some (.dic _)) => some "dict"
    | _ => none)
  | _ => none
def tyTable : List String := ["int", "bool", "str", "dict", "list", "tuple"]
def isT (a b : String) : Bool := a == b || (a == "bool" && b == "int")
theorem isT_ok (a b : String) (ha : a ∈ ["NoneType", "bool", "int", "str", "tuple", "list", "dict"]) (hb : b ∈ tyTable) : kitB a b = some (isT a b) := by
  simp only [tyTable, List.mem_cons, List.not_mem_nil, or_false] at ha hb
  rcases ha with rfl | rfl | rfl | rfl | rfl | rfl | rfl <;> rcases hb with rfl | rfl | rfl | rfl | rfl | rfl <;> decide +kernel
theorem Rel.tyx {F G H : Hp} {μ : List Addr} {M : Mem} (R : Rel K F G μ M H) {v : V} {d : D} {a : String} (r : Rep K G μ v d) (e : tyName M d = some a) : TyX K H v (.type a) ∧ a ∈ ["NoneType", "bool", "int", "str", "tuple", "list", "dict"] := by
  cases r with
  | non => cases e; exact ⟨.base .non, by decide⟩
  | bl b => cases e; exact ⟨.base (.bl b), by decide⟩
  | int b => cases e; exact ⟨.base (.int b), by decide⟩
  | str b => cases e; exact ⟨.base (.str b), by decide⟩
  | tup h1 hz h2 =>
    cases e
    refine ⟨?_, by decide⟩
    rcases h1 with (h1 | ⟨o, h1⟩) | ⟨o, its, n, hk, hc, _⟩
    · exact .base (.tup (R.sub _ _ h1))
    · exact .fTuple (R.sub _ _ h1)
    · exact .kTuple hk hc
  | lst h1 hz h2 =>
    cases e
    refine ⟨?_, by decide⟩
    rcases h1 with (h1 | ⟨o, h1⟩) | ⟨o, its, n, hk, hc, _⟩
    · exact .base (.lst (R.sub _ _ h1))
    · exact .base (.frz (R.sub _ _ h1))
    · exact .kList hk hc
  | dic h1 hz h2 =>
    cases e
    refine ⟨?_, by decide⟩
    rcases h1 with h1 | ⟨o, h1⟩
    · exact .base (.dK (R.sub _ _ h1))
    · exact .fDict (R.sub _ _ h1)
  | @cell i a' h1 =>
    have e' : (match M[i]? with | some (some (.lst _)) => some "list" | some (some (.dic _)) => some "dict" | _ => none) = some a := e
    split at e'
    · rename_i xs hq
      cases e'
      obtain ⟨b, vs, hb, _, h3, _⟩ := R.cellL (.cell h1) hq
      cases hb
      exact ⟨.base (.lst h3), by decide⟩
    · rename_i xs hq
      cases e'
      obtain ⟨b, vs, hb, _, h3, _⟩ := R.cellD (.cell h1) hq
      cases hb
      exact ⟨.base (.dK h3), by decide⟩
    · cases e'
  | any v => cases e
def gIsi : OpN := fun ds M => match ds with
  | [d, .any (.ty n)] => (match tyName M d with
    | some a => if n ∈ tyTable then some (.ok (.bl (isT a n)), M) else none
    | none => none)
  | _ => none
theorem cad_isi : CallD K (rIsi K) gIsi := by
  intro F G H W μ M σ xs ds r' M' Q R rx e P
  unfold gIsi at e
  split at e
  · rename_i n
    split at e
    · rename_i a e1
      split at e
      · rename_i hn
        cases e
        obtain ⟨v, v', rfl, h1, h2⟩ := rx.two
        cases h2
        obtain ⟨t1, t2⟩ := R.tyx h1 e1
        exact ⟨v, .ty n, .type a, .type n, isT a n, rfl, .ty n, t1, kit_ty (isT_ok a n t2 hn), P.now R (.bl _)⟩
      · cases e
    · cases e
  · cases e
def gOrd : OpN := fun ds M => match ds with
  | [.str x] => if x.length = 1 then some (.ok (.int (x.cps.getD 0 0 : Nat)), M) else none
  | _ => none
theorem cad_ord : CallD K (fun xs H Q => ∃ x, xs = [.str x] ∧ x.length = 1 ∧ Q (.int (x.cps.getD 0 0 : Nat)) H) gOrd := by
  intro F G H W μ M σ xs ds r' M' Q R rx e P
  unfold gOrd at e
  split at e
  · split at e
    · rename_i x hx
      cases e
      obtain ⟨v, rfl, h1⟩ := rx.one
      cases h1
      exact ⟨x, rfl, hx, P.now R (.int _)⟩
    · cases e
  · cases e
def gStr : OpN := fun ds M => match ds with
  | [.int i] => if i.natAbs.log2 < 1920 then some (.ok (.str (toString i)), M) else none
  | _ => none
theorem cad_str : CallD K (fun xs H Q => ∃ i, xs = [.int i] ∧ i.natAbs.log2 < 1920 ∧ Q (.str (toString i)) H) gStr := by
  intro F G H W μ M σ xs ds r' M' Q R rx e P
  unfold gStr at e
  split at e
  · split at e
    · rename_i x hx
      cases e
      obtain ⟨v, rfl, h1⟩ := rx.one
      cases h1
      exact ⟨x, rfl, hx, P.now R (.str _)⟩
    · cases e
  · cases e
end
section
variable {X : Cx} {W : WX} {pos p : Pos} {e o k v : Expr} {fe fo fk fv : Fn D} {te uo uk uv : TE} {es : List Expr} {us : TA} {fs : Fn (List D)}
/-- a built-in type, by its name -/
theorem de_ty {x : Str} {n : String} (hm : X.mg x = none) (hv : bootBuiltins x = some (.type n)) (hg : Gl X x := by rfl) (hn : x ≠ "__name__" := by decide) (hdb : (x == ("__debug__" : Str)) = false := by decide) : DE X W (.Name x pos) (tC (.ty n)) (fC (.any (.ty n))) :=
  ⟨⟨fun pins s σ H Q I h => ld_blt I hg hm hv ⟨.ty n, H, I, rfl, h⟩ hn hdb⟩, dx_const fun _ _ => .any _⟩
def sNever : Sn := fun _ _ => none
theorem dss_never {sts : List Stmt} : DSs X W sts tNever sNever := ⟨pss_never, fun F G H μ M σ ρ o ρ' M' Z R E e P => by cases e⟩
def sBreak : Sn := fun ρ M => some (.bk, ρ, M)
def sCont : Sn := fun ρ M => some (.ct, ρ, M)

/-! ### dicts -/
def fDic0 : Fn D := fun _ M => some (.ok (.dic []), M)
def fDicC : Fn D := fun _ M => some (.ok (.cell M.length), M ++ [some (.dic [])])
theorem de_dnew : DE X W (.Dict [] [] pos) tDNewK fDic0 := ⟨pe_dnewK, fun F G H μ M σ ρ r M' Q R E e P => by
  cases e
  exact fun p hp => P.newD R hp (Nat.zero_le _) .nil⟩
theorem de_dnewC : DE X W (.Dict [] [] pos) tDNewK fDicC := ⟨pe_dnewK, fun F G H μ M σ ρ r M' Q R E e P => by
  cases e
  exact fun p hp => P.newC R hp ⟨[], upd_same, Nat.zero_le _, .nil⟩⟩
inductive RepP (K : PySem.W.Frag) (G : Hp) (μ : List Addr) : List (V × V) → List (D × D) → Prop
  | nil : RepP K G μ [] []
  | cons {k v : V} {kd vd : D} {r : List (V × V)} {s : List (D × D)} : Rep K G μ k kd → Rep K G μ v vd → RepP K G μ r s → RepP K G μ ((k, v) :: r) ((kd, vd) :: s)
structure DPs (X : Cx) (W : WX) (pos : Pos) (ks : List (Option Expr)) (vs : List Expr) (trs : List (TE × TE)) (f : Fn (List (D × D))) : Prop where
  pe : PPs X pos ks vs trs
  dx : DX X.K W (RepP X.K) (tPairs trs) f
  all : ks.all (·.isSome) = true
  len : ks.length = vs.length
def fPN : Fn (List (D × D)) := fun _ M => some (.ok [], M)
def fPC (fk fv : Fn D) (f : Fn (List (D × D))) : Fn (List (D × D)) := fun ρ M => bnd (fk ρ M) fun a M1 => bnd (fv ρ M1) fun b M2 => bnd (f ρ M2) fun r M3 => some (.ok ((a, b) :: r), M3)
theorem dps_nil : DPs X W pos [] [] [] fPN := ⟨pps_nil, fun F G H μ M σ ρ r M' Q R E e P => by cases e; exact P.now R .nil, rfl, rfl⟩
theorem dps_cons {ks : List (Option Expr)} {vs : List Expr} {trs : List (TE × TE)} {f : Fn (List (D × D))} (hk : DE X W k uk fk) (hv : DE X W v uv fv) (h : DPs X W pos ks vs trs f) : DPs X W pos (some k :: ks) (v :: vs) ((uk, uv) :: trs) (fPC fk fv f) :=
  ⟨pps_cons hk.pe hv.pe h.pe, fun F G H μ M σ ρ r M' Q R E e P => hk.dx.go R E e P fun G1 μ1 H1 M1 x dx e1 R1 E1 r1 e2 P1 => hv.dx.go R1 E1 e2 P1 fun G2 μ2 H2 M2 y dy e3 R2 E2 r2 e4 P2 => h.dx.go R2 E2 e4 P2 fun G3 μ3 H3 M3 z dz e5 R3 E3 r3 e6 P3 => by
    cases e6
    exact P3.now R3 (.cons (Rep.mono (e3.trans e5) dx r1) (Rep.mono e5 dy r2) r3), by simp [h.all], by simp [h.len]⟩
/-- the pairs of a display, later ones over earlier ones -/
def mergeD (es : List (Key × D)) (r : List (Key × D)) : List (Key × D) := r.foldl (fun acc e => putD acc e.1 e.2) es
def keysOf : List (D × D) → Option (List (Key × D))
  | [] => some []
  | (k, d) :: r => (match keyOf k, keysOf r with
    | some k, some r => some ((k, d) :: r)
    | _, _ => none)
theorem keysOf_rep {K : PySem.W.Frag} {G : Hp} {μ : List Addr} : ∀ {r : List (D × D)} {ps : List (V × V)} {es : List (Key × D)}, RepP K G μ ps r → keysOf r = some es → ∃ kvs : List (Key × V), ps = kvs.map (fun kv => (kV kv.1, kv.2)) ∧ RepK K G μ kvs es
  | [], _, _, h, e => by cases h; cases e; exact ⟨[], rfl, .nil⟩
  | (k, d) :: r, _, es, h, e => by
    unfold keysOf at e
    split at e
    · rename_i k' r' e1 e2
      cases e
      cases h with
      | cons h1 h2 h3 =>
        obtain ⟨kvs, rfl, h4⟩ := keysOf_rep h3 e2
        have := keyOf_rep h1 e1
        subst this
        exact ⟨(k', _) :: kvs, rfl, .cons h2 h4⟩
    · cases e
theorem RepK.merge {K : PySem.W.Frag} {G : Hp} {μ : List Addr} : ∀ {more : List (Key × V)} {rs : List (Key × D)} {kvs : List (Key × V)} {es : List (Key × D)}, RepK K G μ more rs → RepK K G μ kvs es → RepK K G μ (mergeK kvs more) (mergeD es rs)
  | [], [], _, _, _, h => h
  | [], _ :: _, _, _, h, _ => by cases h
  | _ :: _, [], _, _, h, _ => by cases h
  | (k, v) :: more, (_, d) :: rs, kvs, es, h, h' => by
    cases h with
    | cons h1 h2 =>
      show RepK K G μ (mergeK (putK kvs k v) more) (mergeD (putD es k d) rs)
      exact RepK.merge h2 (h'.put h1)
theorem mergeD_length : ∀ (rs es : List (Key × D)), (mergeD es rs).length ≤ es.length + rs.length
  | [], es => by simp [mergeD]
  | (k, d) :: rs, es => by
    have h1 := mergeD_length rs (putD es k d)
    have h2 := putD_length es k d
    have : mergeD es ((k, d) :: rs) = mergeD (putD es k d) rs := rfl
    rw [this, List.length_cons]
    omega
def fDisp (f : Fn (List (D × D))) : Fn D := fun ρ M => bnd (f ρ M) fun r M1 => match keysOf r with
  | some es => if es.length ≤ 15 then some (.ok (.dic (mergeD [] es)), M1) else none
  | none => none
def fDispC (f : Fn (List (D × D))) : Fn D := fun ρ M => bnd (f ρ M) fun r M1 => match keysOf r with
  | some es => if es.length ≤ 15 then some (.ok (.cell M1.length), M1 ++ [some (.dic (mergeD [] es))]) else none
  | none => none
theorem RepK.len15 {K : PySem.W.Frag} {G : Hp} {μ : List Addr} {kvs : List (Key × V)} {es : List (Key × D)} (h : RepK K G μ kvs es) (hl : es.length ≤ 15) : kvs.length ≤ 15 := by rw [h.length]; exact hl
theorem de_disp {ks : List (Option Expr)} {vs : List Expr} {trs : List (TE × TE)} {f : Fn (List (D × D))} (h : DPs X W pos ks vs trs f) (h0 : ks ≠ []) (h15 : ks.length ≤ 15) : DE X W (.Dict ks vs pos) (tDisp trs) (fDisp f) :=
  ⟨pe_disp h.pe h.all h.len h0 h15, fun F G H μ M σ ρ r M' Q R E e P => by
    intro p hp
    have hF := R.freshF hp
    refine h.dx.go (R.frame (o := .dK []) hp) E e (W := W) (Q' := fun v H' => Q v H') (Rp' := Rep X.K) (σ := σ) ?_ fun G1 μ1 H1 M1 ps r1 e1 R1 E1 rp e2 P1 => ?_
    · intro G' μ' H' x R'
      have hh := (R'.frm p _ upd_same)
      obtain ⟨R2, hG⟩ := R'.unframe hF
      exact ⟨fun a ha b hb => (P _ μ' H' (x.trans (ext_upd hG)) R2).1 a ha b (Rep.mono (ext_upd hG) a hb), fun y hy cls dd ex => (P _ μ' H' (x.trans (ext_upd hG)) R2).2 y hy cls dd (ex.mono (ext_upd hG))⟩
    · split at e2
      · rename_i es e3
        split at e2
        · rename_i hl
          cases e2
          obtain ⟨kvs, rfl, rk⟩ := keysOf_rep rp e3
          refine ⟨(R1.frm p _ upd_same).1, kvs, rfl, rk.len15 hl, ?_⟩
          have R2 := R1.reframe (o' := .dK (mergeK [] kvs))
          obtain ⟨R3, hG⟩ := R2.unframe hF
          have hz := mergeD_length es []
          simp only [List.length_nil] at hz
          exact (P _ μ1 _ (e1.trans (ext_upd hG)) R3).1 _ rfl _ (.dic (.inl upd_same) (by omega) ((rk.merge .nil).mono (ext_upd hG)))
        · cases e2
      · cases e2⟩
theorem de_dispC {ks : List (Option Expr)} {vs : List Expr} {trs : List (TE × TE)} {f : Fn (List (D × D))} (h : DPs X W pos ks vs trs f) (h0 : ks ≠ []) (h15 : ks.length ≤ 15) : DE X W (.Dict ks vs pos) (tDisp trs) (fDispC f) :=
  ⟨pe_disp h.pe h.all h.len h0 h15, fun F G H μ M σ ρ r M' Q R E e P => by
    intro p hp
    have hF := R.freshF hp
    refine h.dx.go (R.frame (o := .dK []) hp) E e (W := W) (Q' := fun v H' => Q v H') (Rp' := Rep X.K) (σ := σ) ?_ fun G1 μ1 H1 M1 ps r1 e1 R1 E1 rp e2 P1 => ?_
    · intro G' μ' H' x R'
      obtain ⟨R2, hG⟩ := R'.unframe hF
      exact ⟨fun a ha b hb => (P _ μ' H' (x.trans (ext_upd hG)) R2).1 a ha b (Rep.mono (ext_upd hG) a hb), fun y hy cls dd ex => (P _ μ' H' (x.trans (ext_upd hG)) R2).2 y hy cls dd (ex.mono (ext_upd hG))⟩
    · split at e2
      · rename_i es e3
        split at e2
        · rename_i hl
          cases e2
          obtain ⟨kvs, rfl, rk⟩ := keysOf_rep rp e3
          refine ⟨(R1.frm p _ upd_same).1, kvs, rfl, rk.len15 hl, ?_⟩
          have R2 := R1.reframe (o' := .dK (mergeK [] kvs))
          have hz := mergeD_length es []
          simp only [List.length_nil] at hz
          have R3 := R2.uncell (c := .dic (mergeD [] es)) hF ⟨_, upd_same, by omega, rk.merge .nil⟩
          exact (P _ _ _ (e1.trans ext_cell) R3).1 _ rfl _ (.cell (by rw [← R1.len, List.getElem?_append_right (Nat.le_refl _)]; simp))
        · cases e2
      · cases e2⟩

/-! ### comprehensions: as a cell; stored under a name -/
variable {elt tg iter : Expr} {ifs : List Expr} {scope : Scope} {own : List (Str × Nat)} {wi : TI} {gt : TG} {tt : TT} {f : Fn (List D)} {gg : Tg} {ft : Fn Bool} {js : List Nat}
theorem DC.dxC (h : DC X W elt tg iter ifs scope own wi gt tt te f gg ft fe js) (s : Shared) (H₀ : Hp) (C : Addr) (cl : List (Str × Addr)) (fp : List Addr) :
    DX X.K W (Rep X.K) (tLc wi gt tt te (own.map (·.2))) (fCompC f gg ft fe (own.map (·.2))) := fun F G H μ M σ ρ r M' Q R E e P => by
  refine dx_comp (k := fun ys M2 => some (.ok (.cell M2.length), (M2 ++ [some (Cell.lst ys)] : Mem))) h.hi.dx (h.hg s H₀ C cl fp).gx h.hl h.hj' (h.ht s H₀ C cl fp).dx (h.he s H₀ C cl fp).dx R E e P fun G1 μ1 H1 M1 p ws ys x1 R1 hF rw1 hz2 e1 => ?_
  cases e1
  have hc : CellOk X.K G1 μ1 H1 p (.lst ys) := ⟨ws, (R1.frm p _ upd_same).1, hz2, rw1⟩
  exact (P _ _ _ (x1.trans ext_cell) (R1.uncell hF hc)).1 _ rfl _ (.cell (by rw [← R1.len, List.getElem?_append_right (Nat.le_refl _)]; simp))
theorem de_lcC (h : DC X W elt tg iter ifs scope own wi gt tt te f gg ft fe js) : DE X W (.ListComp elt [⟨tg, iter, ifs, 0⟩] scope pos) (tLc wi gt tt te (own.map (·.2))) (fCompC f gg ft fe (own.map (·.2))) :=
  ⟨⟨fun pins s σ H Q I hq => (pe_lc h.hc h.hN h.hi.pi (blkOk_by h.ok) (fun s H C cl fp => (h.hg s H C cl fp).pg) (fun s H C cl fp => (h.ht s H C cl fp).pe) (fun s H C cl fp => (h.he s H C cl fp).pe) h.hs).run pins s σ H Q I hq⟩,
   h.dxC X.s_0 X.H_0 0 [] []⟩
theorem ds_setLc (i : Nat) {y : Str} {py spos : Pos} (hy : X.N[i]? = some y) (hyl : X.env.scope.names.lookup y = some .local) (hsw : swapsWith (.ListComp elt [⟨tg, iter, ifs, 0⟩] scope pos) (some (.Name y py)) spos.line X.env = pure true)
    (h : DC X W elt tg iter ifs scope own wi gt tt te f gg ft fe js) : DS X W (.Assign [.Name y py] (.ListComp elt [⟨tg, iter, ifs, 0⟩] scope pos) spos) (tAsg (tLc wi gt tt te (own.map (·.2))) (gName i)) (sAsg (fComp f gg ft fe (own.map (·.2))) (yName i)) :=
  ⟨ps_setLc h.hc h.hN hy hyl hsw h.hi.pi (blkOk_by h.ok) (fun s H C cl fp => (h.hg s H C cl fp).pg) (fun s H C cl fp => (h.ht s H C cl fp).pe) (fun s H C cl fp => (h.he s H C cl fp).pe) h.hs,
   sx_asg (js := [i]) (h.dx X.s_0 X.H_0 0 [] []) fun F G H μ M σ ρ ρ' v d Q R E r e q => by cases e; exact q _ (E.set r) fun j hj => List.getElem?_set_ne fun z => hj (by simp [z])⟩
theorem ds_setLcC (i : Nat) {y : Str} {py spos : Pos} (hy : X.N[i]? = some y) (hyl : X.env.scope.names.lookup y = some .local) (hsw : swapsWith (.ListComp elt [⟨tg, iter, ifs, 0⟩] scope pos) (some (.Name y py)) spos.line X.env = pure true)
    (h : DC X W elt tg iter ifs scope own wi gt tt te f gg ft fe js) : DS X W (.Assign [.Name y py] (.ListComp elt [⟨tg, iter, ifs, 0⟩] scope pos) spos) (tAsg (tLc wi gt tt te (own.map (·.2))) (gName i)) (sAsg (fCompC f gg ft fe (own.map (·.2))) (yName i)) :=
  ⟨ps_setLc h.hc h.hN hy hyl hsw h.hi.pi (blkOk_by h.ok) (fun s H C cl fp => (h.hg s H C cl fp).pg) (fun s H C cl fp => (h.ht s H C cl fp).pe) (fun s H C cl fp => (h.he s H C cl fp).pe) h.hs,
   sx_asg (js := [i]) (h.dxC X.s_0 X.H_0 0 [] []) fun F G H μ M σ ρ ρ' v d Q R E r e q => by cases e; exact q _ (E.set r) fun j hj => List.getElem?_set_ne fun z => hj (by simp [z])⟩

/-! ### methods of built-in types -/
theorem isTy_ok {K : PySem.W.Frag} {F G H : Hp} {μ : List Addr} {M : Mem} (R : Rel K F G μ M H) {T : String} {v : V} {d : D} (r : Rep K G μ v d) (e : isTy T M d = true) : tyV K T v H := by
  cases r with
  | str x => exact (beq_iff_eq.mp e)
  | lst h1 hz h2 =>
    have e' : (T == "list") = true := e
    exact .inl ⟨beq_iff_eq.mp e', _, sub_l R.sub h1⟩
  | @cell i a h1 =>
    have e' : (match M[i]? with | some (some (.lst _)) => T == "list" | some (some (.dic _)) => T == "dict" | _ => false) = true := e
    split at e'
    · rename_i xs hq
      obtain ⟨b, vs, hb, _, h3, _⟩ := R.cellL (.cell h1) hq
      cases hb
      exact .inl ⟨beq_iff_eq.mp e', vs, .inl (.inl h3)⟩
    · rename_i xs hq
      obtain ⟨b, vs, hb, _, h3, _⟩ := R.cellD (.cell h1) hq
      cases hb
      exact .inr (.inr (.inl ⟨beq_iff_eq.mp e', .inl ⟨vs, h3⟩⟩))
    · cases e'
  | _ => cases e
theorem dx_bm {K : PySem.W.Frag} {T : String} {r : V → List V → Hp → VK → Prop} {g : D → OpN} (hd : MtD K r T g) (ho : DX K W (Rep K) uo fo) (ha : DX K W (RepL K) us fs) : DX K W (Rep K) (tBM K T r uo us) (fBM T g fo fs) :=
  fun F G H μ M σ ρ r M' Q R E e P => ho.go R E e P fun G1 μ1 H1 M1 v d e1 R1 E1 r1 e2 P1 => by
    split at e2
    · rename_i ht
      exact ⟨isTy_ok R1 r1 ht, ha.go R1 E1 e2 P1 fun G2 μ2 H2 M2 xs ds e3 R2 E2 rx e4 P2 => hd R2 (Rep.mono e3 d r1) rx e4 P2⟩
    · cases e2
def gAppend : D → OpN := fun d ds M => match d, ds with
  | .cell i, [y] => (match M[i]? with
    | some (some (.lst xs)) => if xs.length < 16777216 then some (.ok .non, M.set i (some (.lst (xs ++ [y])))) else none
    | _ => none)
  | _, _ => none
theorem mtd_append {K : PySem.W.Frag} : MtD K rAppend "list" gAppend := by
  intro F G H W μ M σ x dx xs ds r' M' Q R rx rs e P
  unfold gAppend at e
  split at e
  · split at e
    · rename_i i y _ ys hM
      split at e
      · rename_i hl
        cases e
        obtain ⟨a, vs, rfl, hμ, hH, hz, hv⟩ := R.cellL rx hM
        obtain ⟨v, rfl, h1⟩ := rs.one
        refine ⟨a, vs, v, rfl, rfl, hH, by rw [hv.length, line]; exact hl, ?_⟩
        exact P.wrote (c' := .lst (ys ++ [y])) R hM hμ ⟨_, upd_same, by rw [List.length_append, List.length_singleton]; omega, hv.append (.cons h1 .nil)⟩ .non
      · cases e
    · cases e
  · cases e
theorem de_bm {K' : PySem.W.Frag} {apos cpos : Pos} {name : Str} {T id : String} {r : V → List V → Hp → VK → Prop} {g : D → OpN} (pa : PlainAttrs T) (slot : Slot T name id) (hty : typeOf (.builtin id) = pure (.type "method_descriptor")) (hm : MtR X id r) (hd : MtD X.K r T g)
    (ho : DE X W o uo fo) (ha : DA X W (e :: es) us fs) (hb : attributeBase o name X.env (eval o X.env) = eval o X.env := by rfl)
    (hfew : ((backTo cpos (starEach (e :: es) X.env)).all (fun x => !x.1) && (backToKw cpos (keywordEach [] X.env)).all (fun x => x.1.isSome)
      && decide ((e :: es).length + ([] : List Keyword).length + (if ([] : List Keyword).isEmpty then 0 else 1) < 30)) = true := by rfl)
    (hl : (apos.endLine == cpos.line) = true := by rfl) (he : starEach (e :: es) X.env = (false, eval e X.env) :: starEach es X.env := by rfl) (hpl : (backTo cpos (starEach es X.env)).any (·.1) = false := by rfl) (hK : X.K = K' := by rfl) :
    DE X W (.Call (.Attribute o name apos) (e :: es) [] cpos) (tBM K' T r uo us) (fBM T g fo fs) := by
  subst hK
  exact ⟨pe_bm pa slot hty hm ho.pe ha.pe hb hfew hl he hpl, dx_bm hd ho.dx ha.dx⟩
end
end DL

namespace DL
open PySem
theorem bb_len : bootBuiltins "len" = some (.builtin "len") := by decide +kernel
theorem bb_abs : bootBuiltins "abs" = some (.builtin "abs") := by decide +kernel
theorem bb_max : bootBuiltins "max" = some (.builtin "max") := by decide +kernel
theorem bb_min : bootBuiltins "min" = some (.builtin "min") := by decide +kernel
theorem bb_sum : bootBuiltins "sum" = some (.builtin "sum") := by decide +kernel
theorem bb_all : bootBuiltins "all" = some (.builtin "all") := by decide +kernel
theorem bb_any : bootBuiltins "any" = some (.builtin "any") := by decide +kernel
theorem bb_isinstance : bootBuiltins "isinstance" = some (.builtin "isinstance") := by decide +kernel
theorem bb_ord : bootBuiltins "ord" = some (.builtin "ord") := by decide +kernel
theorem bb_sorted : bootBuiltins "sorted" = some (.builtin "sorted") := by decide +kernel
theorem bb_int : bootBuiltins "int" = some (.type "int") := by decide +kernel
theorem bb_bool : bootBuiltins "bool" = some (.type "bool") := by decide +kernel
theorem bb_str : bootBuiltins "str" = some (.type "str") := by decide +kernel
theorem bb_list : bootBuiltins "list" = some (.type "list") := by decide +kernel
theorem bb_tuple : bootBuiltins "tuple" = some (.type "tuple") := by decide +kernel
theorem bb_dict : bootBuiltins "dict" = some (.type "dict") := by decide +kernel
theorem bb_set : bootBuiltins "set" = some (.type "set") := by decide +kernel
theorem bb_range : bootBuiltins "range" = some (.type "range") := by decide +kernel
theorem bb_enumerate : bootBuiltins "enumerate" = some (.type "enumerate") := by decide +kernel
theorem bb_zip : bootBuiltins "zip" = some (.type "zip") := by decide +kernel
open L2
section
variable {X : Cx} {K : PySem.W.Frag}
theorem xop_add (hK : X.K = K := by rfl) : OpR X (binaryOp .Add) (rAddX (K := K)) := by subst hK; exact op_addX
theorem xop_in (hr : ∃ k, Room k X.A) (hK : X.K = K := by rfl) : OpR X (compareOp .In) (fun x y H Q => rIn K false x y H Q ∨ rInStr false x y H Q ∨ rDIn false x y H Q ∨ rInD K x y H Q) := by subst hK; exact op_inX hr
theorem xop_notIn (hr : ∃ k, Room k X.A) (hK : X.K = K := by rfl) : OpR X (compareOp .NotIn) (fun x y H Q => rIn K true x y H Q ∨ rInStr true x y H Q ∨ rDIn true x y H Q ∨ rNotInD K x y H Q) := by subst hK; exact op_notInX hr
theorem xop_eq (hr : ∃ k, Room k X.A) (hK : X.K = K := by rfl) : OpR X (compareOp .Eq) (rEqX (K := K)) := by subst hK; exact op_eqX hr
theorem xop_ne (hr : ∃ k, Room k X.A) (hK : X.K = K := by rfl) : OpR X (compareOp .NotEq) (rNeX (K := K)) := by subst hK; exact op_neX hr
theorem xcr_len (hK : X.K = K := by rfl) : CallR X (.builtin "len") (rLenX K) := by subst hK; exact cr_lenX
theorem xcr_sum (hc : X.calm = true := by rfl) (hK : X.K = K := by rfl) : CallR X (.builtin "sum") (rSum K) := by subst hK; exact cr_sum hc
theorem xcr_max (hc : X.calm = true := by rfl) (hK : X.K = K := by rfl) : CallR X (.builtin "max") (rMax K) := by subst hK; exact cr_max hc
theorem xcr_min (hc : X.calm = true := by rfl) (hK : X.K = K := by rfl) : CallR X (.builtin "min") (rMin K) := by subst hK; exact cr_min hc
theorem xcr_all (hc : X.calm = true := by rfl) (hK : X.K = K := by rfl) : CallR X (.builtin "all") (rAll K) := by subst hK; exact cr_all hc
theorem xcr_any (hc : X.calm = true := by rfl) (hK : X.K = K := by rfl) : CallR X (.builtin "any") (rAny K) := by subst hK; exact cr_any hc
theorem xcr_isi (hK : X.K = K := by rfl) : CallR X (.builtin "isinstance") (rIsi K) := by subst hK; exact call_isi
theorem xcr_list (hK : X.K = K := by rfl) : CallR X (.type "list") (fun xs H Q => ∃ p ys, xs = [.ref p] ∧ (SqL K H p ys ∨ SqT K H p ys) ∧ ∀ l : Addr, H l = none → Q (.ref l) (upd H l (.lst ys))) := by subst hK; exact call_list_of
theorem xcr_tuple (hK : X.K = K := by rfl) : CallR X (.type "tuple") (fun xs H Q => ∃ p ys, xs = [.ref p] ∧ ((SqL K H p ys ∧ ∀ l : Addr, H l = none → Q (.ref l) (upd H l (.tup ys))) ∨ SqT K H p ys ∧ Q (.ref p) H)) := by subst hK; exact call_tuple_of
theorem blkC_at {N : List Str} {outer scope : Scope} {own : List (Str × Nat)} (h1 : X.N = N) (h2 : X.env.scope = outer) (h : blkC N outer scope own = true) : blkC X.N X.env.scope scope own = true := by
  rw [h1, h2]; exact h
end
section
variable {P : Program} {w : World} {K : PySem.W.Frag} {mg : Str → Option Value} {base : Heap}
theorem fn_never {k : Nat} {f : Addr} {fd : FuncData} {ps : List Str} : FnOk P w K mg base (L2.CX P w) k f fd ps (spD K fun _ _ => none) := by
  constructor
  · intro vs H Q E h
    obtain ⟨_, _, _, _, _, _, _, _, _, e, _⟩ := h
    cases e
  · intro A outer s H args us vs Q E hr he hb hv h
    obtain ⟨_, _, _, _, _, _, _, _, _, e, _⟩ := h
    cases e
end
end DL

namespace DL
open PySem PySem.Spec PyProof.Rows L2 RZ
section
variable {X : Cx} {W : WX} {pos p : Pos} {e a b o : Expr} {fe fa fb fo : Fn D} {te ua ub uo : TE} {es : List Expr} {us : TA} {fs : Fn (List D)} {k j : Nat} {x m : Str} {φ : OpN}
/-! ### a call of a local name that holds a known def -/
structure CalV (P : Program) (w : World) (K : PySem.W.Frag) (mg : Str → Option Value) (base : Heap) (k : Nat) (f : Addr) (φ : OpN) : Prop where
  ex : ∃ (fd : FuncData) (ps : List Str), FnOk P w K mg base (L2.CX P w) k f fd ps (spD K φ) ∧ PySem.W.keepIn K (.ref f) = true ∧ Binds K fd ps []
def fCallV (i : Nat) (f : Addr) (φ : OpN) (fs : Fn (List D)) : Fn D := fun ρ M => match ρ[i]? with
  | some (some (.any (.ref a))) => if a = f then bnd (fs ρ M) fun ds M1 => φ ds M1 else none
  | _ => none
def tCallLW (i : Nat) (f : Addr) (sp : Sp) (W : WX) (t : TA) : TE := fun σ H Q => σ[i]? = some (some (.ref f)) ∧ t σ H fun vs H1 => sp (vs ++ []) H1 Q (WE W σ)
theorem de_callV {K' : PySem.W.Frag} {f : Addr} (i : Nat) (c : CalV X.prog X.w X.K X.mg X.base k f φ) (hr : Room j X.A) (tk : Takes X W) (hk : k ≤ j) (ha : DA X W (e :: es) us fs) (hN : X.N[i]? = some x := by rfl) (hv : Vis X.env.scope x := by first | exact Or.inl rfl | exact Or.inr (Or.inl rfl) | exact Or.inr (Or.inr rfl))
    (hdb : (x == ("__debug__" : Str)) = false := by decide) (hcd : (x == ("__classdict__" : Str)) = false := by decide)
    (he : starEach (e :: es) X.env = (false, eval e X.env) :: starEach es X.env := by rfl) (hpl : (backTo pos (starEach es X.env)).any (·.1) = false := by rfl) (hK : X.K = K' := by rfl) :
    DE X W (.Call (.Name x p) (e :: es) [] pos) (tCallLW i f (spD K' φ) W us) (fCallV i f φ fs) := by
  subst hK
  obtain ⟨fd, ps, hf, hkp, hb⟩ := c.ex
  refine ⟨⟨fun pins s σ H Q I h => ?_⟩, fun F G H μ M σ ρ r M' Q R E e P => ?_⟩
  · obtain ⟨hs, ht⟩ := h
    refine wpAny_Call_Name_kw (thn ((pe_var (pos := p) hN hv hdb hcd).run pins s σ H (fun v H1 => v = .ref f ∧ H1 = H) I ⟨.ref f, hs, rfl, rfl⟩) fun u s1 ⟨v, H1, I1, r1, q1⟩ => ?_)
    obtain ⟨rfl, rfl⟩ := q1
    cases r1
    refine PySem.W.callWith_K (h₀ := X.base) I.ok.mod.kin hkp (thn (ha.pe.run pos pins s1 σ _ _ I1 ht) fun us s2 ⟨vs, H2, I2, r, q⟩ => ⟨I2.kIn, ?_⟩) he hpl
    exact run_fnSD (E := WE W) hf (hr.mono hk) hb .nil (passAt tk σ) I2 r q
  unfold fCallV at e
  split at e
  · rename_i a hρ
    split at e
    · rename_i q
      subst q
      obtain ⟨v, h1, h2⟩ := E.at_ i _ hρ
      cases h2
      refine ⟨h1, ha.dx.go R E e P fun G1 μ1 H1 M1 xs ds e1 R1 E1 rx e2 P1 => ?_⟩
      rw [List.append_nil]
      exact spD_of R1 rx e2 P1
    · cases e
  · cases e
/-! ### a written dict of the module, read at a text -/
structure GlobT (K : PySem.W.Frag) (mg : Str → Option Value) (w : World) (x : Str) (tbl : List (Str × D)) : Prop where
  ex : ∃ q, mg x = some (.ref q) ∧ ∀ z d, tbl.lookup z = some d → ∃ v, KDct K w q z v ∧ ∀ G μ, Rep K G μ v d
def fIxT (tbl : List (Str × D)) (fb : Fn D) : Fn D := fun ρ M => bnd (fb ρ M) fun y M1 => match y with
  | .str z => (match tbl.lookup z with
    | some d => some (.ok d, M1)
    | none => none)
  | _ => none
def tIxT (K : PySem.W.Frag) (w : World) (mg : Str → Option Value) (x : Str) (tb : TE) : TE := fun σ H Q => ∃ q, mg x = some (.ref q) ∧ tb σ H fun y H1 => L2.rIxD K w (.ref q) y H1 Q
theorem de_ixT {K' : PySem.W.Frag} {w' : World} {mg' : Str → Option Value} {tbl : List (Str × D)} (g : GlobT X.K X.mg X.w x tbl) (hb : DE X W b ub fb) (hg : Gl X x := by rfl) (hd : (x == ("__debug__" : Str)) = false := by decide) (hs : PlainIx b := by exact fun _ _ => rfl) (hK : X.K = K' := by rfl) (hw : X.w = w' := by rfl) (hm : X.mg = mg' := by rfl) :
    DE X W (.Subscript (.Name x p) b pos) (tIxT K' w' mg' x ub) (fIxT tbl fb) := by
  subst hK hw hm
  obtain ⟨q, h1, h2⟩ := g.ex
  refine ⟨⟨fun pins s σ H Q I h => ?_⟩, fun F G H μ M σ ρ r M' Q R E e P => ⟨q, h1, hb.dx.go R E e P fun G1 μ1 H1 M1 y dy e1 R1 E1 ry e2 P1 => ?_⟩⟩
  · obtain ⟨q', e1, h⟩ := h
    refine (pe_ix (X := X) (pos := pos) (ta := tC (.ref q')) ix_kdict (C8.pe_gc hg ⟨_, e1, rfl⟩ hd) hb.pe hs).run pins s σ H Q I ?_
    exact h
  · split at e2
    · rename_i z
      split at e2
      · rename_i d hl
        cases e2
        cases ry
        obtain ⟨v, k1, k2⟩ := h2 z d hl
        exact ⟨q, z, v, rfl, rfl, k1, P1.now R1 (k2 _ _)⟩
      · cases e2
    · cases e2
/-! ### zip of two lists -/
def wZip (fs : Fn (List D)) : Fn (List D) := fun ρ M => bnd (fs ρ M) fun ds M1 => match ds with
  | [.lst xs, .lst ys] => some (.ok ((xs.zip ys).map fun z => .tup [z.1, z.2]), M1)
  | _ => none
theorem itz_ok {K : PySem.W.Frag} {G : Hp} {μ : List Addr} {a b : Addr} {vs ws : List V} {ds es : List D} (h1 : SqL K G a vs) (h2 : SqL K G b ws) (hz : ds.length ≤ 16777216) (r1 : RepL K G μ vs ds) (r2 : RepL K G μ ws es) :
    ItOk K G μ (Itz K a b) ((ds.zip es).map fun z => .tup [z.1, z.2]) := ⟨by rw [List.length_map, List.length_zip]; omega, fun i F G' H' μ' M' x R => by
  have l1 := r1.length
  have l2 := r2.length
  have q1 : SqL K H' a vs := sub_l R.sub (sub_l x.sub h1)
  have q2 : SqL K H' b ws := sub_l R.sub (sub_l x.sub h2)
  refine ⟨fun e => ⟨vs, ws, q1, q2, ?_⟩, fun d e => ?_⟩
  · have := List.getElem?_eq_none_iff.mp e
    rw [List.length_map, List.length_zip] at this
    omega
  · rw [List.getElem?_map] at e
    cases hq : (ds.zip es)[i]? with
    | none => rw [hq] at e; cases e
    | some z =>
      rw [hq] at e
      cases e
      obtain ⟨e1, e2⟩ := List.getElem?_zip_eq_some.mp hq
      obtain ⟨v, a1, b1⟩ := r1.get e1
      obtain ⟨v', a2, b2⟩ := r2.get e2
      refine ⟨⟨vs, ws, v, v', q1, q2, a1, a2⟩, fun u H'' y => ?_⟩
      obtain ⟨T, y1, y2, rfl, hT, rfl, f1, f2⟩ := y
      have := f1 vs q1
      rw [a1] at this; cases this
      have := f2 ws q2
      rw [a2] at this; cases this
      have x2 := x.trans (ext_upd (μ := μ') (o := HO.tup [v, v']) (R.fresh hT))
      exact ⟨_, ext_upd (R.fresh hT), R.data hT, .tup (.inl (.inl upd_same)) (by simp) (.cons (Rep.mono x2 _ b1) (.cons (Rep.mono x2 _ b2) .nil))⟩⟩
theorem di_zip {K' : PySem.W.Frag} {e e2 : Expr} {elts : List Expr} {kk : Nat} {tpos : Pos} (hm : X.mg "zip" = none) (ha : DA X W [e, e2] us fs) (hg : Gl X "zip" := by rfl) (hs : starEach [e, e2] X.env = (false, eval e X.env) :: starEach [e2] X.env := by rfl) (hpl : (backTo pos (starEach [e2] X.env)).any (·.1) = false := by rfl) (hK : X.K = K' := by rfl) :
    DI X W (.Tuple elts kk tpos) (.Call (.Name "zip" p) [e, e2] [] pos) (iZipA K' us) (wZip fs) := by
  subst hK
  refine ⟨pi_zipA hg hm ha.pe hs hpl, fun F G H μ M σ ρ r M' Q R E e P => ha.dx.go R E e P fun G1 μ1 H1 M1 xs dxs e1 R1 E1 rx e2 P1 => ?_⟩
  split at e2
  · rename_i xs ys
    cases e2
    obtain ⟨v, v', rfl, h1, h2⟩ := rx.two
    cases h1 with
    | lst a1 a2 a3 => cases h2 with
      | lst b1 b2 b3 => exact ⟨_, _, _, _, rfl, .inl ⟨sub_l R1.sub a1, sub_l R1.sub b1, P1.now R1 (itz_ok a1 b1 a2 a3 b3)⟩⟩
  · cases e2
end
section
variable {X : Cx} {W : WX} {pos : Pos} {te : TE} {fe : Fn D}
/-! ### the letters of a text -/
def lettersD (x : Str) : List D := x.cps.toList.map fun c => .str ⟨#[c]⟩
def wStr (fe : Fn D) : Fn (List D) := fun ρ M => bnd (fe ρ M) fun d M1 => match d with
  | .str x => if x.cps.size ≤ 16777216 then some (.ok (lettersD x), M1) else none
  | _ => none
theorem its_ok {K : PySem.W.Frag} {G : Hp} {μ : List Addr} {x : Str} (hz : x.cps.size ≤ 16777216) : ItOk K G μ (Its x) (lettersD x) := ⟨by simpa [lettersD] using hz, fun i F G' H' μ' M' e R => by
  refine ⟨fun q => ?_, fun d q => ?_⟩
  · have := List.getElem?_eq_none_iff.mp q
    have h2 : x.cps.size ≤ i := by simpa [lettersD] using this
    exact h2
  · rw [lettersD, List.getElem?_map, Array.getElem?_toList] at q
    cases hc : x.cps[i]? with
    | none => rw [hc] at q; cases q
    | some c =>
      rw [hc] at q
      cases q
      refine ⟨(Array.getElem?_eq_some_iff.mp hc).1, fun v H'' y => ?_⟩
      obtain ⟨rfl, c', hc', rfl⟩ := y
      rw [hc] at hc'
      cases hc'
      exact ⟨G', Ext.refl, R, .str _⟩⟩
theorem di_str {l tg : Expr} (h : DE X W l te fe) : DI X W tg l (iStr te) (wStr fe) := by
  refine ⟨pi_str h.pe, fun F G H μ M σ ρ r M' Q R E e P => h.dx.go R E e P fun G1 μ1 H1 M1 x dx e1 R1 E1 rx e2 P1 => ?_⟩
  split at e2
  · split at e2
    · rename_i x hz
      cases e2
      cases rx
      exact ⟨_, rfl, P1.now R1 (its_ok hz)⟩
    · cases e2
  · cases e2
end
/-! ### a dict comprehension -/
def compK (g : Tg) (tt : Fn Bool) (fk fv : Fn D) (ρ : Env) : List D → List (Key × D) → Mem → Option (List (Key × D) × Mem)
  | [], acc, M => some (acc, M)
  | x :: xs, acc, M => match g x ρ with
    | none => none
    | some ρ1 => match tt ρ1 M with
      | some (.ok true, M1) => (match fk ρ1 M1 with
        | some (.ok y, M2) => (match keyOf y with
          | some k => (match fv ρ1 M2 with
            | some (.ok z, M3) => compK g tt fk fv ρ xs (putD acc k z) M3
            | _ => none)
          | none => none)
        | _ => none)
      | some (.ok false, M1) => compK g tt fk fv ρ xs acc M1
      | _ => none
def fDComp (f : Fn (List D)) (g : Tg) (tt : Fn Bool) (fk fv : Fn D) (vs : List Nat) : Fn D := fun ρ M => bnd (f ρ M) fun xs M1 => match compK g tt fk fv (wipeE ρ vs) xs [] M1 with
  | some (es, N2) => some (.ok (.dic es), N2)
  | none => none
section
variable {X : Cx} {W : WX} {pos : Pos} {kx vx tg iter : Expr} {ifs : List Expr} {scope : Scope} {own : List (Str × Nat)} {wi : TI} {gt : TG} {tt : TT} {tk tv : TE} {f : Fn (List D)} {gg : Tg} {ft : Fn Bool} {fk fv : Fn D} {js : List Nat}
theorem dx_dc {K : PySem.W.Frag} {vs : List Nat} (hi : DX K W (ItOk K) wi f)
    (hg : ∀ (F G H : Hp) (μ : List Addr) (M : Mem) (σ : L2.St) (ρ ρ' : Env) (v : V) (d : D) (Q : L2.St → Hp → Prop), Rel K F G μ M H → EnvR K G μ ρ σ → Rep K G μ v d → gg d ρ = some ρ' → (∀ σ', EnvR K G μ ρ' σ' → Kp js σ σ' → Q σ' H) → gt v σ H Q)
    (hgl : ∀ d ρ ρ', gg d ρ = some ρ' → ρ'.length = ρ.length) (hj : ∀ j ∈ js, j ∈ vs) (ht : DX K W0 RpB tt ft) (hk : DX K W0 (Rep K) tk fk) (hv : DX K W0 (Rep K) tv fv) : DX K W (Rep K) (tDc wi gt tt tk tv vs) (fDComp f gg ft fk fv vs) := by
  intro F G H μ M σ ρ r M' Q R E e P
  refine hi.go R E e P fun G1 μ1 H1 M1 J xs x1 R1 E1 r1 e1 P1 => ?_
  intro p hp
  have hF : F p = none := R1.freshF hp
  cases q0 : compK gg ft fk fv (wipeE ρ vs) xs [] M1 with
  | none => rw [q0] at e1; cases e1
  | some z =>
    obtain ⟨ys, M2⟩ := z
    rw [q0] at e1
    cases e1
    refine ⟨fun i m H2 => m = xs.length - i ∧ i ≤ xs.length ∧ ∃ G2 μ2 M3 kvs ds, Ext G1 μ1 G2 μ2 ∧ Rel K (upd F p (.dK kvs)) G2 μ2 M3 H2 ∧ RepK K G2 μ2 kvs ds ∧ ds.length ≤ i ∧ compK gg ft fk fv (wipeE ρ vs) (xs.drop i) ds M3 = some (ys, M'),
      ⟨xs.length, by simp, Nat.zero_le _, G1, μ1, M1, [], [], Ext.refl, R1.frame hp, .nil, Nat.le_refl _, q0⟩, ?_⟩
    rintro i m H2 ⟨rfl, hi2, G2, μ2, M3, kvs, ds, x2, R2, rw2, hds, e2⟩
    obtain ⟨k1, k2⟩ := r1.2 i _ G2 H2 μ2 M3 x2 R2
    have hz := r1.1
    by_cases hlt : i < xs.length
    · have hx : xs[i]? = some xs[i] := by simp [hlt]
      obtain ⟨go, yl⟩ := k2 _ hx
      rw [List.drop_eq_getElem_cons hlt] at e2
      refine .inr ⟨go, fun H3 => ∃ G3 μ3 M4 kvs ds, Ext G1 μ1 G3 μ3 ∧ Rel K (upd F p (.dK kvs)) G3 μ3 M4 H3 ∧ RepK K G3 μ3 kvs ds ∧ ds.length ≤ i + 1 ∧ compK gg ft fk fv (wipeE ρ vs) (xs.drop (i + 1)) ds M4 = some (ys, M'), fun H3 q => ⟨xs.length - (i + 1), by omega, rfl, hlt, q⟩, fun v H3 yv => ?_⟩
      obtain ⟨G3, x3, R3, r3⟩ := yl v H3 yv
      have E3 := ((E1.mono x2).mono x3).wiped vs
      unfold compK at e2
      cases q : gg xs[i] (wipeE ρ vs) with
      | none => simp [q] at e2
      | some ρ3 =>
        simp only [q] at e2
        refine hg _ G3 H3 μ2 M3 _ _ ρ3 v xs[i] _ R3 E3 r3 q fun σ4 E4 k4 => ⟨wipe_kp hj ?_ k4, ?_⟩
        · rw [← E4.len, hgl _ _ _ q, wipeE_length, E1.len]
        · cases q2 : ft ρ3 M3 with
          | none => simp [q2] at e2
          | some z2 =>
            obtain ⟨z2, M4⟩ := z2
            cases z2 with
            | exc y => simp [q2] at e2
            | ok b =>
              refine ht _ G3 H3 μ2 M3 σ4 ρ3 _ _ _ R3 E4 q2 fun G5 μ5 H5 x5 R5 => ⟨fun b' hb b2 hb2 => ?_, fun _ z => nomatch z⟩
              cases hb
              have hb3 : b2 = b := hb2
              subst hb3
              cases b2 with
              | false =>
                simp only [q2] at e2
                exact iteF ⟨G5, μ5, M4, kvs, ds, (x2.trans x3).trans x5, R5, rw2.mono (x3.trans x5), by omega, e2⟩
              | true =>
                simp only [q2] at e2
                refine iteT ?_
                cases q3 : fk ρ3 M4 with
                | none => simp [q3] at e2
                | some z3 =>
                  obtain ⟨z3, M5⟩ := z3
                  cases z3 with
                  | exc y => simp [q3] at e2
                  | ok y =>
                    simp only [q3] at e2
                    refine hk _ G5 H5 μ5 M4 σ4 ρ3 _ _ _ R5 (E4.mono x5) q3 fun G6 μ6 H6 x6 R6 => ⟨fun y' hy' w hw => ?_, fun _ z => nomatch z⟩
                    cases hy'
                    cases qk : keyOf y with
                    | none => simp [qk] at e2
                    | some kk =>
                      simp only [qk] at e2
                      cases q4 : fv ρ3 M5 with
                      | none => simp [q4] at e2
                      | some z4 =>
                        obtain ⟨z4, M6⟩ := z4
                        cases z4 with
                        | exc y => simp [q4] at e2
                        | ok z =>
                          simp only [q4] at e2
                          refine hv _ G6 H6 μ6 M5 σ4 ρ3 _ _ _ R6 ((E4.mono x5).mono x6) q4 fun G7 μ7 H7 x7 R7 => ⟨fun y' hy' u hu => ?_, fun _ z => nomatch z⟩
                          cases hy'
                          have rw7 := ((rw2.mono (x3.trans x5)).mono x6).mono x7
                          refine ⟨kvs, kk, keyOf_rep hw qk, (R7.frm p _ upd_same).1, ?_, G7, μ7, M6, putK kvs kk u, putD ds kk z, (((x2.trans x3).trans x5).trans x6).trans x7, R7.reframe, RepK.put hu rw7, ?_, e2⟩
                          · have l1 := rw2.length
                            rw [line]; omega
                          · have := putD_length ds kk z
                            omega
    · have e3 : i = xs.length := by omega
      subst e3
      rw [List.drop_length] at e2
      cases e2
      refine .inl ⟨k1 (by simp), ?_⟩
      obtain ⟨R3, hG⟩ := R2.unframe hF
      exact (P1 _ _ _ (x2.trans (ext_upd hG)) R3).1 _ rfl _ (.dic (.inl upd_same) (by omega) (rw2.mono (ext_upd hG)))
structure DD (X : Cx) (W : WX) (kx vx tg iter : Expr) (ifs : List Expr) (scope : Scope) (own : List (Str × Nat)) (wi : TI) (gt : TG) (tt : TT) (tk tv : TE) (f : Fn (List D)) (gg : Tg) (ft : Fn Bool) (fk fv : Fn D) (js : List Nat) : Prop where
  hc : X.calm = true
  hN : X.N.Nodup
  hi : DI X W tg iter wi f
  ok : blkC X.N X.env.scope scope own = true
  hg : ∀ (s : Shared) (H : Hp) (C : Addr) (cl : List (Str × Addr)) (fp : List Addr), DG (X.blk s H scope (compEnvC scope cl C X.env) fp) tg gt gg js
  hl : TgL gg
  hj : (js.all fun j => (own.map (·.2)).contains j) = true
  ht : ∀ (s : Shared) (H : Hp) (C : Addr) (cl : List (Str × Addr)) (fp : List Addr), DTs (X.blk s H scope (compEnvC scope cl C X.env) fp) W0 ifs tt ft
  hk : ∀ (s : Shared) (H : Hp) (C : Addr) (cl : List (Str × Addr)) (fp : List Addr), DE (X.blk s H scope (compEnvC scope cl C X.env) fp) W0 kx tk fk
  hv : ∀ (s : Shared) (H : Hp) (C : Addr) (cl : List (Str × Addr)) (fp : List Addr), DE (X.blk s H scope (compEnvC scope cl C X.env) fp) W0 vx tv fv
  hs : ∀ x, foldedSetIterable iter X.env x = pure x
theorem de_dc (h : DD X W kx vx tg iter ifs scope own wi gt tt tk tv f gg ft fk fv js) : DE X W (.DictComp kx vx [⟨tg, iter, ifs, 0⟩] scope pos) (tDc wi gt tt tk tv (own.map (·.2))) (fDComp f gg ft fk fv (own.map (·.2))) := by
  refine ⟨⟨fun pins s σ H Q I hq => (pe_dc h.hc h.hN h.hi.pi (blkOk_by h.ok) (fun s H C cl fp => (h.hg s H C cl fp).pg) (fun s H C cl fp => (h.ht s H C cl fp).pe) (fun s H C cl fp => (h.hk s H C cl fp).pe) (fun s H C cl fp => (h.hv s H C cl fp).pe) h.hs).run pins s σ H Q I hq⟩,
   dx_dc h.hi.dx (h.hg X.s_0 X.H_0 0 [] []).gx h.hl (fun j hj => ?_) (h.ht X.s_0 X.H_0 0 [] []).dx (h.hk X.s_0 X.H_0 0 [] []).dx (h.hv X.s_0 X.H_0 0 [] []).dx⟩
  have := List.all_eq_true.mp h.hj j hj
  simpa using this
end
end DL

/-! what the denotations compute: a calculus of weakest preconditions -/
namespace DL
open PySem L2
def Ev {α : Type} (m : Option (R α × Mem)) (Q : α → Mem → Prop) (E : Exn → Mem → Prop) : Prop := match m with
  | some (.ok a, M) => Q a M
  | some (.exc x, M) => E x M
  | none => False
abbrev Ex0 : Exn → Mem → Prop := fun _ _ => False
structure Po where
  nx : Env → Mem → Prop
  rt : D → Mem → Prop
  bk : Env → Mem → Prop
  ct : Env → Mem → Prop
  ex : Exn → Mem → Prop
def Sv (m : Option (Out × Env × Mem)) (P : Po) : Prop := match m with
  | some (.nx, ρ, M) => P.nx ρ M
  | some (.bk, ρ, M) => P.bk ρ M
  | some (.ct, ρ, M) => P.ct ρ M
  | some (.rt d, _, M) => P.rt d M
  | some (.exc x, _, M) => P.ex x M
  | none => False
section
variable {α β : Type} {Q : α → Mem → Prop} {ρ : Env} {M : Mem} {P : Po} {E : Exn → Mem → Prop}
@[simp] theorem ev_some (a : α) (M : Mem) (Q : α → Mem → Prop) : Ev (some (.ok a, M)) Q E ↔ Q a M := Iff.rfl
@[simp] theorem ev_none (Q : α → Mem → Prop) : Ev none Q E ↔ False := Iff.rfl
@[simp] theorem ev_exc (x : Exn) (M : Mem) (Q : α → Mem → Prop) : Ev (some (.exc x, M)) Q E ↔ E x M := Iff.rfl
@[simp] theorem ev_bnd (m : Option (R β × Mem)) (k : β → Mem → Option (R α × Mem)) (Q : α → Mem → Prop) : Ev (bnd m k) Q E ↔ Ev m (fun b M1 => Ev (k b M1) Q E) E := by
  rcases m with _ | ⟨r, M1⟩
  · simp
  · cases r <;> simp
theorem ev_ite (c : Prop) [Decidable c] (a b : Option (R α × Mem)) : Ev (if c then a else b) Q E ↔ (c → Ev a Q E) ∧ (¬ c → Ev b Q E) := by split <;> simp_all
@[simp] theorem ev_part {c : Prop} [Decidable c] {m : Option (R α × Mem)} {Q : α → Mem → Prop} : Ev (if c then m else none) Q E ↔ c ∧ Ev m Q E := by split <;> simp_all
theorem Ev.mono {m : Option (R α × Mem)} {Q Q' : α → Mem → Prop} {E E' : Exn → Mem → Prop} (h : Ev m Q E) (i : ∀ a M, Q a M → Q' a M) (j : ∀ x M, E x M → E' x M) : Ev m Q' E' := by
  rcases m with _ | ⟨r, M1⟩
  · exact h
  · cases r
    · exact i _ _ h
    · exact j _ _ h
/-- what raises nothing -/
theorem Ev.go {m : Option (R α × Mem)} {Q Q' : α → Mem → Prop} (h : Ev m Q Ex0) (i : ∀ a M, Q a M → Q' a M) : Ev m Q' E := h.mono i fun _ _ z => z.elim
theorem ev_cg {m : Option (R α × Mem)} {Q Q' : α → Mem → Prop} (i : ∀ a M, Q a M ↔ Q' a M) : Ev m Q E ↔ Ev m Q' E := ⟨fun h => h.mono (fun a M => (i a M).mp) fun _ _ z => z, fun h => h.mono (fun a M => (i a M).mpr) fun _ _ z => z⟩
theorem ev_of {m : Option (R α × Mem)} {a : α} {M1 : Mem} (e : m = some (.ok a, M1)) (h : Q a M1) : Ev m Q E := by rw [e]; exact h
theorem Ev.eq {m : Option (R α × Mem)} (h : Ev m Q Ex0) : ∃ a M1, m = some (.ok a, M1) ∧ Q a M1 := by
  rcases m with _ | ⟨r, M1⟩
  · exact h.elim
  · cases r
    · exact ⟨_, _, rfl, h⟩
    · exact h.elim
/-! ### expressions -/
variable {QD : D → Mem → Prop} {QB : Bool → Mem → Prop} {QL : List D → Mem → Prop}
@[simp] theorem ev_fC (d : D) : Ev (fC d ρ M) QD E ↔ QD d M := Iff.rfl
@[simp] theorem ev_fVar (i : Nat) : Ev (fVar i ρ M) QD E ↔ ∃ d, ρ[i]? = some (some d) ∧ QD d M := by
  unfold fVar
  rcases h : ρ[i]? with _ | _ | d <;> simp
@[simp] theorem ev_fBin (g : Op2) (fa fb : Fn D) : Ev (fBin g fa fb ρ M) QD E ↔ Ev (fa ρ M) (fun x M1 => Ev (fb ρ M1) (fun y M2 => Ev (g x y M2) QD E) E) E := by unfold fBin; simp
@[simp] theorem ev_fUn (g : D → Mem → Option (R D × Mem)) (fa : Fn D) : Ev (fUn g fa ρ M) QD E ↔ Ev (fa ρ M) (fun x M1 => Ev (g x M1) QD E) E := by unfold fUn; simp
@[simp] theorem ev_asB (f : Fn D) : Ev (asB f ρ M) QB E ↔ Ev (f ρ M) (fun d M1 => ∃ k, d = .bl k ∧ QB k M1) E := by
  unfold asB; rw [ev_bnd]
  refine ev_cg fun d M1 => ?_
  cases d <;> simp
@[simp] theorem ev_fAnd (ta tb : Fn Bool) : Ev (fAnd ta tb ρ M) QB E ↔ Ev (ta ρ M) (fun k M1 => (k = true → Ev (tb ρ M1) QB E) ∧ (k = false → QB false M1)) E := by
  unfold fAnd; rw [ev_bnd]
  refine ev_cg fun k M1 => ?_
  cases k <;> simp
@[simp] theorem ev_fOr (ta tb : Fn Bool) : Ev (fOr ta tb ρ M) QB E ↔ Ev (ta ρ M) (fun k M1 => (k = true → QB true M1) ∧ (k = false → Ev (tb ρ M1) QB E)) E := by
  unfold fOr; rw [ev_bnd]
  refine ev_cg fun k M1 => ?_
  cases k <;> simp
@[simp] theorem ev_fNot (ta : Fn Bool) : Ev (fNot ta ρ M) QB E ↔ Ev (ta ρ M) (fun k M1 => QB (!k) M1) E := by unfold fNot; simp
@[simp] theorem ev_fIf (t : Fn Bool) (fa fb : Fn D) : Ev (fIf t fa fb ρ M) QD E ↔ Ev (t ρ M) (fun k M1 => (k = true → Ev (fa ρ M1) QD E) ∧ (k = false → Ev (fb ρ M1) QD E)) E := by
  unfold fIf; rw [ev_bnd]
  refine ev_cg fun k M1 => ?_
  cases k <;> simp
@[simp] theorem ev_fNil : Ev (fNil ρ M) QL E ↔ QL [] M := Iff.rfl
@[simp] theorem ev_fCons (fa : Fn D) (fs : Fn (List D)) : Ev (fCons fa fs ρ M) QL E ↔ Ev (fa ρ M) (fun x M1 => Ev (fs ρ M1) (fun xs M2 => QL (x :: xs) M2) E) E := by unfold fCons; simp
@[simp] theorem ev_fCall (g : OpN) (fs : Fn (List D)) : Ev (fCall g fs ρ M) QD E ↔ Ev (fs ρ M) (fun ds M1 => Ev (g ds M1) QD E) E := by unfold fCall; simp
@[simp] theorem ev_fTup (fs : Fn (List D)) : Ev (fTup fs ρ M) QD E ↔ Ev (fs ρ M) (fun xs M1 => xs.length ≤ 16777216 ∧ QD (.tup xs) M1) E := by unfold fTup; simp
@[simp] theorem ev_fLst (fs : Fn (List D)) : Ev (fLst fs ρ M) QD E ↔ Ev (fs ρ M) (fun xs M1 => xs.length ≤ 16777216 ∧ QD (.lst xs) M1) E := by unfold fLst; simp
@[simp] theorem ev_fLstC (fs : Fn (List D)) : Ev (fLstC fs ρ M) QD E ↔ Ev (fs ρ M) (fun xs M1 => xs.length ≤ 16777216 ∧ QD (.cell M1.length) (M1 ++ [some (.lst xs)])) E := by unfold fLstC; simp
@[simp] theorem ev_fDicC : Ev (fDicC ρ M) QD E ↔ QD (.cell M.length) (M ++ [some (.dic [])]) := Iff.rfl
@[simp] theorem ev_fDic0 : Ev (fDic0 ρ M) QD E ↔ QD (.dic []) M := Iff.rfl
@[simp] theorem ev_fAndV (fa fb : Fn D) : Ev (fAndV fa fb ρ M) QD E ↔ Ev (fa ρ M) (fun d M1 => ∃ k, d = .bl k ∧ (k = true → Ev (fb ρ M1) QD E) ∧ (k = false → QD (.bl false) M1)) E := by
  unfold fAndV; rw [ev_bnd]
  refine ev_cg fun d M1 => ?_
  cases d <;> try simp
  rename_i k; cases k <;> simp
@[simp] theorem ev_fOrV (fa fb : Fn D) : Ev (fOrV fa fb ρ M) QD E ↔ Ev (fa ρ M) (fun d M1 => ∃ k, d = .bl k ∧ (k = true → QD (.bl true) M1) ∧ (k = false → Ev (fb ρ M1) QD E)) E := by
  unfold fOrV; rw [ev_bnd]
  refine ev_cg fun d M1 => ?_
  cases d <;> try simp
  rename_i k; cases k <;> simp
@[simp] theorem ev_fNotV (fa : Fn D) : Ev (fNotV fa ρ M) QD E ↔ Ev (fa ρ M) (fun d M1 => ∃ k, d = .bl k ∧ QD (.bl (!k)) M1) E := by
  unfold fNotV; rw [ev_bnd]
  refine ev_cg fun d M1 => ?_
  cases d <;> simp
@[simp] theorem ev_fChain (g g' : Op2) (fa fb fc : Fn D) : Ev (fChain g g' fa fb fc ρ M) QD E ↔ Ev (fa ρ M) (fun x M1 => Ev (fb ρ M1) (fun y M2 => Ev (g x y M2) (fun d M3 => ∃ k, d = .bl k ∧ (k = true → Ev (fc ρ M3) (fun z M4 => Ev (g' y z M4) QD E) E) ∧ (k = false → QD (.bl false) M3)) E) E) E := by
  unfold fChain; rw [ev_bnd]
  refine ev_cg fun x M1 => ?_
  rw [ev_bnd]
  refine ev_cg fun y M2 => ?_
  rw [ev_bnd]
  refine ev_cg fun d M3 => ?_
  cases d <;> try simp
  rename_i k; cases k <;> simp
@[simp] theorem ev_fNone {Q : Option Int → Mem → Prop} : Ev (fNone ρ M) Q E ↔ Q none M := Iff.rfl
@[simp] theorem ev_fPart (f : Fn D) {Q : Option Int → Mem → Prop} : Ev (fPart f ρ M) Q E ↔ Ev (f ρ M) (fun d M1 => ∃ i, d = .int i ∧ Q (some i) M1) E := by
  unfold fPart; rw [ev_bnd]
  refine ev_cg fun d M1 => ?_
  cases d <;> simp
@[simp] theorem ev_fSl (fa : Fn D) (fl fh : Fn (Option Int)) : Ev (fSl fa fl fh ρ M) QD E ↔ Ev (fa ρ M) (fun x M1 => Ev (fl ρ M1) (fun l M2 => Ev (fh ρ M2) (fun h M3 => Ev (gSl x l h M3) QD E) E) E) E := by unfold fSl; simp
@[simp] theorem ev_fBM (T : String) (g : D → OpN) (fo : Fn D) (fs : Fn (List D)) : Ev (fBM T g fo fs ρ M) QD E ↔ Ev (fo ρ M) (fun d M1 => isTy T M1 d = true ∧ Ev (fs ρ M1) (fun ds M2 => Ev (g d ds M2) QD E) E) E := by unfold fBM; simp
@[simp] theorem ev_fIxT (tbl : List (Str × D)) (fb : Fn D) : Ev (fIxT tbl fb ρ M) QD E ↔ Ev (fb ρ M) (fun y M1 => ∃ z d, y = .str z ∧ tbl.lookup z = some d ∧ QD d M1) E := by
  unfold fIxT; rw [ev_bnd]
  refine ev_cg fun y M1 => ?_
  cases y <;> try simp
  rename_i z
  cases h : tbl.lookup z <;> simp
theorem ev_fCallV (i : Nat) (f : Addr) (φ : OpN) (fs : Fn (List D)) (h : ρ[i]? = some (some (.any (.ref f)))) : Ev (fCallV i f φ fs ρ M) QD E ↔ Ev (fs ρ M) (fun ds M1 => Ev (φ ds M1) QD E) E := by
  unfold fCallV; rw [h]; simp
def Two (ds : List D) (Q : D → D → Prop) : Prop := match ds with
  | [d, d'] => Q d d'
  | _ => False
@[simp] theorem two_mk (d d' : D) (Q : D → D → Prop) : Two [d, d'] Q ↔ Q d d' := Iff.rfl
theorem two_ex {ds : List D} {Q : D → D → Prop} : Two ds Q ↔ ∃ d d', ds = [d, d'] ∧ Q d d' := by
  unfold Two
  split
  · exact ⟨fun h => ⟨_, _, rfl, h⟩, fun ⟨_, _, e, h⟩ => by cases e; exact h⟩
  · rename_i h
    exact ⟨fun z => z.elim, fun ⟨i, j, e, _⟩ => h i j e⟩
/-! ### what is walked -/
@[simp] theorem ev_wList (f : Fn D) : Ev (wList f ρ M) QL E ↔ Ev (f ρ M) (fun d M1 => ∃ xs, d = .lst xs ∧ QL xs M1) E := by
  unfold wList; rw [ev_bnd]
  refine ev_cg fun d M1 => ?_
  cases d <;> simp
@[simp] theorem ev_wTup (f : Fn D) : Ev (wTup f ρ M) QL E ↔ Ev (f ρ M) (fun d M1 => ∃ xs, d = .tup xs ∧ QL xs M1) E := by
  unfold wTup; rw [ev_bnd]
  refine ev_cg fun d M1 => ?_
  cases d <;> simp
@[simp] theorem ev_wStr (f : Fn D) : Ev (wStr f ρ M) QL E ↔ Ev (f ρ M) (fun d M1 => ∃ x, d = .str x ∧ x.cps.size ≤ 16777216 ∧ QL (lettersD x) M1) E := by
  unfold wStr; rw [ev_bnd]
  refine ev_cg fun d M1 => ?_
  cases d <;> simp
@[simp] theorem ev_wRange1 (f : Fn (List D)) : Ev (wRange1 f ρ M) QL E ↔ Ev (f ρ M) (fun ds M1 => ∃ j, ds = [.int j] ∧ (-(2 ^ 62) ≤ j ∧ j ≤ 16777216) ∧ QL (rangeD 0 j.toNat) M1) E := by
  unfold wRange1; rw [ev_bnd]
  refine ev_cg fun ds M1 => ?_
  split
  · rw [ev_part]; simp
  · rename_i h; simp; intro j e; exact (h j e).elim
@[simp] theorem ev_wRange2 (f : Fn (List D)) : Ev (wRange2 f ρ M) QL E ↔ Ev (f ρ M) (fun ds M1 => Two ds fun d d' => ∃ i, d = .int i ∧ ∃ j, d' = .int j ∧ ((-(2 ^ 62) ≤ i ∧ i < 2 ^ 62 ∧ -(2 ^ 62) ≤ j ∧ j < 2 ^ 62) ∧ j - i ≤ 16777216) ∧ QL (rangeD i (j - i).toNat) M1) E := by
  unfold wRange2; rw [ev_bnd]
  refine ev_cg fun ds M1 => ?_
  rw [two_ex]
  split
  · rename_i i j
    rw [ev_part]
    exact ⟨fun ⟨a, b⟩ => ⟨_, _, rfl, i, rfl, j, rfl, a, b⟩, fun ⟨_, _, e, i', e1, j', e2, a, b⟩ => by cases e; cases e1; cases e2; exact ⟨a, b⟩⟩
  · rename_i h
    exact ⟨fun z => z.elim, fun ⟨_, _, e, i', e1, j', e2, _⟩ => by subst e1 e2; exact h i' j' e⟩
@[simp] theorem ev_wZip (f : Fn (List D)) : Ev (wZip f ρ M) QL E ↔ Ev (f ρ M) (fun ds M1 => Two ds fun d d' => ∃ xs, d = .lst xs ∧ ∃ ys, d' = .lst ys ∧ QL ((xs.zip ys).map fun z => .tup [z.1, z.2]) M1) E := by
  unfold wZip; rw [ev_bnd]
  refine ev_cg fun ds M1 => ?_
  rw [two_ex]
  split
  · rename_i i j
    exact ⟨fun b => ⟨_, _, rfl, i, rfl, j, rfl, b⟩, fun ⟨_, _, e, i', e1, j', e2, b⟩ => by cases e; cases e1; cases e2; exact b⟩
  · rename_i h
    exact ⟨fun z => z.elim, fun ⟨_, _, e, i', e1, j', e2, _⟩ => by subst e1 e2; exact h i' j' e⟩
/-! ### comprehensions -/
def Cv {γ : Type} (m : Option (γ × Mem)) (Q : γ → Mem → Prop) : Prop := match m with
  | some (a, M) => Q a M
  | none => False
@[simp] theorem cv_some {γ : Type} (a : γ) (M : Mem) (Q : γ → Mem → Prop) : Cv (some (a, M)) Q ↔ Q a M := Iff.rfl
theorem cv_of {γ : Type} {m : Option (γ × Mem)} {Q : γ → Mem → Prop} {a : γ} {M : Mem} (e : m = some (a, M)) (h : Q a M) : Cv m Q := by rw [e]; exact h
@[simp] theorem ev_fComp {f : Fn (List D)} {g : Tg} {tt : Fn Bool} {fe : Fn D} {vs : List Nat} : Ev (fComp f g tt fe vs ρ M) QD E ↔ Ev (f ρ M) (fun xs M1 => Cv (compL g tt fe (wipeE ρ vs) xs M1) fun ys M2 => QD (.lst ys) M2) E := by
  unfold fComp; rw [ev_bnd]
  refine ev_cg fun xs M1 => ?_
  rcases h : compL g tt fe (wipeE ρ vs) xs M1 with _ | ⟨ys, M2⟩
  · exact Iff.rfl
  · exact Iff.rfl
@[simp] theorem ev_fCompC {f : Fn (List D)} {g : Tg} {tt : Fn Bool} {fe : Fn D} {vs : List Nat} : Ev (fCompC f g tt fe vs ρ M) QD E ↔ Ev (f ρ M) (fun xs M1 => Cv (compL g tt fe (wipeE ρ vs) xs M1) fun ys M2 => QD (.cell M2.length) (M2 ++ [some (.lst ys)])) E := by
  unfold fCompC; rw [ev_bnd]
  refine ev_cg fun xs M1 => ?_
  rcases h : compL g tt fe (wipeE ρ vs) xs M1 with _ | ⟨ys, M2⟩
  · exact Iff.rfl
  · exact Iff.rfl
@[simp] theorem ev_fDComp {f : Fn (List D)} {g : Tg} {tt : Fn Bool} {fk fv : Fn D} {vs : List Nat} : Ev (fDComp f g tt fk fv vs ρ M) QD E ↔ Ev (f ρ M) (fun xs M1 => Cv (compK g tt fk fv (wipeE ρ vs) xs [] M1) fun ys M2 => QD (.dic ys) M2) E := by
  unfold fDComp; rw [ev_bnd]
  refine ev_cg fun xs M1 => ?_
  rcases h : compK g tt fk fv (wipeE ρ vs) xs [] M1 with _ | ⟨ys, M2⟩
  · exact Iff.rfl
  · exact Iff.rfl
/-- a comprehension over items that are encodings, which changes nothing -/
theorem compL_map {γ : Type} {g : Tg} {tt : Fn Bool} {fe : Fn D} {ρ : Env} {M : Mem} (enc : γ → D) (p : γ → Bool) (e : γ → D) : ∀ (ts : List γ), (∀ t ∈ ts, ∃ ρ1, g (enc t) ρ = some ρ1 ∧ Ev (tt ρ1 M) (fun b M1 => b = p t ∧ M1 = M) Ex0 ∧ (p t = true → Ev (fe ρ1 M) (fun d M1 => d = e t ∧ M1 = M) Ex0)) →
    compL g tt fe ρ (ts.map enc) M = some ((ts.filter p).map e, M)
  | [], _ => rfl
  | t :: ts, h => by
    have ih := compL_map enc p e ts fun t' m => h t' (List.mem_cons_of_mem _ m)
    obtain ⟨ρ1, h1, h2, h3⟩ := h t List.mem_cons_self
    obtain ⟨b, M1, h2, rfl, rfl⟩ := h2.eq
    rw [List.map_cons]
    unfold compL
    rw [h1]
    simp only [h2]
    cases q : p t with
    | false => simp only [ih, List.filter_cons, q]; rfl
    | true =>
      obtain ⟨d, M2, e1, rfl, rfl⟩ := (h3 q).eq
      simp only [e1, ih, List.filter_cons, q]
      rfl
/-- a comprehension that changes memory: an invariant -/
theorem compL_inv {g : Tg} {tt : Fn Bool} {fe : Fn D} {ρ : Env} (I : Nat → List D → Mem → Prop) : ∀ (xs : List D) (n : Nat) (acc : List D) (M : Mem), I n acc M →
    (∀ i x acc M, xs[i]? = some x → I (n + i) acc M → ∃ ρ1, g x ρ = some ρ1 ∧ Ev (tt ρ1 M) (fun b M1 => (b = true → Ev (fe ρ1 M1) (fun d M2 => I (n + i + 1) (acc ++ [d]) M2) Ex0) ∧ (b = false → I (n + i + 1) acc M1)) Ex0) →
    ∃ ys M', compL g tt fe ρ xs M = some (ys, M') ∧ I (n + xs.length) (acc ++ ys) M'
  | [], n, acc, M, h0, _ => ⟨[], M, rfl, by simpa using h0⟩
  | x :: xs, n, acc, M, h0, hs => by
    obtain ⟨ρ1, h1, hE⟩ := hs 0 x acc M rfl h0
    obtain ⟨b, M1, h2, h3, h4⟩ := hE.eq
    unfold compL
    rw [h1]
    simp only [h2]
    have rest : ∀ (acc : List D) (M : Mem), I (n + 1) acc M → ∃ ys M', compL g tt fe ρ xs M = some (ys, M') ∧ I (n + (x :: xs).length) (acc ++ ys) M' := fun acc M h => by
      have := compL_inv I xs (n + 1) acc M h fun i x acc M e q => by
        have := hs (i + 1) x acc M (by simpa using e)
        rw [show n + (i + 1) = n + 1 + i by omega] at this
        exact this q
      rwa [show n + (x :: xs).length = n + 1 + xs.length by simp; omega]
    cases b with
    | false =>
      obtain ⟨ys, M', e, q⟩ := rest acc M1 (h4 rfl)
      exact ⟨ys, M', e, q⟩
    | true =>
      obtain ⟨d, M2, e1, q1⟩ := (h3 rfl).eq
      obtain ⟨ys, M', e, q⟩ := rest (acc ++ [d]) M2 q1
      exact ⟨d :: ys, M', by simp only [e1, e], by simpa using q⟩
theorem cv_inv {g : Tg} {tt : Fn Bool} {fe : Fn D} {ρ : Env} {xs : List D} {M : Mem} {Q : List D → Mem → Prop} (I : Nat → List D → Mem → Prop) (h0 : I 0 [] M)
    (hs : ∀ i x acc M, xs[i]? = some x → I i acc M → ∃ ρ1, g x ρ = some ρ1 ∧ Ev (tt ρ1 M) (fun b M1 => (b = true → Ev (fe ρ1 M1) (fun d M2 => I (i + 1) (acc ++ [d]) M2) Ex0) ∧ (b = false → I (i + 1) acc M1)) Ex0)
    (hd : ∀ ys M', I xs.length ys M' → Q ys M') : Cv (compL g tt fe ρ xs M) Q := by
  obtain ⟨ys, M', e, q⟩ := compL_inv I xs 0 [] M h0 fun i x acc M e q => by
    rw [Nat.zero_add] at q ⊢
    exact hs i x acc M e q
  rw [e]
  exact hd ys M' (by simpa using q)
/-! ### statements -/
theorem Sv.mono {m : Option (Out × Env × Mem)} {P P' : Po} (h : Sv m P) (h1 : ∀ ρ M, P.nx ρ M → P'.nx ρ M) (h2 : ∀ d M, P.rt d M → P'.rt d M) (h3 : ∀ ρ M, P.bk ρ M → P'.bk ρ M) (h4 : ∀ ρ M, P.ct ρ M → P'.ct ρ M) (h5 : ∀ x M, P.ex x M → P'.ex x M) : Sv m P' := by
  rcases m with _ | ⟨o, ρ, M⟩
  · exact h
  · cases o
    · exact h1 _ _ h
    · exact h3 _ _ h
    · exact h4 _ _ h
    · exact h2 _ _ h
    · exact h5 _ _ h
@[simp] theorem sv_bndS (m : Option (R α × Mem)) (k : α → Mem → Option (Out × Env × Mem)) : Sv (bndS m ρ k) P ↔ Ev m (fun a M1 => Sv (k a M1) P) P.ex := by
  rcases m with _ | ⟨r, M1⟩
  · exact Iff.rfl
  · cases r <;> exact Iff.rfl
@[simp] theorem sv_nx (ρ : Env) (M : Mem) : Sv (some (.nx, ρ, M)) P ↔ P.nx ρ M := Iff.rfl
@[simp] theorem sv_rt (d : D) (ρ : Env) (M : Mem) : Sv (some (.rt d, ρ, M)) P ↔ P.rt d M := Iff.rfl
@[simp] theorem sv_none : Sv none P ↔ False := Iff.rfl
@[simp] theorem sv_seq {a b : Sn} : Sv (sSeq a b ρ M) P ↔ Sv (a ρ M) { nx := fun ρ1 M1 => Sv (b ρ1 M1) P, rt := P.rt, bk := P.bk, ct := P.ct, ex := P.ex } := by
  unfold sSeq
  rcases a ρ M with _ | ⟨o, ρ1, M1⟩
  · exact Iff.rfl
  · cases o <;> exact Iff.rfl
@[simp] theorem sv_next : Sv (sNext ρ M) P ↔ P.nx ρ M := Iff.rfl
@[simp] theorem sv_break : Sv (sBreak ρ M) P ↔ P.bk ρ M := Iff.rfl
@[simp] theorem sv_cont : Sv (sCont ρ M) P ↔ P.ct ρ M := Iff.rfl
@[simp] theorem sv_never : Sv (sNever ρ M) P ↔ False := Iff.rfl
@[simp] theorem sv_retN : Sv (sRetN ρ M) P ↔ P.rt .non M := Iff.rfl
@[simp] theorem sv_asgN {f : Fn D} (i : Nat) : Sv (sAsg f (yName i) ρ M) P ↔ Ev (f ρ M) (fun d M1 => P.nx (ρ.set i (some d)) M1) P.ex := by
  unfold sAsg; rw [sv_bndS]; exact Iff.rfl
@[simp low] theorem sv_asg {f : Fn D} {g : Tg} : Sv (sAsg f g ρ M) P ↔ Ev (f ρ M) (fun d M1 => ∃ ρ1, g d ρ = some ρ1 ∧ P.nx ρ1 M1) P.ex := by
  unfold sAsg; rw [sv_bndS]
  refine ev_cg fun d M1 => ?_
  cases h : g d ρ <;> simp
@[simp] theorem sv_par {fs : Fn (List D)} {i j : Nat} : Sv (sPar i j fs ρ M) P ↔ Ev (fs ρ M) (fun ds M1 => Two ds fun d d' => P.nx ((ρ.set i (some d)).set j (some d')) M1) P.ex := by
  unfold sPar; rw [sv_bndS]
  refine ev_cg fun ds M1 => ?_
  rw [two_ex]
  split
  · rename_i d d'
    exact ⟨fun h => ⟨d, d', rfl, h⟩, fun ⟨_, _, e, h⟩ => by cases e; exact h⟩
  · rename_i h
    exact ⟨fun z => z.elim, fun ⟨i, j, e, _⟩ => h i j e⟩
@[simp] theorem sv_aug {f : Fn D} {i : Nat} {op : Op2} : Sv (sAug i op f ρ M) P ↔ ∃ x, ρ[i]? = some (some x) ∧ Ev (f ρ M) (fun y M1 => Ev (op x y M1) (fun z M2 => P.nx (ρ.set i (some z)) M2) P.ex) P.ex := by
  unfold sAug
  rcases h : ρ[i]? with _ | _ | x
  · simp
  · simp
  · simp only [sv_bndS, ev_bnd]
    simp
@[simp] theorem sv_if {t : Fn Bool} {g h : Sn} : Sv (sIf t g h ρ M) P ↔ Ev (t ρ M) (fun k M1 => (k = true → Sv (g ρ M1) P) ∧ (k = false → Sv (h ρ M1) P)) P.ex := by
  unfold sIf; rw [sv_bndS]
  refine ev_cg fun k M1 => ?_
  cases k <;> simp
@[simp] theorem sv_ret {f : Fn D} : Sv (sRet f ρ M) P ↔ Ev (f ρ M) P.rt P.ex := by
  unfold sRet; rw [sv_bndS]; exact Iff.rfl
@[simp] theorem sv_expr {f : Fn D} : Sv (sExpr f ρ M) P ↔ Ev (f ρ M) (fun _ M1 => P.nx ρ M1) P.ex := by
  unfold sExpr; rw [sv_bndS]; exact Iff.rfl
@[simp] theorem sv_for {f : Fn (List D)} {g : Tg} {b : Sn} : Sv (sFor f g b ρ M) P ↔ Ev (f ρ M) (fun xs M1 => Sv (forL g b xs ρ M1) P) P.ex := by
  unfold sFor; rw [sv_bndS]
/-- a loop: an invariant -/
theorem sv_forL {g : Tg} {b : Sn} (I : Nat → Env → Mem → Prop) : ∀ (xs : List D) (n : Nat) (ρ : Env) (M : Mem), I n ρ M →
    (∀ i x ρ M, xs[i]? = some x → I (n + i) ρ M → ∃ ρ1, g x ρ = some ρ1 ∧ Sv (b ρ1 M) { nx := I (n + i + 1), ct := I (n + i + 1), bk := P.nx, rt := P.rt, ex := P.ex }) →
    (∀ ρ M, I (n + xs.length) ρ M → P.nx ρ M) → Sv (forL g b xs ρ M) P
  | [], n, ρ, M, h0, _, hd => hd ρ M (by simpa using h0)
  | x :: xs, n, ρ, M, h0, hs, hd => by
    obtain ⟨ρ1, h1, h3⟩ := hs 0 x ρ M rfl h0
    unfold forL
    rw [h1]
    have rest : ∀ (ρ : Env) (M : Mem), I (n + 1) ρ M → Sv (forL g b xs ρ M) P := fun ρ M h =>
      sv_forL I xs (n + 1) ρ M h (fun i x ρ M e q => by
        have := hs (i + 1) x ρ M (by simpa using e)
        rw [show n + (i + 1) = n + 1 + i by omega] at this
        exact this q) fun ρ M q => hd ρ M (by rwa [show n + (x :: xs).length = n + 1 + xs.length by simp; omega])
    show Sv (match b ρ1 M with | some (.nx, ρ2, M2) => forL g b xs ρ2 M2 | some (.ct, ρ2, M2) => forL g b xs ρ2 M2 | some (.bk, ρ2, M2) => some (.nx, ρ2, M2) | r => r) P
    rcases hb : b ρ1 M with _ | ⟨o, ρ2, M2⟩
    · rw [hb] at h3; exact h3.elim
    · rw [hb] at h3
      cases o with
      | nx => exact rest _ _ h3
      | ct => exact rest _ _ h3
      | bk => exact h3
      | rt d => exact h3
      | exc x => exact h3
/-- a loop over encodings -/
theorem sv_forM {γ : Type} {g : Tg} {b : Sn} (enc : γ → D) (I : Nat → Env → Mem → Prop) (ts : List γ) (h0 : I 0 ρ M)
    (hs : ∀ i t ρ M, ts[i]? = some t → I i ρ M → ∃ ρ1, g (enc t) ρ = some ρ1 ∧ Sv (b ρ1 M) { nx := I (i + 1), ct := I (i + 1), bk := P.nx, rt := P.rt, ex := P.ex }) (hd : ∀ ρ M, I ts.length ρ M → P.nx ρ M) : Sv (forL g b (ts.map enc) ρ M) P := by
  refine sv_forL I (ts.map enc) 0 ρ M h0 (fun i x ρ M e q => ?_) fun ρ M q => hd ρ M (by simpa using q)
  rw [List.getElem?_map] at e
  cases h : ts[i]? with
  | none => rw [h] at e; cases e
  | some t =>
    rw [h] at e
    cases e
    rw [Nat.zero_add] at q ⊢
    exact hs i t ρ M h q
/-- a loop over numbers -/
theorem sv_forR {g : Tg} {b : Sn} {lo : Int} {n : Nat} (I : Nat → Env → Mem → Prop) (h0 : I 0 ρ M)
    (hs : ∀ (i : Nat) ρ M, i < n → I i ρ M → ∃ ρ1, g (.int (lo + (i : Int))) ρ = some ρ1 ∧ Sv (b ρ1 M) { nx := I (i + 1), ct := I (i + 1), bk := P.nx, rt := P.rt, ex := P.ex }) (hd : ∀ ρ M, I n ρ M → P.nx ρ M) : Sv (forL g b (rangeD lo n) ρ M) P := by
  refine sv_forM (fun i : Nat => D.int (lo + (i : Int))) I (List.range n) h0 (fun i t ρ M e q => ?_) fun ρ M q => hd ρ M (by simpa using q)
  obtain ⟨h1, h2⟩ := List.getElem?_eq_some_iff.mp e
  simp at h1 h2
  subst h2
  exact hs _ ρ M h1 q
theorem ev_fnD {N n : Nat} {g : Sn} {ds : List D} {Q : D → Mem → Prop} (hl : ds.length = n) : Ev (fnD N n g ds M) Q E ↔ Sv (g (ds.map some ++ List.replicate (N - n) none) M) { nx := fun _ M1 => Q .non M1, rt := Q, bk := fun _ _ => False, ct := fun _ _ => False, ex := E } := by
  unfold fnD
  rw [if_pos hl]
  rcases h : g (ds.map some ++ List.replicate (N - n) none) M with _ | ⟨o, ρ, M1⟩
  · exact Iff.rfl
  · cases o <;> exact Iff.rfl
theorem ev_def {N n : Nat} {g : Sn} {ds : List D} {Q : D → Mem → Prop} (h : Sv (g (ds.map some ++ List.replicate (N - n) none) M) { nx := fun _ M1 => Q .non M1, rt := Q, bk := fun _ _ => False, ct := fun _ _ => False, ex := E }) (hl : ds.length = n := by rfl) : Ev (fnD N n g ds M) Q E := (ev_fnD hl).mpr h
/-- a pure def -/
theorem ev_pure {φ : OpN} {ds : List D} {d : D} {Q : D → Mem → Prop} (h : Ev (φ ds []) (fun d' _ => d' = d) Ex0) (h1 : pureL ds = true) (h2 : d.pure = true) (q : Q d M) : Ev (pureOp φ ds M) Q E := by
  obtain ⟨d', M1, e, rfl⟩ := h.eq
  unfold pureOp runP
  rw [if_pos h1, e]
  simp only [if_pos h2]
  exact q
theorem pure_eq {φ : OpN} {ds : List D} {d : D} (h : Ev (φ ds []) (fun d' _ => d' = d) Ex0) (h1 : pureL ds = true) (h2 : d.pure = true) : pureOp φ ds M = some (.ok d, M) := by
  obtain ⟨d', M1, e, rfl⟩ := h.eq
  unfold pureOp runP
  rw [if_pos h1, e]
  simp only [if_pos h2]
@[simp] theorem yTup_tup (n : Nat) (g : List D → Env → Option Env) (ds : List D) : yTup n g (.tup ds) ρ = if ds.length = n then g ds ρ else none := rfl
@[simp] theorem yCons_cons (g : Tg) (h : List D → Env → Option Env) (d : D) (r : List D) : yCons g h (d :: r) ρ = (g d ρ).bind (h r) := rfl
@[simp] theorem yNil_nil : yNil [] ρ = some ρ := rfl
@[simp] theorem yName_some (i : Nat) (d : D) : yName i d ρ = some (ρ.set i (some d)) := rfl
end
end DL

namespace DL
open PySem L2
section
variable {Q : D → Mem → Prop} {M : Mem} {ρ : Env} {E : Exn → Mem → Prop}
@[simp] theorem gInt_int (i : Int) : gInt [.int i] M = some (.ok (.int i), M) := rfl
@[simp] theorem gInt_bl (k : Bool) : gInt [.bl k] M = some (.ok (.int (if k then 1 else 0)), M) := rfl
@[simp] theorem gAbs_int (i : Int) : Ev (gAbs [.int i] M) Q E ↔ Q (.int (if i < 0 then -i else i)) M := by
  unfold gAbs; first | simp | (constructor <;> simp)
@[simp] theorem gLen_lst (xs : List D) : gLen [.lst xs] M = some (.ok (.int xs.length), M) := rfl
@[simp] theorem gLen_tup (xs : List D) : gLen [.tup xs] M = some (.ok (.int xs.length), M) := rfl
@[simp] theorem gLen_dic (xs : List (Key × D)) : gLen [.dic xs] M = some (.ok (.int xs.length), M) := rfl
theorem gLen_cellL {i : Nat} {xs : List D} (h : M[i]? = some (some (.lst xs))) : gLen [.cell i] M = some (.ok (.int xs.length), M) := by
  unfold gLen; simp [listOf, h]
@[simp] theorem gMax_int (i j : Int) : gMax [.int i, .int j] M = some (.ok (.int (max i j)), M) := rfl
@[simp] theorem gMin_int (i j : Int) : gMin [.int i, .int j] M = some (.ok (.int (min i j)), M) := rfl
@[simp] theorem gIsN_non : gIsN .non .non M = some (.ok (.bl true), M) := rfl
@[simp] theorem gIsN_bl (b : Bool) : gIsN (.bl b) .non M = some (.ok (.bl false), M) := rfl
@[simp] theorem gIsN_int (b : Int) : gIsN (.int b) .non M = some (.ok (.bl false), M) := rfl
@[simp] theorem gIsN_str (b : Str) : gIsN (.str b) .non M = some (.ok (.bl false), M) := rfl
@[simp] theorem gIsN_tup (b : List D) : gIsN (.tup b) .non M = some (.ok (.bl false), M) := rfl
@[simp] theorem gIsN_lst (b : List D) : gIsN (.lst b) .non M = some (.ok (.bl false), M) := rfl
@[simp] theorem gNotN_non : gNotN .non .non M = some (.ok (.bl false), M) := rfl
@[simp] theorem gNotN_bl (b : Bool) : gNotN (.bl b) .non M = some (.ok (.bl true), M) := rfl
@[simp] theorem gNotN_int (b : Int) : gNotN (.int b) .non M = some (.ok (.bl true), M) := rfl
@[simp] theorem gNotN_str (b : Str) : gNotN (.str b) .non M = some (.ok (.bl true), M) := rfl
@[simp] theorem gNotN_tup (b : List D) : gNotN (.tup b) .non M = some (.ok (.bl true), M) := rfl
@[simp] theorem gNotN_lst (b : List D) : gNotN (.lst b) .non M = some (.ok (.bl true), M) := rfl
/-! ### isinstance -/
theorem gIsi_of {d : D} {a n : String} (h : tyName M d = some a) (hn : n ∈ tyTable) : gIsi [d, .any (.ty n)] M = some (.ok (.bl (isT a n)), M) := by
  unfold gIsi; simp only [h]; rw [if_pos hn]
@[simp] theorem isi_int_int (i : Int) : gIsi [.int i, .any (.ty "int")] M = some (.ok (.bl true), M) := gIsi_of (a := "int") rfl (by decide)
@[simp] theorem isi_int_bool (i : Int) : gIsi [.int i, .any (.ty "bool")] M = some (.ok (.bl false), M) := gIsi_of (a := "int") rfl (by decide)
@[simp] theorem isi_int_str (i : Int) : gIsi [.int i, .any (.ty "str")] M = some (.ok (.bl false), M) := gIsi_of (a := "int") rfl (by decide)
@[simp] theorem isi_int_dict (i : Int) : gIsi [.int i, .any (.ty "dict")] M = some (.ok (.bl false), M) := gIsi_of (a := "int") rfl (by decide)
@[simp] theorem isi_int_list (i : Int) : gIsi [.int i, .any (.ty "list")] M = some (.ok (.bl false), M) := gIsi_of (a := "int") rfl (by decide)
@[simp] theorem isi_int_tuple (i : Int) : gIsi [.int i, .any (.ty "tuple")] M = some (.ok (.bl false), M) := gIsi_of (a := "int") rfl (by decide)
@[simp] theorem isi_bl_int (i : Bool) : gIsi [.bl i, .any (.ty "int")] M = some (.ok (.bl true), M) := gIsi_of (a := "bool") rfl (by decide)
@[simp] theorem isi_bl_bool (i : Bool) : gIsi [.bl i, .any (.ty "bool")] M = some (.ok (.bl true), M) := gIsi_of (a := "bool") rfl (by decide)
@[simp] theorem isi_bl_str (i : Bool) : gIsi [.bl i, .any (.ty "str")] M = some (.ok (.bl false), M) := gIsi_of (a := "bool") rfl (by decide)
@[simp] theorem isi_bl_dict (i : Bool) : gIsi [.bl i, .any (.ty "dict")] M = some (.ok (.bl false), M) := gIsi_of (a := "bool") rfl (by decide)
@[simp] theorem isi_bl_list (i : Bool) : gIsi [.bl i, .any (.ty "list")] M = some (.ok (.bl false), M) := gIsi_of (a := "bool") rfl (by decide)
@[simp] theorem isi_bl_tuple (i : Bool) : gIsi [.bl i, .any (.ty "tuple")] M = some (.ok (.bl false), M) := gIsi_of (a := "bool") rfl (by decide)
@[simp] theorem isi_str_int (i : Str) : gIsi [.str i, .any (.ty "int")] M = some (.ok (.bl false), M) := gIsi_of (a := "str") rfl (by decide)
@[simp] theorem isi_str_bool (i : Str) : gIsi [.str i, .any (.ty "bool")] M = some (.ok (.bl false), M) := gIsi_of (a := "str") rfl (by decide)
@[simp] theorem isi_str_str (i : Str) : gIsi [.str i, .any (.ty "str")] M = some (.ok (.bl true), M) := gIsi_of (a := "str") rfl (by decide)
@[simp] theorem isi_str_dict (i : Str) : gIsi [.str i, .any (.ty "dict")] M = some (.ok (.bl false), M) := gIsi_of (a := "str") rfl (by decide)
@[simp] theorem isi_str_list (i : Str) : gIsi [.str i, .any (.ty "list")] M = some (.ok (.bl false), M) := gIsi_of (a := "str") rfl (by decide)
@[simp] theorem isi_str_tuple (i : Str) : gIsi [.str i, .any (.ty "tuple")] M = some (.ok (.bl false), M) := gIsi_of (a := "str") rfl (by decide)
@[simp] theorem isi_non_int : gIsi [.non, .any (.ty "int")] M = some (.ok (.bl false), M) := gIsi_of (a := "NoneType") rfl (by decide)
@[simp] theorem isi_non_bool : gIsi [.non, .any (.ty "bool")] M = some (.ok (.bl false), M) := gIsi_of (a := "NoneType") rfl (by decide)
@[simp] theorem isi_non_str : gIsi [.non, .any (.ty "str")] M = some (.ok (.bl false), M) := gIsi_of (a := "NoneType") rfl (by decide)
@[simp] theorem isi_non_dict : gIsi [.non, .any (.ty "dict")] M = some (.ok (.bl false), M) := gIsi_of (a := "NoneType") rfl (by decide)
@[simp] theorem isi_non_list : gIsi [.non, .any (.ty "list")] M = some (.ok (.bl false), M) := gIsi_of (a := "NoneType") rfl (by decide)
@[simp] theorem isi_non_tuple : gIsi [.non, .any (.ty "tuple")] M = some (.ok (.bl false), M) := gIsi_of (a := "NoneType") rfl (by decide)
@[simp] theorem isi_lst_int (i : List D) : gIsi [.lst i, .any (.ty "int")] M = some (.ok (.bl false), M) := gIsi_of (a := "list") rfl (by decide)
@[simp] theorem isi_lst_bool (i : List D) : gIsi [.lst i, .any (.ty "bool")] M = some (.ok (.bl false), M) := gIsi_of (a := "list") rfl (by decide)
@[simp] theorem isi_lst_str (i : List D) : gIsi [.lst i, .any (.ty "str")] M = some (.ok (.bl false), M) := gIsi_of (a := "list") rfl (by decide)
@[simp] theorem isi_lst_dict (i : List D) : gIsi [.lst i, .any (.ty "dict")] M = some (.ok (.bl false), M) := gIsi_of (a := "list") rfl (by decide)
@[simp] theorem isi_lst_list (i : List D) : gIsi [.lst i, .any (.ty "list")] M = some (.ok (.bl true), M) := gIsi_of (a := "list") rfl (by decide)
@[simp] theorem isi_lst_tuple (i : List D) : gIsi [.lst i, .any (.ty "tuple")] M = some (.ok (.bl false), M) := gIsi_of (a := "list") rfl (by decide)
@[simp] theorem isi_tup_int (i : List D) : gIsi [.tup i, .any (.ty "int")] M = some (.ok (.bl false), M) := gIsi_of (a := "tuple") rfl (by decide)
@[simp] theorem isi_tup_bool (i : List D) : gIsi [.tup i, .any (.ty "bool")] M = some (.ok (.bl false), M) := gIsi_of (a := "tuple") rfl (by decide)
@[simp] theorem isi_tup_str (i : List D) : gIsi [.tup i, .any (.ty "str")] M = some (.ok (.bl false), M) := gIsi_of (a := "tuple") rfl (by decide)
@[simp] theorem isi_tup_dict (i : List D) : gIsi [.tup i, .any (.ty "dict")] M = some (.ok (.bl false), M) := gIsi_of (a := "tuple") rfl (by decide)
@[simp] theorem isi_tup_list (i : List D) : gIsi [.tup i, .any (.ty "list")] M = some (.ok (.bl false), M) := gIsi_of (a := "tuple") rfl (by decide)
@[simp] theorem isi_tup_tuple (i : List D) : gIsi [.tup i, .any (.ty "tuple")] M = some (.ok (.bl true), M) := gIsi_of (a := "tuple") rfl (by decide)
/-! ### indexes -/
theorem atI_nat {α : Type} (xs : List α) (n : Nat) : atI xs (n : Int) = xs[n]? := by
  unfold atI ixN
  rw [if_pos (by omega)]
  by_cases h : n < xs.length
  · rw [if_pos (by omega)]; simp
  · rw [if_neg (by omega), List.getElem?_eq_none (by omega)]; rfl
theorem gIx_tup (xs : List D) (i : Int) : Ev (gIx (.tup xs) (.int i) M) Q E ↔ ∃ d, atI xs i = some d ∧ Q d M := by
  unfold gIx; simp only [dicOf]
  cases atI xs i <;> simp
theorem gIx_lst (xs : List D) (i : Int) : Ev (gIx (.lst xs) (.int i) M) Q E ↔ ∃ d, atI xs i = some d ∧ Q d M := by
  unfold gIx; simp only [dicOf, listOf]
  cases atI xs i <;> simp
theorem gIx_cellL {j : Nat} {xs : List D} (h : M[j]? = some (some (.lst xs))) (i : Int) : Ev (gIx (.cell j) (.int i) M) Q E ↔ ∃ d, atI xs i = some d ∧ Q d M := by
  unfold gIx; simp only [dicOf, listOf, h]
  cases atI xs i <;> simp
@[simp] theorem ix_t0 (a : D) (l : List D) : Ev (gIx (.tup (a :: l)) (.int 0) M) Q E ↔ Q a M := by rw [gIx_tup, show (0 : Int) = ((0 : Nat) : Int) from rfl, atI_nat]; simp
@[simp] theorem ix_t1 (a b : D) (l : List D) : Ev (gIx (.tup (a :: b :: l)) (.int 1) M) Q E ↔ Q b M := by rw [gIx_tup, show (1 : Int) = ((1 : Nat) : Int) from rfl, atI_nat]; simp
@[simp] theorem ix_t2 (a b c : D) (l : List D) : Ev (gIx (.tup (a :: b :: c :: l)) (.int 2) M) Q E ↔ Q c M := by rw [gIx_tup, show (2 : Int) = ((2 : Nat) : Int) from rfl, atI_nat]; simp
@[simp] theorem ix_t3 (a b c d : D) (l : List D) : Ev (gIx (.tup (a :: b :: c :: d :: l)) (.int 3) M) Q E ↔ Q d M := by rw [gIx_tup, show (3 : Int) = ((3 : Nat) : Int) from rfl, atI_nat]; simp
@[simp] theorem ix_l0 (a : D) (l : List D) : Ev (gIx (.lst (a :: l)) (.int 0) M) Q E ↔ Q a M := by rw [gIx_lst, show (0 : Int) = ((0 : Nat) : Int) from rfl, atI_nat]; simp
@[simp] theorem ix_l1 (a b : D) (l : List D) : Ev (gIx (.lst (a :: b :: l)) (.int 1) M) Q E ↔ Q b M := by rw [gIx_lst, show (1 : Int) = ((1 : Nat) : Int) from rfl, atI_nat]; simp
@[simp] theorem ix_lN (xs : List D) (n : Nat) : Ev (gIx (.lst xs) (.int (n : Int)) M) Q E ↔ ∃ d, xs[n]? = some d ∧ Q d M := by rw [gIx_lst, atI_nat]
@[simp] theorem ix_tN (xs : List D) (n : Nat) : Ev (gIx (.tup xs) (.int (n : Int)) M) Q E ↔ ∃ d, xs[n]? = some d ∧ Q d M := by rw [gIx_tup, atI_nat]
theorem ix_cN {j : Nat} {xs : List D} (h : M[j]? = some (some (.lst xs))) (n : Nat) : Ev (gIx (.cell j) (.int (n : Int)) M) Q E ↔ ∃ d, xs[n]? = some d ∧ Q d M := by rw [gIx_cellL h, atI_nat]
theorem ix_cD {j : Nat} {es : List (Key × D)} (h : M[j]? = some (some (.dic es))) (y : D) : Ev (gIx (.cell j) y M) Q E ↔ ∃ k d, keyOf y = some k ∧ getK es k = some d ∧ Q d M := by
  unfold gIx; simp only [dicOf, h]
  cases h1 : keyOf y with
  | none => simp
  | some k => cases h2 : getK es k <;> simp [h2]
theorem ix_d (es : List (Key × D)) (y : D) : Ev (gIx (.dic es) y M) Q E ↔ ∃ k d, keyOf y = some k ∧ getK es k = some d ∧ Q d M := by
  unfold gIx; simp only [dicOf]
  cases h1 : keyOf y with
  | none => simp
  | some k => cases h2 : getK es k <;> simp [h2]
theorem ix_cDs {j : Nat} {es : List (Key × D)} (h : M[j]? = some (some (.dic es))) (k : Str) : Ev (gIx (.cell j) (.str k) M) Q E ↔ ∃ d, getK es (.inr k) = some d ∧ Q d M := by
  rw [ix_cD h]; simp [keyOf]
theorem ix_cDi {j : Nat} {es : List (Key × D)} (h : M[j]? = some (some (.dic es))) (k : Int) : Ev (gIx (.cell j) (.int k) M) Q E ↔ ∃ d, getK es (.inl k) = some d ∧ Q d M := by
  rw [ix_cD h]; simp [keyOf]
/-! ### slices -/
theorem cut_to (xs : List D) (n : Nat) : cutD xs none (some (n : Int)) = xs.take n := by
  unfold cutD
  rw [HT.sIx_none, HT.sIx_nat]
  simp [List.take_eq_take_iff]
theorem cut_from (xs : List D) (n : Nat) : cutD xs (some (n : Int)) none = xs.drop n := by
  unfold cutD
  rw [HT.sIx_none, HT.sIx_nat]
  rcases Nat.le_total n xs.length with h | h
  · rw [Nat.min_eq_left h, List.take_of_length_le (by simp)]
  · rw [Nat.min_eq_right h, List.take_of_length_le (by simp), List.drop_length, List.drop_eq_nil_of_le h]
@[simp] theorem gSl_lst (xs : List D) (lo hi : Option Int) : gSl (.lst xs) lo hi M = some (.ok (.lst (cutD xs lo hi)), M) := rfl
theorem gSl_cell {j : Nat} {xs : List D} (h : M[j]? = some (some (.lst xs))) (lo hi : Option Int) : gSl (.cell j) lo hi M = some (.ok (.lst (cutD xs lo hi)), M) := by
  unfold gSl; simp [listOf, h]
@[simp] theorem gList_lst (xs : List D) : gList [.lst xs] M = some (.ok (.lst xs), M) := rfl
@[simp] theorem gList_tup (xs : List D) : gList [.tup xs] M = some (.ok (.lst xs), M) := rfl
@[simp] theorem gListC_lst (xs : List D) : gListC [.lst xs] M = some (.ok (.cell M.length), M ++ [some (.lst xs)]) := rfl
@[simp] theorem gListC_tup (xs : List D) : gListC [.tup xs] M = some (.ok (.cell M.length), M ++ [some (.lst xs)]) := rfl
@[simp] theorem gTuple_lst (xs : List D) : gTuple [.lst xs] M = some (.ok (.tup xs), M) := rfl
theorem gTuple_cell {j : Nat} {xs : List D} (h : M[j]? = some (some (.lst xs))) : gTuple [.cell j] M = some (.ok (.tup xs), M) := by
  unfold gTuple; simp [listOf, h]
theorem toBls_mapF {γ : Type} (f : γ → Bool) : ∀ ts : List γ, toBls (ts.map fun t => .bl (f t)) = some (ts.map f)
  | [] => rfl
  | t :: ts => by
    rw [List.map_cons]
    unfold toBls
    rw [toBls_mapF f ts]; rfl
theorem gAll_map {γ : Type} (f : γ → Bool) (ts : List γ) : gAll [.lst (ts.map fun t => .bl (f t))] M = some (.ok (.bl (ts.all f)), M) := by
  unfold gAll; simp only [toBls_mapF]; simp [Function.comp_def]
theorem gAny_map {γ : Type} (f : γ → Bool) (ts : List γ) : gAny [.lst (ts.map fun t => .bl (f t))] M = some (.ok (.bl (ts.any f)), M) := by
  unfold gAny; simp only [toBls_mapF]; simp [Function.comp_def]
/-! ### lists joined -/
@[simp] theorem ev_gAdd_lst (xs ys : List D) : Ev (gAdd (.lst xs) (.lst ys) M) Q E ↔ xs.length + ys.length ≤ 16777216 ∧ Q (.lst (xs ++ ys)) M := by
  show Ev (addL (.lst xs) (.lst ys) M) Q E ↔ _
  unfold addL; simp [listOf]
@[simp] theorem ev_gAdd_tup (x : D) (xs ys : List D) : Ev (gAdd (.tup (x :: xs)) (.tup ys) M) Q E ↔ (x :: xs).length + ys.length ≤ 16777216 ∧ Q (.tup ((x :: xs) ++ ys)) M := by
  show Ev (addT (.tup (x :: xs)) (.tup ys) M) Q E ↔ _
  unfold addT; simp
/-! ### cells -/
theorem isTy_cellL {j : Nat} {xs : List D} (h : M[j]? = some (some (.lst xs))) : isTy "list" M (.cell j) = true := by
  unfold isTy; simp [h]
theorem gAppend_cell {j : Nat} {xs : List D} {y : D} (h : M[j]? = some (some (.lst xs))) : Ev (gAppend (.cell j) [y] M) Q E ↔ xs.length < 16777216 ∧ Q .non (M.set j (some (.lst (xs ++ [y])))) := by
  unfold gAppend; simp only [h, ev_part, ev_some]
@[simp] theorem ev_fFrz {f : Fn D} {Q : D → Mem → Prop} : Ev (fFrz f ρ M) Q E ↔ Ev (f ρ M) (fun d M1 => ∃ i, d = .cell i ∧ ((∃ xs, M1[i]? = some (some (.lst xs)) ∧ Q (.lst xs) (M1.set i none)) ∨ ∃ es, M1[i]? = some (some (.dic es)) ∧ Q (.dic es) (M1.set i none))) E := by
  unfold fFrz; rw [ev_bnd]
  refine ev_cg fun d M1 => ?_
  cases d <;> try simp
  rename_i i
  rcases h : M1[i]? with _ | _ | c
  · simp
  · simp
  · cases c <;> simp
theorem sv_setL {fo fi fe : Fn D} {P : Po} (h : Ev (fe ρ M) (fun v M1 => Ev (fo ρ M1) (fun d M2 => Ev (fi ρ M2) (fun y M3 => ∃ (i : Nat) (ds : List D) (n : Nat), d = .cell i ∧ M3[i]? = some (some (.lst ds)) ∧ y = .int (n : Int) ∧ n < ds.length ∧ P.nx ρ (M3.set i (some (.lst (ds.set n v))))) P.ex) P.ex) P.ex) : Sv (sSet fo fi fe ρ M) P := by
  unfold sSet
  rw [sv_bndS]
  refine h.mono (fun v M1 h => ?_) fun _ _ z => z
  rw [sv_bndS]
  refine h.mono (fun v M1 h => ?_) fun _ _ z => z
  rw [sv_bndS]
  refine h.mono (fun v M1 h => ?_) fun _ _ z => z
  obtain ⟨i, ds, n, rfl, h1, rfl, h2, h3⟩ := h
  have : ixN ds.length (n : Int) = some n := by unfold ixN; rw [if_pos (by omega), if_pos (by omega)]; simp
  simp only [h1, this]
  exact h3
theorem sv_setD {fo fi fe : Fn D} {P : Po} (h : Ev (fe ρ M) (fun v M1 => Ev (fo ρ M1) (fun d M2 => Ev (fi ρ M2) (fun y M3 => ∃ (i : Nat) (es : List (Key × D)) (k : Key), d = .cell i ∧ M3[i]? = some (some (.dic es)) ∧ keyOf y = some k ∧ es.length < 16777216 ∧ P.nx ρ (M3.set i (some (.dic (putD es k v))))) P.ex) P.ex) P.ex) : Sv (sSet fo fi fe ρ M) P := by
  unfold sSet
  rw [sv_bndS]
  refine h.mono (fun v M1 h => ?_) fun _ _ z => z
  rw [sv_bndS]
  refine h.mono (fun v M1 h => ?_) fun _ _ z => z
  rw [sv_bndS]
  refine h.mono (fun v M1 h => ?_) fun _ _ z => z
  obtain ⟨i, es, k, rfl, h1, h2, h3, h4⟩ := h
  simp only [h1, h2, if_pos h3]
  exact h4
@[simp] theorem ev_fPN {Q : List (D × D) → Mem → Prop} : Ev (fPN ρ M) Q E ↔ Q [] M := Iff.rfl
@[simp] theorem ev_fPC {fk fv : Fn D} {f : Fn (List (D × D))} {Q : List (D × D) → Mem → Prop} : Ev (fPC fk fv f ρ M) Q E ↔ Ev (fk ρ M) (fun a M1 => Ev (fv ρ M1) (fun b M2 => Ev (f ρ M2) (fun r M3 => Q ((a, b) :: r) M3) E) E) E := by unfold fPC; simp
@[simp] theorem ev_fDispC {f : Fn (List (D × D))} {Q : D → Mem → Prop} : Ev (fDispC f ρ M) Q E ↔ Ev (f ρ M) (fun r M1 => ∃ es, keysOf r = some es ∧ es.length ≤ 15 ∧ Q (.cell M1.length) (M1 ++ [some (.dic (mergeD [] es))])) E := by
  unfold fDispC; rw [ev_bnd]
  refine ev_cg fun r M1 => ?_
  cases keysOf r <;> simp
@[simp] theorem ev_fDisp {f : Fn (List (D × D))} {Q : D → Mem → Prop} : Ev (fDisp f ρ M) Q E ↔ Ev (f ρ M) (fun r M1 => ∃ es, keysOf r = some es ∧ es.length ≤ 15 ∧ Q (.dic (mergeD [] es)) M1) E := by
  unfold fDisp; rw [ev_bnd]
  refine ev_cg fun r M1 => ?_
  cases keysOf r <;> simp
end
end DL

namespace DL
open PySem PySem.Spec PyProof.Rows L2
def g_draws : Sn := (sSeq (sAsg (fLstC fNil) (yName 1))
  (sSeq (sFor (wList (fBin gAdd (fCall gList (fCons (fSl (fVar 0) fNone (fPart (fC (.int 8)))) fNil)) (fLst (fCons (fC (.int 7)) fNil)))) (yName 2) (sSeq (sAsg (fCall gAbs (fCons (fCall gInt (fCons (fVar 2) fNil)) fNil)) (yName 3))
  (sSeq (sAsg (fBin gAdd (fBin gMod (fCall gInt (fCons (fVar 2) fNil)) (fC (.int 1000003))) (fC (.int 1))) (yName 4))
  (sFor (wRange1 (fCons (fC (.int 40)) fNil)) (yName 5) (sIf (asB (fBin gGe (fVar 3) (fC (.int 1048576)))) (sSeq (sExpr (fBM "list" gAppend (fVar 1) (fCons (fBin gMod (fCall gInt (fCons (fVar 3) fNil)) (fC (.int 1048576))) fNil)))
  (sAsg (fBin gDiv (fVar 3) (fC (.int 1048576))) (yName 3))) (sSeq (sAsg (fBin gMod (fCall gInt (fCons (fBin gAdd (fBin gAdd (fBin gAdd (fBin gMulI (fVar 4) (fC (.int 48271))) (fBin gMulI (fC (.int 11)) (fVar 5))) (fC (.int 7))) (fVar 3)) fNil)) (fC (.int 2147483647))) (yName 4))
  (sExpr (fBM "list" gAppend (fVar 1) (fCons (fBin gMod (fCall gInt (fCons (fBin gDiv (fBin gMulI (fVar 4) (fC (.int 2862933555777941757))) (fC (.int 1024))) fNil)) (fC (.int 1048576))) fNil)))))))))
  (sRet (fDispC (fPC (fC (.str "numbers")) (fFrz (fVar 1)) (fPC (fC (.str "at")) (fC (.int 0)) fPN))))))
def φ_draws : OpN := fnD 6 1 g_draws
def g_next : Sn := (sSeq (sAsg (fCall gInt (fCons (fBin gIx (fVar 0) (fC (.str "at"))) fNil)) (yName 2))
  (sSeq (sSet (fVar 0) (fC (.str "at")) (fBin gAdd (fVar 2) (fC (.int 1))))
  (sRet (fBin gMod (fCall gInt (fCons (fBin gAdd (fBin gIx (fBin gIx (fVar 0) (fC (.str "numbers"))) (fBin gMod (fVar 2) (fCall gLen (fCons (fBin gIx (fVar 0) (fC (.str "numbers"))) fNil)))) (fBin gMulI (fC (.int 31)) (fBin gDiv (fVar 2) (fCall gLen (fCons (fBin gIx (fVar 0) (fC (.str "numbers"))) fNil))))) fNil)) (fVar 1)))))
def φ_next : OpN := fnD 3 2 g_next
def g_pick : Sn := (sRet (fBin gIx (fVar 1) (fCall φ_next (fCons (fVar 0) (fCons (fCall gLen (fCons (fVar 1) fNil)) fNil)))))
def φ_pick : OpN := fnD 2 2 g_pick
def g_same (φ : OpN) : Sn := (sSeq (sIf (asB (fBin gIsN (fVar 1) (fC .non))) (sRet (fBin gIsN (fVar 0) (fC .non))) sNext)
  (sSeq (sIf (asB (fCall gIsi (fCons (fVar 1) (fCons (fC (.any (.ty "bool"))) fNil)))) (sRet (fAndV (fCall gIsi (fCons (fVar 0) (fCons (fC (.any (.ty "bool"))) fNil))) (fBin gEq (fVar 0) (fVar 1)))) sNext)
  (sSeq (sIf (asB (fCall gIsi (fCons (fVar 1) (fCons (fC (.any (.ty "int"))) fNil)))) (sRet (fAndV (fCall gIsi (fCons (fVar 0) (fCons (fC (.any (.ty "int"))) fNil))) (fAndV (fNotV (fCall gIsi (fCons (fVar 0) (fCons (fC (.any (.ty "bool"))) fNil)))) (fBin gEq (fVar 0) (fVar 1))))) sNext)
  (sSeq (sIf (asB (fCall gIsi (fCons (fVar 1) (fCons (fC (.any (.ty "str"))) fNil)))) (sRet (fAndV (fCall gIsi (fCons (fVar 0) (fCons (fC (.any (.ty "str"))) fNil))) (fBin gEq (fVar 0) (fVar 1)))) sNext)
  (sSeq (sIf (asB (fCall gIsi (fCons (fVar 1) (fCons (fC (.any (.ty "dict"))) fNil)))) sNever sNext)
  (sSeq (sIf (asB (fCall gIsi (fCons (fVar 1) (fCons (fC (.any (.ty "list"))) fNil)))) (sRet (fAndV (fCall gIsi (fCons (fVar 0) (fCons (fC (.any (.ty "list"))) fNil))) (fAndV (fBin gEq (fCall gLen (fCons (fVar 0) fNil)) (fCall gLen (fCons (fVar 1) fNil))) (fCall gAll (fCons (fComp (wRange1 (fCons (fCall gLen (fCons (fVar 1) fNil)) fNil)) (yName 3) fYes (fCall (pureOp φ) (fCons (fBin gIx (fVar 0) (fVar 3)) (fCons (fBin gIx (fVar 1) (fVar 3)) fNil))) [3]) fNil))))) sNext)
  (sRet (fAndV (fCall gIsi (fCons (fVar 0) (fCons (fC (.any (.ty "tuple"))) fNil))) (fAndV (fBin gEq (fCall gLen (fCons (fVar 0) fNil)) (fCall gLen (fCons (fVar 1) fNil))) (fCall gAll (fCons (fComp (wRange1 (fCons (fCall gLen (fCons (fVar 1) fNil)) fNil)) (yName 3) fYes (fCall (pureOp φ) (fCons (fBin gIx (fVar 0) (fVar 3)) (fCons (fBin gIx (fVar 1) (fVar 3)) fNil))) [3]) fNil)))))))))))
def φ_same : Nat → OpN
  | 0 => fun _ _ => none
  | n + 1 => fnD 4 2 (g_same (φ_same n))
def g_copy (φ : OpN) : Sn := (sSeq (sIf (asB (fCall gIsi (fCons (fVar 0) (fCons (fC (.any (.ty "list"))) fNil)))) (sRet (fComp (wList (fVar 0)) (yName 1) fYes (fCall (pureOp φ) (fCons (fVar 1) fNil)) [1])) sNext)
  (sSeq (sIf (asB (fCall gIsi (fCons (fVar 0) (fCons (fC (.any (.ty "tuple"))) fNil)))) (sRet (fCall gTuple (fCons (fComp (wTup (fVar 0)) (yName 1) fYes (fCall (pureOp φ) (fCons (fVar 1) fNil)) [1]) fNil))) sNext)
  (sSeq (sIf (asB (fCall gIsi (fCons (fVar 0) (fCons (fC (.any (.ty "dict"))) fNil)))) sNever sNext)
  (sRet (fVar 0)))))
def φ_copy : Nat → OpN
  | 0 => fun _ _ => none
  | n + 1 => fnD 3 1 (g_copy (φ_copy n))
/-- the state of the draws -/
abbrev kN : Key := .inr "numbers"
abbrev kA : Key := .inr "at"
theorem kNA : kN ≠ kA := by decide +kernel
theorem kAN : kA ≠ kN := by decide +kernel
def Dr (M : Mem) (i : Nat) : Prop := ∃ (ns : List Int) (a : Int), ns ≠ [] ∧ ns.length ≤ 16777216 ∧ M[i]? = some (some (.dic [(kN, .lst (ns.map D.int)), (kA, .int a)]))
structure Up (i : Nat) (M M' : Mem) : Prop where
  dr : Dr M' i
  len : M.length ≤ M'.length
  kp : ∀ j, j < M.length → j ≠ i → M'[j]? = M[j]?
theorem Up.refl {i : Nat} {M : Mem} (h : Dr M i) : Up i M M := ⟨h, Nat.le_refl _, fun _ _ _ => rfl⟩
theorem Up.trans {i : Nat} {M M1 M2 : Mem} (a : Up i M M1) (b : Up i M1 M2) : Up i M M2 :=
  ⟨b.dr, Nat.le_trans a.len b.len, fun j h n => (b.kp j (Nat.lt_of_lt_of_le h a.len) n).trans (a.kp j h n)⟩
theorem Dr.lt {i : Nat} {M : Mem} (h : Dr M i) : i < M.length := by
  obtain ⟨_, _, _, _, e⟩ := h
  exact (List.getElem?_eq_some_iff.mp e).1
theorem getK_1 {k k' : Key} {d d' : D} : getK [(k, d), (k', d')] k = some d := by unfold getK; simp
theorem getK_2 {k k' : Key} {d d' : D} (h : k ≠ k') : getK [(k, d), (k', d')] k' = some d' := by unfold getK; simp [h]
theorem putD_2 {k k' : Key} {d d' e : D} (h : k ≠ k') : putD [(k, d), (k', d')] k' e = [(k, d), (k', e)] := by
  unfold putD; rw [getK_2 h]; simp [h]
theorem fmod_lt {a b : Int} (h : 0 < b) : 0 ≤ a.fmod b ∧ a.fmod b < b := by
  rw [Int.fmod_eq_emod_of_nonneg a (Int.le_of_lt h)]
  exact ⟨Int.emod_nonneg a (Int.ne_of_gt h), Int.emod_lt_of_pos a h⟩
theorem next_ev {E : Exn → Mem → Prop} {M : Mem} {i : Nat} {b : Int} (h : Dr M i) (hb : 0 < b) : Ev (φ_next [.cell i, .int b] M) (fun d M' => ∃ z : Int, d = .int z ∧ 0 ≤ z ∧ z < b ∧ Up i M M' ∧ M'.length = M.length) E := by
  obtain ⟨ns, a, h1, h2, h3⟩ := h
  have hi : i < M.length := (List.getElem?_eq_some_iff.mp h3).1
  have hl : 0 < ns.length := by cases ns <;> simp_all
  refine ev_def ?_
  show Sv (g_next [some (.cell i), some (.int b), none] M) _
  rw [g_next, sv_seq, sv_asgN]
  simp only [ev_fCall, ev_fCons, ev_fNil, ev_fBin, ev_fVar, ev_fC, List.map_cons, List.map_nil, List.cons_append, List.nil_append, List.replicate, List.getElem?_cons_zero, Option.some.injEq, exists_eq_left']
  rw [ix_cDs h3]
  refine ⟨.int a, getK_2 kNA, ?_⟩
  simp only [gInt_int, ev_some]
  rw [sv_seq]
  refine sv_setD ?_
  simp only [ev_fBin, ev_fVar, ev_fC, List.set, List.getElem?_cons_zero, List.getElem?_cons_succ, Option.some.injEq, exists_eq_left', gAdd_int, ev_some]
  refine ⟨i, _, kA, rfl, h3, rfl, by simp, ?_⟩
  rw [putD_2 kNA]
  have h4 : (M.set i (some (.dic [(kN, .lst (ns.map D.int)), (kA, .int (a + 1))])))[i]? = some (some (.dic [(kN, .lst (ns.map D.int)), (kA, .int (a + 1))])) := List.getElem?_set_self hi
  rw [sv_ret]
  obtain ⟨r1, r2⟩ := fmod_lt (a := a) (b := (ns.length : Int)) (by omega)
  obtain ⟨m, hm⟩ : ∃ m : Nat, a.fmod (ns.length : Int) = (m : Int) := ⟨(a.fmod (ns.length : Int)).toNat, by omega⟩
  have hml : m < ns.length := by omega
  have bn : bNe0 a (ns.length : Int) = true := by unfold bNe0; exact decide_eq_true (by omega)
  have bd : bDiv a (ns.length : Int) = true := by unfold bDiv; exact decide_eq_true (by omega)
  have bm : bMul 31 (a.fdiv (ns.length : Int)) = true := by unfold bMul; simp
  have gN : getK [(kN, D.lst (ns.map D.int)), (kA, D.int (a + 1))] (.inr "numbers") = some (.lst (ns.map D.int)) := getK_1
  simp only [ev_fCall, ev_fCons, ev_fNil, ev_fBin, ev_fVar, ev_fC, List.getElem?_cons_zero, List.getElem?_cons_succ, Option.some.injEq, exists_eq_left', ix_cDs h4, gN, gLen_lst, ev_some, List.length_map, intOpC_int, bn, bd, if_true, hm, ix_lN]
  refine ⟨_, by rw [List.getElem?_map, List.getElem?_eq_getElem hml]; rfl, ?_⟩
  simp only [intOpC_int, bm, if_true, ev_some, gAdd_int, gInt_int]
  have bb : bNe0 (ns[m] + 31 * a.fdiv (ns.length : Int)) b = true := by unfold bNe0; exact decide_eq_true (by omega)
  simp only [bb, if_true, ev_some]
  obtain ⟨s1, s2⟩ := fmod_lt (a := ns[m] + 31 * a.fdiv (ns.length : Int)) hb
  exact ⟨_, rfl, s1, s2, ⟨⟨ns, a + 1, h1, h2, h4⟩, by simp, fun j hj nj => List.getElem?_set_ne (fun q => nj q.symm)⟩, by simp⟩
theorem pick_ev {E : Exn → Mem → Prop} {M : Mem} {i : Nat} {xs : List D} (h : Dr M i) (hx : xs ≠ []) : Ev (φ_pick [.cell i, .lst xs] M) (fun d M' => d ∈ xs ∧ Up i M M' ∧ M'.length = M.length) E := by
  have hl : 0 < xs.length := by cases xs <;> simp_all
  refine ev_def ?_
  show Sv (g_pick [some (.cell i), some (.lst xs)] M) _
  rw [g_pick, sv_ret]
  simp only [ev_fCall, ev_fCons, ev_fNil, ev_fBin, ev_fVar, ev_fC, List.map_cons, List.map_nil, List.cons_append, List.nil_append, List.getElem?_cons_zero, List.getElem?_cons_succ, Option.some.injEq, exists_eq_left', gLen_lst, ev_some]
  refine (next_ev (E := Ex0) h (b := (xs.length : Int)) (by omega)).go fun d M' ⟨z, e, z0, z1, u, hu⟩ => ?_
  subst e
  obtain ⟨m, rfl⟩ : ∃ m : Nat, z = (m : Int) := ⟨z.toNat, by omega⟩
  rw [ix_lN]
  exact ⟨_, List.getElem?_eq_getElem (by omega), List.getElem_mem _, u, hu⟩

mutual
/-- plain data of a bounded depth -/
def okD : Nat → D → Bool
  | _, .non => true | _, .bl _ => true | _, .int _ => true | _, .str s => s.cps.all (· < 0x110000)
  | n + 1, .tup ds => decide (ds.length ≤ 16777216) && okL n ds | n + 1, .lst ds => decide (ds.length ≤ 16777216) && okL n ds | _, _ => false
def okL : Nat → List D → Bool
  | _, [] => true
  | n, d :: ds => okD n d && okL n ds
end
theorem okL_mem {n : Nat} : ∀ {ds : List D}, okL n ds = true → ∀ d ∈ ds, okD n d = true
  | [], _, d, h => by simp at h
  | x :: ds, h, d, m => by
    simp only [okL, Bool.and_eq_true] at h
    rcases List.mem_cons.mp m with rfl | m
    · exact h.1
    · exact okL_mem h.2 d m
theorem okL_of {n : Nat} : ∀ {ds : List D}, (∀ d ∈ ds, okD n d = true) → okL n ds = true
  | [], _ => rfl
  | x :: ds, h => by simp only [okL, h x List.mem_cons_self, okL_of fun d m => h d (List.mem_cons_of_mem _ m), Bool.and_self]
mutual
theorem okD_pure : ∀ (n : Nat) (d : D), okD n d = true → d.pure = true
  | _, .non, _ => rfl | _, .bl _, _ => rfl | _, .int _, _ => rfl | _, .str _, _ => rfl
  | n + 1, .tup ds, h => by simp only [okD, Bool.and_eq_true] at h; exact okL_pure n ds h.2
  | n + 1, .lst ds, h => by simp only [okD, Bool.and_eq_true] at h; exact okL_pure n ds h.2
  | 0, .tup _, h => by simp [okD] at h
  | 0, .lst _, h => by simp [okD] at h
  | 0, .dic _, h => by simp [okD] at h
  | _ + 1, .dic _, h => by simp [okD] at h
  | 0, .cell _, h => by simp [okD] at h
  | _ + 1, .cell _, h => by simp [okD] at h
  | 0, .any _, h => by simp [okD] at h
  | _ + 1, .any _, h => by simp [okD] at h
theorem okL_pure : ∀ (n : Nat) (ds : List D), okL n ds = true → pureL ds = true
  | _, [], _ => rfl
  | n, d :: ds, h => by
    simp only [okL, Bool.and_eq_true] at h
    simp only [pureL, okD_pure n d h.1, okL_pure n ds h.2, Bool.and_self]
end
theorem rangeD_map (n : Nat) : rangeD 0 n = (List.range n).map fun i : Nat => D.int (i : Int) := by simp [rangeD]
@[simp] theorem set_same_some {ρ : Env} : (wipeE ρ []) = ρ := rfl
/-- the items of two lists, each the same -/
theorem same_items {m : Nat} {ds : List D} {ρ : Env} {M : Mem} (hρ : ∀ t : Nat, (fBin gIx (fVar 0) (fVar 3)) (ρ.set 3 (some (.int (t : Int)))) M = (fBin gIx (fVar 1) (fVar 3)) (ρ.set 3 (some (.int (t : Int)))) M)
    (hx : ∀ (t : Nat) d, ds[t]? = some d → (fBin gIx (fVar 0) (fVar 3)) (ρ.set 3 (some (.int (t : Int)))) M = some (.ok d, M)) (hd : ∀ d ∈ ds, pureOp (φ_same m) [d, d] M = some (.ok (.bl true), M)) :
    compL (yName 3) fYes (fCall (pureOp (φ_same m)) (fCons (fBin gIx (fVar 0) (fVar 3)) (fCons (fBin gIx (fVar 1) (fVar 3)) fNil))) ρ (rangeD 0 ds.length) M = some ((List.range ds.length).map fun _ => .bl true, M) := by
  rw [rangeD_map]
  have := compL_map (g := yName 3) (tt := fYes) (fe := fCall (pureOp (φ_same m)) (fCons (fBin gIx (fVar 0) (fVar 3)) (fCons (fBin gIx (fVar 1) (fVar 3)) fNil))) (ρ := ρ) (M := M) (fun i : Nat => D.int (i : Int)) (fun _ => true) (fun _ => .bl true) (List.range ds.length) fun t ht => ⟨_, rfl, ?_, fun _ => ?_⟩
  · rw [this, List.filter_eq_self.mpr fun _ _ => rfl]
  · exact ⟨rfl, rfl⟩
  · have ht' : t < ds.length := by simpa using ht
    have e0 := hx t ds[t] (List.getElem?_eq_getElem ht')
    rw [ev_fCall, ev_fCons, e0, ev_some, ev_fCons, ← hρ t, e0, ev_some, ev_fNil, hd _ (List.getElem_mem ht')]
    exact ⟨rfl, rfl⟩
/-- the same data is the same -/
theorem same_refl : ∀ (n : Nat) (d : D), okD n d = true → ∀ m, n < m → ∀ M : Mem, Ev (φ_same m [d, d] M) (fun r _ => r = .bl true) Ex0 := by
  intro n
  induction n with
  | zero =>
    intro d h m hm M
    obtain ⟨m, rfl⟩ : ∃ m', m = m' + 1 := ⟨m - 1, by omega⟩
    refine ev_def ?_
    show Sv (g_same (φ_same m) [some d, some d, none, none] M) _
    cases d with
    | non => simp [g_same]
    | bl b => simp [g_same]
    | int i => simp [g_same]
    | str s => simp [g_same]
    | tup ds => simp [okD] at h
    | lst ds => simp [okD] at h
    | dic ds => simp [okD] at h
    | cell i => simp [okD] at h
    | any v => simp [okD] at h
  | succ n ih =>
    intro d h m hm M
    obtain ⟨m, rfl⟩ : ∃ m', m = m' + 1 := ⟨m - 1, by omega⟩
    refine ev_def ?_
    show Sv (g_same (φ_same m) [some d, some d, none, none] M) _
    cases d with
    | non => simp [g_same]
    | bl b => simp [g_same]
    | int i => simp [g_same]
    | str s => simp [g_same]
    | tup ds =>
      simp only [okD, Bool.and_eq_true, decide_eq_true_eq] at h
      simp [g_same]
      refine ⟨by omega, cv_of (same_items (fun t => ?_) (fun t d hd => ?_) fun d hd => ?_) ?_⟩
      · simp [fBin, fVar, wipeE]
      · simp [fBin, fVar, wipeE, gIx, dicOf, atI_nat, hd]
      · have hd' := okL_mem h.2 d hd
        exact pure_eq (ih d hd' m (by omega) []) (by simp [pureL, okD_pure n d hd']) rfl
      · rw [gAll_map]; simp
    | lst ds =>
      simp only [okD, Bool.and_eq_true, decide_eq_true_eq] at h
      simp [g_same]
      refine ⟨by omega, cv_of (same_items (fun t => ?_) (fun t d hd => ?_) fun d hd => ?_) ?_⟩
      · simp [fBin, fVar, wipeE]
      · simp [fBin, fVar, wipeE, gIx, dicOf, atI_nat, hd]
      · have hd' := okL_mem h.2 d hd
        exact pure_eq (ih d hd' m (by omega) []) (by simp [pureL, okD_pure n d hd']) rfl
      · rw [gAll_map]; simp
    | dic ds => simp [okD] at h
    | cell i => simp [okD] at h
    | any v => simp [okD] at h
theorem same_pure {n : Nat} {d : D} {m : Nat} {M : Mem} (h : okD n d = true) (hm : n < m) : pureOp (φ_same m) [d, d] M = some (.ok (.bl true), M) :=
  pure_eq (same_refl n d h m hm []) (by simp [pureL, okD_pure n d h]) rfl
/-- a copy is the same data -/
theorem copy_ev : ∀ (n : Nat) (d : D), okD n d = true → ∀ m, n < m → ∀ M : Mem, Ev (φ_copy m [d] M) (fun r _ => r = d) Ex0 := by
  intro n
  induction n with
  | zero =>
    intro d h m hm M
    obtain ⟨m, rfl⟩ : ∃ m', m = m' + 1 := ⟨m - 1, by omega⟩
    refine ev_def ?_
    show Sv (g_copy (φ_copy m) [some d, none, none] M) _
    cases d with
    | non => simp [g_copy]
    | bl b => simp [g_copy]
    | int i => simp [g_copy]
    | str s => simp [g_copy]
    | tup ds => simp [okD] at h
    | lst ds => simp [okD] at h
    | dic ds => simp [okD] at h
    | cell i => simp [okD] at h
    | any v => simp [okD] at h
  | succ n ih =>
    intro d h m hm M
    obtain ⟨m, rfl⟩ : ∃ m', m = m' + 1 := ⟨m - 1, by omega⟩
    refine ev_def ?_
    show Sv (g_copy (φ_copy m) [some d, none, none] M) _
    have items : ∀ ds : List D, okL n ds = true → ∀ ρ : Env, 2 ≤ ρ.length → compL (yName 1) fYes (fCall (pureOp (φ_copy m)) (fCons (fVar 1) fNil)) ρ ds M = some (ds, M) := fun ds hds ρ hρ => by
      have := compL_map (g := yName 1) (tt := fYes) (fe := fCall (pureOp (φ_copy m)) (fCons (fVar 1) fNil)) (ρ := ρ) (M := M) (fun d : D => d) (fun _ => true) (fun d => d) ds fun d hd => ⟨_, rfl, ⟨rfl, rfl⟩, fun _ => ?_⟩
      · rw [List.map_id'] at this
        rw [this]; simp
      · have hd' := okL_mem hds d hd
        have e := pure_eq (M := M) (ih d hd' m (by omega) []) (by simp [pureL, okD_pure n d hd']) (okD_pure n d hd')
        have g1 : (ρ.set 1 (some d))[1]? = some (some d) := List.getElem?_set_self (by omega)
        simp [g1, e]
    cases d with
    | non => simp [g_copy]
    | bl b => simp [g_copy]
    | int i => simp [g_copy]
    | str s => simp [g_copy]
    | tup ds =>
      simp only [okD, Bool.and_eq_true, decide_eq_true_eq] at h
      simp [g_copy, items ds h.2, wipeE]
    | lst ds =>
      simp only [okD, Bool.and_eq_true, decide_eq_true_eq] at h
      simp [g_copy, items ds h.2, wipeE]
    | dic ds => simp [okD] at h
    | cell i => simp [okD] at h
    | any v => simp [okD] at h
theorem copy_pure {n : Nat} {d : D} {m : Nat} {M : Mem} (h : okD n d = true) (hm : n < m) : pureOp (φ_copy m) [d] M = some (.ok d, M) :=
  pure_eq (copy_ev n d h m hm []) (by simp [pureL, okD_pure n d h]) (okD_pure n d h)
end DL

namespace DL
open PySem PySem.Spec PyProof.Rows L2
@[simp] theorem bMulL (i : Int) : bMul i 48271 = true := by unfold bMul; exact decide_eq_true (.inr (by decide))
@[simp] theorem bMulL2 (i : Int) : bMul i 2862933555777941757 = true := by unfold bMul; exact decide_eq_true (.inr (by decide))
@[simp] theorem bMulR (i : Int) : bMul 11 i = true := by unfold bMul; exact decide_eq_true (.inl (by decide))
@[simp] theorem bNe0_1 (i : Int) : bNe0 i 1000003 = true := by unfold bNe0; exact decide_eq_true (by decide)
@[simp] theorem bNe0_2 (i : Int) : bNe0 i 1048576 = true := by unfold bNe0; exact decide_eq_true (by decide)
@[simp] theorem bNe0_3 (i : Int) : bNe0 i 2147483647 = true := by unfold bNe0; exact decide_eq_true (by decide)
@[simp] theorem bDiv_1 (i : Int) : bDiv i 1048576 = true := by unfold bDiv; exact decide_eq_true (by decide)
@[simp] theorem bDiv_2 (i : Int) : bDiv i 1024 = true := by unfold bDiv; exact decide_eq_true (by decide)
/-- the cell at l lists that many numbers -/
def Nums (M : Mem) (l n : Nat) : Prop := M.length = l + 1 ∧ ∃ ns : List Int, ns.length = n ∧ M[l]? = some (some (.lst (ns.map D.int)))
theorem Nums.add {M : Mem} {l n : Nat} (h : Nums M l n) (hn : n < 10000) (z : Int) {Q : D → Mem → Prop} {E : Exn → Mem → Prop} (q : ∀ M1 d, Nums M1 l (n + 1) → Q d M1) : isTy "list" M (.cell l) = true ∧ Ev (gAppend (.cell l) [.int z] M) Q E := by
  obtain ⟨h0, ns, h1, h2⟩ := h
  refine ⟨isTy_cellL h2, ?_⟩
  rw [gAppend_cell h2]
  refine ⟨by simp; omega, q _ _ ⟨by simpa using h0, ns ++ [z], by simp [h1], ?_⟩⟩
  rw [List.getElem?_set_self (by omega)]
  simp
theorem draws_inner {P : Po} {a x : Option D} {l n : Nat} {r s : Int} {kk : Option D} {M : Mem} (hM : Nums M l n) (hn : n < 9000)
    (hd : ∀ (r s : Int) (kk : Option D) (M : Mem), Nums M l (n + 40) → P.nx [a, some (.cell l), x, some (.int r), some (.int s), kk] M) :
    Sv (forL (yName 5) (sIf (asB (fBin gGe (fVar 3) (fC (.int 1048576)))) (sSeq (sExpr (fBM "list" gAppend (fVar 1) (fCons (fBin gMod (fCall gInt (fCons (fVar 3) fNil)) (fC (.int 1048576))) fNil)))
  (sAsg (fBin gDiv (fVar 3) (fC (.int 1048576))) (yName 3))) (sSeq (sAsg (fBin gMod (fCall gInt (fCons (fBin gAdd (fBin gAdd (fBin gAdd (fBin gMulI (fVar 4) (fC (.int 48271))) (fBin gMulI (fC (.int 11)) (fVar 5))) (fC (.int 7))) (fVar 3)) fNil)) (fC (.int 2147483647))) (yName 4))
  (sExpr (fBM "list" gAppend (fVar 1) (fCons (fBin gMod (fCall gInt (fCons (fBin gDiv (fBin gMulI (fVar 4) (fC (.int 2862933555777941757))) (fC (.int 1024))) fNil)) (fC (.int 1048576))) fNil))))) (rangeD 0 40) [a, some (.cell l), x, some (.int r), some (.int s), kk] M) P := by
  refine sv_forR (fun i ρ M => ∃ (r s : Int) (kk : Option D), ρ = [a, some (.cell l), x, some (.int r), some (.int s), kk] ∧ Nums M l (n + i)) ⟨r, s, kk, rfl, hM⟩ ?_ ?_
  · rintro i ρ M hi ⟨r, s, kk, rfl, hM⟩
    refine ⟨_, rfl, ?_⟩
    simp
    rcases Int.lt_or_le r 1048576 with hr | hr
    · exact .inl ⟨hr, hM.add (by omega) _ fun M1 d h => h⟩
    · exact .inr ⟨hr, hM.add (by omega) _ fun M1 d h => h⟩
  · rintro ρ M ⟨r, s, kk, rfl, hM⟩
    exact hd _ _ _ _ hM
/-- the draws of a script -/
theorem draws_ev {ns : List Int} {M : Mem} (hn : ns.length ≤ 16777216) : Ev (φ_draws [.lst (ns.map D.int)] M) (fun d M' => d = .cell (M.length + 1) ∧ M'.length = M.length + 2 ∧ Dr M' (M.length + 1)) Ex0 := by
  refine ev_def ?_
  show Sv (g_draws [some (.lst (ns.map .int)), none, none, none, none, none] M) _
  unfold g_draws
  rw [sv_seq, sv_asgN]
  simp only [ev_fLstC, ev_fNil, List.length_nil, Nat.zero_le, true_and, List.set]
  rw [sv_seq, sv_for]
  have e0 : (8 : Int) = ((8 : Nat) : Int) := rfl
  simp only [ev_wList, ev_fBin, ev_fCall, ev_fCons, ev_fSl, ev_fVar, ev_fNone, ev_fPart, ev_fC, ev_fNil, ev_fLst, List.getElem?_cons_zero, Option.some.injEq, exists_eq_left', D.int.injEq, gSl_lst, ev_some, gList_lst, ev_gAdd_lst, List.length_cons, List.length_nil]
  rw [e0, cut_to]
  refine ⟨by omega, by simp; omega, _, rfl, ?_⟩
  have hx : (ns.map D.int).take 8 ++ [.int 7] = ((ns.take 8) ++ [7]).map D.int := by simp [List.map_take]
  rw [hx]
  refine sv_forM D.int (fun i ρ M1 => i ≤ 9 ∧ ∃ (a b c d : Option D), ρ = [some (.lst (ns.map .int)), some (.cell M.length), a, b, c, d] ∧ Nums M1 M.length (40 * i)) _ ⟨by omega, none, none, none, none, rfl, by simp, [], rfl, by simp⟩ ?_ ?_
  · rintro i t ρ M1 hi ⟨hi9, a, b, c, d, rfl, hM⟩
    have hi8 : i < 9 := by
      have h1 := (List.getElem?_eq_some_iff.mp hi).1
      simp at h1; omega
    refine ⟨_, rfl, ?_⟩
    simp
    exact draws_inner hM (by omega) fun r s kk M2 h => ⟨by omega, ⟨_, _, _, _, rfl⟩, by rwa [show 40 * (i + 1) = 40 * i + 40 by omega]⟩
  · rintro ρ M1 ⟨h9, a, b, c, d, rfl, hM0, nn, hM1, hM2⟩
    have hl : 0 < nn.length := by rw [hM1]; simp
    have hlt : M.length < M1.length := by omega
    have hg : M1[M.length]? = some (some (.lst (nn.map D.int))) := hM2
    show Sv (sRet (fDispC (fPC (fC (.str "numbers")) (fFrz (fVar 1)) (fPC (fC (.str "at")) (fC (.int 0)) fPN))) _ M1) _
    simp only [sv_ret, ev_fDispC, ev_fPC, ev_fC, ev_fFrz, ev_fVar, ev_fPN, List.getElem?_cons_zero, List.getElem?_cons_succ, Option.some.injEq, exists_eq_left']
    refine ⟨M.length, rfl, .inl ⟨_, hg, _, rfl, by simp, by simp; omega, by simp; omega, nn, 0, by intro z; simp [z] at hl, by rw [hM1]; simp; omega, ?_⟩⟩
    have hm : mergeD [] [(kN, D.lst (nn.map D.int)), (kA, .int 0)] = [(kN, D.lst (nn.map D.int)), (kA, .int 0)] := by
      have hs : ¬ Str.ofString "numbers" = Str.ofString "at" := by decide +kernel
      unfold mergeD putD getK
      simp [hs]
    have hlen : (M1.set M.length none).length = M.length + 1 := by simp; omega
    show ((M1.set M.length none) ++ [some (.dic (mergeD [] [(kN, D.lst (nn.map D.int)), (kA, .int 0)]))])[M.length + 1]? = _
    rw [hm, List.getElem?_append_right (by omega), hlen]
    simp
end DL

namespace DL
open PySem PySem.Spec PyProof.Rows L2
section
variable {M : Mem} {neg : Bool}
theorem toVs_strs : ∀ l : List Str, toVs (l.map D.str) = some (l.map V.str)
  | [] => rfl
  | s :: l => by rw [List.map_cons]; unfold toVs; rw [toVs_strs l]; rfl
theorem toVs_ints : ∀ l : List Int, toVs (l.map D.int) = some (l.map V.int)
  | [] => rfl
  | s :: l => by rw [List.map_cons]; unfold toVs; rw [toVs_ints l]; rfl
theorem inV_strs (s : Str) : ∀ l : List Str, inV (.str s) (l.map V.str) = decide (s ∈ l)
  | [] => rfl
  | x :: l => by
    have ih := inV_strs s l
    unfold inV at ih ⊢
    rw [List.map_cons, List.any_cons, ih]
    have : eqV (.str x) (.str s) = decide (x = s) := by show (x == s) = _; exact Bool.beq_eq_decide_eq x s
    rw [this]
    by_cases h : x = s
    · subst h; simp
    · have h' : ¬ s = x := fun z => h z.symm
      simp [h, h']
theorem inV_ints (s : Int) : ∀ l : List Int, inV (.int s) (l.map V.int) = decide (s ∈ l)
  | [] => rfl
  | x :: l => by
    have ih := inV_ints s l
    unfold inV at ih ⊢
    rw [List.map_cons, List.any_cons, ih]
    have : eqV (.int x) (.int s) = decide (x = s) := by show (x == s) = _; exact Bool.beq_eq_decide_eq x s
    rw [this]
    by_cases h : x = s
    · subst h; simp
    · have h' : ¬ s = x := fun z => h z.symm
      simp [h, h']
theorem inFlat_of {x y : D} {ds : List D} {v : V} {vs : List V} (h : itemsOf M y = some ds) (h1 : toV x = some v) (h2 : toVs ds = some vs) : inFlat neg x y M = some (.ok (.bl (gInB neg (inV v vs))), M) := by
  unfold inFlat; simp only [h, h1, h2]; rfl
theorem gIn_strs_t (s : Str) (l : List Str) : gIn neg (.str s) (.tup (l.map D.str)) M = some (.ok (.bl (gInB neg (decide (s ∈ l)))), M) := by
  unfold gIn; simp only [dicOf]
  rw [inFlat_of (M := M) (neg := neg) (x := .str s) (y := .tup (l.map D.str)) rfl rfl (toVs_strs l), inV_strs]
theorem gIn_strs_l (s : Str) (l : List Str) : gIn neg (.str s) (.lst (l.map D.str)) M = some (.ok (.bl (gInB neg (decide (s ∈ l)))), M) := by
  unfold gIn; simp only [dicOf]
  rw [inFlat_of (M := M) (neg := neg) (x := .str s) (y := .lst (l.map D.str)) rfl rfl (toVs_strs l), inV_strs]
@[simp] theorem gIn_2t (s a b : Str) : gIn neg (.str s) (.tup [.str a, .str b]) M = some (.ok (.bl (gInB neg (decide (s = a ∨ s = b)))), M) := by
  have := gIn_strs_t (M := M) (neg := neg) s [a, b]
  simpa using this
@[simp] theorem gIn_2l (s a b : Str) : gIn neg (.str s) (.lst [.str a, .str b]) M = some (.ok (.bl (gInB neg (decide (s = a ∨ s = b)))), M) := by
  have := gIn_strs_l (M := M) (neg := neg) s [a, b]
  simpa using this
@[simp] theorem gIn_4t (s a b c d : Str) : gIn neg (.str s) (.tup [.str a, .str b, .str c, .str d]) M = some (.ok (.bl (gInB neg (decide (s = a ∨ s = b ∨ s = c ∨ s = d)))), M) := by
  have := gIn_strs_t (M := M) (neg := neg) s [a, b, c, d]
  simpa using this
theorem gIn_ints_l (s : Int) (l : List Int) : gIn neg (.int s) (.lst (l.map D.int)) M = some (.ok (.bl (gInB neg (decide (s ∈ l)))), M) := by
  unfold gIn; simp only [dicOf]
  rw [inFlat_of (M := M) (neg := neg) (x := .int s) (y := .lst (l.map D.int)) rfl rfl (toVs_ints l), inV_ints]
theorem gIn_ints_c {j : Nat} (s : Int) (l : List Int) (h : M[j]? = some (some (.lst (l.map D.int)))) : gIn neg (.int s) (.cell j) M = some (.ok (.bl (gInB neg (decide (s ∈ l)))), M) := by
  unfold gIn; simp only [dicOf, h]
  rw [inFlat_of (M := M) (neg := neg) (x := .int s) (y := .cell j) (by simp [itemsOf, listOf, h]) rfl (toVs_ints l), inV_ints]
theorem gIn_dic_c {j : Nat} {es : List (Key × D)} {x : D} {k : Key} (hk : keyOf x = some k) (h : M[j]? = some (some (.dic es))) : gIn neg x (.cell j) M = some (.ok (.bl (gInB neg (getK es k).isSome)), M) := by
  unfold gIn; simp only [dicOf, h, hk]
/-- a tuple in a list, by == -/
theorem gIn_deep {xs ds : List D} (h1 : (D.tup xs).flat 64 = true) (h2 : (D.lst ds).flat 64 = true) : gIn neg (.tup xs) (.lst ds) M = some (.ok (.bl (gInB neg (ds.any fun z => eqD z (.tup xs)))), M) := by
  unfold gIn; simp only [dicOf]
  have : inFlat neg (.tup xs) (.lst ds) M = none := by
    unfold inFlat; simp [itemsOf, toV]
  simp only [this]
  unfold inDeep; simp only [h1, h2, and_self, if_true]; rfl
@[simp] theorem gInB_f (b : Bool) : gInB false b = b := rfl
@[simp] theorem gInB_t (b : Bool) : gInB true b = !b := rfl
@[simp] theorem bPow_1 : bPow 10 6 = true := by decide
@[simp] theorem bPow_2 : bPow 2 31 = true := by decide
/-- a letter in a text -/
@[simp] theorem gIn_str (i j : Str) : gIn neg (.str i) (.str j) M = some (.ok (.bl (gInB neg (inStr i j))), M) := rfl
end
/-- all of a comprehension -/
theorem compL_all {γ : Type} {g : Tg} {tt : Fn Bool} {fe : Fn D} {ρ : Env} {M : Mem} (enc : γ → D) (e : γ → D) (ts : List γ) (h : ∀ t ∈ ts, ∃ ρ1, g (enc t) ρ = some ρ1 ∧ Ev (tt ρ1 M) (fun b M1 => b = true ∧ M1 = M) Ex0 ∧ Ev (fe ρ1 M) (fun d M1 => d = e t ∧ M1 = M) Ex0) :
    compL g tt fe ρ (ts.map enc) M = some (ts.map e, M) := by
  rw [compL_map enc (fun _ => true) e ts fun t ht => let ⟨ρ1, h1, h2, h3⟩ := h t ht; ⟨ρ1, h1, h2, fun _ => h3⟩, List.filter_eq_self.mpr fun _ _ => rfl]
@[simp] theorem ev_fYes {ρ : Env} {M : Mem} {Q : Bool → Mem → Prop} {E : Exn → Mem → Prop} : Ev (fYes ρ M) Q E ↔ Q true M := Iff.rfl
theorem eqD_refl {n : Nat} {d : D} (h : d.flat n = true) : eqD d d = true := PySem.SeqAt.eqv_refl _ (flat_lay n d h).1
mutual
theorem okD_flat : ∀ (n m : Nat) (d : D), n ≤ m → okD n d = true → d.flat m = true
  | _, 0, .non, _, _ => rfl | _, _ + 1, .non, _, _ => rfl | _, 0, .bl _, _, _ => rfl | _, _ + 1, .bl _, _, _ => rfl | _, 0, .int _, _, _ => rfl | _, _ + 1, .int _, _, _ => rfl
  | _, 0, .str _, _, h => by simpa [okD, D.flat] using h
  | _, _ + 1, .str _, _, h => by simpa [okD, D.flat] using h
  | n + 1, m + 1, .tup ds, hm, h => by simp only [okD, Bool.and_eq_true] at h; simpa [D.flat] using okL_flat n m ds (by omega) h.2
  | n + 1, m + 1, .lst ds, hm, h => by simp only [okD, Bool.and_eq_true] at h; simpa [D.flat] using okL_flat n m ds (by omega) h.2
  | n + 1, 0, .tup ds, hm, _ => by omega
  | n + 1, 0, .lst ds, hm, _ => by omega
  | 0, _, .tup _, _, h => by simp [okD] at h
  | 0, _, .lst _, _, h => by simp [okD] at h
  | 0, _, .dic _, _, h => by simp [okD] at h
  | _ + 1, _, .dic _, _, h => by simp [okD] at h
  | 0, _, .cell _, _, h => by simp [okD] at h
  | _ + 1, _, .cell _, _, h => by simp [okD] at h
  | 0, _, .any _, _, h => by simp [okD] at h
  | _ + 1, _, .any _, _, h => by simp [okD] at h
theorem okL_flat : ∀ (n m : Nat) (ds : List D), n ≤ m → okL n ds = true → flatL m ds = true
  | _, 0, [], _, _ => rfl
  | _, _ + 1, [], _, _ => rfl
  | n, m, d :: ds, hm, h => by
    simp only [okL, Bool.and_eq_true] at h
    simp only [flatL, okD_flat n m d hm h.1, okL_flat n m ds hm h.2, Bool.and_self]
end
theorem okD_tup {n : Nat} {ds : List D} : okD (n + 1) (.tup ds) = true ↔ ds.length ≤ 16777216 ∧ okL n ds = true := by
  show (decide (ds.length ≤ 16777216) && okL n ds) = true ↔ _
  simp
theorem okD_lst {n : Nat} {ds : List D} : okD (n + 1) (.lst ds) = true ↔ ds.length ≤ 16777216 ∧ okL n ds = true := by
  show (decide (ds.length ≤ 16777216) && okL n ds) = true ↔ _
  simp
theorem okL_cons {n : Nat} {d : D} {ds : List D} : okL n (d :: ds) = true ↔ okD n d = true ∧ okL n ds = true := by
  show (okD n d && okL n ds) = true ↔ _
  simp
theorem okL_nil {n : Nat} : okL n [] = true ↔ True := by simp [okL]
theorem okD_int (i : Int) (n : Nat) : okD n (.int i) = true := by cases n <;> rfl
theorem okD_bl (i : Bool) (n : Nat) : okD n (.bl i) = true := by cases n <;> rfl
theorem okD_non (n : Nat) : okD n .non = true := by cases n <;> rfl
theorem getK_none {es : List (Key × D)} {k : Key} (h : ∀ e ∈ es, e.1 ≠ k) : getK es k = none := by
  unfold getK
  rw [List.find?_eq_none.mpr fun e he => by simpa using h e he]; rfl
theorem putD_new {es : List (Key × D)} {k : Key} {d : D} (h : ∀ e ∈ es, e.1 ≠ k) : putD es k d = es ++ [(k, d)] := by
  unfold putD; rw [getK_none h]; rfl
/-- a dict comprehension whose keys differ -/
theorem compK_map {γ : Type} {g : Tg} {tt : Fn Bool} {fk fv : Fn D} {ρ : Env} {M : Mem} (enc : γ → D) (key : γ → Key) (val : γ → D) : ∀ (ts : List γ) (acc : List (Key × D)), (∀ t ∈ ts, ∃ ρ1 y, g (enc t) ρ = some ρ1 ∧ Ev (tt ρ1 M) (fun b M1 => b = true ∧ M1 = M) Ex0 ∧ Ev (fk ρ1 M) (fun d M1 => d = y ∧ M1 = M) Ex0 ∧ keyOf y = some (key t) ∧ Ev (fv ρ1 M) (fun d M1 => d = val t ∧ M1 = M) Ex0) →
    (ts.map key).Nodup → (∀ e ∈ acc, ∀ t ∈ ts, e.1 ≠ key t) → compK g tt fk fv ρ (ts.map enc) acc M = some (acc ++ ts.map fun t => (key t, val t), M)
  | [], acc, _, _, _ => by simp [compK]
  | t :: ts, acc, h, hn, ha => by
    obtain ⟨ρ1, y, h1, h2, h3, h4, h5⟩ := h t List.mem_cons_self
    obtain ⟨b, M1, e2, rfl, rfl⟩ := h2.eq
    obtain ⟨d, M2, e3, rfl, rfl⟩ := h3.eq
    obtain ⟨d', M3, e5, rfl, rfl⟩ := h5.eq
    rw [List.map_cons] at hn
    obtain ⟨n1, n2⟩ := List.nodup_cons.mp hn
    rw [List.map_cons]
    unfold compK
    simp only [h1, e2, e3, h4, e5]
    rw [putD_new fun e he => ha e he t List.mem_cons_self]
    rw [compK_map enc key val ts _ (fun t' m => h t' (List.mem_cons_of_mem _ m)) n2 fun e he t' m => ?_]
    · simp
    · rcases List.mem_append.mp he with he | he
      · exact ha e he t' (List.mem_cons_of_mem _ m)
      · simp only [List.mem_singleton] at he
        subst he
        exact fun z => n1 (List.mem_map.mpr ⟨t', m, z.symm⟩)
/-! ### cells at known places -/
section
variable {a b : Option Cell} {r : Mem} {xs : List D} {es : List (Key × D)} {y v : D} {Q : D → Mem → Prop} {E : Exn → Mem → Prop} {neg : Bool}
@[simp] theorem isTy_l0 : isTy "list" (some (.lst xs) :: r) (.cell 0) = true := isTy_cellL rfl
@[simp] theorem isTy_l1 : isTy "list" (a :: some (.lst xs) :: r) (.cell 1) = true := isTy_cellL rfl
@[simp] theorem gAppend_l0 : Ev (gAppend (.cell 0) [y] (some (.lst xs) :: r)) Q E ↔ xs.length < 16777216 ∧ Q .non (some (.lst (xs ++ [y])) :: r) := gAppend_cell rfl
@[simp] theorem gAppend_l1 : Ev (gAppend (.cell 1) [y] (a :: some (.lst xs) :: r)) Q E ↔ xs.length < 16777216 ∧ Q .non (a :: some (.lst (xs ++ [y])) :: r) := gAppend_cell rfl
@[simp] theorem gIn_d0 (k : Int) : gIn neg (.int k) (.cell 0) (some (.dic es) :: r) = some (.ok (.bl (gInB neg (getK es (.inl k)).isSome)), some (.dic es) :: r) := gIn_dic_c rfl rfl
@[simp] theorem gIn_d0s (k : Str) : gIn neg (.str k) (.cell 0) (some (.dic es) :: r) = some (.ok (.bl (gInB neg (getK es (.inr k)).isSome)), some (.dic es) :: r) := gIn_dic_c rfl rfl
end
def setC (d y v : D) (M : Mem) : Option Mem := match d with
  | .cell i => (match M[i]? with
    | some (some (.lst ds)) => (match y with
      | .int z => (match ixN ds.length z with
        | some n => some (M.set i (some (.lst (ds.set n v))))
        | none => none)
      | _ => none)
    | some (some (.dic es)) => (match keyOf y with
      | some k => if es.length < 16777216 then some (M.set i (some (.dic (putD es k v)))) else none
      | none => none)
    | _ => none)
  | _ => none
@[simp] theorem sv_set {fo fi fe : Fn D} {ρ : Env} {M : Mem} {P : Po} : Sv (sSet fo fi fe ρ M) P ↔ Ev (fe ρ M) (fun v M1 => Ev (fo ρ M1) (fun d M2 => Ev (fi ρ M2) (fun y M3 => ∃ M4, setC d y v M3 = some M4 ∧ P.nx ρ M4) P.ex) P.ex) P.ex := by
  unfold sSet
  rw [sv_bndS]
  refine ev_cg fun v M1 => ?_
  rw [sv_bndS]
  refine ev_cg fun d M2 => ?_
  rw [sv_bndS]
  refine ev_cg fun y M3 => ?_
  unfold setC
  cases d <;> try simp
  rename_i i
  rcases M3[i]? with _ | _ | c
  · simp
  · simp
  · cases c with
    | lst ds =>
      cases y <;> try simp
      rename_i z
      rcases ixN ds.length z with _ | n <;> simp
    | dic es =>
      rcases keyOf y with _ | k
      · simp
      · simp only
        split <;> simp
    | obj C fs => simp
theorem setC_dic {i : Nat} {y v : D} {M : Mem} {es : List (Key × D)} {k : Key} (h : M[i]? = some (some (.dic es))) (hk : keyOf y = some k) (hl : es.length < 16777216) : setC (.cell i) y v M = some (M.set i (some (.dic (putD es k v)))) := by
  unfold setC; simp only [h, hk, if_pos hl]
theorem setC_lst {i n : Nat} {v : D} {M : Mem} {ds : List D} (h : M[i]? = some (some (.lst ds))) (hn : n < ds.length) : setC (.cell i) (.int (n : Int)) v M = some (M.set i (some (.lst (ds.set n v)))) := by
  have : ixN ds.length (n : Int) = some n := by unfold ixN; rw [if_pos (by omega), if_pos (by omega)]; simp
  unfold setC; simp only [h, this]
theorem cut_1 (xs : List D) : cutD xs none (some 1) = xs.take 1 := cut_to xs 1
end DL

namespace K11
open PySem PySem.Spec PyProof.Rows L2 DL
def topS (i : Nat) : Stmt := PySem.Challenge.pw_callwright_k11_whole_answers_to_offers.main.body.getD i (.Pass ⟨0, 0, 0, 0⟩)
abbrev s_is_number : Stmt := topS 5
abbrev s_is_name : Stmt := topS 6
abbrev s_is_form : Stmt := topS 12
abbrev s_is_list : Stmt := topS 7
abbrev s_is_line : Stmt := topS 13
abbrev s_check_media : Stmt := topS 14
abbrev s_answered_way : Stmt := topS 15
abbrev s_common : Stmt := topS 16
abbrev s_answer_to : Stmt := topS 17
abbrev s_line_fits : Stmt := topS 19
abbrev s_fault_of : Stmt := topS 18
abbrev s_flows : Stmt := topS 20
abbrev s__law_draws : Stmt := topS 22
abbrev s__law_next : Stmt := topS 23
abbrev s__law_pick : Stmt := topS 24
abbrev s__law_same : Stmt := topS 25
abbrev s__law_copy : Stmt := topS 26
abbrev s__law_media : Stmt := topS 27
abbrev s__law_skills : Stmt := topS 28
abbrev s__law_parts : Stmt := topS 29
abbrev s__law_way : Stmt := topS 30
abbrev s__law_answer : Stmt := topS 31
abbrev s__law_fault : Stmt := topS 32
abbrev s_law : Stmt := topS 33
abbrev d_MOST : D := (.int 40)
abbrev d_SIGNS : D := (.str "abcdefghijklmnopqrstuvwxyz0123456789")
abbrev d_WAYS : D := (.tup [(.str "both"), (.str "get"), (.str "none"), (.str "send")])
def t_TURNED : List (Str × D) := [("both", (.str "both")), ("get", (.str "send")), ("none", (.str "none")), ("send", (.str "get"))]
structure Txt (w : World) (K : PySem.W.Frag) (mg : Str → Option Value) (a_is_form : Addr) : Prop where
  n_abs : mg "abs" = none
  n_all : mg "all" = none
  n_bool : mg "bool" = none
  n_dict : mg "dict" = none
  n_int : mg "int" = none
  n_isinstance : mg "isinstance" = none
  n_len : mg "len" = none
  n_list : mg "list" = none
  n_range : mg "range" = none
  n_str : mg "str" = none
  n_tuple : mg "tuple" = none
  n_zip : mg "zip" = none
  c_MOST : GlobC K mg "MOST" (.int 40) d_MOST
  c_SIGNS : GlobC K mg "SIGNS" (.str "abcdefghijklmnopqrstuvwxyz0123456789") d_SIGNS
  c_WAYS : ∃ v, GlobC K mg "WAYS" v d_WAYS
  t_TURNED : GlobT K mg w "TURNED" t_TURNED
  v_is_form : GlobC K mg "is_form" (.ref a_is_form) (.any (.ref a_is_form))
  f_is_number : ∃ f fd, Fun K "is_number" "is_number" s_is_number f fd ∧ mg "is_number" = some (.ref f)
  f_is_name : ∃ f fd, Fun K "is_name" "is_name" s_is_name f fd ∧ mg "is_name" = some (.ref f)
  f_is_form : ∃ f fd, Fun K "is_form" "is_form" s_is_form f fd ∧ mg "is_form" = some (.ref f)
  f_is_list : ∃ f fd, Fun K "is_list" "is_list" s_is_list f fd ∧ mg "is_list" = some (.ref f)
  f_is_line : ∃ f fd, Fun K "is_line" "is_line" s_is_line f fd ∧ mg "is_line" = some (.ref f)
  f_check_media : ∃ f fd, Fun K "check_media" "check_media" s_check_media f fd ∧ mg "check_media" = some (.ref f)
  f_answered_way : ∃ f fd, Fun K "answered_way" "answered_way" s_answered_way f fd ∧ mg "answered_way" = some (.ref f)
  f_common : ∃ f fd, Fun K "common" "common" s_common f fd ∧ mg "common" = some (.ref f)
  f_answer_to : ∃ f fd, Fun K "answer_to" "answer_to" s_answer_to f fd ∧ mg "answer_to" = some (.ref f)
  f_line_fits : ∃ f fd, Fun K "line_fits" "line_fits" s_line_fits f fd ∧ mg "line_fits" = some (.ref f)
  f_fault_of : ∃ f fd, Fun K "fault_of" "fault_of" s_fault_of f fd ∧ mg "fault_of" = some (.ref f)
  f_flows : ∃ f fd, Fun K "flows" "flows" s_flows f fd ∧ mg "flows" = some (.ref f)
  f__law_draws : ∃ f fd, Fun K "_law_draws" "_law_draws" s__law_draws f fd ∧ mg "_law_draws" = some (.ref f)
  f__law_next : ∃ f fd, Fun K "_law_next" "_law_next" s__law_next f fd ∧ mg "_law_next" = some (.ref f)
  f__law_pick : ∃ f fd, Fun K "_law_pick" "_law_pick" s__law_pick f fd ∧ mg "_law_pick" = some (.ref f)
  f__law_same : ∃ f fd, Fun K "_law_same" "_law_same" s__law_same f fd ∧ mg "_law_same" = some (.ref f)
  f__law_copy : ∃ f fd, Fun K "_law_copy" "_law_copy" s__law_copy f fd ∧ mg "_law_copy" = some (.ref f)
  f__law_media : ∃ f fd, Fun K "_law_media" "_law_media" s__law_media f fd ∧ mg "_law_media" = some (.ref f)
  f__law_skills : ∃ f fd, Fun K "_law_skills" "_law_skills" s__law_skills f fd ∧ mg "_law_skills" = some (.ref f)
  f__law_parts : ∃ f fd, Fun K "_law_parts" "_law_parts" s__law_parts f fd ∧ mg "_law_parts" = some (.ref f)
  f__law_way : ∃ f fd, Fun K "_law_way" "_law_way" s__law_way f fd ∧ mg "_law_way" = some (.ref f)
  f__law_answer : ∃ f fd, Fun K "_law_answer" "_law_answer" s__law_answer f fd ∧ mg "_law_answer" = some (.ref f)
  f__law_fault : ∃ f fd, Fun K "_law_fault" "_law_fault" s__law_fault f fd ∧ mg "_law_fault" = some (.ref f)
  f_law : ∃ f fd, Fun K "law" "law" s_law f fd ∧ mg "law" = some (.ref f)
section
variable {P : Program} {w : World} {K : PySem.W.Frag} {mg : Str → Option Value} {base : Heap} {a_is_form : Addr}
theorem Txt.cv {φ : OpN} {k : Nat} {f : Addr} {x : Str} (c : Cal P w K mg base k x φ) (v : GlobC K mg x (.ref f) (.any (.ref f))) : CalV P w K mg base k f φ := by
  obtain ⟨f2, fd, ps, h1, h2, h3⟩ := c.ex
  obtain ⟨u, e1, e2⟩ := v.ex
  cases e2
  rw [h2] at e1
  cases e1
  exact ⟨fd, ps, h1, h3⟩
theorem Txt.cv_is_form {φ : OpN} {k : Nat} (T : Txt w K mg a_is_form) (c : Cal P w K mg base k "is_form" φ) : CalV P w K mg base k a_is_form φ := Txt.cv c T.v_is_form
/-! ### is_number -/
theorem sc_is_number : FnScope ["value", "low", "high"] ["value", "low", "high"] (defScope s_is_number) := ⟨rfl, rfl, rfl, by decide +kernel, rfl, by decide +kernel, by decide +kernel⟩
def g_is_number : Sn := (sRet (fAndV (fCall gIsi (fCons (fVar 0) (fCons (fC (.any (.ty "int"))) fNil))) (fAndV (fNotV (fCall gIsi (fCons (fVar 0) (fCons (fC (.any (.ty "bool"))) fNil)))) (fChain gLe gLt (fVar 1) (fVar 0) (fVar 2)))))
def φ_is_number : OpN := fnD 3 3 g_is_number
theorem body_is_number (T : Txt w K mg a_is_form) (f : Addr) (cdv : Value) (A : Around) (outer : List PySem.Env) (s : Shared) (H : Hp) (E : XK) (hr : Room 0 (A.deeper (envOfC "is_number" (defScope s_is_number) s.heap.objs.size f cdv))) :
    ∃ t, DSs (cxOf (L2.CX P w) P w K mg base ["value", "low", "high"] "is_number" (defScope s_is_number) f cdv A outer s H E) (fun cls d _ H => E cls d H) (defBody s_is_number) t g_is_number := by
  exact ⟨_, (dss_one (ds_ret (de_and (de_callB xcr_isi cad_isi T.n_isinstance bb_isinstance (da_cons (de_var 0) (da_cons (de_ty T.n_int bb_int) da_nil))) (de_and (de_not (de_callB xcr_isi cad_isi T.n_isinstance bb_isinstance (da_cons (de_var 0) (da_cons (de_ty T.n_bool bb_bool) da_nil)))) (de_one (de_chain (op_le.or op_le_str) op_lt opd_le opd_ltI nox_le (de_var 1) (de_var 0) (de_var 2)))))))⟩
theorem cal_is_number (T : Txt w K mg a_is_form) : Cal P w K mg base 1 "is_number" φ_is_number := by
  obtain ⟨f, fd, F, m⟩ := T.f_is_number
  exact ⟨f, fd, ["value", "low", "high"], fn_ok F sc_is_number fun cdv A outer s H E hr => body_is_number T f cdv A outer s H E hr, m, F.kp, F.binds (ps := ["value", "low", "high"]) fun _ _ _ _ _ _ us hl => match us, hl with | [_, _, _], _ => rfl⟩
/-! ### is_name -/
theorem sc_is_name : FnScope ["value", "sign"] ["value"] (defScope s_is_name) := ⟨rfl, rfl, rfl, by decide +kernel, rfl, by decide +kernel, by decide +kernel⟩
def g_is_name : Sn := (sRet (fAndV (fCall gIsi (fCons (fVar 0) (fCons (fC (.any (.ty "str"))) fNil))) (fAndV (fChain gLe gLe (fC (.int 1)) (fCall gLen (fCons (fVar 0) fNil)) (fC d_MOST)) (fCall gAll (fCons (fComp (wStr (fVar 0)) (yName 1) fYes (fBin (gIn false) (fVar 1) (fC d_SIGNS)) [1]) fNil)))))
def φ_is_name : OpN := fnD 2 1 g_is_name
theorem body_is_name (T : Txt w K mg a_is_form) (f : Addr) (cdv : Value) (A : Around) (outer : List PySem.Env) (s : Shared) (H : Hp) (E : XK) (hr : Room 0 (A.deeper (envOfC "is_name" (defScope s_is_name) s.heap.objs.size f cdv))) :
    ∃ t, DSs (cxOf (L2.CX P w) P w K mg base ["value", "sign"] "is_name" (defScope s_is_name) f cdv A outer s H E) (fun cls d _ H => E cls d H) (defBody s_is_name) t g_is_name := by
  exact ⟨_, (dss_one (ds_ret (de_and (de_callB xcr_isi cad_isi T.n_isinstance bb_isinstance (da_cons (de_var 0) (da_cons (de_ty T.n_str bb_str) da_nil))) (de_and (de_chain (op_le.or op_le_str) (op_le.or op_le_str) opd_le opd_le nox_le de_int (de_callB xcr_len cad_len T.n_len bb_len (da_cons (de_var 0) da_nil)) (de_glob T.c_MOST)) (de_one (de_callB xcr_all cad_all T.n_all bb_all (da_cons (de_lc (own := [("sign", 1)]) ⟨rfl, sc_is_name.nd, (di_str (de_var 0)), (blkC_at (N := ["value", "sign"]) (outer := defScope s_is_name) rfl rfl (by decide +kernel)), fun s H C cl fp => (dg_name 1 sc_is_name.nd), (tgl_name 1), by decide, fun s H C cl fp => dts_nil, fun s H C cl fp => (de_cmp (xop_in ⟨_, hr⟩) opd_in (de_var 1) (de_glob T.c_SIGNS) (by with_unfolding_all rfl)), fun _ => rfl⟩) da_nil)))))))⟩
theorem cal_is_name (T : Txt w K mg a_is_form) : Cal P w K mg base 1 "is_name" φ_is_name := by
  obtain ⟨f, fd, F, m⟩ := T.f_is_name
  exact ⟨f, fd, ["value"], fn_ok F sc_is_name fun cdv A outer s H E hr => body_is_name T f cdv A outer s H E hr, m, F.kp, F.binds (ps := ["value"]) fun _ _ _ _ _ _ us hl => match us, hl with | [_], _ => rfl⟩
/-! ### is_form -/
theorem sc_is_form : FnScope ["value"] ["value"] (defScope s_is_form) := ⟨rfl, rfl, rfl, by decide +kernel, rfl, by decide +kernel, by decide +kernel⟩
def g_is_form : Sn := (sSeq (sIf (fOr (fNot (asB (fCall gIsi (fCons (fVar 0) (fCons (fC (.any (.ty "tuple"))) fNil))))) (asB (fBin gNe (fCall gLen (fCons (fVar 0) fNil)) (fC (.int 3))))) (sRet (fC (.bl false))) sNext)
  (sRet (fAndV (fCall (pureOp φ_is_number) (fCons (fBin gIx (fVar 0) (fC (.int 0))) (fCons (fC (.int 0)) (fCons (fC (.int 128)) fNil)))) (fAndV (fCall (pureOp φ_is_name) (fCons (fBin gIx (fVar 0) (fC (.int 1))) fNil)) (fCall (pureOp φ_is_number) (fCons (fBin gIx (fVar 0) (fC (.int 2))) (fCons (fC (.int 1)) (fCons (fBin gPow (fC (.int 10)) (fC (.int 6))) fNil))))))))
def φ_is_form : OpN := fnD 1 1 g_is_form
theorem body_is_form (T : Txt w K mg a_is_form) (c_is_name : Cal P w K mg base 1 "is_name" φ_is_name) (c_is_number : Cal P w K mg base 1 "is_number" φ_is_number) (f : Addr) (cdv : Value) (A : Around) (outer : List PySem.Env) (s : Shared) (H : Hp) (E : XK) (hr : Room 1 (A.deeper (envOfC "is_form" (defScope s_is_form) s.heap.objs.size f cdv))) :
    ∃ t, DSs (cxOf (L2.CX P w) P w K mg base ["value"] "is_form" (defScope s_is_form) f cdv A outer s H E) (fun cls d _ H => E cls d H) (defBody s_is_form) t g_is_form := by
  have tk : Takes (cxOf (L2.CX P w) P w K mg base ["value"] "is_form" (defScope s_is_form) f cdv A outer s H E) (fun cls d _ H => E cls d H) := takes_of rfl rfl rfl rfl
  exact ⟨_, (dss_cons (ds_if (dt_bool (dw_or (dt_not (dt_val (de_callB xcr_isi cad_isi T.n_isinstance bb_isinstance (da_cons (de_var 0) (da_cons (de_ty T.n_tuple bb_tuple) da_nil))))) (dw_or1 (dt_cmp (xop_ne ⟨_, hr⟩) opd_ne (de_callB xcr_len cad_len T.n_len bb_len (da_cons (de_var 0) da_nil)) de_int (nomark _))))) (dss_one (ds_ret de_bl)) dss_nil)
      (dss_one (ds_ret (de_and (de_call c_is_number.pure hr tk (by decide) (da_cons (de_ix ⟨_, hr⟩ (de_var 0) de_int) (da_cons de_int (da_cons de_int da_nil)))) (de_and (de_call c_is_name.pure hr tk (by decide) (da_cons (de_ix ⟨_, hr⟩ (de_var 0) de_int) da_nil)) (de_one (de_call c_is_number.pure hr tk (by decide) (da_cons (de_ix ⟨_, hr⟩ (de_var 0) de_int) (da_cons de_int (da_cons (de_bin op_pow opd_powI de_int de_int) da_nil))))))))))⟩
theorem cal_is_form (T : Txt w K mg a_is_form) (c_is_name : Cal P w K mg base 1 "is_name" φ_is_name) (c_is_number : Cal P w K mg base 1 "is_number" φ_is_number) : Cal P w K mg base 2 "is_form" φ_is_form := by
  obtain ⟨f, fd, F, m⟩ := T.f_is_form
  exact ⟨f, fd, ["value"], fn_ok F sc_is_form fun cdv A outer s H E hr => body_is_form T c_is_name c_is_number f cdv A outer s H E hr, m, F.kp, F.binds (ps := ["value"]) fun _ _ _ _ _ _ us hl => match us, hl with | [_], _ => rfl⟩
/-! ### is_list -/
theorem sc_is_list : FnScope ["value", "fine", "one"] ["value", "fine"] (defScope s_is_list) := ⟨rfl, rfl, rfl, by decide +kernel, rfl, by decide +kernel, by decide +kernel⟩
def g_is_list (a_is_form : Addr) : Sn := (sRet (fAndV (fCall gIsi (fCons (fVar 0) (fCons (fC (.any (.ty "list"))) fNil))) (fAndV (fBin gLe (fCall gLen (fCons (fVar 0) fNil)) (fC d_MOST)) (fCall gAll (fCons (fComp (wList (fVar 0)) (yName 2) fYes (fCallV 1 a_is_form φ_is_form (fCons (fVar 2) fNil)) [2]) fNil)))))
def φ_is_list (a_is_form : Addr) : OpN := fnD 3 2 (g_is_list a_is_form)
theorem body_is_list (T : Txt w K mg a_is_form) (c_is_form : Cal P w K mg base 2 "is_form" φ_is_form) (f : Addr) (cdv : Value) (A : Around) (outer : List PySem.Env) (s : Shared) (H : Hp) (E : XK) (hr : Room 2 (A.deeper (envOfC "is_list" (defScope s_is_list) s.heap.objs.size f cdv))) :
    ∃ t, DSs (cxOf (L2.CX P w) P w K mg base ["value", "fine", "one"] "is_list" (defScope s_is_list) f cdv A outer s H E) (fun cls d _ H => E cls d H) (defBody s_is_list) t (g_is_list a_is_form) := by
  exact ⟨_, (dss_one (ds_ret (de_and (de_callB xcr_isi cad_isi T.n_isinstance bb_isinstance (da_cons (de_var 0) (da_cons (de_ty T.n_list bb_list) da_nil))) (de_and (de_cmp (op_le.or op_le_str) opd_le (de_callB xcr_len cad_len T.n_len bb_len (da_cons (de_var 0) da_nil)) (de_glob T.c_MOST) (nomark _)) (de_one (de_callB xcr_all cad_all T.n_all bb_all (da_cons (de_lc (own := [("one", 2)]) ⟨rfl, sc_is_list.nd, (di_list (de_var 0)), (blkC_at (N := ["value", "fine", "one"]) (outer := defScope s_is_list) rfl rfl (by decide +kernel)), fun s H C cl fp => (dg_name 2 sc_is_list.nd), (tgl_name 2), by decide, fun s H C cl fp => dts_nil, fun s H C cl fp => (de_callV 1 (T.cv_is_form c_is_form) hr takes0 (by decide) (da_cons (de_var 2) da_nil)), fun _ => rfl⟩) da_nil)))))))⟩
theorem cal_is_list (T : Txt w K mg a_is_form) (c_is_form : Cal P w K mg base 2 "is_form" φ_is_form) : Cal P w K mg base 3 "is_list" (φ_is_list a_is_form) := by
  obtain ⟨f, fd, F, m⟩ := T.f_is_list
  exact ⟨f, fd, ["value", "fine"], fn_ok F sc_is_list fun cdv A outer s H E hr => body_is_list T c_is_form f cdv A outer s H E hr, m, F.kp, F.binds (ps := ["value", "fine"]) fun _ _ _ _ _ _ us hl => match us, hl with | [_, _], _ => rfl⟩
/-! ### is_line -/
theorem sc_is_line : FnScope ["value", "form"] ["value"] (defScope s_is_line) := ⟨rfl, rfl, rfl, by decide +kernel, rfl, by decide +kernel, by decide +kernel⟩
def g_is_line (a_is_form : Addr) : Sn := (sSeq (sIf (fOr (fNot (asB (fCall gIsi (fCons (fVar 0) (fCons (fC (.any (.ty "tuple"))) fNil))))) (fOr (asB (fBin gNe (fCall gLen (fCons (fVar 0) fNil)) (fC (.int 4)))) (fOr (fNot (asB (fCall (pureOp φ_is_name) (fCons (fBin gIx (fVar 0) (fC (.int 0))) fNil)))) (fNot (asB (fCall (pureOp φ_is_number) (fCons (fBin gIx (fVar 0) (fC (.int 1))) (fCons (fC (.int 0)) (fCons (fC (.int 65536)) fNil))))))))) (sRet (fC (.bl false))) sNext)
  (sSeq (sIf (fOr (fNot (asB (fCall (pureOp (φ_is_list a_is_form)) (fCons (fBin gIx (fVar 0) (fC (.int 2))) (fCons (fC (.any (.ref a_is_form))) fNil))))) (asB (fBin gEq (fCall gLen (fCons (fBin gIx (fVar 0) (fC (.int 2))) fNil)) (fC (.int 0))))) (sRet (fC (.bl false))) sNext)
  (sSeq (sIf (asB (fBin gNe (fCall gLen (fCons (fDComp (wList (fBin gIx (fVar 0) (fC (.int 2)))) (yName 1) fYes (fBin gIx (fVar 1) (fC (.int 0))) (fC (.bl true)) [1]) fNil)) (fCall gLen (fCons (fBin gIx (fVar 0) (fC (.int 2))) fNil)))) (sRet (fC (.bl false))) sNext)
  (sRet (fAndV (fCall gIsi (fCons (fBin gIx (fVar 0) (fC (.int 3))) (fCons (fC (.any (.ty "str"))) fNil))) (fBin (gIn false) (fBin gIx (fVar 0) (fC (.int 3))) (fC d_WAYS)))))))
def φ_is_line (a_is_form : Addr) : OpN := fnD 2 1 (g_is_line a_is_form)
theorem body_is_line (T : Txt w K mg a_is_form) (c_is_list : Cal P w K mg base 3 "is_list" (φ_is_list a_is_form)) (c_is_name : Cal P w K mg base 1 "is_name" φ_is_name) (c_is_number : Cal P w K mg base 1 "is_number" φ_is_number) (f : Addr) (cdv : Value) (A : Around) (outer : List PySem.Env) (s : Shared) (H : Hp) (E : XK) (hr : Room 3 (A.deeper (envOfC "is_line" (defScope s_is_line) s.heap.objs.size f cdv))) :
    ∃ t, DSs (cxOf (L2.CX P w) P w K mg base ["value", "form"] "is_line" (defScope s_is_line) f cdv A outer s H E) (fun cls d _ H => E cls d H) (defBody s_is_line) t (g_is_line a_is_form) := by
  have tk : Takes (cxOf (L2.CX P w) P w K mg base ["value", "form"] "is_line" (defScope s_is_line) f cdv A outer s H E) (fun cls d _ H => E cls d H) := takes_of rfl rfl rfl rfl
  obtain ⟨v_WAYS, c_WAYS⟩ := T.c_WAYS
  exact ⟨_, (dss_cons (ds_if (dt_bool (dw_or (dt_not (dt_val (de_callB xcr_isi cad_isi T.n_isinstance bb_isinstance (da_cons (de_var 0) (da_cons (de_ty T.n_tuple bb_tuple) da_nil))))) (dw_or (dt_cmp (xop_ne ⟨_, hr⟩) opd_ne (de_callB xcr_len cad_len T.n_len bb_len (da_cons (de_var 0) da_nil)) de_int (nomark _)) (dw_or (dt_not (dt_val (de_call c_is_name.pure hr tk (by decide) (da_cons (de_ix ⟨_, hr⟩ (de_var 0) de_int) da_nil)))) (dw_or1 (dt_not (dt_val (de_call c_is_number.pure hr tk (by decide) (da_cons (de_ix ⟨_, hr⟩ (de_var 0) de_int) (da_cons de_int (da_cons de_int da_nil))))))))))) (dss_one (ds_ret de_bl)) dss_nil)
      (dss_cons (ds_if (dt_bool (dw_or (dt_not (dt_val (de_call c_is_list.pure hr tk (by decide) (da_cons (de_ix ⟨_, hr⟩ (de_var 0) de_int) (da_cons (de_glob T.v_is_form) da_nil))))) (dw_or1 (dt_cmp (xop_eq ⟨_, hr⟩) opd_eq (de_callB xcr_len cad_len T.n_len bb_len (da_cons (de_ix ⟨_, hr⟩ (de_var 0) de_int) da_nil)) de_int (nomark _))))) (dss_one (ds_ret de_bl)) dss_nil)
      (dss_cons (ds_if (dt_cmp (xop_ne ⟨_, hr⟩) opd_ne (de_callB xcr_len cad_len T.n_len bb_len (da_cons (de_dc (own := [("form", 1)]) ⟨rfl, sc_is_line.nd, (di_list (de_ix ⟨_, hr⟩ (de_var 0) de_int)), (blkC_at (N := ["value", "form"]) (outer := defScope s_is_line) rfl rfl (by decide +kernel)), fun s H C cl fp => (dg_name 1 sc_is_line.nd), (tgl_name 1), by decide, fun s H C cl fp => dts_nil, fun s H C cl fp => (de_ix ⟨_, hr⟩ (de_var 1) de_int), fun s H C cl fp => de_bl, fun _ => rfl⟩) da_nil)) (de_callB xcr_len cad_len T.n_len bb_len (da_cons (de_ix ⟨_, hr⟩ (de_var 0) de_int) da_nil)) (nomark _)) (dss_one (ds_ret de_bl)) dss_nil)
      (dss_one (ds_ret (de_and (de_callB xcr_isi cad_isi T.n_isinstance bb_isinstance (da_cons (de_ix ⟨_, hr⟩ (de_var 0) de_int) (da_cons (de_ty T.n_str bb_str) da_nil))) (de_one (de_cmp (xop_in ⟨_, hr⟩) opd_in (de_ix ⟨_, hr⟩ (de_var 0) de_int) (de_glob c_WAYS) (by with_unfolding_all rfl)))))))))⟩
theorem cal_is_line (T : Txt w K mg a_is_form) (c_is_list : Cal P w K mg base 3 "is_list" (φ_is_list a_is_form)) (c_is_name : Cal P w K mg base 1 "is_name" φ_is_name) (c_is_number : Cal P w K mg base 1 "is_number" φ_is_number) : Cal P w K mg base 4 "is_line" (φ_is_line a_is_form) := by
  obtain ⟨f, fd, F, m⟩ := T.f_is_line
  exact ⟨f, fd, ["value"], fn_ok F sc_is_line fun cdv A outer s H E hr => body_is_line T c_is_list c_is_name c_is_number f cdv A outer s H E hr, m, F.kp, F.binds (ps := ["value"]) fun _ _ _ _ _ _ us hl => match us, hl with | [_], _ => rfl⟩
/-! ### check_media -/
theorem sc_check_media : FnScope ["media", "at"] ["media"] (defScope s_check_media) := ⟨rfl, rfl, rfl, by decide +kernel, rfl, by decide +kernel, by decide +kernel⟩
def g_check_media (a_is_form : Addr) : Sn := (sSeq (sIf (fOr (fNot (asB (fCall gIsi (fCons (fVar 0) (fCons (fC (.any (.ty "tuple"))) fNil))))) (fOr (asB (fBin gNe (fCall gLen (fCons (fVar 0) fNil)) (fC (.int 3)))) (fNot (asB (fCall (pureOp φ_is_number) (fCons (fBin gIx (fVar 0) (fC (.int 0))) (fCons (fC (.int 0)) (fCons (fBin gPow (fC (.int 2)) (fC (.int 31))) fNil)))))))) sNever sNext)
  (sSeq (sIf (fOr (fNot (asB (fCall (pureOp φ_is_number) (fCons (fBin gIx (fVar 0) (fC (.int 1))) (fCons (fC (.int 0)) (fCons (fBin gPow (fC (.int 2)) (fC (.int 31))) fNil)))))) (fOr (fNot (asB (fCall gIsi (fCons (fBin gIx (fVar 0) (fC (.int 2))) (fCons (fC (.any (.ty "list"))) fNil))))) (asB (fBin gGt (fCall gLen (fCons (fBin gIx (fVar 0) (fC (.int 2))) fNil)) (fC (.int 20)))))) sNever sNext)
  (sFor (wRange1 (fCons (fCall gLen (fCons (fBin gIx (fVar 0) (fC (.int 2))) fNil)) fNil)) (yName 1) (sIf (fNot (asB (fCall (pureOp (φ_is_line a_is_form)) (fCons (fBin gIx (fBin gIx (fVar 0) (fC (.int 2))) (fVar 1)) fNil)))) sNever sNext))))
def φ_check_media (a_is_form : Addr) : OpN := fnD 2 1 (g_check_media a_is_form)
theorem body_check_media (T : Txt w K mg a_is_form) (c_is_line : Cal P w K mg base 4 "is_line" (φ_is_line a_is_form)) (c_is_number : Cal P w K mg base 1 "is_number" φ_is_number) (f : Addr) (cdv : Value) (A : Around) (outer : List PySem.Env) (s : Shared) (H : Hp) (E : XK) (hr : Room 4 (A.deeper (envOfC "check_media" (defScope s_check_media) s.heap.objs.size f cdv))) :
    ∃ t, DSs (cxOf (L2.CX P w) P w K mg base ["media", "at"] "check_media" (defScope s_check_media) f cdv A outer s H E) (fun cls d _ H => E cls d H) (defBody s_check_media) t (g_check_media a_is_form) := by
  have tk : Takes (cxOf (L2.CX P w) P w K mg base ["media", "at"] "check_media" (defScope s_check_media) f cdv A outer s H E) (fun cls d _ H => E cls d H) := takes_of rfl rfl rfl rfl
  have pp : PassesOwn (model P w) (cxOf (L2.CX P w) P w K mg base ["media", "at"] "check_media" (defScope s_check_media) f cdv A outer s H E).A (cxOf (L2.CX P w) P w K mg base ["media", "at"] "check_media" (defScope s_check_media) f cdv A outer s H E).env (cxOf (L2.CX P w) P w K mg base ["media", "at"] "check_media" (defScope s_check_media) f cdv A outer s H E).xe := passes_of rfl
  exact ⟨_, (dss_cons (ds_if (dt_bool (dw_or (dt_not (dt_val (de_callB xcr_isi cad_isi T.n_isinstance bb_isinstance (da_cons (de_var 0) (da_cons (de_ty T.n_tuple bb_tuple) da_nil))))) (dw_or (dt_cmp (xop_ne ⟨_, hr⟩) opd_ne (de_callB xcr_len cad_len T.n_len bb_len (da_cons (de_var 0) da_nil)) de_int (nomark _)) (dw_or1 (dt_not (dt_val (de_call c_is_number.pure hr tk (by decide) (da_cons (de_ix ⟨_, hr⟩ (de_var 0) de_int) (da_cons de_int (da_cons (de_bin op_pow opd_powI de_int de_int) da_nil)))))))))) (dss_one (ds_never (g := sNever) fun _ _ => rfl)) dss_nil)
      (dss_cons (ds_if (dt_bool (dw_or (dt_not (dt_val (de_call c_is_number.pure hr tk (by decide) (da_cons (de_ix ⟨_, hr⟩ (de_var 0) de_int) (da_cons de_int (da_cons (de_bin op_pow opd_powI de_int de_int) da_nil)))))) (dw_or (dt_not (dt_val (de_callB xcr_isi cad_isi T.n_isinstance bb_isinstance (da_cons (de_ix ⟨_, hr⟩ (de_var 0) de_int) (da_cons (de_ty T.n_list bb_list) da_nil))))) (dw_or1 (dt_cmp op_gt opd_gtI (de_callB xcr_len cad_len T.n_len bb_len (da_cons (de_ix ⟨_, hr⟩ (de_var 0) de_int) da_nil)) de_int (nomark _)))))) (dss_one (ds_never (g := sNever) fun _ _ => rfl)) dss_nil)
      (dss_one (ds_for pp rfl (di_range1 T.n_range (da_cons (de_callB xcr_len cad_len T.n_len bb_len (da_cons (de_ix ⟨_, hr⟩ (de_var 0) de_int) da_nil)) da_nil)) (dg_name 1 sc_check_media.nd) (dss_one (ds_if (dt_not (dt_val (de_call c_is_line.pure hr tk (by decide) (da_cons (de_ix ⟨_, hr⟩ (de_ix ⟨_, hr⟩ (de_var 0) de_int) (de_var 1)) da_nil)))) (dss_one (ds_never (g := sNever) fun _ _ => rfl)) dss_nil))))))⟩
theorem cal_check_media (T : Txt w K mg a_is_form) (c_is_line : Cal P w K mg base 4 "is_line" (φ_is_line a_is_form)) (c_is_number : Cal P w K mg base 1 "is_number" φ_is_number) : Cal P w K mg base 5 "check_media" (φ_check_media a_is_form) := by
  obtain ⟨f, fd, F, m⟩ := T.f_check_media
  exact ⟨f, fd, ["media"], fn_ok F sc_check_media fun cdv A outer s H E hr => body_check_media T c_is_line c_is_number f cdv A outer s H E hr, m, F.kp, F.binds (ps := ["media"]) fun _ _ _ _ _ _ us hl => match us, hl with | [_], _ => rfl⟩
/-! ### answered_way -/
theorem sc_answered_way : FnScope ["way", "wish", "due", "sends", "gets"] ["way", "wish"] (defScope s_answered_way) := ⟨rfl, rfl, rfl, by decide +kernel, rfl, by decide +kernel, by decide +kernel⟩
def g_answered_way : Sn := (sSeq (sAsg (fIxT t_TURNED (fVar 0)) (yName 2))
  (sSeq (sAsg (fAndV (fBin (gIn false) (fVar 2) (fTup (fCons (fC (.str "both")) (fCons (fC (.str "send")) fNil)))) (fBin (gIn false) (fVar 1) (fTup (fCons (fC (.str "both")) (fCons (fC (.str "send")) fNil))))) (yName 3))
  (sSeq (sAsg (fAndV (fBin (gIn false) (fVar 2) (fTup (fCons (fC (.str "both")) (fCons (fC (.str "get")) fNil)))) (fBin (gIn false) (fVar 1) (fTup (fCons (fC (.str "both")) (fCons (fC (.str "get")) fNil))))) (yName 4))
  (sSeq (sIf (asB (fVar 3)) (sRet (fIf (asB (fVar 4)) (fC (.str "both")) (fC (.str "send")))) sNext)
  (sRet (fIf (asB (fVar 4)) (fC (.str "get")) (fC (.str "none"))))))))
def φ_answered_way : OpN := fnD 5 2 g_answered_way
theorem body_answered_way (T : Txt w K mg a_is_form) (f : Addr) (cdv : Value) (A : Around) (outer : List PySem.Env) (s : Shared) (H : Hp) (E : XK) (hr : Room 0 (A.deeper (envOfC "answered_way" (defScope s_answered_way) s.heap.objs.size f cdv))) :
    ∃ t, DSs (cxOf (L2.CX P w) P w K mg base ["way", "wish", "due", "sends", "gets"] "answered_way" (defScope s_answered_way) f cdv A outer s H E) (fun cls d _ H => E cls d H) (defBody s_answered_way) t g_answered_way := by
  exact ⟨_, (dss_cons (ds_set 2 sc_answered_way.nd (de_ixT T.t_TURNED (de_var 0)))
      (dss_cons (ds_set 3 sc_answered_way.nd (de_and (de_cmp (xop_in ⟨_, hr⟩) opd_in (de_var 2) (de_tup (da_cons de_str (da_cons de_str da_nil))) (by with_unfolding_all rfl)) (de_one (de_cmp (xop_in ⟨_, hr⟩) opd_in (de_var 1) (de_tup (da_cons de_str (da_cons de_str da_nil))) (by with_unfolding_all rfl)))))
      (dss_cons (ds_set 4 sc_answered_way.nd (de_and (de_cmp (xop_in ⟨_, hr⟩) opd_in (de_var 2) (de_tup (da_cons de_str (da_cons de_str da_nil))) (by with_unfolding_all rfl)) (de_one (de_cmp (xop_in ⟨_, hr⟩) opd_in (de_var 1) (de_tup (da_cons de_str (da_cons de_str da_nil))) (by with_unfolding_all rfl)))))
      (dss_cons (ds_if (dt_val (de_var 3)) (dss_one (ds_ret (de_if (dt_val (de_var 4)) de_str de_str))) dss_nil)
      (dss_one (ds_ret (de_if (dt_val (de_var 4)) de_str de_str)))))))⟩
theorem cal_answered_way (T : Txt w K mg a_is_form) : Cal P w K mg base 1 "answered_way" φ_answered_way := by
  obtain ⟨f, fd, F, m⟩ := T.f_answered_way
  exact ⟨f, fd, ["way", "wish"], fn_ok F sc_answered_way fun cdv A outer s H E hr => body_answered_way T f cdv A outer s H E hr, m, F.kp, F.binds (ps := ["way", "wish"]) fun _ _ _ _ _ _ us hl => match us, hl with | [_, _], _ => rfl⟩
/-! ### common -/
theorem sc_common : FnScope ["forms", "skills", "form"] ["forms", "skills"] (defScope s_common) := ⟨rfl, rfl, rfl, by decide +kernel, rfl, by decide +kernel, by decide +kernel⟩
def g_common : Sn := (sRet (fComp (wList (fVar 0)) (yName 2) (asB (fBin (gIn false) (fTup (fCons (fBin gIx (fVar 2) (fC (.int 1))) (fCons (fBin gIx (fVar 2) (fC (.int 2))) fNil))) (fVar 1))) (fVar 2) [2]))
def φ_common : OpN := fnD 3 2 g_common
theorem body_common (T : Txt w K mg a_is_form) (f : Addr) (cdv : Value) (A : Around) (outer : List PySem.Env) (s : Shared) (H : Hp) (E : XK) (hr : Room 0 (A.deeper (envOfC "common" (defScope s_common) s.heap.objs.size f cdv))) :
    ∃ t, DSs (cxOf (L2.CX P w) P w K mg base ["forms", "skills", "form"] "common" (defScope s_common) f cdv A outer s H E) (fun cls d _ H => E cls d H) (defBody s_common) t g_common := by
  exact ⟨_, (dss_one (ds_ret (de_lc (own := [("form", 2)]) ⟨rfl, sc_common.nd, (di_list (de_var 0)), (blkC_at (N := ["forms", "skills", "form"]) (outer := defScope s_common) rfl rfl (by decide +kernel)), fun s H C cl fp => (dg_name 2 sc_common.nd), (tgl_name 2), by decide, fun s H C cl fp => (dts_one (dt_cmp (xop_in ⟨_, hr⟩) opd_in (de_tup (da_cons (de_ix ⟨_, hr⟩ (de_var 2) de_int) (da_cons (de_ix ⟨_, hr⟩ (de_var 2) de_int) da_nil))) (de_var 1) (by with_unfolding_all rfl))), fun s H C cl fp => (de_var 2), fun _ => rfl⟩)))⟩
theorem cal_common (T : Txt w K mg a_is_form) : Cal P w K mg base 1 "common" φ_common := by
  obtain ⟨f, fd, F, m⟩ := T.f_common
  exact ⟨f, fd, ["forms", "skills"], fn_ok F sc_common fun cdv A outer s H E hr => body_common T f cdv A outer s H E hr, m, F.kp, F.binds (ps := ["forms", "skills"]) fun _ _ _ _ _ _ us hl => match us, hl with | [_, _], _ => rfl⟩
/-! ### answer_to -/
theorem sc_answer_to : FnScope ["media", "number", "skills", "used", "lines", "kind", "port", "forms", "way", "fine", "own", "at"] ["media", "number", "skills"] (defScope s_answer_to) := ⟨rfl, rfl, rfl, by decide +kernel, rfl, by decide +kernel, by decide +kernel⟩
def g_answer_to : Sn := (sSeq (sAsg fDicC (yName 3))
  (sSeq (sAsg (fLstC fNil) (yName 4))
  (sSeq (sFor (wList (fBin gIx (fVar 0) (fC (.int 2)))) (yTup 4 (yCons (yName 5) (yCons (yName 6) (yCons (yName 7) (yCons (yName 8) yNil))))) (sSeq (sAsg (fComp (wRange1 (fCons (fCall gLen (fCons (fVar 2) fNil)) fNil)) (yName 11) (fAnd (asB (fBin (gIn true) (fVar 11) (fVar 3))) (asB (fBin gEq (fBin gIx (fBin gIx (fVar 2) (fVar 11)) (fC (.int 0))) (fVar 5)))) (fVar 11) [11]) (yName 9))
  (sSeq (sAsg (fIf (asB (fBin gGt (fVar 6) (fC (.int 0)))) (fComp (wList (fVar 9)) (yName 11) (asB (fBin gGt (fCall gLen (fCons (fCall (pureOp φ_common) (fCons (fVar 7) (fCons (fBin gIx (fBin gIx (fVar 2) (fVar 11)) (fC (.int 2))) fNil))) fNil)) (fC (.int 0)))) (fVar 11) [11]) (fLst fNil)) (yName 9))
  (sIf (asB (fBin gEq (fCall gLen (fCons (fVar 9) fNil)) (fC (.int 0)))) (sExpr (fBM "list" gAppend (fVar 4) (fCons (fTup (fCons (fVar 5) (fCons (fC (.int 0)) (fCons (fSl (fVar 7) fNone (fPart (fC (.int 1)))) (fCons (fC (.str "none")) fNil))))) fNil))) (sSeq (sAsg (fBin gIx (fVar 2) (fBin gIx (fVar 9) (fC (.int 0)))) (yName 10))
  (sSeq (sSet (fVar 3) (fBin gIx (fVar 9) (fC (.int 0))) (fC (.bl true)))
  (sExpr (fBM "list" gAppend (fVar 4) (fCons (fTup (fCons (fVar 5) (fCons (fBin gIx (fVar 10) (fC (.int 1))) (fCons (fCall (pureOp φ_common) (fCons (fVar 7) (fCons (fBin gIx (fVar 10) (fC (.int 2))) fNil))) (fCons (fCall (pureOp φ_answered_way) (fCons (fVar 8) (fCons (fBin gIx (fVar 10) (fC (.int 3))) fNil))) fNil))))) fNil)))))))))
  (sRet (fTup (fCons (fVar 1) (fCons (fC (.int 1)) (fCons (fFrz (fVar 4)) fNil))))))))
def φ_answer_to : OpN := fnD 12 3 g_answer_to
theorem body_answer_to (T : Txt w K mg a_is_form) (c_answered_way : Cal P w K mg base 1 "answered_way" φ_answered_way) (c_common : Cal P w K mg base 1 "common" φ_common) (f : Addr) (cdv : Value) (A : Around) (outer : List PySem.Env) (s : Shared) (H : Hp) (E : XK) (hr : Room 1 (A.deeper (envOfC "answer_to" (defScope s_answer_to) s.heap.objs.size f cdv))) :
    ∃ t, DSs (cxOf (L2.CX P w) P w K mg base ["media", "number", "skills", "used", "lines", "kind", "port", "forms", "way", "fine", "own", "at"] "answer_to" (defScope s_answer_to) f cdv A outer s H E) (fun cls d _ H => E cls d H) (defBody s_answer_to) t g_answer_to := by
  have tk : Takes (cxOf (L2.CX P w) P w K mg base ["media", "number", "skills", "used", "lines", "kind", "port", "forms", "way", "fine", "own", "at"] "answer_to" (defScope s_answer_to) f cdv A outer s H E) (fun cls d _ H => E cls d H) := takes_of rfl rfl rfl rfl
  have pp : PassesOwn (model P w) (cxOf (L2.CX P w) P w K mg base ["media", "number", "skills", "used", "lines", "kind", "port", "forms", "way", "fine", "own", "at"] "answer_to" (defScope s_answer_to) f cdv A outer s H E).A (cxOf (L2.CX P w) P w K mg base ["media", "number", "skills", "used", "lines", "kind", "port", "forms", "way", "fine", "own", "at"] "answer_to" (defScope s_answer_to) f cdv A outer s H E).env (cxOf (L2.CX P w) P w K mg base ["media", "number", "skills", "used", "lines", "kind", "port", "forms", "way", "fine", "own", "at"] "answer_to" (defScope s_answer_to) f cdv A outer s H E).xe := passes_of rfl
  exact ⟨_, (dss_cons (ds_set 3 sc_answer_to.nd de_dnewC)
      (dss_cons (ds_set 4 sc_answer_to.nd (de_lstC da_nil))
      (dss_cons (ds_for pp rfl (di_list (de_ix ⟨_, hr⟩ (de_var 0) de_int)) (dg_tup rfl (dgs_cons (dg_name 5 sc_answer_to.nd) (dgs_cons (dg_name 6 sc_answer_to.nd) (dgs_cons (dg_name 7 sc_answer_to.nd) (dgs_cons (dg_name 8 sc_answer_to.nd) dgs_nil))))) (dss_cons (ds_setLc 9 rfl rfl (sw_true rfl rfl rfl (by decide +kernel)) (own := [("at", 11)]) ⟨rfl, sc_answer_to.nd, (di_range1 T.n_range (da_cons (de_callB xcr_len cad_len T.n_len bb_len (da_cons (de_var 2) da_nil)) da_nil)), (blkC_at (N := ["media", "number", "skills", "used", "lines", "kind", "port", "forms", "way", "fine", "own", "at"]) (outer := defScope s_answer_to) rfl rfl (by decide +kernel)), fun s H C cl fp => (dg_name 11 sc_answer_to.nd), (tgl_name 11), by decide, fun s H C cl fp => (dts_one (dt_bool (dw_and (dt_cmp (xop_notIn ⟨_, hr⟩) opd_notIn (de_var 11) (de_var 3) (by with_unfolding_all rfl)) (dw_and1 (dt_cmp (xop_eq ⟨_, hr⟩) opd_eq (de_ix ⟨_, hr⟩ (de_ix ⟨_, hr⟩ (de_var 2) (de_var 11)) de_int) (de_var 5) (nomark _)))))), fun s H C cl fp => (de_var 11), fun _ => rfl⟩)
      (dss_cons (ds_set 9 sc_answer_to.nd (de_if (dt_cmp op_gt opd_gtI (de_var 6) de_int (nomark _)) (de_lc (own := [("at", 11)]) ⟨rfl, sc_answer_to.nd, (di_list (de_var 9)), (blkC_at (N := ["media", "number", "skills", "used", "lines", "kind", "port", "forms", "way", "fine", "own", "at"]) (outer := defScope s_answer_to) rfl rfl (by decide +kernel)), fun s H C cl fp => (dg_name 11 sc_answer_to.nd), (tgl_name 11), by decide, fun s H C cl fp => (dts_one (dt_cmp op_gt opd_gtI (de_callB xcr_len cad_len T.n_len bb_len (da_cons (de_call c_common.pure hr takes0 (by decide) (da_cons (de_var 7) (da_cons (de_ix ⟨_, hr⟩ (de_ix ⟨_, hr⟩ (de_var 2) (de_var 11)) de_int) da_nil))) da_nil)) de_int (nomark _))), fun s H C cl fp => (de_var 11), fun _ => rfl⟩) (de_lst da_nil)))
      (dss_one (ds_if (dt_cmp (xop_eq ⟨_, hr⟩) opd_eq (de_callB xcr_len cad_len T.n_len bb_len (da_cons (de_var 9) da_nil)) de_int (nomark _)) (dss_one (ds_expr (de_bm PySem.F.plainAttrs_list PySem.F.slot_list_append PySem.F.type_list_append mt_append mtd_append (de_var 4) (da_cons (de_tup (da_cons (de_var 5) (da_cons de_int (da_cons (de_sl (de_var 7) do_none (do_some de_int)) (da_cons de_str da_nil))))) da_nil)))) (dss_cons (ds_set 10 sc_answer_to.nd (de_ix ⟨_, hr⟩ (de_var 2) (de_ix ⟨_, hr⟩ (de_var 9) de_int)))
      (dss_cons (ds_setI ⟨_, hr⟩ (de_var 3) (de_ix ⟨_, hr⟩ (de_var 9) de_int) de_bl)
      (dss_one (ds_expr (de_bm PySem.F.plainAttrs_list PySem.F.slot_list_append PySem.F.type_list_append mt_append mtd_append (de_var 4) (da_cons (de_tup (da_cons (de_var 5) (da_cons (de_ix ⟨_, hr⟩ (de_var 10) de_int) (da_cons (de_call c_common.pure hr tk (by decide) (da_cons (de_var 7) (da_cons (de_ix ⟨_, hr⟩ (de_var 10) de_int) da_nil))) (da_cons (de_call c_answered_way.pure hr tk (by decide) (da_cons (de_var 8) (da_cons (de_ix ⟨_, hr⟩ (de_var 10) de_int) da_nil))) da_nil))))) da_nil)))))))))))
      (dss_one (ds_ret (de_tup (da_cons (de_var 1) (da_cons de_int (da_cons (de_frz (de_var 4)) da_nil)))))))))⟩
theorem cal_answer_to (T : Txt w K mg a_is_form) (c_answered_way : Cal P w K mg base 1 "answered_way" φ_answered_way) (c_common : Cal P w K mg base 1 "common" φ_common) : Cal P w K mg base 2 "answer_to" φ_answer_to := by
  obtain ⟨f, fd, F, m⟩ := T.f_answer_to
  exact ⟨f, fd, ["media", "number", "skills"], fn_ok F sc_answer_to fun cdv A outer s H E hr => body_answer_to T c_answered_way c_common f cdv A outer s H E hr, m, F.kp, F.binds (ps := ["media", "number", "skills"]) fun _ _ _ _ _ _ us hl => match us, hl with | [_, _, _], _ => rfl⟩
/-! ### line_fits -/
theorem sc_line_fits : FnScope ["one", "other", "sends", "gets", "form"] ["one", "other"] (defScope s_line_fits) := ⟨rfl, rfl, rfl, by decide +kernel, rfl, by decide +kernel, by decide +kernel⟩
def g_line_fits : Sn := (sSeq (sIf (asB (fBin gNe (fBin gIx (fVar 0) (fC (.int 0))) (fBin gIx (fVar 1) (fC (.int 0))))) (sRet (fC (.bl false))) sNext)
  (sSeq (sIf (asB (fBin gEq (fBin gIx (fVar 1) (fC (.int 1))) (fC (.int 0)))) (sRet (fC (.bl true))) sNext)
  (sSeq (sIf (fOr (asB (fBin gEq (fBin gIx (fVar 0) (fC (.int 1))) (fC (.int 0)))) (fNot (asB (fCall gAll (fCons (fComp (wList (fBin gIx (fVar 1) (fC (.int 2)))) (yName 4) fYes (fBin (gIn false) (fVar 4) (fBin gIx (fVar 0) (fC (.int 2)))) [4]) fNil))))) (sRet (fC (.bl false))) sNext)
  (sSeq (sPar 2 3 (fCons (fBin (gIn false) (fBin gIx (fVar 0) (fC (.int 3))) (fTup (fCons (fC (.str "both")) (fCons (fC (.str "send")) fNil)))) (fCons (fBin (gIn false) (fBin gIx (fVar 0) (fC (.int 3))) (fTup (fCons (fC (.str "both")) (fCons (fC (.str "get")) fNil)))) fNil)))
  (sSeq (sIf (fAnd (asB (fBin (gIn false) (fBin gIx (fVar 1) (fC (.int 3))) (fTup (fCons (fC (.str "both")) (fCons (fC (.str "send")) fNil))))) (fNot (asB (fVar 3)))) (sRet (fC (.bl false))) sNext)
  (sRet (fOrV (fVar 2) (fBin (gIn true) (fBin gIx (fVar 1) (fC (.int 3))) (fTup (fCons (fC (.str "both")) (fCons (fC (.str "get")) fNil)))))))))))
def φ_line_fits : OpN := fnD 5 2 g_line_fits
theorem body_line_fits (T : Txt w K mg a_is_form) (f : Addr) (cdv : Value) (A : Around) (outer : List PySem.Env) (s : Shared) (H : Hp) (E : XK) (hr : Room 0 (A.deeper (envOfC "line_fits" (defScope s_line_fits) s.heap.objs.size f cdv))) :
    ∃ t, DSs (cxOf (L2.CX P w) P w K mg base ["one", "other", "sends", "gets", "form"] "line_fits" (defScope s_line_fits) f cdv A outer s H E) (fun cls d _ H => E cls d H) (defBody s_line_fits) t g_line_fits := by
  exact ⟨_, (dss_cons (ds_if (dt_cmp (xop_ne ⟨_, hr⟩) opd_ne (de_ix ⟨_, hr⟩ (de_var 0) de_int) (de_ix ⟨_, hr⟩ (de_var 1) de_int) (nomark _)) (dss_one (ds_ret de_bl)) dss_nil)
      (dss_cons (ds_if (dt_cmp (xop_eq ⟨_, hr⟩) opd_eq (de_ix ⟨_, hr⟩ (de_var 1) de_int) de_int (nomark _)) (dss_one (ds_ret de_bl)) dss_nil)
      (dss_cons (ds_if (dt_bool (dw_or (dt_cmp (xop_eq ⟨_, hr⟩) opd_eq (de_ix ⟨_, hr⟩ (de_var 0) de_int) de_int (nomark _)) (dw_or1 (dt_not (dt_val (de_callB xcr_all cad_all T.n_all bb_all (da_cons (de_lc (own := [("form", 4)]) ⟨rfl, sc_line_fits.nd, (di_list (de_ix ⟨_, hr⟩ (de_var 1) de_int)), (blkC_at (N := ["one", "other", "sends", "gets", "form"]) (outer := defScope s_line_fits) rfl rfl (by decide +kernel)), fun s H C cl fp => (dg_name 4 sc_line_fits.nd), (tgl_name 4), by decide, fun s H C cl fp => dts_nil, fun s H C cl fp => (de_cmp (xop_in ⟨_, hr⟩) opd_in (de_var 4) (de_ix ⟨_, hr⟩ (de_var 0) de_int) (by with_unfolding_all rfl)), fun _ => rfl⟩) da_nil))))))) (dss_one (ds_ret de_bl)) dss_nil)
      (dss_cons (ds_par rfl sc_line_fits.nd (i := 2) (j := 3) rfl rfl (by decide) rfl rfl (da_cons (de_cmp (xop_in ⟨_, hr⟩) opd_in (de_ix ⟨_, hr⟩ (de_var 0) de_int) (de_tup (da_cons de_str (da_cons de_str da_nil))) (by with_unfolding_all rfl)) (da_cons (de_cmp (xop_in ⟨_, hr⟩) opd_in (de_ix ⟨_, hr⟩ (de_var 0) de_int) (de_tup (da_cons de_str (da_cons de_str da_nil))) (by with_unfolding_all rfl)) da_nil)) (by rfl))
      (dss_cons (ds_if (dt_bool (dw_and (dt_cmp (xop_in ⟨_, hr⟩) opd_in (de_ix ⟨_, hr⟩ (de_var 1) de_int) (de_tup (da_cons de_str (da_cons de_str da_nil))) (by with_unfolding_all rfl)) (dw_and1 (dt_not (dt_val (de_var 3)))))) (dss_one (ds_ret de_bl)) dss_nil)
      (dss_one (ds_ret (de_or (de_var 2) (de_one (de_cmp (xop_notIn ⟨_, hr⟩) opd_notIn (de_ix ⟨_, hr⟩ (de_var 1) de_int) (de_tup (da_cons de_str (da_cons de_str da_nil))) (by with_unfolding_all rfl)))))))))))⟩
theorem cal_line_fits (T : Txt w K mg a_is_form) : Cal P w K mg base 1 "line_fits" φ_line_fits := by
  obtain ⟨f, fd, F, m⟩ := T.f_line_fits
  exact ⟨f, fd, ["one", "other"], fn_ok F sc_line_fits fun cdv A outer s H E hr => body_line_fits T f cdv A outer s H E hr, m, F.kp, F.binds (ps := ["one", "other"]) fun _ _ _ _ _ _ us hl => match us, hl with | [_, _], _ => rfl⟩
/-! ### fault_of -/
theorem sc_fault_of : FnScope ["offer", "answer", "at"] ["offer", "answer"] (defScope s_fault_of) := ⟨rfl, rfl, rfl, by decide +kernel, rfl, by decide +kernel, by decide +kernel⟩
def g_fault_of : Sn := (sSeq (sIf (asB (fBin gNe (fCall gLen (fCons (fBin gIx (fVar 0) (fC (.int 2))) fNil)) (fCall gLen (fCons (fBin gIx (fVar 1) (fC (.int 2))) fNil)))) (sRet (fUn gNeg (fC (.int 1)))) sNext)
  (sSeq (sFor (wRange1 (fCons (fCall gLen (fCons (fBin gIx (fVar 0) (fC (.int 2))) fNil)) fNil)) (yName 2) (sIf (fNot (asB (fCall (pureOp φ_line_fits) (fCons (fBin gIx (fBin gIx (fVar 0) (fC (.int 2))) (fVar 2)) (fCons (fBin gIx (fBin gIx (fVar 1) (fC (.int 2))) (fVar 2)) fNil))))) (sRet (fVar 2)) sNext))
  (sRet (fC .non))))
def φ_fault_of : OpN := fnD 3 2 g_fault_of
theorem body_fault_of (T : Txt w K mg a_is_form) (c_line_fits : Cal P w K mg base 1 "line_fits" φ_line_fits) (f : Addr) (cdv : Value) (A : Around) (outer : List PySem.Env) (s : Shared) (H : Hp) (E : XK) (hr : Room 1 (A.deeper (envOfC "fault_of" (defScope s_fault_of) s.heap.objs.size f cdv))) :
    ∃ t, DSs (cxOf (L2.CX P w) P w K mg base ["offer", "answer", "at"] "fault_of" (defScope s_fault_of) f cdv A outer s H E) (fun cls d _ H => E cls d H) (defBody s_fault_of) t g_fault_of := by
  have tk : Takes (cxOf (L2.CX P w) P w K mg base ["offer", "answer", "at"] "fault_of" (defScope s_fault_of) f cdv A outer s H E) (fun cls d _ H => E cls d H) := takes_of rfl rfl rfl rfl
  have pp : PassesOwn (model P w) (cxOf (L2.CX P w) P w K mg base ["offer", "answer", "at"] "fault_of" (defScope s_fault_of) f cdv A outer s H E).A (cxOf (L2.CX P w) P w K mg base ["offer", "answer", "at"] "fault_of" (defScope s_fault_of) f cdv A outer s H E).env (cxOf (L2.CX P w) P w K mg base ["offer", "answer", "at"] "fault_of" (defScope s_fault_of) f cdv A outer s H E).xe := passes_of rfl
  exact ⟨_, (dss_cons (ds_if (dt_cmp (xop_ne ⟨_, hr⟩) opd_ne (de_callB xcr_len cad_len T.n_len bb_len (da_cons (de_ix ⟨_, hr⟩ (de_var 0) de_int) da_nil)) (de_callB xcr_len cad_len T.n_len bb_len (da_cons (de_ix ⟨_, hr⟩ (de_var 1) de_int) da_nil)) (nomark _)) (dss_one (ds_ret (de_un un_neg und_neg de_int))) dss_nil)
      (dss_cons (ds_for pp rfl (di_range1 T.n_range (da_cons (de_callB xcr_len cad_len T.n_len bb_len (da_cons (de_ix ⟨_, hr⟩ (de_var 0) de_int) da_nil)) da_nil)) (dg_name 2 sc_fault_of.nd) (dss_one (ds_if (dt_not (dt_val (de_call c_line_fits.pure hr tk (by decide) (da_cons (de_ix ⟨_, hr⟩ (de_ix ⟨_, hr⟩ (de_var 0) de_int) (de_var 2)) (da_cons (de_ix ⟨_, hr⟩ (de_ix ⟨_, hr⟩ (de_var 1) de_int) (de_var 2)) da_nil))))) (dss_one (ds_ret (de_var 2))) dss_nil)))
      (dss_one (ds_ret de_non))))⟩
theorem cal_fault_of (T : Txt w K mg a_is_form) (c_line_fits : Cal P w K mg base 1 "line_fits" φ_line_fits) : Cal P w K mg base 2 "fault_of" φ_fault_of := by
  obtain ⟨f, fd, F, m⟩ := T.f_fault_of
  exact ⟨f, fd, ["offer", "answer"], fn_ok F sc_fault_of fun cdv A outer s H E hr => body_fault_of T c_line_fits f cdv A outer s H E hr, m, F.kp, F.binds (ps := ["offer", "answer"]) fun _ _ _ _ _ _ us hl => match us, hl with | [_, _], _ => rfl⟩
/-! ### flows -/
theorem sc_flows : FnScope ["offer", "answer", "asks", "found", "one", "other", "way"] ["offer", "answer", "asks"] (defScope s_flows) := ⟨rfl, rfl, rfl, by decide +kernel, rfl, by decide +kernel, by decide +kernel⟩
def g_flows : Sn := (sSeq (sAsg (fLstC fNil) (yName 3))
  (sSeq (sFor (wZip (fCons (fBin gIx (fVar 0) (fC (.int 2))) (fCons (fBin gIx (fVar 1) (fC (.int 2))) fNil))) (yTup 2 (yCons (yName 4) (yCons (yName 5) yNil))) (sIf (fOr (asB (fBin gEq (fBin gIx (fVar 5) (fC (.int 1))) (fC (.int 0)))) (asB (fBin gEq (fBin gIx (fVar 4) (fC (.int 1))) (fC (.int 0))))) (sExpr (fBM "list" gAppend (fVar 3) (fCons (fC .non) fNil))) (sSeq (sAsg (fIf (asB (fVar 2)) (fIxT t_TURNED (fBin gIx (fVar 5) (fC (.int 3)))) (fBin gIx (fVar 5) (fC (.int 3)))) (yName 6))
  (sExpr (fBM "list" gAppend (fVar 3) (fCons (fTup (fCons (fBin gIx (fBin gIx (fVar 5) (fC (.int 2))) (fC (.int 0))) (fCons (fBin (gIn false) (fVar 6) (fTup (fCons (fC (.str "both")) (fCons (fC (.str "send")) fNil)))) (fCons (fBin (gIn false) (fVar 6) (fTup (fCons (fC (.str "both")) (fCons (fC (.str "get")) fNil)))) fNil)))) fNil))))))
  (sRet (fFrz (fVar 3)))))
def φ_flows : OpN := fnD 7 3 g_flows
theorem body_flows (T : Txt w K mg a_is_form) (f : Addr) (cdv : Value) (A : Around) (outer : List PySem.Env) (s : Shared) (H : Hp) (E : XK) (hr : Room 0 (A.deeper (envOfC "flows" (defScope s_flows) s.heap.objs.size f cdv))) :
    ∃ t, DSs (cxOf (L2.CX P w) P w K mg base ["offer", "answer", "asks", "found", "one", "other", "way"] "flows" (defScope s_flows) f cdv A outer s H E) (fun cls d _ H => E cls d H) (defBody s_flows) t g_flows := by
  have pp : PassesOwn (model P w) (cxOf (L2.CX P w) P w K mg base ["offer", "answer", "asks", "found", "one", "other", "way"] "flows" (defScope s_flows) f cdv A outer s H E).A (cxOf (L2.CX P w) P w K mg base ["offer", "answer", "asks", "found", "one", "other", "way"] "flows" (defScope s_flows) f cdv A outer s H E).env (cxOf (L2.CX P w) P w K mg base ["offer", "answer", "asks", "found", "one", "other", "way"] "flows" (defScope s_flows) f cdv A outer s H E).xe := passes_of rfl
  exact ⟨_, (dss_cons (ds_set 3 sc_flows.nd (de_lstC da_nil))
      (dss_cons (ds_for pp rfl (di_zip T.n_zip (da_cons (de_ix ⟨_, hr⟩ (de_var 0) de_int) (da_cons (de_ix ⟨_, hr⟩ (de_var 1) de_int) da_nil))) (dg_tup rfl (dgs_cons (dg_name 4 sc_flows.nd) (dgs_cons (dg_name 5 sc_flows.nd) dgs_nil))) (dss_one (ds_if (dt_bool (dw_or (dt_cmp (xop_eq ⟨_, hr⟩) opd_eq (de_ix ⟨_, hr⟩ (de_var 5) de_int) de_int (nomark _)) (dw_or1 (dt_cmp (xop_eq ⟨_, hr⟩) opd_eq (de_ix ⟨_, hr⟩ (de_var 4) de_int) de_int (nomark _))))) (dss_one (ds_expr (de_bm PySem.F.plainAttrs_list PySem.F.slot_list_append PySem.F.type_list_append mt_append mtd_append (de_var 3) (da_cons de_non da_nil)))) (dss_cons (ds_set 6 sc_flows.nd (de_if (dt_val (de_var 2)) (de_ixT T.t_TURNED (de_ix ⟨_, hr⟩ (de_var 5) de_int)) (de_ix ⟨_, hr⟩ (de_var 5) de_int)))
      (dss_one (ds_expr (de_bm PySem.F.plainAttrs_list PySem.F.slot_list_append PySem.F.type_list_append mt_append mtd_append (de_var 3) (da_cons (de_tup (da_cons (de_ix ⟨_, hr⟩ (de_ix ⟨_, hr⟩ (de_var 5) de_int) de_int) (da_cons (de_cmp (xop_in ⟨_, hr⟩) opd_in (de_var 6) (de_tup (da_cons de_str (da_cons de_str da_nil))) (by with_unfolding_all rfl)) (da_cons (de_cmp (xop_in ⟨_, hr⟩) opd_in (de_var 6) (de_tup (da_cons de_str (da_cons de_str da_nil))) (by with_unfolding_all rfl)) da_nil)))) da_nil))))))))
      (dss_one (ds_ret (de_frz (de_var 3))))))⟩
theorem cal_flows (T : Txt w K mg a_is_form) : Cal P w K mg base 1 "flows" φ_flows := by
  obtain ⟨f, fd, F, m⟩ := T.f_flows
  exact ⟨f, fd, ["offer", "answer", "asks"], fn_ok F sc_flows fun cdv A outer s H E hr => body_flows T f cdv A outer s H E hr, m, F.kp, F.binds (ps := ["offer", "answer", "asks"]) fun _ _ _ _ _ _ us hl => match us, hl with | [_, _, _], _ => rfl⟩
/-! ### _law_draws -/
theorem sc__law_draws : FnScope ["script", "numbers", "cell", "rest", "mixed", "k"] ["script"] (defScope s__law_draws) := ⟨rfl, rfl, rfl, by decide +kernel, rfl, by decide +kernel, by decide +kernel⟩
def g__law_draws : Sn := (sSeq (sAsg (fLstC fNil) (yName 1))
  (sSeq (sFor (wList (fBin gAdd (fCall gList (fCons (fSl (fVar 0) fNone (fPart (fC (.int 8)))) fNil)) (fLst (fCons (fC (.int 7)) fNil)))) (yName 2) (sSeq (sAsg (fCall gAbs (fCons (fCall gInt (fCons (fVar 2) fNil)) fNil)) (yName 3))
  (sSeq (sAsg (fBin gAdd (fBin gMod (fCall gInt (fCons (fVar 2) fNil)) (fC (.int 1000003))) (fC (.int 1))) (yName 4))
  (sFor (wRange1 (fCons (fC (.int 40)) fNil)) (yName 5) (sIf (asB (fBin gGe (fVar 3) (fC (.int 1048576)))) (sSeq (sExpr (fBM "list" gAppend (fVar 1) (fCons (fBin gMod (fCall gInt (fCons (fVar 3) fNil)) (fC (.int 1048576))) fNil)))
  (sAsg (fBin gDiv (fVar 3) (fC (.int 1048576))) (yName 3))) (sSeq (sAsg (fBin gMod (fCall gInt (fCons (fBin gAdd (fBin gAdd (fBin gAdd (fBin gMulI (fVar 4) (fC (.int 48271))) (fBin gMulI (fC (.int 11)) (fVar 5))) (fC (.int 7))) (fVar 3)) fNil)) (fC (.int 2147483647))) (yName 4))
  (sExpr (fBM "list" gAppend (fVar 1) (fCons (fBin gMod (fCall gInt (fCons (fBin gDiv (fBin gMulI (fVar 4) (fC (.int 2862933555777941757))) (fC (.int 1024))) fNil)) (fC (.int 1048576))) fNil)))))))))
  (sRet (fDispC (fPC (fC (.str "numbers")) (fFrz (fVar 1)) (fPC (fC (.str "at")) (fC (.int 0)) fPN))))))
def φ__law_draws : OpN := fnD 6 1 g__law_draws
theorem body__law_draws (T : Txt w K mg a_is_form) (f : Addr) (cdv : Value) (A : Around) (outer : List PySem.Env) (s : Shared) (H : Hp) (E : XK) (hr : Room 0 (A.deeper (envOfC "_law_draws" (defScope s__law_draws) s.heap.objs.size f cdv))) :
    ∃ t, DSs (cxOf (L2.CX P w) P w K mg base ["script", "numbers", "cell", "rest", "mixed", "k"] "_law_draws" (defScope s__law_draws) f cdv A outer s H E) (fun cls d _ H => E cls d H) (defBody s__law_draws) t g__law_draws := by
  have pp : PassesOwn (model P w) (cxOf (L2.CX P w) P w K mg base ["script", "numbers", "cell", "rest", "mixed", "k"] "_law_draws" (defScope s__law_draws) f cdv A outer s H E).A (cxOf (L2.CX P w) P w K mg base ["script", "numbers", "cell", "rest", "mixed", "k"] "_law_draws" (defScope s__law_draws) f cdv A outer s H E).env (cxOf (L2.CX P w) P w K mg base ["script", "numbers", "cell", "rest", "mixed", "k"] "_law_draws" (defScope s__law_draws) f cdv A outer s H E).xe := passes_of rfl
  exact ⟨_, (dss_cons (ds_set 1 sc__law_draws.nd (de_lstC da_nil))
      (dss_cons (ds_for pp rfl (di_list (de_bin xop_add opd_add (de_callTy xcr_list cad_list T.n_list bb_list (da_cons (de_sl (de_var 0) do_none (do_some de_int)) da_nil)) (de_lst (da_cons de_int da_nil)))) (dg_name 2 sc__law_draws.nd) (dss_cons (ds_set 3 sc__law_draws.nd (de_callB call_abs cad_abs T.n_abs bb_abs (da_cons (de_callTy call_int1 cad_int T.n_int bb_int (da_cons (de_var 2) da_nil)) da_nil)))
      (dss_cons (ds_set 4 sc__law_draws.nd (de_bin xop_add opd_add (de_bin op_modN opd_modI (de_callTy call_int1 cad_int T.n_int bb_int (da_cons (de_var 2) da_nil)) de_int) de_int))
      (dss_one (ds_for pp rfl (di_range1 T.n_range (da_cons de_int da_nil)) (dg_name 5 sc__law_draws.nd) (dss_one (ds_if (dt_cmp op_ge opd_geI (de_var 3) de_int (nomark _)) (dss_cons (ds_expr (de_bm PySem.F.plainAttrs_list PySem.F.slot_list_append PySem.F.type_list_append mt_append mtd_append (de_var 1) (da_cons (de_bin op_modN opd_modI (de_callTy call_int1 cad_int T.n_int bb_int (da_cons (de_var 3) da_nil)) de_int) da_nil)))
      (dss_one (ds_set 3 sc__law_draws.nd (de_bin op_fdivN opd_fdivI (de_var 3) de_int)))) (dss_cons (ds_set 4 sc__law_draws.nd (de_bin op_modN opd_modI (de_callTy call_int1 cad_int T.n_int bb_int (da_cons (de_bin xop_add opd_add (de_bin xop_add opd_add (de_bin xop_add opd_add (de_bin op_mul opd_mulI (de_var 4) de_int) (de_bin op_mul opd_mulI de_int (de_var 5))) de_int) (de_var 3)) da_nil)) de_int))
      (dss_one (ds_expr (de_bm PySem.F.plainAttrs_list PySem.F.slot_list_append PySem.F.type_list_append mt_append mtd_append (de_var 1) (da_cons (de_bin op_modN opd_modI (de_callTy call_int1 cad_int T.n_int bb_int (da_cons (de_bin op_fdivN opd_fdivI (de_bin op_mul opd_mulI (de_var 4) de_int) de_int) da_nil)) de_int) da_nil))))))))))))
      (dss_one (ds_ret (de_dispC (dps_cons de_str (de_frz (de_var 1)) (dps_cons de_str de_int dps_nil)) (List.cons_ne_nil _ _) (Nat.le_of_ble_eq_true rfl))))))⟩
theorem cal__law_draws (T : Txt w K mg a_is_form) : Cal P w K mg base 1 "_law_draws" φ__law_draws := by
  obtain ⟨f, fd, F, m⟩ := T.f__law_draws
  exact ⟨f, fd, ["script"], fn_ok F sc__law_draws fun cdv A outer s H E hr => body__law_draws T f cdv A outer s H E hr, m, F.kp, F.binds (ps := ["script"]) fun _ _ _ _ _ _ us hl => match us, hl with | [_], _ => rfl⟩
/-! ### _law_next -/
theorem sc__law_next : FnScope ["draws", "bound", "at"] ["draws", "bound"] (defScope s__law_next) := ⟨rfl, rfl, rfl, by decide +kernel, rfl, by decide +kernel, by decide +kernel⟩
def g__law_next : Sn := (sSeq (sAsg (fCall gInt (fCons (fBin gIx (fVar 0) (fC (.str "at"))) fNil)) (yName 2))
  (sSeq (sSet (fVar 0) (fC (.str "at")) (fBin gAdd (fVar 2) (fC (.int 1))))
  (sRet (fBin gMod (fCall gInt (fCons (fBin gAdd (fBin gIx (fBin gIx (fVar 0) (fC (.str "numbers"))) (fBin gMod (fVar 2) (fCall gLen (fCons (fBin gIx (fVar 0) (fC (.str "numbers"))) fNil)))) (fBin gMulI (fC (.int 31)) (fBin gDiv (fVar 2) (fCall gLen (fCons (fBin gIx (fVar 0) (fC (.str "numbers"))) fNil))))) fNil)) (fVar 1)))))
def φ__law_next : OpN := fnD 3 2 g__law_next
theorem body__law_next (T : Txt w K mg a_is_form) (f : Addr) (cdv : Value) (A : Around) (outer : List PySem.Env) (s : Shared) (H : Hp) (E : XK) (hr : Room 0 (A.deeper (envOfC "_law_next" (defScope s__law_next) s.heap.objs.size f cdv))) :
    ∃ t, DSs (cxOf (L2.CX P w) P w K mg base ["draws", "bound", "at"] "_law_next" (defScope s__law_next) f cdv A outer s H E) (fun cls d _ H => E cls d H) (defBody s__law_next) t g__law_next := by
  exact ⟨_, (dss_cons (ds_set 2 sc__law_next.nd (de_callTy call_int1 cad_int T.n_int bb_int (da_cons (de_ix ⟨_, hr⟩ (de_var 0) de_str) da_nil)))
      (dss_cons (ds_setI ⟨_, hr⟩ (de_var 0) de_str (de_bin xop_add opd_add (de_var 2) de_int))
      (dss_one (ds_ret (de_bin op_modN opd_modI (de_callTy call_int1 cad_int T.n_int bb_int (da_cons (de_bin xop_add opd_add (de_ix ⟨_, hr⟩ (de_ix ⟨_, hr⟩ (de_var 0) de_str) (de_bin op_modN opd_modI (de_var 2) (de_callB xcr_len cad_len T.n_len bb_len (da_cons (de_ix ⟨_, hr⟩ (de_var 0) de_str) da_nil)))) (de_bin op_mul opd_mulI de_int (de_bin op_fdivN opd_fdivI (de_var 2) (de_callB xcr_len cad_len T.n_len bb_len (da_cons (de_ix ⟨_, hr⟩ (de_var 0) de_str) da_nil))))) da_nil)) (de_var 1))))))⟩
theorem cal__law_next (T : Txt w K mg a_is_form) : Cal P w K mg base 1 "_law_next" φ__law_next := by
  obtain ⟨f, fd, F, m⟩ := T.f__law_next
  exact ⟨f, fd, ["draws", "bound"], fn_ok F sc__law_next fun cdv A outer s H E hr => body__law_next T f cdv A outer s H E hr, m, F.kp, F.binds (ps := ["draws", "bound"]) fun _ _ _ _ _ _ us hl => match us, hl with | [_, _], _ => rfl⟩
/-! ### _law_pick -/
theorem sc__law_pick : FnScope ["draws", "things"] ["draws", "things"] (defScope s__law_pick) := ⟨rfl, rfl, rfl, by decide +kernel, rfl, by decide +kernel, by decide +kernel⟩
def g__law_pick : Sn := (sRet (fBin gIx (fVar 1) (fCall φ__law_next (fCons (fVar 0) (fCons (fCall gLen (fCons (fVar 1) fNil)) fNil)))))
def φ__law_pick : OpN := fnD 2 2 g__law_pick
theorem body__law_pick (T : Txt w K mg a_is_form) (c__law_next : Cal P w K mg base 1 "_law_next" φ__law_next) (f : Addr) (cdv : Value) (A : Around) (outer : List PySem.Env) (s : Shared) (H : Hp) (E : XK) (hr : Room 1 (A.deeper (envOfC "_law_pick" (defScope s__law_pick) s.heap.objs.size f cdv))) :
    ∃ t, DSs (cxOf (L2.CX P w) P w K mg base ["draws", "things"] "_law_pick" (defScope s__law_pick) f cdv A outer s H E) (fun cls d _ H => E cls d H) (defBody s__law_pick) t g__law_pick := by
  have tk : Takes (cxOf (L2.CX P w) P w K mg base ["draws", "things"] "_law_pick" (defScope s__law_pick) f cdv A outer s H E) (fun cls d _ H => E cls d H) := takes_of rfl rfl rfl rfl
  exact ⟨_, (dss_one (ds_ret (de_ix ⟨_, hr⟩ (de_var 1) (de_call c__law_next hr tk (by decide) (da_cons (de_var 0) (da_cons (de_callB xcr_len cad_len T.n_len bb_len (da_cons (de_var 1) da_nil)) da_nil))))))⟩
theorem cal__law_pick (T : Txt w K mg a_is_form) (c__law_next : Cal P w K mg base 1 "_law_next" φ__law_next) : Cal P w K mg base 2 "_law_pick" φ__law_pick := by
  obtain ⟨f, fd, F, m⟩ := T.f__law_pick
  exact ⟨f, fd, ["draws", "things"], fn_ok F sc__law_pick fun cdv A outer s H E hr => body__law_pick T c__law_next f cdv A outer s H E hr, m, F.kp, F.binds (ps := ["draws", "things"]) fun _ _ _ _ _ _ us hl => match us, hl with | [_, _], _ => rfl⟩
/-! ### _law_same -/
theorem sc__law_same : FnScope ["x", "due", "key", "k"] ["x", "due"] (defScope s__law_same) := ⟨rfl, rfl, rfl, by decide +kernel, rfl, by decide +kernel, by decide +kernel⟩
def g__law_same (φ : OpN) : Sn := (sSeq (sIf (asB (fBin gIsN (fVar 1) (fC .non))) (sRet (fBin gIsN (fVar 0) (fC .non))) sNext)
  (sSeq (sIf (asB (fCall gIsi (fCons (fVar 1) (fCons (fC (.any (.ty "bool"))) fNil)))) (sRet (fAndV (fCall gIsi (fCons (fVar 0) (fCons (fC (.any (.ty "bool"))) fNil))) (fBin gEq (fVar 0) (fVar 1)))) sNext)
  (sSeq (sIf (asB (fCall gIsi (fCons (fVar 1) (fCons (fC (.any (.ty "int"))) fNil)))) (sRet (fAndV (fCall gIsi (fCons (fVar 0) (fCons (fC (.any (.ty "int"))) fNil))) (fAndV (fNotV (fCall gIsi (fCons (fVar 0) (fCons (fC (.any (.ty "bool"))) fNil)))) (fBin gEq (fVar 0) (fVar 1))))) sNext)
  (sSeq (sIf (asB (fCall gIsi (fCons (fVar 1) (fCons (fC (.any (.ty "str"))) fNil)))) (sRet (fAndV (fCall gIsi (fCons (fVar 0) (fCons (fC (.any (.ty "str"))) fNil))) (fBin gEq (fVar 0) (fVar 1)))) sNext)
  (sSeq (sIf (asB (fCall gIsi (fCons (fVar 1) (fCons (fC (.any (.ty "dict"))) fNil)))) sNever sNext)
  (sSeq (sIf (asB (fCall gIsi (fCons (fVar 1) (fCons (fC (.any (.ty "list"))) fNil)))) (sRet (fAndV (fCall gIsi (fCons (fVar 0) (fCons (fC (.any (.ty "list"))) fNil))) (fAndV (fBin gEq (fCall gLen (fCons (fVar 0) fNil)) (fCall gLen (fCons (fVar 1) fNil))) (fCall gAll (fCons (fComp (wRange1 (fCons (fCall gLen (fCons (fVar 1) fNil)) fNil)) (yName 3) fYes (fCall (pureOp φ) (fCons (fBin gIx (fVar 0) (fVar 3)) (fCons (fBin gIx (fVar 1) (fVar 3)) fNil))) [3]) fNil))))) sNext)
  (sRet (fAndV (fCall gIsi (fCons (fVar 0) (fCons (fC (.any (.ty "tuple"))) fNil))) (fAndV (fBin gEq (fCall gLen (fCons (fVar 0) fNil)) (fCall gLen (fCons (fVar 1) fNil))) (fCall gAll (fCons (fComp (wRange1 (fCons (fCall gLen (fCons (fVar 1) fNil)) fNil)) (yName 3) fYes (fCall (pureOp φ) (fCons (fBin gIx (fVar 0) (fVar 3)) (fCons (fBin gIx (fVar 1) (fVar 3)) fNil))) [3]) fNil)))))))))))
def φ__law_same : Nat → OpN
  | 0 => fun _ _ => none
  | n + 1 => fnD 4 2 (g__law_same (φ__law_same n))
theorem body__law_same (T : Txt w K mg a_is_form) {n : Nat} {φ : OpN} (c__law_same : Cal P w K mg base (0 + n) "_law_same" φ) (f : Addr) (cdv : Value) (A : Around) (outer : List PySem.Env) (s : Shared) (H : Hp) (E : XK) (hr : Room (0 + n) (A.deeper (envOfC "_law_same" (defScope s__law_same) s.heap.objs.size f cdv))) :
    ∃ t, DSs (cxOf (L2.CX P w) P w K mg base ["x", "due", "key", "k"] "_law_same" (defScope s__law_same) f cdv A outer s H E) (fun cls d _ H => E cls d H) (defBody s__law_same) t (g__law_same φ) := by
  exact ⟨_, (dss_cons (ds_if (dt_cmp op_isN opd_isN (de_var 1) de_non (nomark _)) (dss_one (ds_ret (de_cmp op_isN opd_isN (de_var 0) de_non (nomark _)))) dss_nil)
      (dss_cons (ds_if (dt_val (de_callB xcr_isi cad_isi T.n_isinstance bb_isinstance (da_cons (de_var 1) (da_cons (de_ty T.n_bool bb_bool) da_nil)))) (dss_one (ds_ret (de_and (de_callB xcr_isi cad_isi T.n_isinstance bb_isinstance (da_cons (de_var 0) (da_cons (de_ty T.n_bool bb_bool) da_nil))) (de_one (de_cmp (xop_eq ⟨_, hr⟩) opd_eq (de_var 0) (de_var 1) (nomark _)))))) dss_nil)
      (dss_cons (ds_if (dt_val (de_callB xcr_isi cad_isi T.n_isinstance bb_isinstance (da_cons (de_var 1) (da_cons (de_ty T.n_int bb_int) da_nil)))) (dss_one (ds_ret (de_and (de_callB xcr_isi cad_isi T.n_isinstance bb_isinstance (da_cons (de_var 0) (da_cons (de_ty T.n_int bb_int) da_nil))) (de_and (de_not (de_callB xcr_isi cad_isi T.n_isinstance bb_isinstance (da_cons (de_var 0) (da_cons (de_ty T.n_bool bb_bool) da_nil)))) (de_one (de_cmp (xop_eq ⟨_, hr⟩) opd_eq (de_var 0) (de_var 1) (nomark _))))))) dss_nil)
      (dss_cons (ds_if (dt_val (de_callB xcr_isi cad_isi T.n_isinstance bb_isinstance (da_cons (de_var 1) (da_cons (de_ty T.n_str bb_str) da_nil)))) (dss_one (ds_ret (de_and (de_callB xcr_isi cad_isi T.n_isinstance bb_isinstance (da_cons (de_var 0) (da_cons (de_ty T.n_str bb_str) da_nil))) (de_one (de_cmp (xop_eq ⟨_, hr⟩) opd_eq (de_var 0) (de_var 1) (nomark _)))))) dss_nil)
      (dss_cons (ds_if (dt_val (de_callB xcr_isi cad_isi T.n_isinstance bb_isinstance (da_cons (de_var 1) (da_cons (de_ty T.n_dict bb_dict) da_nil)))) dss_never dss_nil)
      (dss_cons (ds_if (dt_val (de_callB xcr_isi cad_isi T.n_isinstance bb_isinstance (da_cons (de_var 1) (da_cons (de_ty T.n_list bb_list) da_nil)))) (dss_one (ds_ret (de_and (de_callB xcr_isi cad_isi T.n_isinstance bb_isinstance (da_cons (de_var 0) (da_cons (de_ty T.n_list bb_list) da_nil))) (de_and (de_cmp (xop_eq ⟨_, hr⟩) opd_eq (de_callB xcr_len cad_len T.n_len bb_len (da_cons (de_var 0) da_nil)) (de_callB xcr_len cad_len T.n_len bb_len (da_cons (de_var 1) da_nil)) (nomark _)) (de_one (de_callB xcr_all cad_all T.n_all bb_all (da_cons (de_lc (own := [("k", 3)]) ⟨rfl, sc__law_same.nd, (di_range1 T.n_range (da_cons (de_callB xcr_len cad_len T.n_len bb_len (da_cons (de_var 1) da_nil)) da_nil)), (blkC_at (N := ["x", "due", "key", "k"]) (outer := defScope s__law_same) rfl rfl (by decide +kernel)), fun s H C cl fp => (dg_name 3 sc__law_same.nd), (tgl_name 3), by decide, fun s H C cl fp => dts_nil, fun s H C cl fp => (de_call c__law_same.pure hr takes0 (by omega) (da_cons (de_ix ⟨_, hr⟩ (de_var 0) (de_var 3)) (da_cons (de_ix ⟨_, hr⟩ (de_var 1) (de_var 3)) da_nil))), fun _ => rfl⟩) da_nil))))))) dss_nil)
      (dss_one (ds_ret (de_and (de_callB xcr_isi cad_isi T.n_isinstance bb_isinstance (da_cons (de_var 0) (da_cons (de_ty T.n_tuple bb_tuple) da_nil))) (de_and (de_cmp (xop_eq ⟨_, hr⟩) opd_eq (de_callB xcr_len cad_len T.n_len bb_len (da_cons (de_var 0) da_nil)) (de_callB xcr_len cad_len T.n_len bb_len (da_cons (de_var 1) da_nil)) (nomark _)) (de_one (de_callB xcr_all cad_all T.n_all bb_all (da_cons (de_lc (own := [("k", 3)]) ⟨rfl, sc__law_same.nd, (di_range1 T.n_range (da_cons (de_callB xcr_len cad_len T.n_len bb_len (da_cons (de_var 1) da_nil)) da_nil)), (blkC_at (N := ["x", "due", "key", "k"]) (outer := defScope s__law_same) rfl rfl (by decide +kernel)), fun s H C cl fp => (dg_name 3 sc__law_same.nd), (tgl_name 3), by decide, fun s H C cl fp => dts_nil, fun s H C cl fp => (de_call c__law_same.pure hr takes0 (by omega) (da_cons (de_ix ⟨_, hr⟩ (de_var 0) (de_var 3)) (da_cons (de_ix ⟨_, hr⟩ (de_var 1) (de_var 3)) da_nil))), fun _ => rfl⟩) da_nil)))))))))))))⟩
theorem cal__law_same (T : Txt w K mg a_is_form) : ∀ n, Cal P w K mg base (0 + n) "_law_same" (φ__law_same n)
  | 0 => by
    obtain ⟨f, fd, F, m⟩ := T.f__law_same
    exact ⟨f, fd, ["x", "due"], fn_never, m, F.kp, F.binds (ps := ["x", "due"]) fun _ _ _ _ _ _ us hl => match us, hl with | [_, _], _ => rfl⟩
  | n + 1 => by
    obtain ⟨f, fd, F, m⟩ := T.f__law_same
    have c := cal__law_same T n
    exact ⟨f, fd, ["x", "due"], fn_ok F sc__law_same fun cdv A outer s H E hr => body__law_same T c f cdv A outer s H E hr, m, F.kp, F.binds (ps := ["x", "due"]) fun _ _ _ _ _ _ us hl => match us, hl with | [_, _], _ => rfl⟩
/-! ### _law_copy -/
theorem sc__law_copy : FnScope ["thing", "part", "key"] ["thing"] (defScope s__law_copy) := ⟨rfl, rfl, rfl, by decide +kernel, rfl, by decide +kernel, by decide +kernel⟩
def g__law_copy (φ : OpN) : Sn := (sSeq (sIf (asB (fCall gIsi (fCons (fVar 0) (fCons (fC (.any (.ty "list"))) fNil)))) (sRet (fComp (wList (fVar 0)) (yName 1) fYes (fCall (pureOp φ) (fCons (fVar 1) fNil)) [1])) sNext)
  (sSeq (sIf (asB (fCall gIsi (fCons (fVar 0) (fCons (fC (.any (.ty "tuple"))) fNil)))) (sRet (fCall gTuple (fCons (fComp (wTup (fVar 0)) (yName 1) fYes (fCall (pureOp φ) (fCons (fVar 1) fNil)) [1]) fNil))) sNext)
  (sSeq (sIf (asB (fCall gIsi (fCons (fVar 0) (fCons (fC (.any (.ty "dict"))) fNil)))) sNever sNext)
  (sRet (fVar 0)))))
def φ__law_copy : Nat → OpN
  | 0 => fun _ _ => none
  | n + 1 => fnD 3 1 (g__law_copy (φ__law_copy n))
theorem body__law_copy (T : Txt w K mg a_is_form) {n : Nat} {φ : OpN} (c__law_copy : Cal P w K mg base (0 + n) "_law_copy" φ) (f : Addr) (cdv : Value) (A : Around) (outer : List PySem.Env) (s : Shared) (H : Hp) (E : XK) (hr : Room (0 + n) (A.deeper (envOfC "_law_copy" (defScope s__law_copy) s.heap.objs.size f cdv))) :
    ∃ t, DSs (cxOf (L2.CX P w) P w K mg base ["thing", "part", "key"] "_law_copy" (defScope s__law_copy) f cdv A outer s H E) (fun cls d _ H => E cls d H) (defBody s__law_copy) t (g__law_copy φ) := by
  exact ⟨_, (dss_cons (ds_if (dt_val (de_callB xcr_isi cad_isi T.n_isinstance bb_isinstance (da_cons (de_var 0) (da_cons (de_ty T.n_list bb_list) da_nil)))) (dss_one (ds_ret (de_lc (own := [("part", 1)]) ⟨rfl, sc__law_copy.nd, (di_list (de_var 0)), (blkC_at (N := ["thing", "part", "key"]) (outer := defScope s__law_copy) rfl rfl (by decide +kernel)), fun s H C cl fp => (dg_name 1 sc__law_copy.nd), (tgl_name 1), by decide, fun s H C cl fp => dts_nil, fun s H C cl fp => (de_call c__law_copy.pure hr takes0 (by omega) (da_cons (de_var 1) da_nil)), fun _ => rfl⟩))) dss_nil)
      (dss_cons (ds_if (dt_val (de_callB xcr_isi cad_isi T.n_isinstance bb_isinstance (da_cons (de_var 0) (da_cons (de_ty T.n_tuple bb_tuple) da_nil)))) (dss_one (ds_ret (de_callTy xcr_tuple cad_tuple T.n_tuple bb_tuple (da_cons (de_lc (own := [("part", 1)]) ⟨rfl, sc__law_copy.nd, (di_tup (de_var 0)), (blkC_at (N := ["thing", "part", "key"]) (outer := defScope s__law_copy) rfl rfl (by decide +kernel)), fun s H C cl fp => (dg_name 1 sc__law_copy.nd), (tgl_name 1), by decide, fun s H C cl fp => dts_nil, fun s H C cl fp => (de_call c__law_copy.pure hr takes0 (by omega) (da_cons (de_var 1) da_nil)), fun _ => rfl⟩) da_nil)))) dss_nil)
      (dss_cons (ds_if (dt_val (de_callB xcr_isi cad_isi T.n_isinstance bb_isinstance (da_cons (de_var 0) (da_cons (de_ty T.n_dict bb_dict) da_nil)))) dss_never dss_nil)
      (dss_one (ds_ret (de_var 0))))))⟩
theorem cal__law_copy (T : Txt w K mg a_is_form) : ∀ n, Cal P w K mg base (0 + n) "_law_copy" (φ__law_copy n)
  | 0 => by
    obtain ⟨f, fd, F, m⟩ := T.f__law_copy
    exact ⟨f, fd, ["thing"], fn_never, m, F.kp, F.binds (ps := ["thing"]) fun _ _ _ _ _ _ us hl => match us, hl with | [_], _ => rfl⟩
  | n + 1 => by
    obtain ⟨f, fd, F, m⟩ := T.f__law_copy
    have c := cal__law_copy T n
    exact ⟨f, fd, ["thing"], fn_ok F sc__law_copy fun cdv A outer s H E hr => body__law_copy T c f cdv A outer s H E hr, m, F.kp, F.binds (ps := ["thing"]) fun _ _ _ _ _ _ us hl => match us, hl with | [_], _ => rfl⟩
/-! ### _law_media -/
theorem sc__law_media : FnScope ["draws", "lines", "k", "forms", "number", "kept", "j", "form"] ["draws"] (defScope s__law_media) := ⟨rfl, rfl, rfl, by decide +kernel, rfl, by decide +kernel, by decide +kernel⟩
def g__law_media : Sn := (sSeq (sAsg (fLstC fNil) (yName 1))
  (sSeq (sFor (wRange1 (fCons (fCall φ__law_next (fCons (fVar 0) (fCons (fC (.int 4)) fNil))) fNil)) (yName 2) (sSeq (sAsg (fLstC fNil) (yName 3))
  (sSeq (sFor (wRange1 (fCons (fBin gAdd (fC (.int 1)) (fCall φ__law_next (fCons (fVar 0) (fCons (fC (.int 3)) fNil)))) fNil)) (yName 4) (sExpr (fBM "list" gAppend (fVar 3) (fCons (fTup (fCons (fBin gAdd (fVar 4) (fBin gMulI (fC (.int 10)) (fCall φ__law_next (fCons (fVar 0) (fCons (fC (.int 3)) fNil))))) (fCons (fCall φ__law_pick (fCons (fVar 0) (fCons (fLst (fCons (fC (.str "pcm")) (fCons (fC (.str "ulaw")) (fCons (fC (.str "opus")) (fCons (fC (.str "h26")) fNil))))) fNil))) (fCons (fCall φ__law_pick (fCons (fVar 0) (fCons (fLst (fCons (fC (.int 8000)) (fCons (fC (.int 48000)) fNil))) fNil))) fNil)))) fNil))))
  (sSeq (sAsg (fComp (wRange1 (fCons (fCall gLen (fCons (fVar 3) fNil)) fNil)) (yName 6) (asB (fBin (gIn true) (fBin gIx (fBin gIx (fVar 3) (fVar 6)) (fC (.int 0))) (fComp (wList (fSl (fVar 3) fNone (fPart (fVar 6)))) (yName 7) fYes (fBin gIx (fVar 7) (fC (.int 0))) [7]))) (fBin gIx (fVar 3) (fVar 6)) [6]) (yName 5))
  (sExpr (fBM "list" gAppend (fVar 1) (fCons (fTup (fCons (fCall φ__law_pick (fCons (fVar 0) (fCons (fLst (fCons (fC (.str "audio")) (fCons (fC (.str "audio")) (fCons (fC (.str "video")) fNil)))) fNil))) (fCons (fCall φ__law_pick (fCons (fVar 0) (fCons (fLst (fCons (fC (.int 0)) (fCons (fC (.int 4000)) (fCons (fC (.int 65535)) (fCons (fC (.int 700)) fNil))))) fNil))) (fCons (fVar 5) (fCons (fCall φ__law_pick (fCons (fVar 0) (fCons (fLst (fCons (fC (.str "both")) (fCons (fC (.str "send")) (fCons (fC (.str "get")) (fCons (fC (.str "none")) fNil))))) fNil))) fNil))))) fNil)))))))
  (sRet (fTup (fCons (fCall φ__law_next (fCons (fVar 0) (fCons (fC (.int 9)) fNil))) (fCons (fCall φ__law_next (fCons (fVar 0) (fCons (fC (.int 9)) fNil))) (fCons (fFrz (fVar 1)) fNil)))))))
def φ__law_media : OpN := fnD 8 1 g__law_media
theorem body__law_media (T : Txt w K mg a_is_form) (c__law_next : Cal P w K mg base 1 "_law_next" φ__law_next) (c__law_pick : Cal P w K mg base 2 "_law_pick" φ__law_pick) (f : Addr) (cdv : Value) (A : Around) (outer : List PySem.Env) (s : Shared) (H : Hp) (E : XK) (hr : Room 2 (A.deeper (envOfC "_law_media" (defScope s__law_media) s.heap.objs.size f cdv))) :
    ∃ t, DSs (cxOf (L2.CX P w) P w K mg base ["draws", "lines", "k", "forms", "number", "kept", "j", "form"] "_law_media" (defScope s__law_media) f cdv A outer s H E) (fun cls d _ H => E cls d H) (defBody s__law_media) t g__law_media := by
  have tk : Takes (cxOf (L2.CX P w) P w K mg base ["draws", "lines", "k", "forms", "number", "kept", "j", "form"] "_law_media" (defScope s__law_media) f cdv A outer s H E) (fun cls d _ H => E cls d H) := takes_of rfl rfl rfl rfl
  have pp : PassesOwn (model P w) (cxOf (L2.CX P w) P w K mg base ["draws", "lines", "k", "forms", "number", "kept", "j", "form"] "_law_media" (defScope s__law_media) f cdv A outer s H E).A (cxOf (L2.CX P w) P w K mg base ["draws", "lines", "k", "forms", "number", "kept", "j", "form"] "_law_media" (defScope s__law_media) f cdv A outer s H E).env (cxOf (L2.CX P w) P w K mg base ["draws", "lines", "k", "forms", "number", "kept", "j", "form"] "_law_media" (defScope s__law_media) f cdv A outer s H E).xe := passes_of rfl
  exact ⟨_, (dss_cons (ds_set 1 sc__law_media.nd (de_lstC da_nil))
      (dss_cons (ds_for pp rfl (di_range1 T.n_range (da_cons (de_call c__law_next hr tk (by decide) (da_cons (de_var 0) (da_cons de_int da_nil))) da_nil)) (dg_name 2 sc__law_media.nd) (dss_cons (ds_set 3 sc__law_media.nd (de_lstC da_nil))
      (dss_cons (ds_for pp rfl (di_range1 T.n_range (da_cons (de_bin xop_add opd_add de_int (de_call c__law_next hr tk (by decide) (da_cons (de_var 0) (da_cons de_int da_nil)))) da_nil)) (dg_name 4 sc__law_media.nd) (dss_one (ds_expr (de_bm PySem.F.plainAttrs_list PySem.F.slot_list_append PySem.F.type_list_append mt_append mtd_append (de_var 3) (da_cons (de_tup (da_cons (de_bin xop_add opd_add (de_var 4) (de_bin op_mul opd_mulI de_int (de_call c__law_next hr tk (by decide) (da_cons (de_var 0) (da_cons de_int da_nil))))) (da_cons (de_call c__law_pick hr tk (by decide) (da_cons (de_var 0) (da_cons (de_lst (da_cons de_str (da_cons de_str (da_cons de_str (da_cons de_str da_nil))))) da_nil))) (da_cons (de_call c__law_pick hr tk (by decide) (da_cons (de_var 0) (da_cons (de_lst (da_cons de_int (da_cons de_int da_nil))) da_nil))) da_nil)))) da_nil)))))
      (dss_cons (ds_setLc 5 rfl rfl (sw_true rfl rfl rfl (by decide +kernel)) (own := [("j", 6)]) ⟨rfl, sc__law_media.nd, (di_range1 T.n_range (da_cons (de_callB xcr_len cad_len T.n_len bb_len (da_cons (de_var 3) da_nil)) da_nil)), (blkC_at (N := ["draws", "lines", "k", "forms", "number", "kept", "j", "form"]) (outer := defScope s__law_media) rfl rfl (by decide +kernel)), fun s H C cl fp => (dg_name 6 sc__law_media.nd), (tgl_name 6), by decide, fun s H C cl fp => (dts_one (dt_cmp (xop_notIn ⟨_, hr⟩) opd_notIn (de_ix ⟨_, hr⟩ (de_ix ⟨_, hr⟩ (de_var 3) (de_var 6)) de_int) (de_lc (own := [("form", 7)]) ⟨rfl, sc__law_media.nd, (di_list (de_sl (de_var 3) do_none (do_some (de_var 6)))), rfl, fun s H C cl fp => (dg_name 7 sc__law_media.nd), (tgl_name 7), by decide, fun s H C cl fp => dts_nil, fun s H C cl fp => (de_ix ⟨_, hr⟩ (de_var 7) de_int), fun _ => rfl⟩) (by with_unfolding_all rfl))), fun s H C cl fp => (de_ix ⟨_, hr⟩ (de_var 3) (de_var 6)), fun _ => rfl⟩)
      (dss_one (ds_expr (de_bm PySem.F.plainAttrs_list PySem.F.slot_list_append PySem.F.type_list_append mt_append mtd_append (de_var 1) (da_cons (de_tup (da_cons (de_call c__law_pick hr tk (by decide) (da_cons (de_var 0) (da_cons (de_lst (da_cons de_str (da_cons de_str (da_cons de_str da_nil)))) da_nil))) (da_cons (de_call c__law_pick hr tk (by decide) (da_cons (de_var 0) (da_cons (de_lst (da_cons de_int (da_cons de_int (da_cons de_int (da_cons de_int da_nil))))) da_nil))) (da_cons (de_var 5) (da_cons (de_call c__law_pick hr tk (by decide) (da_cons (de_var 0) (da_cons (de_lst (da_cons de_str (da_cons de_str (da_cons de_str (da_cons de_str da_nil))))) da_nil))) da_nil))))) da_nil))))))))
      (dss_one (ds_ret (de_tup (da_cons (de_call c__law_next hr tk (by decide) (da_cons (de_var 0) (da_cons de_int da_nil))) (da_cons (de_call c__law_next hr tk (by decide) (da_cons (de_var 0) (da_cons de_int da_nil))) (da_cons (de_frz (de_var 1)) da_nil))))))))⟩
theorem cal__law_media (T : Txt w K mg a_is_form) (c__law_next : Cal P w K mg base 1 "_law_next" φ__law_next) (c__law_pick : Cal P w K mg base 2 "_law_pick" φ__law_pick) : Cal P w K mg base 3 "_law_media" φ__law_media := by
  obtain ⟨f, fd, F, m⟩ := T.f__law_media
  exact ⟨f, fd, ["draws"], fn_ok F sc__law_media fun cdv A outer s H E hr => body__law_media T c__law_next c__law_pick f cdv A outer s H E hr, m, F.kp, F.binds (ps := ["draws"]) fun _ _ _ _ _ _ us hl => match us, hl with | [_], _ => rfl⟩
/-! ### _law_skills -/
theorem sc__law_skills : FnScope ["draws", "found", "k", "pairs", "j"] ["draws"] (defScope s__law_skills) := ⟨rfl, rfl, rfl, by decide +kernel, rfl, by decide +kernel, by decide +kernel⟩
def g__law_skills : Sn := (sSeq (sAsg (fLstC fNil) (yName 1))
  (sSeq (sFor (wRange1 (fCons (fCall φ__law_next (fCons (fVar 0) (fCons (fC (.int 4)) fNil))) fNil)) (yName 2) (sSeq (sAsg (fComp (wRange1 (fCons (fBin gAdd (fC (.int 1)) (fCall φ__law_next (fCons (fVar 0) (fCons (fC (.int 4)) fNil)))) fNil)) (yName 4) fYes (fTup (fCons (fCall φ__law_pick (fCons (fVar 0) (fCons (fLst (fCons (fC (.str "pcm")) (fCons (fC (.str "ulaw")) (fCons (fC (.str "opus")) (fCons (fC (.str "h26")) fNil))))) fNil))) (fCons (fCall φ__law_pick (fCons (fVar 0) (fCons (fLst (fCons (fC (.int 8000)) (fCons (fC (.int 48000)) fNil))) fNil))) fNil))) [4]) (yName 3))
  (sExpr (fBM "list" gAppend (fVar 1) (fCons (fTup (fCons (fCall φ__law_pick (fCons (fVar 0) (fCons (fLst (fCons (fC (.str "audio")) (fCons (fC (.str "audio")) (fCons (fC (.str "video")) fNil)))) fNil))) (fCons (fBin gAdd (fC (.int 5000)) (fVar 2)) (fCons (fVar 3) (fCons (fCall φ__law_pick (fCons (fVar 0) (fCons (fLst (fCons (fC (.str "both")) (fCons (fC (.str "both")) (fCons (fC (.str "send")) (fCons (fC (.str "get")) (fCons (fC (.str "none")) fNil)))))) fNil))) fNil))))) fNil)))))
  (sRet (fFrz (fVar 1)))))
def φ__law_skills : OpN := fnD 5 1 g__law_skills
theorem body__law_skills (T : Txt w K mg a_is_form) (c__law_next : Cal P w K mg base 1 "_law_next" φ__law_next) (c__law_pick : Cal P w K mg base 2 "_law_pick" φ__law_pick) (f : Addr) (cdv : Value) (A : Around) (outer : List PySem.Env) (s : Shared) (H : Hp) (E : XK) (hr : Room 2 (A.deeper (envOfC "_law_skills" (defScope s__law_skills) s.heap.objs.size f cdv))) :
    ∃ t, DSs (cxOf (L2.CX P w) P w K mg base ["draws", "found", "k", "pairs", "j"] "_law_skills" (defScope s__law_skills) f cdv A outer s H E) (fun cls d _ H => E cls d H) (defBody s__law_skills) t g__law_skills := by
  have tk : Takes (cxOf (L2.CX P w) P w K mg base ["draws", "found", "k", "pairs", "j"] "_law_skills" (defScope s__law_skills) f cdv A outer s H E) (fun cls d _ H => E cls d H) := takes_of rfl rfl rfl rfl
  have pp : PassesOwn (model P w) (cxOf (L2.CX P w) P w K mg base ["draws", "found", "k", "pairs", "j"] "_law_skills" (defScope s__law_skills) f cdv A outer s H E).A (cxOf (L2.CX P w) P w K mg base ["draws", "found", "k", "pairs", "j"] "_law_skills" (defScope s__law_skills) f cdv A outer s H E).env (cxOf (L2.CX P w) P w K mg base ["draws", "found", "k", "pairs", "j"] "_law_skills" (defScope s__law_skills) f cdv A outer s H E).xe := passes_of rfl
  exact ⟨_, (dss_cons (ds_set 1 sc__law_skills.nd (de_lstC da_nil))
      (dss_cons (ds_for pp rfl (di_range1 T.n_range (da_cons (de_call c__law_next hr tk (by decide) (da_cons (de_var 0) (da_cons de_int da_nil))) da_nil)) (dg_name 2 sc__law_skills.nd) (dss_cons (ds_setLc 3 rfl rfl (sw_true rfl rfl rfl (by decide +kernel)) (own := [("j", 4)]) ⟨rfl, sc__law_skills.nd, (di_range1 T.n_range (da_cons (de_bin xop_add opd_add de_int (de_call c__law_next hr tk (by decide) (da_cons (de_var 0) (da_cons de_int da_nil)))) da_nil)), (blkC_at (N := ["draws", "found", "k", "pairs", "j"]) (outer := defScope s__law_skills) rfl rfl (by decide +kernel)), fun s H C cl fp => (dg_name 4 sc__law_skills.nd), (tgl_name 4), by decide, fun s H C cl fp => dts_nil, fun s H C cl fp => (de_tup (da_cons (de_call c__law_pick hr takes0 (by decide) (da_cons (de_var 0) (da_cons (de_lst (da_cons de_str (da_cons de_str (da_cons de_str (da_cons de_str da_nil))))) da_nil))) (da_cons (de_call c__law_pick hr takes0 (by decide) (da_cons (de_var 0) (da_cons (de_lst (da_cons de_int (da_cons de_int da_nil))) da_nil))) da_nil))), fun _ => rfl⟩)
      (dss_one (ds_expr (de_bm PySem.F.plainAttrs_list PySem.F.slot_list_append PySem.F.type_list_append mt_append mtd_append (de_var 1) (da_cons (de_tup (da_cons (de_call c__law_pick hr tk (by decide) (da_cons (de_var 0) (da_cons (de_lst (da_cons de_str (da_cons de_str (da_cons de_str da_nil)))) da_nil))) (da_cons (de_bin xop_add opd_add de_int (de_var 2)) (da_cons (de_var 3) (da_cons (de_call c__law_pick hr tk (by decide) (da_cons (de_var 0) (da_cons (de_lst (da_cons de_str (da_cons de_str (da_cons de_str (da_cons de_str (da_cons de_str da_nil)))))) da_nil))) da_nil))))) da_nil))))))
      (dss_one (ds_ret (de_frz (de_var 1))))))⟩
theorem cal__law_skills (T : Txt w K mg a_is_form) (c__law_next : Cal P w K mg base 1 "_law_next" φ__law_next) (c__law_pick : Cal P w K mg base 2 "_law_pick" φ__law_pick) : Cal P w K mg base 3 "_law_skills" φ__law_skills := by
  obtain ⟨f, fd, F, m⟩ := T.f__law_skills
  exact ⟨f, fd, ["draws"], fn_ok F sc__law_skills fun cdv A outer s H E hr => body__law_skills T c__law_next c__law_pick f cdv A outer s H E hr, m, F.kp, F.binds (ps := ["draws"]) fun _ _ _ _ _ _ us hl => match us, hl with | [_], _ => rfl⟩
/-! ### _law_parts -/
theorem sc__law_parts : FnScope ["way"] ["way"] (defScope s__law_parts) := ⟨rfl, rfl, rfl, by decide +kernel, rfl, by decide +kernel, by decide +kernel⟩
def g__law_parts : Sn := (sRet (fLst (fCons (fBin (gIn false) (fVar 0) (fLst (fCons (fC (.str "both")) (fCons (fC (.str "send")) fNil)))) (fCons (fBin (gIn false) (fVar 0) (fLst (fCons (fC (.str "both")) (fCons (fC (.str "get")) fNil)))) fNil))))
def φ__law_parts : OpN := fnD 1 1 g__law_parts
theorem body__law_parts (T : Txt w K mg a_is_form) (f : Addr) (cdv : Value) (A : Around) (outer : List PySem.Env) (s : Shared) (H : Hp) (E : XK) (hr : Room 0 (A.deeper (envOfC "_law_parts" (defScope s__law_parts) s.heap.objs.size f cdv))) :
    ∃ t, DSs (cxOf (L2.CX P w) P w K mg base ["way"] "_law_parts" (defScope s__law_parts) f cdv A outer s H E) (fun cls d _ H => E cls d H) (defBody s__law_parts) t g__law_parts := by
  exact ⟨_, (dss_one (ds_ret (de_lst (da_cons (de_cmp (xop_in ⟨_, hr⟩) opd_in (de_var 0) (de_lst (da_cons de_str (da_cons de_str da_nil))) (by with_unfolding_all rfl)) (da_cons (de_cmp (xop_in ⟨_, hr⟩) opd_in (de_var 0) (de_lst (da_cons de_str (da_cons de_str da_nil))) (by with_unfolding_all rfl)) da_nil)))))⟩
theorem cal__law_parts (T : Txt w K mg a_is_form) : Cal P w K mg base 1 "_law_parts" φ__law_parts := by
  obtain ⟨f, fd, F, m⟩ := T.f__law_parts
  exact ⟨f, fd, ["way"], fn_ok F sc__law_parts fun cdv A outer s H E hr => body__law_parts T f cdv A outer s H E hr, m, F.kp, F.binds (ps := ["way"]) fun _ _ _ _ _ _ us hl => match us, hl with | [_], _ => rfl⟩
/-! ### _law_way -/
theorem sc__law_way : FnScope ["sends", "gets"] ["sends", "gets"] (defScope s__law_way) := ⟨rfl, rfl, rfl, by decide +kernel, rfl, by decide +kernel, by decide +kernel⟩
def g__law_way : Sn := (sRet (fIf (fAnd (asB (fVar 0)) (asB (fVar 1))) (fC (.str "both")) (fIf (asB (fVar 0)) (fC (.str "send")) (fIf (asB (fVar 1)) (fC (.str "get")) (fC (.str "none"))))))
def φ__law_way : OpN := fnD 2 2 g__law_way
theorem body__law_way (T : Txt w K mg a_is_form) (f : Addr) (cdv : Value) (A : Around) (outer : List PySem.Env) (s : Shared) (H : Hp) (E : XK) (hr : Room 0 (A.deeper (envOfC "_law_way" (defScope s__law_way) s.heap.objs.size f cdv))) :
    ∃ t, DSs (cxOf (L2.CX P w) P w K mg base ["sends", "gets"] "_law_way" (defScope s__law_way) f cdv A outer s H E) (fun cls d _ H => E cls d H) (defBody s__law_way) t g__law_way := by
  exact ⟨_, (dss_one (ds_ret (de_if (dt_bool (dw_and (dt_val (de_var 0)) (dw_and1 (dt_val (de_var 1))))) de_str (de_if (dt_val (de_var 0)) de_str (de_if (dt_val (de_var 1)) de_str de_str)))))⟩
theorem cal__law_way (T : Txt w K mg a_is_form) : Cal P w K mg base 1 "_law_way" φ__law_way := by
  obtain ⟨f, fd, F, m⟩ := T.f__law_way
  exact ⟨f, fd, ["sends", "gets"], fn_ok F sc__law_way fun cdv A outer s H E hr => body__law_way T f cdv A outer s H E hr, m, F.kp, F.binds (ps := ["sends", "gets"]) fun _ _ _ _ _ _ us hl => match us, hl with | [_, _], _ => rfl⟩
/-! ### _law_answer -/
theorem sc__law_answer : FnScope ["media", "number", "skills", "used", "lines", "kind", "port", "forms", "way", "chosen", "k", "shared", "far", "wish", "form"] ["media", "number", "skills"] (defScope s__law_answer) := ⟨rfl, rfl, rfl, by decide +kernel, rfl, by decide +kernel, by decide +kernel⟩
def g__law_answer : Sn := (sSeq (sAsg (fLstC fNil) (yName 3))
  (sSeq (sAsg (fLstC fNil) (yName 4))
  (sSeq (sFor (wList (fBin gIx (fVar 0) (fC (.int 2)))) (yTup 4 (yCons (yName 5) (yCons (yName 6) (yCons (yName 7) (yCons (yName 8) yNil))))) (sSeq (sAsg (fC .non) (yName 9))
  (sSeq (sFor (wRange1 (fCons (fCall gLen (fCons (fVar 2) fNil)) fNil)) (yName 10) (sSeq (sAsg (fComp (wList (fVar 7)) (yName 14) (asB (fBin (gIn false) (fTup (fCons (fBin gIx (fVar 14) (fC (.int 1))) (fCons (fBin gIx (fVar 14) (fC (.int 2))) fNil))) (fBin gIx (fBin gIx (fVar 2) (fVar 10)) (fC (.int 2))))) (fVar 14) [14]) (yName 11))
  (sIf (fAnd (asB (fBin gIsN (fVar 9) (fC .non))) (fAnd (asB (fBin (gIn true) (fVar 10) (fVar 3))) (fAnd (asB (fBin gEq (fBin gIx (fBin gIx (fVar 2) (fVar 10)) (fC (.int 0))) (fVar 5))) (fAnd (asB (fBin gGt (fCall gLen (fCons (fVar 11) fNil)) (fC (.int 0)))) (asB (fBin gGt (fVar 6) (fC (.int 0)))))))) (sAsg (fVar 10) (yName 9)) sNext)))
  (sIf (asB (fBin gIsN (fVar 9) (fC .non))) (sExpr (fBM "list" gAppend (fVar 4) (fCons (fTup (fCons (fVar 5) (fCons (fC (.int 0)) (fCons (fSl (fVar 7) fNone (fPart (fC (.int 1)))) (fCons (fC (.str "none")) fNil))))) fNil))) (sSeq (sExpr (fBM "list" gAppend (fVar 3) (fCons (fVar 9) fNil)))
  (sSeq (sAsg (fComp (wList (fVar 7)) (yName 14) (asB (fBin (gIn false) (fTup (fCons (fBin gIx (fVar 14) (fC (.int 1))) (fCons (fBin gIx (fVar 14) (fC (.int 2))) fNil))) (fBin gIx (fBin gIx (fVar 2) (fVar 9)) (fC (.int 2))))) (fVar 14) [14]) (yName 11))
  (sSeq (sPar 12 13 (fCons (fCall (pureOp φ__law_parts) (fCons (fVar 8) fNil)) (fCons (fCall (pureOp φ__law_parts) (fCons (fBin gIx (fBin gIx (fVar 2) (fVar 9)) (fC (.int 3))) fNil)) fNil)))
  (sExpr (fBM "list" gAppend (fVar 4) (fCons (fTup (fCons (fVar 5) (fCons (fBin gIx (fBin gIx (fVar 2) (fVar 9)) (fC (.int 1))) (fCons (fVar 11) (fCons (fCall (pureOp φ__law_way) (fCons (fAndV (fBin gIx (fVar 13) (fC (.int 0))) (fBin gIx (fVar 12) (fC (.int 1)))) (fCons (fAndV (fBin gIx (fVar 13) (fC (.int 1))) (fBin gIx (fVar 12) (fC (.int 0)))) fNil))) fNil))))) fNil))))))))))
  (sRet (fTup (fCons (fVar 1) (fCons (fC (.int 1)) (fCons (fFrz (fVar 4)) fNil))))))))
def φ__law_answer : OpN := fnD 15 3 g__law_answer
theorem body__law_answer (T : Txt w K mg a_is_form) (c__law_parts : Cal P w K mg base 1 "_law_parts" φ__law_parts) (c__law_way : Cal P w K mg base 1 "_law_way" φ__law_way) (f : Addr) (cdv : Value) (A : Around) (outer : List PySem.Env) (s : Shared) (H : Hp) (E : XK) (hr : Room 1 (A.deeper (envOfC "_law_answer" (defScope s__law_answer) s.heap.objs.size f cdv))) :
    ∃ t, DSs (cxOf (L2.CX P w) P w K mg base ["media", "number", "skills", "used", "lines", "kind", "port", "forms", "way", "chosen", "k", "shared", "far", "wish", "form"] "_law_answer" (defScope s__law_answer) f cdv A outer s H E) (fun cls d _ H => E cls d H) (defBody s__law_answer) t g__law_answer := by
  have tk : Takes (cxOf (L2.CX P w) P w K mg base ["media", "number", "skills", "used", "lines", "kind", "port", "forms", "way", "chosen", "k", "shared", "far", "wish", "form"] "_law_answer" (defScope s__law_answer) f cdv A outer s H E) (fun cls d _ H => E cls d H) := takes_of rfl rfl rfl rfl
  have pp : PassesOwn (model P w) (cxOf (L2.CX P w) P w K mg base ["media", "number", "skills", "used", "lines", "kind", "port", "forms", "way", "chosen", "k", "shared", "far", "wish", "form"] "_law_answer" (defScope s__law_answer) f cdv A outer s H E).A (cxOf (L2.CX P w) P w K mg base ["media", "number", "skills", "used", "lines", "kind", "port", "forms", "way", "chosen", "k", "shared", "far", "wish", "form"] "_law_answer" (defScope s__law_answer) f cdv A outer s H E).env (cxOf (L2.CX P w) P w K mg base ["media", "number", "skills", "used", "lines", "kind", "port", "forms", "way", "chosen", "k", "shared", "far", "wish", "form"] "_law_answer" (defScope s__law_answer) f cdv A outer s H E).xe := passes_of rfl
  exact ⟨_, (dss_cons (ds_set 3 sc__law_answer.nd (de_lstC da_nil))
      (dss_cons (ds_set 4 sc__law_answer.nd (de_lstC da_nil))
      (dss_cons (ds_for pp rfl (di_list (de_ix ⟨_, hr⟩ (de_var 0) de_int)) (dg_tup rfl (dgs_cons (dg_name 5 sc__law_answer.nd) (dgs_cons (dg_name 6 sc__law_answer.nd) (dgs_cons (dg_name 7 sc__law_answer.nd) (dgs_cons (dg_name 8 sc__law_answer.nd) dgs_nil))))) (dss_cons (ds_set 9 sc__law_answer.nd de_non)
      (dss_cons (ds_for pp rfl (di_range1 T.n_range (da_cons (de_callB xcr_len cad_len T.n_len bb_len (da_cons (de_var 2) da_nil)) da_nil)) (dg_name 10 sc__law_answer.nd) (dss_cons (ds_setLc 11 rfl rfl (sw_true rfl rfl rfl (by decide +kernel)) (own := [("form", 14)]) ⟨rfl, sc__law_answer.nd, (di_list (de_var 7)), (blkC_at (N := ["media", "number", "skills", "used", "lines", "kind", "port", "forms", "way", "chosen", "k", "shared", "far", "wish", "form"]) (outer := defScope s__law_answer) rfl rfl (by decide +kernel)), fun s H C cl fp => (dg_name 14 sc__law_answer.nd), (tgl_name 14), by decide, fun s H C cl fp => (dts_one (dt_cmp (xop_in ⟨_, hr⟩) opd_in (de_tup (da_cons (de_ix ⟨_, hr⟩ (de_var 14) de_int) (da_cons (de_ix ⟨_, hr⟩ (de_var 14) de_int) da_nil))) (de_ix ⟨_, hr⟩ (de_ix ⟨_, hr⟩ (de_var 2) (de_var 10)) de_int) (by with_unfolding_all rfl))), fun s H C cl fp => (de_var 14), fun _ => rfl⟩)
      (dss_one (ds_if (dt_bool (dw_and (dt_cmp op_isN opd_isN (de_var 9) de_non (nomark _)) (dw_and (dt_cmp (xop_notIn ⟨_, hr⟩) opd_notIn (de_var 10) (de_var 3) (by with_unfolding_all rfl)) (dw_and (dt_cmp (xop_eq ⟨_, hr⟩) opd_eq (de_ix ⟨_, hr⟩ (de_ix ⟨_, hr⟩ (de_var 2) (de_var 10)) de_int) (de_var 5) (nomark _)) (dw_and (dt_cmp op_gt opd_gtI (de_callB xcr_len cad_len T.n_len bb_len (da_cons (de_var 11) da_nil)) de_int (nomark _)) (dw_and1 (dt_cmp op_gt opd_gtI (de_var 6) de_int (nomark _)))))))) (dss_one (ds_set 9 sc__law_answer.nd (de_var 10))) dss_nil))))
      (dss_one (ds_if (dt_cmp op_isN opd_isN (de_var 9) de_non (nomark _)) (dss_one (ds_expr (de_bm PySem.F.plainAttrs_list PySem.F.slot_list_append PySem.F.type_list_append mt_append mtd_append (de_var 4) (da_cons (de_tup (da_cons (de_var 5) (da_cons de_int (da_cons (de_sl (de_var 7) do_none (do_some de_int)) (da_cons de_str da_nil))))) da_nil)))) (dss_cons (ds_expr (de_bm PySem.F.plainAttrs_list PySem.F.slot_list_append PySem.F.type_list_append mt_append mtd_append (de_var 3) (da_cons (de_var 9) da_nil)))
      (dss_cons (ds_setLc 11 rfl rfl (sw_true rfl rfl rfl (by decide +kernel)) (own := [("form", 14)]) ⟨rfl, sc__law_answer.nd, (di_list (de_var 7)), (blkC_at (N := ["media", "number", "skills", "used", "lines", "kind", "port", "forms", "way", "chosen", "k", "shared", "far", "wish", "form"]) (outer := defScope s__law_answer) rfl rfl (by decide +kernel)), fun s H C cl fp => (dg_name 14 sc__law_answer.nd), (tgl_name 14), by decide, fun s H C cl fp => (dts_one (dt_cmp (xop_in ⟨_, hr⟩) opd_in (de_tup (da_cons (de_ix ⟨_, hr⟩ (de_var 14) de_int) (da_cons (de_ix ⟨_, hr⟩ (de_var 14) de_int) da_nil))) (de_ix ⟨_, hr⟩ (de_ix ⟨_, hr⟩ (de_var 2) (de_var 9)) de_int) (by with_unfolding_all rfl))), fun s H C cl fp => (de_var 14), fun _ => rfl⟩)
      (dss_cons (ds_par rfl sc__law_answer.nd (i := 12) (j := 13) rfl rfl (by decide) rfl rfl (da_cons (de_call c__law_parts.pure hr tk (by decide) (da_cons (de_var 8) da_nil)) (da_cons (de_call c__law_parts.pure hr tk (by decide) (da_cons (de_ix ⟨_, hr⟩ (de_ix ⟨_, hr⟩ (de_var 2) (de_var 9)) de_int) da_nil)) da_nil)) (by rfl))
      (dss_one (ds_expr (de_bm PySem.F.plainAttrs_list PySem.F.slot_list_append PySem.F.type_list_append mt_append mtd_append (de_var 4) (da_cons (de_tup (da_cons (de_var 5) (da_cons (de_ix ⟨_, hr⟩ (de_ix ⟨_, hr⟩ (de_var 2) (de_var 9)) de_int) (da_cons (de_var 11) (da_cons (de_call c__law_way.pure hr tk (by decide) (da_cons (de_and (de_ix ⟨_, hr⟩ (de_var 13) de_int) (de_one (de_ix ⟨_, hr⟩ (de_var 12) de_int))) (da_cons (de_and (de_ix ⟨_, hr⟩ (de_var 13) de_int) (de_one (de_ix ⟨_, hr⟩ (de_var 12) de_int))) da_nil))) da_nil))))) da_nil))))))))))))
      (dss_one (ds_ret (de_tup (da_cons (de_var 1) (da_cons de_int (da_cons (de_frz (de_var 4)) da_nil)))))))))⟩
theorem cal__law_answer (T : Txt w K mg a_is_form) (c__law_parts : Cal P w K mg base 1 "_law_parts" φ__law_parts) (c__law_way : Cal P w K mg base 1 "_law_way" φ__law_way) : Cal P w K mg base 2 "_law_answer" φ__law_answer := by
  obtain ⟨f, fd, F, m⟩ := T.f__law_answer
  exact ⟨f, fd, ["media", "number", "skills"], fn_ok F sc__law_answer fun cdv A outer s H E hr => body__law_answer T c__law_parts c__law_way f cdv A outer s H E hr, m, F.kp, F.binds (ps := ["media", "number", "skills"]) fun _ _ _ _ _ _ us hl => match us, hl with | [_, _, _], _ => rfl⟩
/-! ### _law_fault -/
theorem sc__law_fault : FnScope ["offer", "answer", "k", "one", "other", "fine", "far", "near", "form"] ["offer", "answer"] (defScope s__law_fault) := ⟨rfl, rfl, rfl, by decide +kernel, rfl, by decide +kernel, by decide +kernel⟩
def g__law_fault : Sn := (sSeq (sIf (asB (fBin gNe (fCall gLen (fCons (fBin gIx (fVar 0) (fC (.int 2))) fNil)) (fCall gLen (fCons (fBin gIx (fVar 1) (fC (.int 2))) fNil)))) (sRet (fUn gNeg (fC (.int 1)))) sNext)
  (sSeq (sFor (wRange1 (fCons (fCall gLen (fCons (fBin gIx (fVar 0) (fC (.int 2))) fNil)) fNil)) (yName 2) (sSeq (sAsg (fTup (fCons (fBin gIx (fBin gIx (fVar 0) (fC (.int 2))) (fVar 2)) (fCons (fBin gIx (fBin gIx (fVar 1) (fC (.int 2))) (fVar 2)) fNil))) (yTup 2 (yCons (yName 3) (yCons (yName 4) yNil))))
  (sSeq (sAsg (fBin gEq (fBin gIx (fVar 3) (fC (.int 0))) (fBin gIx (fVar 4) (fC (.int 0)))) (yName 5))
  (sSeq (sIf (asB (fBin gGt (fBin gIx (fVar 4) (fC (.int 1))) (fC (.int 0)))) (sSeq (sPar 6 7 (fCons (fCall (pureOp φ__law_parts) (fCons (fBin gIx (fVar 3) (fC (.int 3))) fNil)) (fCons (fCall (pureOp φ__law_parts) (fCons (fBin gIx (fVar 4) (fC (.int 3))) fNil)) fNil)))
  (sSeq (sAsg (fAndV (fVar 5) (fAndV (fBin gGt (fBin gIx (fVar 3) (fC (.int 1))) (fC (.int 0))) (fCall gAll (fCons (fComp (wList (fBin gIx (fVar 4) (fC (.int 2)))) (yName 8) fYes (fBin (gIn false) (fVar 8) (fBin gIx (fVar 3) (fC (.int 2)))) [8]) fNil)))) (yName 5))
  (sAsg (fAndV (fVar 5) (fAndV (fOrV (fBin gIx (fVar 6) (fC (.int 1))) (fNotV (fBin gIx (fVar 7) (fC (.int 0))))) (fOrV (fBin gIx (fVar 6) (fC (.int 0))) (fNotV (fBin gIx (fVar 7) (fC (.int 1))))))) (yName 5)))) sNext)
  (sIf (fNot (asB (fVar 5))) (sRet (fVar 2)) sNext)))))
  (sRet (fC .non))))
def φ__law_fault : OpN := fnD 9 2 g__law_fault
theorem body__law_fault (T : Txt w K mg a_is_form) (c__law_parts : Cal P w K mg base 1 "_law_parts" φ__law_parts) (f : Addr) (cdv : Value) (A : Around) (outer : List PySem.Env) (s : Shared) (H : Hp) (E : XK) (hr : Room 1 (A.deeper (envOfC "_law_fault" (defScope s__law_fault) s.heap.objs.size f cdv))) :
    ∃ t, DSs (cxOf (L2.CX P w) P w K mg base ["offer", "answer", "k", "one", "other", "fine", "far", "near", "form"] "_law_fault" (defScope s__law_fault) f cdv A outer s H E) (fun cls d _ H => E cls d H) (defBody s__law_fault) t g__law_fault := by
  have tk : Takes (cxOf (L2.CX P w) P w K mg base ["offer", "answer", "k", "one", "other", "fine", "far", "near", "form"] "_law_fault" (defScope s__law_fault) f cdv A outer s H E) (fun cls d _ H => E cls d H) := takes_of rfl rfl rfl rfl
  have pp : PassesOwn (model P w) (cxOf (L2.CX P w) P w K mg base ["offer", "answer", "k", "one", "other", "fine", "far", "near", "form"] "_law_fault" (defScope s__law_fault) f cdv A outer s H E).A (cxOf (L2.CX P w) P w K mg base ["offer", "answer", "k", "one", "other", "fine", "far", "near", "form"] "_law_fault" (defScope s__law_fault) f cdv A outer s H E).env (cxOf (L2.CX P w) P w K mg base ["offer", "answer", "k", "one", "other", "fine", "far", "near", "form"] "_law_fault" (defScope s__law_fault) f cdv A outer s H E).xe := passes_of rfl
  exact ⟨_, (dss_cons (ds_if (dt_cmp (xop_ne ⟨_, hr⟩) opd_ne (de_callB xcr_len cad_len T.n_len bb_len (da_cons (de_ix ⟨_, hr⟩ (de_var 0) de_int) da_nil)) (de_callB xcr_len cad_len T.n_len bb_len (da_cons (de_ix ⟨_, hr⟩ (de_var 1) de_int) da_nil)) (nomark _)) (dss_one (ds_ret (de_un un_neg und_neg de_int))) dss_nil)
      (dss_cons (ds_for pp rfl (di_range1 T.n_range (da_cons (de_callB xcr_len cad_len T.n_len bb_len (da_cons (de_ix ⟨_, hr⟩ (de_var 0) de_int) da_nil)) da_nil)) (dg_name 2 sc__law_fault.nd) (dss_cons (ds_asg (de_tup (da_cons (de_ix ⟨_, hr⟩ (de_ix ⟨_, hr⟩ (de_var 0) de_int) (de_var 2)) (da_cons (de_ix ⟨_, hr⟩ (de_ix ⟨_, hr⟩ (de_var 1) de_int) (de_var 2)) da_nil))) (dg_tup rfl (dgs_cons (dg_name 3 sc__law_fault.nd) (dgs_cons (dg_name 4 sc__law_fault.nd) dgs_nil))))
      (dss_cons (ds_set 5 sc__law_fault.nd (de_cmp (xop_eq ⟨_, hr⟩) opd_eq (de_ix ⟨_, hr⟩ (de_var 3) de_int) (de_ix ⟨_, hr⟩ (de_var 4) de_int) (nomark _)))
      (dss_cons (ds_if (dt_cmp op_gt opd_gtI (de_ix ⟨_, hr⟩ (de_var 4) de_int) de_int (nomark _)) (dss_cons (ds_par rfl sc__law_fault.nd (i := 6) (j := 7) rfl rfl (by decide) rfl rfl (da_cons (de_call c__law_parts.pure hr tk (by decide) (da_cons (de_ix ⟨_, hr⟩ (de_var 3) de_int) da_nil)) (da_cons (de_call c__law_parts.pure hr tk (by decide) (da_cons (de_ix ⟨_, hr⟩ (de_var 4) de_int) da_nil)) da_nil)) (by rfl))
      (dss_cons (ds_set 5 sc__law_fault.nd (de_and (de_var 5) (de_and (de_cmp op_gt opd_gtI (de_ix ⟨_, hr⟩ (de_var 3) de_int) de_int (nomark _)) (de_one (de_callB xcr_all cad_all T.n_all bb_all (da_cons (de_lc (own := [("form", 8)]) ⟨rfl, sc__law_fault.nd, (di_list (de_ix ⟨_, hr⟩ (de_var 4) de_int)), (blkC_at (N := ["offer", "answer", "k", "one", "other", "fine", "far", "near", "form"]) (outer := defScope s__law_fault) rfl rfl (by decide +kernel)), fun s H C cl fp => (dg_name 8 sc__law_fault.nd), (tgl_name 8), by decide, fun s H C cl fp => dts_nil, fun s H C cl fp => (de_cmp (xop_in ⟨_, hr⟩) opd_in (de_var 8) (de_ix ⟨_, hr⟩ (de_var 3) de_int) (by with_unfolding_all rfl)), fun _ => rfl⟩) da_nil))))))
      (dss_one (ds_set 5 sc__law_fault.nd (de_and (de_var 5) (de_and (de_or (de_ix ⟨_, hr⟩ (de_var 6) de_int) (de_one (de_not (de_ix ⟨_, hr⟩ (de_var 7) de_int)))) (de_one (de_or (de_ix ⟨_, hr⟩ (de_var 6) de_int) (de_one (de_not (de_ix ⟨_, hr⟩ (de_var 7) de_int))))))))))) dss_nil)
      (dss_one (ds_if (dt_not (dt_val (de_var 5))) (dss_one (ds_ret (de_var 2))) dss_nil))))))
      (dss_one (ds_ret de_non))))⟩
theorem cal__law_fault (T : Txt w K mg a_is_form) (c__law_parts : Cal P w K mg base 1 "_law_parts" φ__law_parts) : Cal P w K mg base 2 "_law_fault" φ__law_fault := by
  obtain ⟨f, fd, F, m⟩ := T.f__law_fault
  exact ⟨f, fd, ["offer", "answer"], fn_ok F sc__law_fault fun cdv A outer s H E hr => body__law_fault T c__law_parts f cdv A outer s H E hr, m, F.kp, F.binds (ps := ["offer", "answer"]) fun _ _ _ _ _ _ us hl => match us, hl with | [_, _], _ => rfl⟩
/-! ### law -/
theorem sc_law : FnScope ["script", "draws", "turn", "offer", "skills", "kept", "answer", "asks", "other", "k", "line", "parts", "due", "turned", "third", "at", "j"] ["script"] (defScope s_law) := ⟨rfl, rfl, rfl, by decide +kernel, rfl, by decide +kernel, by decide +kernel⟩
def g_law (a_is_form : Addr) : Sn := (sSeq (sAsg (fCall φ__law_draws (fCons (fVar 0) fNil)) (yName 1))
  (sSeq (sFor (wRange1 (fCons (fC (.int 8)) fNil)) (yName 2) (sSeq (sAsg (fCall φ__law_media (fCons (fVar 1) fNil)) (yName 3))
  (sSeq (sAsg (fCall φ__law_skills (fCons (fVar 1) fNil)) (yName 4))
  (sSeq (sAsg (fCall (pureOp (φ__law_copy 8)) (fCons (fLst (fCons (fVar 3) (fCons (fVar 4) fNil))) fNil)) (yName 5))
  (sSeq (sAsg (fCall (pureOp φ_answer_to) (fCons (fVar 3) (fCons (fC (.int 7)) (fCons (fVar 4) fNil)))) (yName 6))
  (sSeq (sIf (fOr (fNot (asB (fCall (pureOp (φ__law_same 8)) (fCons (fVar 6) (fCons (fCall (pureOp φ__law_answer) (fCons (fVar 3) (fCons (fC (.int 7)) (fCons (fVar 4) fNil)))) fNil))))) (fOr (asB (fBin gNotN (fCall (pureOp (φ_check_media a_is_form)) (fCons (fVar 6) fNil)) (fC .non))) (asB (fBin gNotN (fCall (pureOp φ_fault_of) (fCons (fVar 3) (fCons (fVar 6) fNil))) (fC .non))))) (sRet (fC (.bl false))) sNext)
  (sSeq (sPar 7 8 (fCons (fCall (pureOp φ_flows) (fCons (fVar 3) (fCons (fVar 6) (fCons (fC (.bl true)) fNil)))) (fCons (fCall (pureOp φ_flows) (fCons (fVar 3) (fCons (fVar 6) (fCons (fC (.bl false)) fNil)))) fNil)))
  (sSeq (sFor (wRange1 (fCons (fCall gLen (fCons (fBin gIx (fVar 6) (fC (.int 2))) fNil)) fNil)) (yName 9) (sSeq (sAsg (fBin gIx (fBin gIx (fVar 6) (fC (.int 2))) (fVar 9)) (yName 10))
  (sSeq (sAsg (fCall (pureOp φ__law_parts) (fCons (fBin gIx (fVar 10) (fC (.int 3))) fNil)) (yName 11))
  (sSeq (sAsg (fIf (asB (fBin gEq (fBin gIx (fVar 10) (fC (.int 1))) (fC (.int 0)))) (fC .non) (fTup (fCons (fBin gIx (fBin gIx (fVar 10) (fC (.int 2))) (fC (.int 0))) (fCons (fBin gIx (fVar 11) (fC (.int 0))) (fCons (fBin gIx (fVar 11) (fC (.int 1))) fNil))))) (yName 12))
  (sSeq (sAsg (fIf (asB (fBin gEq (fBin gIx (fVar 10) (fC (.int 1))) (fC (.int 0)))) (fC .non) (fTup (fCons (fBin gIx (fBin gIx (fVar 10) (fC (.int 2))) (fC (.int 0))) (fCons (fBin gIx (fVar 11) (fC (.int 1))) (fCons (fBin gIx (fVar 11) (fC (.int 0))) fNil))))) (yName 13))
  (sIf (fNot (asB (fCall (pureOp (φ__law_same 8)) (fCons (fLst (fCons (fBin gIx (fVar 7) (fVar 9)) (fCons (fBin gIx (fVar 8) (fVar 9)) fNil))) (fCons (fLst (fCons (fVar 13) (fCons (fVar 12) fNil))) fNil))))) (sRet (fC (.bl false))) sNext))))))
  (sSeq (sAsg (fCall φ__law_media (fCons (fVar 1) fNil)) (yName 14))
  (sSeq (sIf (fAnd (asB (fBin gGt (fCall gLen (fCons (fBin gIx (fVar 6) (fC (.int 2))) fNil)) (fC (.int 0)))) (asB (fBin gEq (fCall φ__law_next (fCons (fVar 1) (fCons (fC (.int 2)) fNil))) (fC (.int 0))))) (sSeq (sAsg (fCall φ__law_next (fCons (fVar 1) (fCons (fCall gLen (fCons (fBin gIx (fVar 6) (fC (.int 2))) fNil)) fNil))) (yName 15))
  (sSeq (sAsg (fCall gListC (fCons (fBin gIx (fBin gIx (fVar 6) (fC (.int 2))) (fVar 15)) fNil)) (yName 10))
  (sSeq (sAsg (fCall φ__law_next (fCons (fVar 1) (fCons (fC (.int 4)) fNil))) (yName 16))
  (sSeq (sSet (fVar 10) (fVar 16) (fCall φ__law_pick (fCons (fVar 1) (fCons (fBin gIx (fLst (fCons (fLst (fCons (fC (.str "audio")) (fCons (fC (.str "video")) fNil))) (fCons (fLst (fCons (fC (.int 0)) (fCons (fC (.int 4000)) fNil))) (fCons (fLst (fCons (fBin gIx (fBin gIx (fBin gIx (fVar 3) (fC (.int 2))) (fVar 15)) (fC (.int 2))) (fCons (fLst (fCons (fTup (fCons (fC (.int 99)) (fCons (fC (.str "pcm")) (fCons (fC (.int 8000)) fNil)))) fNil)) (fCons (fSl (fBin gIx (fBin gIx (fBin gIx (fVar 3) (fC (.int 2))) (fVar 15)) (fC (.int 2))) fNone (fPart (fC (.int 1)))) fNil)))) (fCons (fLst (fCons (fC (.str "both")) (fCons (fC (.str "send")) (fCons (fC (.str "get")) (fCons (fC (.str "none")) fNil))))) fNil))))) (fVar 16)) fNil))))
  (sAsg (fTup (fCons (fC (.int 1)) (fCons (fC (.int 1)) (fCons (fBin gAdd (fBin gAdd (fSl (fBin gIx (fVar 6) (fC (.int 2))) fNone (fPart (fVar 15))) (fLst (fCons (fCall gTuple (fCons (fVar 10) fNil)) fNil))) (fSl (fBin gIx (fVar 6) (fC (.int 2))) (fPart (fBin gAdd (fVar 15) (fC (.int 1)))) fNone)) fNil)))) (yName 14)))))) sNext)
  (sIf (fOr (fNot (asB (fCall (pureOp (φ__law_same 8)) (fCons (fCall (pureOp φ_fault_of) (fCons (fVar 3) (fCons (fVar 14) fNil))) (fCons (fCall (pureOp φ__law_fault) (fCons (fVar 3) (fCons (fVar 14) fNil))) fNil))))) (fNot (asB (fCall (pureOp (φ__law_same 8)) (fCons (fLst (fCons (fVar 3) (fCons (fVar 4) fNil))) (fCons (fVar 5) fNil)))))) (sRet (fC (.bl false))) sNext)))))))))))
  (sRet (fC (.bl true)))))
def φ_law (a_is_form : Addr) : OpN := fnD 17 1 (g_law a_is_form)
theorem body_law (T : Txt w K mg a_is_form) (c__law_answer : Cal P w K mg base 2 "_law_answer" φ__law_answer) (c__law_copy : Cal P w K mg base 9 "_law_copy" (φ__law_copy 8)) (c__law_draws : Cal P w K mg base 1 "_law_draws" φ__law_draws) (c__law_fault : Cal P w K mg base 2 "_law_fault" φ__law_fault) (c__law_media : Cal P w K mg base 3 "_law_media" φ__law_media) (c__law_next : Cal P w K mg base 1 "_law_next" φ__law_next) (c__law_parts : Cal P w K mg base 1 "_law_parts" φ__law_parts) (c__law_pick : Cal P w K mg base 2 "_law_pick" φ__law_pick) (c__law_same : Cal P w K mg base 9 "_law_same" (φ__law_same 8)) (c__law_skills : Cal P w K mg base 3 "_law_skills" φ__law_skills) (c_answer_to : Cal P w K mg base 2 "answer_to" φ_answer_to) (c_check_media : Cal P w K mg base 5 "check_media" (φ_check_media a_is_form)) (c_fault_of : Cal P w K mg base 2 "fault_of" φ_fault_of) (c_flows : Cal P w K mg base 1 "flows" φ_flows) (f : Addr) (cdv : Value) (A : Around) (outer : List PySem.Env) (s : Shared) (H : Hp) (E : XK) (hr : Room 9 (A.deeper (envOfC "law" (defScope s_law) s.heap.objs.size f cdv))) :
    ∃ t, DSs (cxOf (L2.CX P w) P w K mg base ["script", "draws", "turn", "offer", "skills", "kept", "answer", "asks", "other", "k", "line", "parts", "due", "turned", "third", "at", "j"] "law" (defScope s_law) f cdv A outer s H E) (fun cls d _ H => E cls d H) (defBody s_law) t (g_law a_is_form) := by
  have tk : Takes (cxOf (L2.CX P w) P w K mg base ["script", "draws", "turn", "offer", "skills", "kept", "answer", "asks", "other", "k", "line", "parts", "due", "turned", "third", "at", "j"] "law" (defScope s_law) f cdv A outer s H E) (fun cls d _ H => E cls d H) := takes_of rfl rfl rfl rfl
  have pp : PassesOwn (model P w) (cxOf (L2.CX P w) P w K mg base ["script", "draws", "turn", "offer", "skills", "kept", "answer", "asks", "other", "k", "line", "parts", "due", "turned", "third", "at", "j"] "law" (defScope s_law) f cdv A outer s H E).A (cxOf (L2.CX P w) P w K mg base ["script", "draws", "turn", "offer", "skills", "kept", "answer", "asks", "other", "k", "line", "parts", "due", "turned", "third", "at", "j"] "law" (defScope s_law) f cdv A outer s H E).env (cxOf (L2.CX P w) P w K mg base ["script", "draws", "turn", "offer", "skills", "kept", "answer", "asks", "other", "k", "line", "parts", "due", "turned", "third", "at", "j"] "law" (defScope s_law) f cdv A outer s H E).xe := passes_of rfl
  exact ⟨_, (dss_cons (ds_set 1 sc_law.nd (de_call c__law_draws hr tk (by decide) (da_cons (de_var 0) da_nil)))
      (dss_cons (ds_for pp rfl (di_range1 T.n_range (da_cons de_int da_nil)) (dg_name 2 sc_law.nd) (dss_cons (ds_set 3 sc_law.nd (de_call c__law_media hr tk (by decide) (da_cons (de_var 1) da_nil)))
      (dss_cons (ds_set 4 sc_law.nd (de_call c__law_skills hr tk (by decide) (da_cons (de_var 1) da_nil)))
      (dss_cons (ds_set 5 sc_law.nd (de_call c__law_copy.pure hr tk (by decide) (da_cons (de_lst (da_cons (de_var 3) (da_cons (de_var 4) da_nil))) da_nil)))
      (dss_cons (ds_set 6 sc_law.nd (de_call c_answer_to.pure hr tk (by decide) (da_cons (de_var 3) (da_cons de_int (da_cons (de_var 4) da_nil)))))
      (dss_cons (ds_if (dt_bool (dw_or (dt_not (dt_val (de_call c__law_same.pure hr tk (by decide) (da_cons (de_var 6) (da_cons (de_call c__law_answer.pure hr tk (by decide) (da_cons (de_var 3) (da_cons de_int (da_cons (de_var 4) da_nil)))) da_nil))))) (dw_or (dt_cmp op_notN opd_notN (de_call c_check_media.pure hr tk (by decide) (da_cons (de_var 6) da_nil)) de_non (nomark _)) (dw_or1 (dt_cmp op_notN opd_notN (de_call c_fault_of.pure hr tk (by decide) (da_cons (de_var 3) (da_cons (de_var 6) da_nil))) de_non (nomark _)))))) (dss_one (ds_ret de_bl)) dss_nil)
      (dss_cons (ds_par rfl sc_law.nd (i := 7) (j := 8) rfl rfl (by decide) rfl rfl (da_cons (de_call c_flows.pure hr tk (by decide) (da_cons (de_var 3) (da_cons (de_var 6) (da_cons de_bl da_nil)))) (da_cons (de_call c_flows.pure hr tk (by decide) (da_cons (de_var 3) (da_cons (de_var 6) (da_cons de_bl da_nil)))) da_nil)) (by rfl))
      (dss_cons (ds_for pp rfl (di_range1 T.n_range (da_cons (de_callB xcr_len cad_len T.n_len bb_len (da_cons (de_ix ⟨_, hr⟩ (de_var 6) de_int) da_nil)) da_nil)) (dg_name 9 sc_law.nd) (dss_cons (ds_set 10 sc_law.nd (de_ix ⟨_, hr⟩ (de_ix ⟨_, hr⟩ (de_var 6) de_int) (de_var 9)))
      (dss_cons (ds_set 11 sc_law.nd (de_call c__law_parts.pure hr tk (by decide) (da_cons (de_ix ⟨_, hr⟩ (de_var 10) de_int) da_nil)))
      (dss_cons (ds_set 12 sc_law.nd (de_if (dt_cmp (xop_eq ⟨_, hr⟩) opd_eq (de_ix ⟨_, hr⟩ (de_var 10) de_int) de_int (nomark _)) de_non (de_tup (da_cons (de_ix ⟨_, hr⟩ (de_ix ⟨_, hr⟩ (de_var 10) de_int) de_int) (da_cons (de_ix ⟨_, hr⟩ (de_var 11) de_int) (da_cons (de_ix ⟨_, hr⟩ (de_var 11) de_int) da_nil))))))
      (dss_cons (ds_set 13 sc_law.nd (de_if (dt_cmp (xop_eq ⟨_, hr⟩) opd_eq (de_ix ⟨_, hr⟩ (de_var 10) de_int) de_int (nomark _)) de_non (de_tup (da_cons (de_ix ⟨_, hr⟩ (de_ix ⟨_, hr⟩ (de_var 10) de_int) de_int) (da_cons (de_ix ⟨_, hr⟩ (de_var 11) de_int) (da_cons (de_ix ⟨_, hr⟩ (de_var 11) de_int) da_nil))))))
      (dss_one (ds_if (dt_not (dt_val (de_call c__law_same.pure hr tk (by decide) (da_cons (de_lst (da_cons (de_ix ⟨_, hr⟩ (de_var 7) (de_var 9)) (da_cons (de_ix ⟨_, hr⟩ (de_var 8) (de_var 9)) da_nil))) (da_cons (de_lst (da_cons (de_var 13) (da_cons (de_var 12) da_nil))) da_nil))))) (dss_one (ds_ret de_bl)) dss_nil)))))))
      (dss_cons (ds_set 14 sc_law.nd (de_call c__law_media hr tk (by decide) (da_cons (de_var 1) da_nil)))
      (dss_cons (ds_if (dt_bool (dw_and (dt_cmp op_gt opd_gtI (de_callB xcr_len cad_len T.n_len bb_len (da_cons (de_ix ⟨_, hr⟩ (de_var 6) de_int) da_nil)) de_int (nomark _)) (dw_and1 (dt_cmp (xop_eq ⟨_, hr⟩) opd_eq (de_call c__law_next hr tk (by decide) (da_cons (de_var 1) (da_cons de_int da_nil))) de_int (nomark _))))) (dss_cons (ds_set 15 sc_law.nd (de_call c__law_next hr tk (by decide) (da_cons (de_var 1) (da_cons (de_callB xcr_len cad_len T.n_len bb_len (da_cons (de_ix ⟨_, hr⟩ (de_var 6) de_int) da_nil)) da_nil))))
      (dss_cons (ds_set 10 sc_law.nd (de_callTy xcr_list cad_listC T.n_list bb_list (da_cons (de_ix ⟨_, hr⟩ (de_ix ⟨_, hr⟩ (de_var 6) de_int) (de_var 15)) da_nil)))
      (dss_cons (ds_set 16 sc_law.nd (de_call c__law_next hr tk (by decide) (da_cons (de_var 1) (da_cons de_int da_nil))))
      (dss_cons (ds_setI ⟨_, hr⟩ (de_var 10) (de_var 16) (de_call c__law_pick hr tk (by decide) (da_cons (de_var 1) (da_cons (de_ix ⟨_, hr⟩ (de_lst (da_cons (de_lst (da_cons de_str (da_cons de_str da_nil))) (da_cons (de_lst (da_cons de_int (da_cons de_int da_nil))) (da_cons (de_lst (da_cons (de_ix ⟨_, hr⟩ (de_ix ⟨_, hr⟩ (de_ix ⟨_, hr⟩ (de_var 3) de_int) (de_var 15)) de_int) (da_cons (de_lst (da_cons (de_tup (da_cons de_int (da_cons de_str (da_cons de_int da_nil)))) da_nil)) (da_cons (de_sl (de_ix ⟨_, hr⟩ (de_ix ⟨_, hr⟩ (de_ix ⟨_, hr⟩ (de_var 3) de_int) (de_var 15)) de_int) do_none (do_some de_int)) da_nil)))) (da_cons (de_lst (da_cons de_str (da_cons de_str (da_cons de_str (da_cons de_str da_nil))))) da_nil))))) (de_var 16)) da_nil))))
      (dss_one (ds_set 14 sc_law.nd (de_tup (da_cons de_int (da_cons de_int (da_cons (de_bin xop_add opd_add (de_bin xop_add opd_add (de_sl (de_ix ⟨_, hr⟩ (de_var 6) de_int) do_none (do_some (de_var 15))) (de_lst (da_cons (de_callTy xcr_tuple cad_tuple T.n_tuple bb_tuple (da_cons (de_var 10) da_nil)) da_nil))) (de_sl (de_ix ⟨_, hr⟩ (de_var 6) de_int) (do_some (de_bin xop_add opd_add (de_var 15) de_int)) do_none)) da_nil)))))))))) dss_nil)
      (dss_one (ds_if (dt_bool (dw_or (dt_not (dt_val (de_call c__law_same.pure hr tk (by decide) (da_cons (de_call c_fault_of.pure hr tk (by decide) (da_cons (de_var 3) (da_cons (de_var 14) da_nil))) (da_cons (de_call c__law_fault.pure hr tk (by decide) (da_cons (de_var 3) (da_cons (de_var 14) da_nil))) da_nil))))) (dw_or1 (dt_not (dt_val (de_call c__law_same.pure hr tk (by decide) (da_cons (de_lst (da_cons (de_var 3) (da_cons (de_var 4) da_nil))) (da_cons (de_var 5) da_nil)))))))) (dss_one (ds_ret de_bl)) dss_nil))))))))))))
      (dss_one (ds_ret de_bl))))⟩
theorem cal_law (T : Txt w K mg a_is_form) (c__law_answer : Cal P w K mg base 2 "_law_answer" φ__law_answer) (c__law_copy : Cal P w K mg base 9 "_law_copy" (φ__law_copy 8)) (c__law_draws : Cal P w K mg base 1 "_law_draws" φ__law_draws) (c__law_fault : Cal P w K mg base 2 "_law_fault" φ__law_fault) (c__law_media : Cal P w K mg base 3 "_law_media" φ__law_media) (c__law_next : Cal P w K mg base 1 "_law_next" φ__law_next) (c__law_parts : Cal P w K mg base 1 "_law_parts" φ__law_parts) (c__law_pick : Cal P w K mg base 2 "_law_pick" φ__law_pick) (c__law_same : Cal P w K mg base 9 "_law_same" (φ__law_same 8)) (c__law_skills : Cal P w K mg base 3 "_law_skills" φ__law_skills) (c_answer_to : Cal P w K mg base 2 "answer_to" φ_answer_to) (c_check_media : Cal P w K mg base 5 "check_media" (φ_check_media a_is_form)) (c_fault_of : Cal P w K mg base 2 "fault_of" φ_fault_of) (c_flows : Cal P w K mg base 1 "flows" φ_flows) : Cal P w K mg base 10 "law" (φ_law a_is_form) := by
  obtain ⟨f, fd, F, m⟩ := T.f_law
  exact ⟨f, fd, ["script"], fn_ok F sc_law fun cdv A outer s H E hr => body_law T c__law_answer c__law_copy c__law_draws c__law_fault c__law_media c__law_next c__law_parts c__law_pick c__law_same c__law_skills c_answer_to c_check_media c_fault_of c_flows f cdv A outer s H E hr, m, F.kp, F.binds (ps := ["script"]) fun _ _ _ _ _ _ us hl => match us, hl with | [_], _ => rfl⟩
end
end K11

namespace K11
open PySem PySem.Spec PyProof.Rows L2 DL
theorem draws_is : φ__law_draws = φ_draws := rfl
theorem next_is : φ__law_next = φ_next := rfl
theorem pick_is : φ__law_pick = φ_pick := rfl
theorem same_is : φ__law_same = φ_same := by
  funext n; induction n with
  | zero => rfl
  | succ n ih => show fnD 4 2 (g__law_same (φ__law_same n)) = fnD 4 2 (g_same (φ_same n)); rw [ih]; rfl
theorem copy_is : φ__law_copy = φ_copy := by
  funext n; induction n with
  | zero => rfl
  | succ n ih => show fnD 3 1 (g__law_copy (φ__law_copy n)) = fnD 3 1 (g_copy (φ_copy n)); rw [ih]; rfl
/-! ### the data -/
abbrev Form := Int × Str × Int
abbrev Pair := Str × Int
abbrev Line := Str × Int × List Form × Str
abbrev Skill := Str × Int × List Pair × Str
def dF (f : Form) : D := .tup [.int f.1, .str f.2.1, .int f.2.2]
def dP (p : Pair) : D := .tup [.str p.1, .int p.2]
def dL (l : Line) : D := .tup [.str l.1, .int l.2.1, .lst (l.2.2.1.map dF), .str l.2.2.2]
def dS (s : Skill) : D := .tup [.str s.1, .int s.2.1, .lst (s.2.2.1.map dP), .str s.2.2.2]
def dM (a b : Int) (ls : List Line) : D := .tup [.int a, .int b, .lst (ls.map dL)]
def names : List Str := ["pcm", "ulaw", "opus", "h26"]
def kinds : List Str := ["audio", "video"]
def ways : List Str := ["both", "send", "get", "none"]
structure GF (f : Form) : Prop where
  lo : 0 ≤ f.1
  hi : f.1 < 128
  nm : f.2.1 ∈ names
  r1 : 1 ≤ f.2.2
  r2 : f.2.2 < 1000000
structure GL (l : Line) : Prop where
  kd : l.1 ∈ kinds
  p0 : 0 ≤ l.2.1
  p1 : l.2.1 < 65536
  fs : ∀ f ∈ l.2.2.1, GF f
  ne : l.2.2.1 ≠ []
  sm : l.2.2.1.length ≤ 40
  nd : (l.2.2.1.map (·.1)).Nodup
  wy : l.2.2.2 ∈ ways
structure GS (s : Skill) : Prop where
  kd : s.1 ∈ kinds
  p0 : 0 < s.2.1
  p1 : s.2.1 < 65536
  ps : ∀ p ∈ s.2.2.1, p.1 ∈ names
  sm : s.2.2.1.length ≤ 40
  wy : s.2.2.2 ∈ ways
theorem ok_name {s : Str} (h : s ∈ names) (n : Nat) : okD n (.str s) = true := by
  have : ∀ s ∈ names, s.cps.all (· < 0x110000) = true := by decide +kernel
  cases n <;> exact this s h
theorem ok_kind {s : Str} (h : s ∈ kinds) (n : Nat) : okD n (.str s) = true := by
  have : ∀ s ∈ kinds, s.cps.all (· < 0x110000) = true := by decide +kernel
  cases n <;> exact this s h
theorem ok_way {s : Str} (h : s ∈ ways) (n : Nat) : okD n (.str s) = true := by
  have : ∀ s ∈ ways, s.cps.all (· < 0x110000) = true := by decide +kernel
  cases n <;> exact this s h
theorem ok_int (i : Int) (n : Nat) : okD n (.int i) = true := by cases n <;> rfl
theorem ok_F {f : Form} (h : f.2.1 ∈ names) (n : Nat) : okD (n + 1) (dF f) = true := by
  simp only [dF, okD_tup, okL_cons, okL_nil, ok_name h, ok_int]; simp
theorem ok_P {p : Pair} (h : p.1 ∈ names) (n : Nat) : okD (n + 1) (dP p) = true := by
  simp only [dP, okD_tup, okL_cons, okL_nil, ok_name h, ok_int]; simp
theorem ok_L {l : Line} (h : GL l) (n : Nat) : okD (n + 3) (dL l) = true := by
  have h1 : okL (n + 1) (l.2.2.1.map dF) = true := okL_of fun d m => by
    obtain ⟨f, hf, rfl⟩ := List.mem_map.mp m
    exact ok_F (h.fs f hf).nm n
  have h2 : l.2.2.1.length ≤ 16777216 := Nat.le_trans h.sm (by decide)
  simp only [dL, okD_tup, okD_lst, okL_cons, okL_nil, ok_kind h.kd, ok_way h.wy, ok_int, h1, List.length_map, h2]; simp
theorem ok_S {s : Skill} (h : GS s) (n : Nat) : okD (n + 3) (dS s) = true := by
  have h1 : okL (n + 1) (s.2.2.1.map dP) = true := okL_of fun d m => by
    obtain ⟨f, hf, rfl⟩ := List.mem_map.mp m
    exact ok_P (h.ps f hf) n
  have h2 : s.2.2.1.length ≤ 16777216 := Nat.le_trans h.sm (by decide)
  simp only [dS, okD_tup, okD_lst, okL_cons, okL_nil, ok_kind h.kd, ok_way h.wy, ok_int, h1, List.length_map, h2]; simp
theorem ok_M {a b : Int} {ls : List Line} (h : ∀ l ∈ ls, GL l) (hl : ls.length ≤ 16777216) (n : Nat) : okD (n + 5) (dM a b ls) = true := by
  have h1 : okL (n + 3) (ls.map dL) = true := okL_of fun d m => by
    obtain ⟨f, hf, rfl⟩ := List.mem_map.mp m
    exact ok_L (h f hf) n
  simp only [dM, okD_tup, okD_lst, okL_cons, okL_nil, ok_int, h1, List.length_map, hl]; simp
/-! ### what the checks say -/
theorem number_ev {i lo hi : Int} {M : Mem} (h1 : lo ≤ i) (h2 : i < hi) : pureOp φ_is_number [.int i, .int lo, .int hi] M = some (.ok (.bl true), M) :=
  pure_eq (ev_def (by
    show Sv (g_is_number [some (.int i), some (.int lo), some (.int hi)] []) _
    simp [g_is_number, h1, h2])) rfl rfl
theorem name_ev {s : Str} {M : Mem} (h : s ∈ names ∨ s ∈ kinds) : pureOp φ_is_name [.str s] M = some (.ok (.bl true), M) := by
  have h1 : ∀ s ∈ names ++ kinds, s.length ≤ 40 ∧ 1 ≤ s.length ∧ s.cps.size ≤ 40 ∧ s.cps.toList.all (fun c => inStr ⟨#[c]⟩ "abcdefghijklmnopqrstuvwxyz0123456789") = true := by decide +kernel
  obtain ⟨a1, a2, a3, a4⟩ := h1 s (List.mem_append.mpr h)
  refine pure_eq (ev_def ?_) rfl rfl
  show Sv (g_is_name [some (.str s), none] []) _
  have hc := compL_all (g := yName 1) (tt := fYes) (fe := fBin (gIn false) (fVar 1) (fC d_SIGNS)) (ρ := wipeE [some (.str s), none] [1]) (M := []) (fun c : Nat => D.str ⟨#[c]⟩) (fun c => .bl (inStr ⟨#[c]⟩ "abcdefghijklmnopqrstuvwxyz0123456789")) s.cps.toList fun c _ => ⟨_, rfl, ⟨rfl, rfl⟩, by simp [wipeE, d_SIGNS]⟩
  have hl : gLen [.str s] [] = some (.ok (.int s.length), []) := by
    show (if s.length ≤ 16777216 then _ else _) = _
    rw [if_pos (by omega)]
  have a1' : (s.length : Int) ≤ 40 := by omega
  have a2' : (1 : Int) ≤ s.length := by omega
  simp [g_is_name, hl, a1', a2', d_MOST, lettersD, hc, gAll_map]
  simp at a4
  exact ⟨by omega, a4⟩
theorem form_ev {f : Form} (h : GF f) {M : Mem} : Ev (φ_is_form [dF f] M) (fun d M1 => d = .bl true ∧ M1 = M) Ex0 := by
  refine ev_def ?_
  show Sv (g_is_form [some (dF f)] M) _
  simp [g_is_form, dF, number_ev h.lo h.hi, name_ev (.inl h.nm), number_ev h.r1 h.r2]
theorem pure_F {f : Form} : (dF f).pure = true := rfl
theorem pureL_map {γ : Type} {enc : γ → D} (h : ∀ t, (enc t).pure = true) : ∀ ts : List γ, pureL (ts.map enc) = true
  | [] => rfl
  | t :: ts => by
    show ((enc t).pure && pureL (ts.map enc)) = true
    rw [h t, pureL_map h ts]; rfl
theorem pure_L (l : Line) : (dL l).pure = true := by
  show (true && (true && (pureL (l.2.2.1.map dF) && (true && true)))) = true
  rw [pureL_map fun _ => pure_F]; rfl
theorem pure_P (p : Pair) : (dP p).pure = true := rfl
theorem pure_S (l : Skill) : (dS l).pure = true := by
  show (true && (true && (pureL (l.2.2.1.map dP) && (true && true)))) = true
  rw [pureL_map pure_P]; rfl
theorem pure_M (a b : Int) (ls : List Line) : (dM a b ls).pure = true := by
  show (true && (true && (pureL (ls.map dL) && true))) = true
  rw [pureL_map pure_L]; rfl
theorem list_ev {ff : Addr} {fs : List Form} (h : ∀ f ∈ fs, GF f) (hl : fs.length ≤ 40) {M : Mem} : pureOp (φ_is_list ff) [.lst (fs.map dF), .any (.ref ff)] M = some (.ok (.bl true), M) := by
  refine pure_eq (ev_def ?_) ?_ rfl
  · show Sv (g_is_list ff [some (.lst (fs.map dF)), some (.any (.ref ff)), none] []) _
    have hc := compL_all (g := yName 2) (tt := fYes) (fe := fCallV 1 ff φ_is_form (fCons (fVar 2) fNil)) (ρ := [some (.lst (fs.map dF)), some (.any (.ref ff)), none]) (M := []) dF (fun _ => .bl true) fs fun f hf => ⟨_, rfl, ⟨rfl, rfl⟩, by
      rw [ev_fCallV _ _ _ _ rfl]
      simp
      exact form_ev (h f hf)⟩
    have hl' : (fs.length : Int) ≤ 40 := by omega
    have ha := gAll_map (M := []) (fun _ : Form => true) fs
    simp [g_is_list, wipeE, d_MOST, hl', hc, ha]
  · show (pureL (fs.map dF) && (true && true)) = true
    rw [pureL_map fun _ => pure_F]; rfl
theorem line_ev {ff : Addr} {l : Line} (h : GL l) {M : Mem} : pureOp (φ_is_line ff) [dL l] M = some (.ok (.bl true), M) := by
  refine pure_eq (ev_def ?_) ?_ rfl
  · show Sv (g_is_line ff [some (dL l), none] []) _
    have hn : l.2.2.1.length ≠ 0 := fun z => h.ne (List.length_eq_zero_iff.mp z)
    have hk : (l.2.2.1.map fun f : Form => (Sum.inl f.1 : Key)).Nodup := by
      have := List.Pairwise.map (S := fun a b => a ≠ b) (fun i : Int => (Sum.inl i : Key)) (fun a b hab z => hab (Sum.inl.inj z)) h.nd
      rwa [List.map_map] at this
    have hc := compK_map (g := yName 1) (tt := fYes) (fk := fBin gIx (fVar 1) (fC (.int 0))) (fv := fC (.bl true)) (ρ := [some (dL l), none]) (M := []) dF (fun f => Sum.inl f.1) (fun _ => .bl true) l.2.2.1 [] (fun f hf => ⟨_, .int f.1, rfl, ⟨rfl, rfl⟩, by simp [dF], rfl, ⟨rfl, rfl⟩⟩) hk (fun e he => by simp at he)
    have hw : l.2.2.2 = "both" ∨ l.2.2.2 = "get" ∨ l.2.2.2 = "none" ∨ l.2.2.2 = "send" := by
      have := h.wy
      simp only [ways, List.mem_cons, List.not_mem_nil, or_false] at this
      rcases this with z | z | z | z <;> simp [z]
    have hl : gLen [.lst (l.2.2.1.map dF)] [] = some (.ok (.int l.2.2.1.length), []) := by simp
    simp only [dL] at hc
    simp [g_is_line, dL, wipeE, name_ev (.inr h.kd), number_ev h.p0 h.p1, list_ev h.fs h.sm, h.ne, hc, d_WAYS, hw]
  · show ((dL l).pure && true) = true
    rw [pure_L]; rfl
theorem check_ev {ff : Addr} {a b : Int} {ls : List Line} (ha : 0 ≤ a ∧ a < 2147483648) (hb : 0 ≤ b ∧ b < 2147483648) (h : ∀ l ∈ ls, GL l) (hl : ls.length ≤ 20) {M : Mem} : pureOp (φ_check_media ff) [dM a b ls] M = some (.ok .non, M) := by
  refine pure_eq (ev_def ?_) ?_ rfl
  · show Sv (g_check_media ff [some (dM a b ls), none] []) _
    have hl' : ¬ (20 : Int) < ls.length := by omega
    simp [g_check_media, dM, number_ev ha.1 ha.2, number_ev hb.1 hb.2, hl']
    refine ⟨by omega, sv_forR (fun i ρ M1 => ∃ x, ρ = [some (.tup [.int a, .int b, .lst (ls.map dL)]), x] ∧ M1 = []) ⟨_, rfl, rfl⟩ ?_ fun _ _ _ => trivial⟩
    rintro i ρ M1 hi ⟨x, rfl, rfl⟩
    refine ⟨_, rfl, ?_⟩
    simp [List.getElem?_eq_getElem hi, line_ev (h _ (List.getElem_mem hi))]
  · show ((dM a b ls).pure && true) = true
    rw [pure_M]; rfl
/-! ### ways -/
def sends (w : Str) : Bool := decide (w = "both" ∨ w = "send")
def gets (w : Str) : Bool := decide (w = "both" ∨ w = "get")
def awy (w v : Str) : Str := if gets w && sends v then (if sends w && gets v then "both" else "send") else if sends w && gets v then "get" else "none"
theorem turn_ok : ∀ w ∈ ways, ∃ t, t_TURNED.lookup w = some (.str t) ∧ sends t = gets w ∧ gets t = sends w := by
  intro w hw
  simp only [ways, List.mem_cons, List.not_mem_nil, or_false] at hw
  rcases hw with rfl | rfl | rfl | rfl
  · exact ⟨"both", rfl, by decide +kernel, by decide +kernel⟩
  · exact ⟨"get", rfl, by decide +kernel, by decide +kernel⟩
  · exact ⟨"send", rfl, by decide +kernel, by decide +kernel⟩
  · exact ⟨"none", rfl, by decide +kernel, by decide +kernel⟩
theorem awy_ways (w v : Str) : awy w v ∈ ways := by
  unfold awy
  split
  · split
    · exact (by decide +kernel : ("both" : Str) ∈ ways)
    · exact (by decide +kernel : ("send" : Str) ∈ ways)
  · split
    · exact (by decide +kernel : ("get" : Str) ∈ ways)
    · exact (by decide +kernel : ("none" : Str) ∈ ways)
theorem awy_sends (w v : Str) : sends (awy w v) = (gets w && sends v) := by
  have h : sends "both" = true ∧ sends "send" = true ∧ sends "get" = false ∧ sends "none" = false := by decide +kernel
  obtain ⟨h1, h2, h3, h4⟩ := h
  unfold awy
  split
  · rename_i q; rw [q]; split <;> assumption
  · rename_i q
    rw [Bool.not_eq_true] at q
    rw [q]; split <;> assumption
theorem awy_gets (w v : Str) : gets (awy w v) = (sends w && gets v) := by
  have h : gets "both" = true ∧ gets "send" = false ∧ gets "get" = true ∧ gets "none" = false := by decide +kernel
  obtain ⟨h1, h2, h3, h4⟩ := h
  unfold awy
  split
  · split
    · rename_i q; rw [q]; assumption
    · rename_i q
      rw [Bool.not_eq_true] at q
      rw [q]; assumption
  · split
    · rename_i q; rw [q]; assumption
    · rename_i q
      rw [Bool.not_eq_true] at q
      rw [q]; assumption
theorem way_ev {w v : Str} (hw : w ∈ ways) {M : Mem} : pureOp φ_answered_way [.str w, .str v] M = some (.ok (.str (awy w v)), M) := by
  refine pure_eq (ev_def ?_) rfl rfl
  show Sv (g_answered_way [some (.str w), some (.str v), none, none, none] []) _
  obtain ⟨t, h1, h2, h3⟩ := turn_ok w hw
  have h2' : decide (t = "both" ∨ t = "send") = gets w := h2
  have h3' : decide (t = "both" ∨ t = "get") = sends w := h3
  have v1 : decide (v = "both" ∨ v = "send") = sends v := rfl
  have v2 : decide (v = "both" ∨ v = "get") = gets v := rfl
  unfold awy
  cases a1 : gets w <;> cases a2 : sends w <;> cases a3 : gets v <;> cases a4 : sends v <;> simp only [a1, a2, a3, a4] at h2' h3' v1 v2 <;> simp [g_answered_way, h1, -Bool.decide_or, h2', h3', v1, v2]
theorem parts_ev {w : Str} {M : Mem} : pureOp φ__law_parts [.str w] M = some (.ok (.lst [.bl (sends w), .bl (gets w)]), M) := by
  refine pure_eq (ev_def ?_) rfl rfl
  show Sv (g__law_parts [some (.str w)] []) _
  simp [g__law_parts, sends, gets]
theorem lway_ev {a b : Bool} {M : Mem} : pureOp φ__law_way [.bl a, .bl b] M = some (.ok (.str (if a then (if b then "both" else "send") else if b then "get" else "none")), M) := by
  refine pure_eq (ev_def ?_) rfl rfl
  show Sv (g__law_way [some (.bl a), some (.bl b)] []) _
  cases a <;> cases b <;> simp [g__law_way]
end K11

namespace K11
open PySem PySem.Spec PyProof.Rows L2 DL
/-! ### the answer -/
def inP (ps : List Pair) (f : Form) : Bool := (ps.map dP).any fun z => eqD z (.tup [.str f.2.1, .int f.2.2])
def com (fs : List Form) (ps : List Pair) : List Form := fs.filter (inP ps)
theorem flat_ps {ps : List Pair} (h : ∀ p ∈ ps, p.1 ∈ names) (hl : ps.length ≤ 16777216) : (D.lst (ps.map dP)).flat 64 = true :=
  okD_flat 2 64 _ (by decide) (okD_lst.mpr ⟨by simpa using hl, okL_of fun d m => by
    obtain ⟨f, hf, rfl⟩ := List.mem_map.mp m
    exact ok_P (h f hf) 0⟩)
theorem flat_fs {fs : List Form} (h : ∀ f ∈ fs, f.2.1 ∈ names) (hl : fs.length ≤ 16777216) : (D.lst (fs.map dF)).flat 64 = true :=
  okD_flat 2 64 _ (by decide) (okD_lst.mpr ⟨by simpa using hl, okL_of fun d m => by
    obtain ⟨f, hf, rfl⟩ := List.mem_map.mp m
    exact ok_F (h f hf) 0⟩)
theorem gIn_pair {ps : List Pair} {f : Form} {neg : Bool} {M : Mem} (hs : f.2.1 ∈ names) (h : ∀ p ∈ ps, p.1 ∈ names) (hl : ps.length ≤ 16777216) :
    gIn neg (.tup [.str f.2.1, .int f.2.2]) (.lst (ps.map dP)) M = some (.ok (.bl (gInB neg (inP ps f))), M) :=
  gIn_deep (okD_flat 1 64 _ (by decide) (ok_P (p := (f.2.1, f.2.2)) hs 0)) (flat_ps h hl)
theorem common_ev {fs : List Form} {ps : List Pair} (hf : ∀ f ∈ fs, f.2.1 ∈ names) (hp : ∀ p ∈ ps, p.1 ∈ names) (hl : ps.length ≤ 16777216) {M : Mem} :
    pureOp φ_common [.lst (fs.map dF), .lst (ps.map dP)] M = some (.ok (.lst ((com fs ps).map dF)), M) := by
  refine pure_eq (ev_def ?_) ?_ ?_
  · show Sv (g_common [some (.lst (fs.map dF)), some (.lst (ps.map dP)), none] []) _
    have hc := compL_map (g := yName 2) (tt := asB (fBin (gIn false) (fTup (fCons (fBin gIx (fVar 2) (fC (.int 1))) (fCons (fBin gIx (fVar 2) (fC (.int 2))) fNil))) (fVar 1))) (fe := fVar 2) (ρ := [some (.lst (fs.map dF)), some (.lst (ps.map dP)), none]) (M := []) dF (inP ps) dF fs fun f h => ⟨_, rfl, by
      simp [dF, gIn_pair (hf f h) hp hl], fun _ => by simp⟩
    simp [g_common, wipeE, hc, com]
  · show (pureL (fs.map dF) && (pureL (ps.map dP) && true)) = true
    rw [pureL_map fun _ => pure_F, pureL_map pure_P]; rfl
  · exact pureL_map (fun _ => pure_F) _
def p1 (sk : List Skill) (us : List Nat) (l : Line) (k : Nat) : Bool := !decide (k ∈ us) && (match sk[k]? with | some s => decide (s.1 = l.1) | none => false)
def p2 (sk : List Skill) (l : Line) (k : Nat) : Bool := match sk[k]? with | some s => decide (0 < (com l.2.2.1 s.2.2.1).length) | none => false
def cho (sk : List Skill) (us : List Nat) (l : Line) : Option Nat := if 0 < l.2.1 then (List.range sk.length).find? (fun k => p1 sk us l k && p2 sk l k) else none
def stp (sk : List Skill) (st : List Nat × List Line) (l : Line) : List Nat × List Line := match cho sk st.1 l with
  | none => (st.1, st.2 ++ [((l.1, (0 : Int), l.2.2.1.take 1, ("none" : Str)) : Line)])
  | some k => match sk[k]? with
    | some s => (st.1 ++ [k], st.2 ++ [(l.1, s.2.1, com l.2.2.1 s.2.2.1, awy l.2.2.2 s.2.2.2)])
    | none => st
def ans (sk : List Skill) (ls : List Line) : List Nat × List Line := ls.foldl (stp sk) ([], [])
theorem ans_succ {sk : List Skill} {ls : List Line} {i : Nat} {l : Line} (h : ls[i]? = some l) : ans sk (ls.take (i + 1)) = stp sk (ans sk (ls.take i)) l := by
  unfold ans
  rw [List.take_add_one, h, List.foldl_append]; rfl
theorem stp_len (sk : List Skill) (st : List Nat × List Line) (l : Line) : (stp sk st l).1.length ≤ st.1.length + 1 ∧ (stp sk st l).2.length ≤ st.2.length + 1 := by
  unfold stp
  split
  · simp
  · split <;> simp
theorem ans_len (sk : List Skill) (ls : List Line) : ∀ i, i ≤ ls.length → (ans sk (ls.take i)).1.length ≤ i ∧ (ans sk (ls.take i)).2.length ≤ i
  | 0, _ => by simp [ans]
  | i + 1, h => by
    have ih := ans_len sk ls i (by omega)
    rw [ans_succ (List.getElem?_eq_getElem (show i < ls.length by omega))]
    have := stp_len sk (ans sk (ls.take i)) ls[i]
    omega
def dUs (us : List Nat) : List (Key × D) := us.map fun (k : Nat) => ((Sum.inl (k : Int) : Key), D.bl true)
theorem getK_us (us : List Nat) (k : Nat) : (getK (dUs us) (.inl (k : Int))).isSome = decide (k ∈ us) := by
  unfold getK dUs
  rw [Option.isSome_map, List.find?_map, Option.isSome_map, List.isSome_find?]
  rw [Bool.eq_iff_iff]
  simp only [List.any_eq_true, Function.comp, decide_eq_true_eq, Sum.inl.injEq, Int.natCast_inj, exists_eq_right]
theorem answer_ev {a b n : Int} {ls : List Line} {sk : List Skill} (hL : ∀ l ∈ ls, GL l) (hS : ∀ s ∈ sk, GS s) (h1 : ls.length ≤ 20) (h2 : sk.length ≤ 20) {M : Mem} :
    pureOp φ_answer_to [dM a b ls, .int n, .lst (sk.map dS)] M = some (.ok (dM n 1 (ans sk ls).2), M) := by
  refine pure_eq (ev_def ?_) ?_ (pure_M _ _ _)
  · show Sv (g_answer_to [some (dM a b ls), some (.int n), some (.lst (sk.map dS)), none, none, none, none, none, none, none, none, none] []) _
    simp [g_answer_to, dM]
    refine sv_forM dL (fun i ρ M1 => i ≤ ls.length ∧ ∃ x5 x6 x7 x8 x9 x10 x11, ρ = [some (dM a b ls), some (.int n), some (.lst (sk.map dS)), some (.cell 0), some (.cell 1), x5, x6, x7, x8, x9, x10, x11] ∧ M1 = [some (.dic (dUs (ans sk (ls.take i)).1)), some (.lst ((ans sk (ls.take i)).2.map dL))]) ls ⟨by omega, none, none, none, none, none, none, none, rfl, rfl⟩ ?_ ?_
    · rintro i l ρ M1 hi ⟨hi0, x5, x6, x7, x8, x9, x10, x11, rfl, rfl⟩
      have hl := hL l (List.mem_of_getElem? hi)
      rw [ans_succ hi]
      generalize hst : ans sk (ls.take i) = st at *
      obtain ⟨us, out⟩ := st
      refine ⟨[some (dM a b ls), some (.int n), some (.lst (sk.map dS)), some (.cell 0), some (.cell 1), some (.str l.1), some (.int l.2.1), some (.lst (l.2.2.1.map dF)), some (.str l.2.2.2), x9, x10, x11], rfl, ?_⟩
      have hlu : us.length ≤ i ∧ out.length ≤ i := by
        have := ans_len sk ls i hi0
        rwa [hst] at this
      have hc1 := compL_map (g := yName 11) (tt := (fAnd (asB (fBin (gIn true) (fVar 11) (fVar 3))) (asB (fBin gEq (fBin gIx (fBin gIx (fVar 2) (fVar 11)) (fC (.int 0))) (fVar 5))))) (fe := fVar 11)
        (ρ := [some (dM a b ls), some (.int n), some (.lst (sk.map dS)), some (.cell 0), some (.cell 1), some (.str l.1), some (.int l.2.1), some (.lst (l.2.2.1.map dF)), some (.str l.2.2.2), x9, x10, none]) (M := [some (.dic (dUs us)), some (.lst (out.map dL))])
        (fun k : Nat => D.int (k : Int)) (p1 sk us l) (fun k => D.int (k : Int)) (List.range sk.length) fun k hk => ⟨_, rfl, by
          have hk' : k < sk.length := by simpa using hk
          simp [getK_us, p1, List.getElem?_eq_getElem hk', dS]
          by_cases q1 : k ∈ us <;> by_cases q2 : sk[k].1 = l.1 <;> simp [q1, q2], fun _ => by simp⟩
      rw [← rangeD_map] at hc1
      have hin : ∀ k ∈ (List.range sk.length).filter (p1 sk us l), k < sk.length := fun k hk => by simpa using (List.mem_filter.mp hk).1
      have hc2 : ∀ x9, compL (yName 11) (asB (fBin gGt (fCall gLen (fCons (fCall (pureOp φ_common) (fCons (fVar 7) (fCons (fBin gIx (fBin gIx (fVar 2) (fVar 11)) (fC (.int 2))) fNil))) fNil)) (fC (.int 0)))) (fVar 11)
        [some (dM a b ls), some (.int n), some (.lst (sk.map dS)), some (.cell 0), some (.cell 1), some (.str l.1), some (.int l.2.1), some (.lst (l.2.2.1.map dF)), some (.str l.2.2.2), x9, x10, none] (((List.range sk.length).filter (p1 sk us l)).map fun k : Nat => D.int (k : Int)) [some (.dic (dUs us)), some (.lst (out.map dL))] =
          some ((((List.range sk.length).filter (p1 sk us l)).filter (p2 sk l)).map (fun k : Nat => D.int (k : Int)), [some (.dic (dUs us)), some (.lst (out.map dL))]) := fun x9 => compL_map _ _ _ _ fun k hk => ⟨_, rfl, by
          have hk' := hin k hk
          have hs := hS _ (List.getElem_mem hk')
          have hsm : (sk[k].2.2.1).length ≤ 16777216 := Nat.le_trans hs.sm (by decide)
          simp [List.getElem?_eq_getElem hk', dS, p2, common_ev (fun f hf => (hl.fs f hf).nm) hs.ps hsm]
          cases com l.2.2.1 sk[k].2.2.1 <;> simp, fun _ => by simp⟩
      have hi1 : i + 1 ≤ ls.length := (List.getElem?_eq_some_iff.mp hi).1
      have e2 : (List.range sk.length).find? (fun k => p1 sk us l k && p2 sk l k) = (((List.range sk.length).filter (p1 sk us l)).filter (p2 sk l)).head? := by
        rw [List.head?_filter, List.find?_filter]
        congr 1
        funext k
        cases p1 sk us l k <;> simp
      have hs2 : (sk.length : Int) ≤ 16777216 := by omega
      rcases Int.lt_or_le 0 l.2.1 with hp | hp
      · cases hf : ((List.range sk.length).filter (p1 sk us l)).filter (p2 sk l) with
        | nil =>
          have e3 : stp sk (us, out) l = (us, out ++ [((l.1, (0 : Int), l.2.2.1.take 1, ("none" : Str)) : Line)]) := by
            unfold stp cho
            rw [if_pos hp, e2, hf]; rfl
          rw [hf] at hc2
          simp [hc1, wipeE, hc2, hp, hs2, e3, cut_1, List.map_take, dL]
          omega
        | cons k ks =>
          have hk : k < sk.length := by
            have : k ∈ ((List.range sk.length).filter (p1 sk us l)).filter (p2 sk l) := by rw [hf]; exact List.mem_cons_self
            exact hin k (List.mem_filter.mp this).1
          have hku : k ∉ us := by
            have : k ∈ ((List.range sk.length).filter (p1 sk us l)).filter (p2 sk l) := by rw [hf]; exact List.mem_cons_self
            have := (List.mem_filter.mp (List.mem_filter.mp this).1).2
            unfold p1 at this
            intro z
            simp [z] at this
          have e3 : stp sk (us, out) l = (us ++ [k], out ++ [((l.1, sk[k].2.1, com l.2.2.1 sk[k].2.2.1, awy l.2.2.2 sk[k].2.2.2) : Line)]) := by
            unfold stp cho
            rw [if_pos hp, e2, hf]
            simp [List.getElem?_eq_getElem hk]
          rw [hf] at hc2
          have hs := hS _ (List.getElem_mem hk)
          have hsm : (sk[k].2.2.1).length ≤ 16777216 := Nat.le_trans hs.sm (by decide)
          have hput : putD (dUs us) (.inl (k : Int)) (.bl true) = dUs (us ++ [k]) := by
            rw [putD_new fun e he z => ?_]
            · simp [dUs]
            · simp only [dUs, List.mem_map] at he
              obtain ⟨k', h1, rfl⟩ := he
              have z' : (k' : Int) = (k : Int) := Sum.inl.inj z
              have : k' = k := by omega
              exact hku (this ▸ h1)
          have hset : setC (.cell 0) (.int (k : Int)) (.bl true) [some (.dic (dUs us)), some (.lst (out.map dL))] = some [some (.dic (dUs (us ++ [k]))), some (.lst (out.map dL))] := by
            rw [setC_dic (es := dUs us) (k := .inl (k : Int)) rfl rfl (by simp [dUs]; omega), hput]; rfl
          simp [hc1, wipeE, hc2, hp, hs2, e3, List.getElem?_eq_getElem hk, dS, hset, common_ev (fun f hf => (hl.fs f hf).nm) hs.ps hsm, way_ev hl.wy, dL]
          omega
      · have e3 : stp sk (us, out) l = (us, out ++ [((l.1, (0 : Int), l.2.2.1.take 1, ("none" : Str)) : Line)]) := by
          unfold stp cho
          rw [if_neg (by omega)]
        simp [hc1, wipeE, hp, hs2, e3, cut_1, List.map_take, dL]
        omega
    · rintro ρ M1 ⟨_, x5, x6, x7, x8, x9, x10, x11, rfl, rfl⟩
      simp [dM]
  · show ((dM a b ls).pure && (true && (pureL (sk.map dS) && true))) = true
    rw [pure_M, pureL_map pure_S]; rfl
end K11

namespace K11
open PySem PySem.Spec PyProof.Rows L2 DL
def pr (sk : List Skill) (us : List Nat) (l : Line) (k : Nat) : Bool := p1 sk us l k && p2 sk l k && decide (0 < l.2.1)
def dO : Option Nat → D
  | none => .non
  | some k => .int (k : Int)
theorem cho_eq (sk : List Skill) (us : List Nat) (l : Line) : cho sk us l = (List.range sk.length).find? (pr sk us l) := by
  unfold cho
  split
  · rename_i h
    congr 1; funext k; simp [pr, h]
  · rename_i h
    symm
    rw [List.find?_eq_none]
    intro k _
    simp [pr, h]
theorem find_succ {α : Type} (p : Nat → Bool) (j : Nat) : (List.range (j + 1)).find? p = ((List.range j).find? p).or (if p j = true then some j else none) := by
  rw [List.range_succ, List.find?_append]
  congr 1
  by_cases h : p j = true <;> simp [h]
abbrev dIs (us : List Nat) : List D := us.map fun k : Nat => D.int (k : Int)
theorem dIs_eq (us : List Nat) : dIs us = (us.map fun k : Nat => (k : Int)).map D.int := by simp [dIs]
theorem gIn_us {us : List Nat} {k : Nat} {neg : Bool} {r : Mem} : gIn neg (.int (k : Int)) (.cell 0) (some (.lst (dIs us)) :: r) = some (.ok (.bl (gInB neg (decide (k ∈ us)))), some (.lst (dIs us)) :: r) := by
  rw [gIn_ints_c (l := us.map fun k : Nat => (k : Int)) (k : Int) (by rw [dIs_eq]; rfl)]
  congr 6
  simp only [List.mem_map, Int.natCast_inj, exists_eq_right]
theorem shared_ev {ρ : DL.Env} {M : Mem} {fs : List Form} {ps : List Pair} {o : Nat} {e : Fn D} (hf : ∀ f ∈ fs, f.2.1 ∈ names) (hp : ∀ p ∈ ps, p.1 ∈ names) (hl : ps.length ≤ 16777216)
    (h14 : 14 < ρ.length) (he : ∀ f, Ev (e (ρ.set 14 (some (dF f))) M) (fun d M1 => d = .lst (ps.map dP) ∧ M1 = M) Ex0) :
    compL (yName 14) (asB (fBin (gIn false) (fTup (fCons (fBin gIx (fVar 14) (fC (.int 1))) (fCons (fBin gIx (fVar 14) (fC (.int 2))) fNil))) e)) (fVar 14) ρ (fs.map dF) M = some ((com fs ps).map dF, M) :=
  compL_map dF (inP ps) dF fs fun f h => ⟨_, rfl, by
    have g1 : (ρ.set 14 (some (dF f)))[14]? = some (some (dF f)) := List.getElem?_set_self h14
    have e1 := he f
    simp only [ev_asB, ev_fBin, ev_fTup, ev_fCons, ev_fVar, ev_fC, ev_fNil, g1, Option.some.injEq, exists_eq_left']
    simp only [dF, ix_t1, ix_t2] at e1 ⊢
    refine ⟨by simp, e1.go ?_⟩
    rintro d M1 ⟨rfl, rfl⟩
    rw [gIn_pair (hf f h) hp hl]
    simp, fun _ => by
    have g1 : (ρ.set 14 (some (dF f)))[14]? = some (some (dF f)) := List.getElem?_set_self h14
    simp [g1]⟩
@[simp] theorem isN_dO (o : Option Nat) {M : Mem} : gIsN (dO o) .non M = some (.ok (.bl o.isNone), M) := by cases o <;> rfl
theorem answer2_ev {a b n : Int} {ls : List Line} {sk : List Skill} (hL : ∀ l ∈ ls, GL l) (hS : ∀ s ∈ sk, GS s) (h1 : ls.length ≤ 20) (h2 : sk.length ≤ 20) {M : Mem} :
    pureOp φ__law_answer [dM a b ls, .int n, .lst (sk.map dS)] M = some (.ok (dM n 1 (ans sk ls).2), M) := by
  refine pure_eq (ev_def ?_) ?_ (pure_M _ _ _)
  · show Sv (g__law_answer [some (dM a b ls), some (.int n), some (.lst (sk.map dS)), none, none, none, none, none, none, none, none, none, none, none, none] []) _
    simp [g__law_answer, dM]
    refine sv_forM dL (fun i ρ M1 => i ≤ ls.length ∧ ∃ x5 x6 x7 x8 x9 x10 x11 x12 x13 x14, ρ = [some (dM a b ls), some (.int n), some (.lst (sk.map dS)), some (.cell 0), some (.cell 1), x5, x6, x7, x8, x9, x10, x11, x12, x13, x14] ∧ M1 = [some (.lst (dIs (ans sk (ls.take i)).1)), some (.lst ((ans sk (ls.take i)).2.map dL))]) ls ⟨by omega, none, none, none, none, none, none, none, none, none, none, rfl, rfl⟩ ?_ ?_
    · rintro i l ρ M1 hi ⟨hi0, x5, x6, x7, x8, x9, x10, x11, x12, x13, x14, rfl, rfl⟩
      have hl := hL l (List.mem_of_getElem? hi)
      rw [ans_succ hi]
      generalize hst : ans sk (ls.take i) = st at *
      obtain ⟨us, out⟩ := st
      have hlu : us.length ≤ i ∧ out.length ≤ i := by
        have := ans_len sk ls i hi0
        rwa [hst] at this
      have hi1 : i + 1 ≤ ls.length := (List.getElem?_eq_some_iff.mp hi).1
      have hs2 : (sk.length : Int) ≤ 16777216 := by omega
      refine ⟨[some (dM a b ls), some (.int n), some (.lst (sk.map dS)), some (.cell 0), some (.cell 1), some (.str l.1), some (.int l.2.1), some (.lst (l.2.2.1.map dF)), some (.str l.2.2.2), x9, x10, x11, x12, x13, x14], rfl, ?_⟩
      simp
      refine ⟨hs2, sv_forR (fun j ρ M1 => ∃ x10 x11 x14, ρ = [some (dM a b ls), some (.int n), some (.lst (sk.map dS)), some (.cell 0), some (.cell 1), some (.str l.1), some (.int l.2.1), some (.lst (l.2.2.1.map dF)), some (.str l.2.2.2), some (dO ((List.range j).find? (pr sk us l))), x10, x11, x12, x13, x14] ∧ M1 = [some (.lst (dIs us)), some (.lst (out.map dL))]) ⟨x10, x11, x14, rfl, rfl⟩ ?_ ?_⟩
      · rintro j ρ M1 hj ⟨x10, x11, x14, rfl, rfl⟩
        rw [Int.zero_add]
        refine ⟨[some (dM a b ls), some (.int n), some (.lst (sk.map dS)), some (.cell 0), some (.cell 1), some (.str l.1), some (.int l.2.1), some (.lst (l.2.2.1.map dF)), some (.str l.2.2.2), some (dO ((List.range j).find? (pr sk us l))), some (.int (j : Int)), x11, x12, x13, x14], rfl, ?_⟩
        have hs := hS _ (List.getElem_mem hj)
        have hsm : (sk[j].2.2.1).length ≤ 16777216 := Nat.le_trans hs.sm (by decide)
        have hc := shared_ev (o := 0) (M := [some (.lst (dIs us)), some (.lst (out.map dL))]) (ρ := [some (dM a b ls), some (.int n), some (.lst (sk.map dS)), some (.cell 0), some (.cell 1), some (.str l.1), some (.int l.2.1), some (.lst (l.2.2.1.map dF)), some (.str l.2.2.2), some (dO ((List.range j).find? (pr sk us l))), some (.int (j : Int)), x11, x12, x13, none]) (e := fBin gIx (fBin gIx (fVar 2) (fVar 10)) (fC (.int 2))) (fun f hf => (hl.fs f hf).nm) hs.ps hsm (by simp) (fun f => by simp [List.getElem?_eq_getElem hj, dS])
        have e3 : pr sk us l j = (!decide (j ∈ us) && decide (sk[j].1 = l.1) && decide (0 < (com l.2.2.1 sk[j].2.2.1).length) && decide (0 < l.2.1)) := by
          simp [pr, p1, p2, List.getElem?_eq_getElem hj]
        rw [find_succ (α := Nat)]
        have hcl : (¬ com l.2.2.1 sk[j].2.2.1 = []) ↔ 0 < (com l.2.2.1 sk[j].2.2.1).length := by rw [List.length_pos_iff]
        cases ho : (List.range j).find? (pr sk us l) with
        | some k0 =>
          rw [ho] at hc
          simp [wipeE, hc]
        | none =>
          rw [ho] at hc
          simp [wipeE, hc, gIn_us, List.getElem?_eq_getElem hj, dS, e3]
          generalize com l.2.2.1 sk[j].2.2.1 = cs
          cases cs <;> by_cases q1 : j ∈ us <;> by_cases q2 : sk[j].1 = l.1 <;> rcases Int.lt_or_le 0 l.2.1 with q4 | q4 <;> simp [q1, q2, q4, dO, Int.not_lt.mpr, Int.not_le.mpr]
      · rintro ρ M1 ⟨x10, x11, x14, rfl, rfl⟩
        rw [← cho_eq]
        cases hc : cho sk us l with
        | none =>
          have e3 : stp sk (us, out) l = (us, out ++ [((l.1, (0 : Int), l.2.2.1.take 1, ("none" : Str)) : Line)]) := by
            unfold stp
            rw [hc]
          simp [e3, cut_1, List.map_take, dL, dO]
          omega
        | some k =>
          have hk : k < sk.length := by
            have h0 := hc
            rw [cho_eq] at h0
            simpa using List.mem_of_find?_eq_some h0
          have e3 : stp sk (us, out) l = (us ++ [k], out ++ [((l.1, sk[k].2.1, com l.2.2.1 sk[k].2.2.1, awy l.2.2.2 sk[k].2.2.2) : Line)]) := by
            unfold stp
            rw [hc]
            simp [List.getElem?_eq_getElem hk]
          have hs := hS _ (List.getElem_mem hk)
          have hsm : (sk[k].2.2.1).length ≤ 16777216 := Nat.le_trans hs.sm (by decide)
          have hc2 := fun M x11 => shared_ev (o := 0) (M := M) (ρ := [some (dM a b ls), some (.int n), some (.lst (sk.map dS)), some (.cell 0), some (.cell 1), some (.str l.1), some (.int l.2.1), some (.lst (l.2.2.1.map dF)), some (.str l.2.2.2), some (.int (k : Int)), x10, x11, x12, x13, none]) (e := fBin gIx (fBin gIx (fVar 2) (fVar 9)) (fC (.int 2))) (fun f hf => (hl.fs f hf).nm) hs.ps hsm (by simp) (fun f => by simp [List.getElem?_eq_getElem hk, dS])
          simp [e3, wipeE, hc2, dO, List.getElem?_eq_getElem hk, dS, dL, parts_ev, lway_ev]
          refine ⟨by omega, ?_⟩
          unfold awy
          cases sends sk[k].2.2.2 <;> cases gets sk[k].2.2.2 <;> cases sends l.2.2.2 <;> cases gets l.2.2.2 <;> simp <;> omega
    · rintro ρ M1 ⟨_, x5, x6, x7, x8, x9, x10, x11, x12, x13, x14, rfl, rfl⟩
      simp [dM]
  · show ((dM a b ls).pure && (true && (pureL (sk.map dS) && true))) = true
    rw [pure_M, pureL_map pure_S]; rfl
end K11

namespace K11
open PySem PySem.Spec PyProof.Rows L2 DL
/-! ### what an answer keeps -/
structure Fit (l a : Line) : Prop where
  good : GL a
  kd : a.1 = l.1
  pt : a.2.1 = 0 ∨ (0 < a.2.1 ∧ 0 < l.2.1 ∧ (∀ f ∈ a.2.2.1, f ∈ l.2.2.1) ∧ (sends a.2.2.2 = true → gets l.2.2.2 = true) ∧ (gets a.2.2.2 = true → sends l.2.2.2 = true))
theorem stp_fit {sk : List Skill} {st : List Nat × List Line} {l : Line} (hl : GL l) (hS : ∀ s ∈ sk, GS s) : ∃ a, (stp sk st l).2 = st.2 ++ [a] ∧ Fit l a := by
  have h0 : Fit l ((l.1, (0 : Int), l.2.2.1.take 1, ("none" : Str)) : Line) := by
    refine ⟨⟨hl.kd, by simp, (by show (0 : Int) < 65536; decide), fun f hf => hl.fs f (List.mem_of_mem_take hf), ?_, ?_, ?_, (by show ("none" : Str) ∈ ways; decide +kernel)⟩, rfl, .inl rfl⟩
    · have := hl.ne
      cases h : l.2.2.1 with
      | nil => exact absurd h this
      | cons f fs => simp
    · simp; omega
    · simp only [List.map_take]
      exact hl.nd.sublist (List.take_sublist _ _)
  unfold stp
  cases hc : cho sk st.1 l with
  | none => exact ⟨_, rfl, h0⟩
  | some k =>
    rw [cho_eq] at hc
    have hk : k < sk.length := by simpa using List.mem_of_find?_eq_some hc
    have hp := List.find?_some hc
    simp only [pr, p1, p2, List.getElem?_eq_getElem hk, Bool.and_eq_true, decide_eq_true_eq] at hp
    simp only [List.getElem?_eq_getElem hk]
    have hs := hS _ (List.getElem_mem hk)
    have hsub : (com l.2.2.1 sk[k].2.2.1).Sublist l.2.2.1 := List.filter_sublist
    refine ⟨_, rfl, ⟨hl.kd, Int.le_of_lt hs.p0, hs.p1, fun f hf => hl.fs f (hsub.subset hf), fun z => ?_, Nat.le_trans hsub.length_le hl.sm, hl.nd.sublist (hsub.map _), awy_ways _ _⟩, rfl, .inr ⟨hs.p0, hp.2, fun f hf => hsub.subset hf, fun z => ?_, fun z => ?_⟩⟩
    · have := hp.1.2
      rw [show com l.2.2.1 sk[k].2.2.1 = [] from z] at this
      simp at this
    · rw [awy_sends] at z
      exact (Bool.and_eq_true _ _ ▸ z).1
    · rw [awy_gets] at z
      exact (Bool.and_eq_true _ _ ▸ z).1
theorem ans_fit {sk : List Skill} {ls : List Line} (hL : ∀ l ∈ ls, GL l) (hS : ∀ s ∈ sk, GS s) : ∀ n, n ≤ ls.length → (ans sk (ls.take n)).2.length = n ∧ ∀ (i : Nat) l, i < n → ls[i]? = some l → ∃ a, (ans sk (ls.take n)).2[i]? = some a ∧ Fit l a
  | 0, _ => by simp [ans]
  | n + 1, h => by
    obtain ⟨h1, h2⟩ := ans_fit hL hS n (by omega)
    have hn : n < ls.length := by omega
    rw [ans_succ (List.getElem?_eq_getElem hn)]
    obtain ⟨a, e, hf⟩ := stp_fit (st := ans sk (ls.take n)) (hL _ (List.getElem_mem hn)) hS
    rw [e]
    refine ⟨by simp [h1], fun i l hi hl => ?_⟩
    by_cases q : i < n
    · obtain ⟨a', e1, e2⟩ := h2 i l q hl
      exact ⟨a', by rw [List.getElem?_append_left (by omega)]; exact e1, e2⟩
    · have : i = n := by omega
      subst this
      rw [List.getElem?_eq_getElem hn] at hl
      cases hl
      exact ⟨a, by rw [List.getElem?_append_right (by omega), h1]; simp, hf⟩
theorem ans_all {sk : List Skill} {ls : List Line} (hL : ∀ l ∈ ls, GL l) (hS : ∀ s ∈ sk, GS s) : (ans sk ls).2.length = ls.length ∧ ∀ (i : Nat) l, ls[i]? = some l → ∃ a, (ans sk ls).2[i]? = some a ∧ Fit l a := by
  have h := ans_fit hL hS ls.length (Nat.le_refl _)
  rw [List.take_length] at h
  exact ⟨h.1, fun i l e => h.2 i l (List.getElem?_eq_some_iff.mp e).1 e⟩
/-! ### faults -/
def inF (fs : List Form) (f : Form) : Bool := (fs.map dF).any fun z => eqD z (dF f)
theorem inF_mem {fs : List Form} {f : Form} (hn : f.2.1 ∈ names) (h : f ∈ fs) : inF fs f = true := by
  unfold inF
  rw [List.any_eq_true]
  exact ⟨dF f, List.mem_map.mpr ⟨f, h, rfl⟩, eqD_refl (okD_flat 1 64 _ (by decide) (ok_F hn 0))⟩
def lf (o t : Line) : Bool := decide (o.1 = t.1) && (decide (t.2.1 = 0) || (!decide (o.2.1 = 0) && (t.2.2.1.all (inF o.2.2.1) && (!(sends t.2.2.2 && !gets o.2.2.2) && (sends o.2.2.2 || !gets t.2.2.2)))))
theorem fit_lf {l a : Line} (h : Fit l a) : lf l a = true := by
  unfold lf
  rw [h.kd]
  simp only [decide_true, Bool.true_and]
  rcases h.pt with h0 | ⟨h1, h2, h3, h4, h5⟩
  · simp [h0]
  · have e1 : a.2.2.1.all (inF l.2.2.1) = true := List.all_eq_true.mpr fun f hf => inF_mem (h.good.fs f hf).nm (h3 f hf)
    have e2 : decide (l.2.1 = 0) = false := decide_eq_false (by omega)
    rw [e1, e2]
    cases q1 : sends a.2.2.2 <;> cases q2 : gets a.2.2.2 <;> simp_all
theorem forms_in {o t : List Form} {ρ : DL.Env} {M : Mem} {j : Nat} {e : Fn D} (ho : ∀ f ∈ o, f.2.1 ∈ names) (ht : ∀ f ∈ t, f.2.1 ∈ names) (hl : o.length ≤ 16777216) (hj : j < ρ.length)
    (he : ∀ f, Ev (e (ρ.set j (some (dF f))) M) (fun d M1 => d = .lst (o.map dF) ∧ M1 = M) Ex0) : compL (yName j) fYes (fBin (gIn false) (fVar j) e) ρ (t.map dF) M = some (t.map fun f => .bl (inF o f), M) :=
  compL_all dF _ t fun f hf => ⟨_, rfl, ⟨rfl, rfl⟩, by
    have g1 : (ρ.set j (some (dF f)))[j]? = some (some (dF f)) := List.getElem?_set_self hj
    simp only [ev_fBin, ev_fVar, g1, Option.some.injEq, exists_eq_left']
    refine (he f).go ?_
    rintro d M1 ⟨rfl, rfl⟩
    rw [show dF f = .tup [.int f.1, .str f.2.1, .int f.2.2] from rfl, gIn_deep (okD_flat 1 64 _ (by decide) (ok_F (ht f hf) 0)) (flat_fs ho hl)]
    exact ⟨rfl, rfl⟩⟩
theorem fits_ev {o t : Line} (ho : GL o) (ht : GL t) {M : Mem} : pureOp φ_line_fits [dL o, dL t] M = some (.ok (.bl (lf o t)), M) := by
  refine pure_eq (ev_def ?_) ?_ rfl
  · show Sv (g_line_fits [some (dL o), some (dL t), none, none, none] []) _
    have hc := fun s : Str => forms_in (j := 4) (ρ := [some (.tup [.str s, .int o.2.1, .lst (o.2.2.1.map dF), .str o.2.2.2]), some (dL t), none, none, none]) (M := []) (o := o.2.2.1) (t := t.2.2.1) (e := fBin gIx (fVar 0) (fC (.int 2))) (fun f hf => (ho.fs f hf).nm) (fun f hf => (ht.fs f hf).nm) (Nat.le_trans ho.sm (by decide)) (by simp) (fun f => by simp [dL])
    simp only [dL] at hc
    have v1 : ∀ v : Str, decide (v = "both" ∨ v = "send") = sends v := fun _ => rfl
    have v2 : ∀ v : Str, decide (v = "both" ∨ v = "get") = gets v := fun _ => rfl
    unfold lf
    by_cases q1 : o.1 = t.1 <;> by_cases q2 : t.2.1 = 0 <;> by_cases q3 : o.2.1 = 0 <;> cases q4 : t.2.2.1.all (inF o.2.2.1) <;> simp [g_line_fits, dL, wipeE, hc, gAll_map, q1, q2, q3, q4, -Bool.decide_or, v1, v2]
    all_goals (cases sends t.2.2.2 <;> cases gets t.2.2.2 <;> cases sends o.2.2.2 <;> cases gets o.2.2.2 <;> simp)
  · show ((dL o).pure && ((dL t).pure && true)) = true
    rw [pure_L, pure_L]; rfl
end K11

namespace K11
open PySem PySem.Spec PyProof.Rows L2 DL
def misfit (ls ms : List Line) (k : Nat) : Bool := match ls[k]?, ms[k]? with
  | some o, some t => !lf o t
  | _, _ => false
def fa (ls ms : List Line) : D := if ls.length = ms.length then dO ((List.range ls.length).find? (misfit ls ms)) else .int (-1)
theorem find_at {p : Nat → Bool} {n j : Nat} (h : ∀ i, i < j → p i = false) (hj : j < n) (pj : p j = true) : (List.range n).find? p = some j := by
  rw [List.find?_range_eq_some]
  exact ⟨pj, List.mem_range.mpr hj, fun i hi => by simp [h i hi]⟩
theorem find_no {p : Nat → Bool} {n : Nat} (h : ∀ i, i < n → p i = false) : (List.range n).find? p = none := by
  rw [List.find?_eq_none]
  intro i hi
  simp [h i (List.mem_range.mp hi)]
theorem fa_pure (ls ms : List Line) : (fa ls ms).pure = true := by
  unfold fa
  split
  · cases (List.range ls.length).find? (misfit ls ms) <;> rfl
  · rfl
theorem pure_2M (a b c d : Int) (ls ms : List Line) : pureL [dM a b ls, dM c d ms] = true := by
  show ((dM a b ls).pure && ((dM c d ms).pure && true)) = true
  rw [pure_M, pure_M]; rfl
theorem fault_ev {a b c d : Int} {ls ms : List Line} (hL : ∀ l ∈ ls, GL l) (hM : ∀ l ∈ ms, GL l) (h1 : ls.length ≤ 20) {M : Mem} : pureOp φ_fault_of [dM a b ls, dM c d ms] M = some (.ok (fa ls ms), M) := by
  refine pure_eq (ev_def ?_) (pure_2M _ _ _ _ _ _) (fa_pure _ _)
  show Sv (g_fault_of [some (dM a b ls), some (dM c d ms), none] []) _
  unfold fa
  by_cases hlen : ls.length = ms.length
  · rw [if_pos hlen]
    have hs2 : (ls.length : Int) ≤ 16777216 := by omega
    simp [g_fault_of, dM, ← hlen, hs2]
    refine sv_forR (fun j ρ M1 => (∀ i, i < j → misfit ls ms i = false) ∧ M1 = [] ∧ ∃ x, ρ = [some (dM a b ls), some (dM c d ms), x]) ⟨by simp, rfl, none, rfl⟩ ?_ ?_
    · rintro j ρ M1 hj ⟨hi, rfl, x, rfl⟩
      have hj' : j < ms.length := by omega
      rw [Int.zero_add]
      refine ⟨[some (dM a b ls), some (dM c d ms), some (.int (j : Int))], rfl, ?_⟩
      have e := fits_ev (hL _ (List.getElem_mem hj)) (hM _ (List.getElem_mem hj')) (M := [])
      cases q : lf ls[j] ms[j] with
      | true =>
        rw [q] at e
        simp [dM, List.getElem?_eq_getElem hj, List.getElem?_eq_getElem hj', e]
        intro i hij
        by_cases q2 : i < j
        · exact hi i q2
        · have : i = j := by omega
          subst this
          simp [misfit, List.getElem?_eq_getElem hj, List.getElem?_eq_getElem hj', q]
      | false =>
        rw [q] at e
        have : (List.range ls.length).find? (misfit ls ms) = some j := find_at hi hj (by simp [misfit, List.getElem?_eq_getElem hj, List.getElem?_eq_getElem hj', q])
        simp [dM, List.getElem?_eq_getElem hj, List.getElem?_eq_getElem hj', e, this, dO]
    · rintro ρ M1 ⟨hi, rfl, x, rfl⟩
      simp [find_no hi, dO]
  · rw [if_neg hlen]
    have hlen' : ¬ (ls.length : Int) = ms.length := by omega
    simp [g_fault_of, dM, hlen']
theorem fault2_ev {a b c d : Int} {ls ms : List Line} (hL : ∀ l ∈ ls, GL l) (hM : ∀ l ∈ ms, GL l) (h1 : ls.length ≤ 20) {M : Mem} : pureOp φ__law_fault [dM a b ls, dM c d ms] M = some (.ok (fa ls ms), M) := by
  refine pure_eq (ev_def ?_) (pure_2M _ _ _ _ _ _) (fa_pure _ _)
  show Sv (g__law_fault [some (dM a b ls), some (dM c d ms), none, none, none, none, none, none, none] []) _
  unfold fa
  by_cases hlen : ls.length = ms.length
  · rw [if_pos hlen]
    have hs2 : (ls.length : Int) ≤ 16777216 := by omega
    simp [g__law_fault, dM, ← hlen, hs2]
    refine sv_forR (fun j ρ M1 => (∀ i, i < j → misfit ls ms i = false) ∧ M1 = [] ∧ ∃ x2 x3 x4 x5 x6 x7 x8, ρ = [some (dM a b ls), some (dM c d ms), x2, x3, x4, x5, x6, x7, x8]) ⟨by simp, rfl, none, none, none, none, none, none, none, rfl⟩ ?_ ?_
    · rintro j ρ M1 hj ⟨hi, rfl, x2, x3, x4, x5, x6, x7, x8, rfl⟩
      have hj' : j < ms.length := by omega
      rw [Int.zero_add]
      refine ⟨[some (dM a b ls), some (dM c d ms), some (.int (j : Int)), x3, x4, x5, x6, x7, x8], rfl, ?_⟩
      have ho := hL _ (List.getElem_mem hj)
      have ht := hM _ (List.getElem_mem hj')
      have hn : lf ls[j] ms[j] = true → ∀ i, i < j + 1 → misfit ls ms i = false := fun q i hij => by
        by_cases q2 : i < j
        · exact hi i q2
        · have : i = j := by omega
          subst this
          simp [misfit, List.getElem?_eq_getElem hj, List.getElem?_eq_getElem hj', q]
      have hy : lf ls[j] ms[j] = false → (List.range ls.length).find? (misfit ls ms) = some j := fun q => find_at hi hj (by simp [misfit, List.getElem?_eq_getElem hj, List.getElem?_eq_getElem hj', q])
      have e1 : ls[j]? = some ls[j] := List.getElem?_eq_getElem hj
      have e2 : ms[j]? = some ms[j] := List.getElem?_eq_getElem hj'
      generalize ls[j] = o at *
      generalize ms[j] = t at *
      have hc := fun (s : Str) x5 x6 x7 => forms_in (j := 8) (ρ := [some (.tup [.int a, .int b, .lst (ls.map dL)]), some (.tup [.int c, .int d, .lst (ms.map dL)]), some (.int (j : Int)), some (.tup [.str s, .int o.2.1, .lst (o.2.2.1.map dF), .str o.2.2.2]), some (dL t), x5, x6, x7, none]) (M := []) (o := o.2.2.1) (t := t.2.2.1) (e := fBin gIx (fVar 3) (fC (.int 2))) (fun f hf => (ho.fs f hf).nm) (fun f hf => (ht.fs f hf).nm) (Nat.le_trans ho.sm (by decide)) (by simp) (fun f => by simp)
      simp only [dL] at hc
      have p0 := ht.p0
      have p0' := ho.p0
      have q2' : decide (t.2.1 = 0) = !decide (0 < t.2.1) := by rw [Bool.eq_iff_iff]; simp; omega
      have q3' : decide (o.2.1 = 0) = !decide (0 < o.2.1) := by rw [Bool.eq_iff_iff]; simp; omega
      simp only [lf, q2', q3'] at hn hy
      by_cases q2 : 0 < t.2.1
      · have w2 : decide (0 < t.2.1) = true := decide_eq_true q2
        rw [w2] at hn hy
        by_cases q1 : o.1 = t.1
        · have w1 : decide (o.1 = t.1) = true := decide_eq_true q1
          rw [w1] at hn hy
          by_cases q3 : 0 < o.2.1
          · have w3 : decide (0 < o.2.1) = true := decide_eq_true q3
            rw [w3] at hn hy
            cases q4 : t.2.2.1.all (inF o.2.2.1)
            · rw [q4] at hn hy
              simp [dM, wipeE, e1, e2, dL, hc, parts_ev, gAll_map, w1, w2, w3, q4]
              rw [hy (by simp)]; rfl
            · rw [q4] at hn hy
              simp [dM, wipeE, e1, e2, dL, hc, parts_ev, gAll_map, w1, w2, w3, q4]
              generalize (List.range ls.length).find? (misfit ls ms) = fo at hy ⊢
              revert hn hy
              cases gets o.2.2.2 <;> cases sends t.2.2.2 <;> cases sends o.2.2.2 <;> cases gets t.2.2.2 <;> simp <;> intro h <;> first | exact h | (rw [h]; rfl)
          · have w3 : decide (0 < o.2.1) = false := decide_eq_false q3
            rw [w3] at hn hy
            simp [dM, wipeE, e1, e2, dL, hc, parts_ev, gAll_map, w1, w2, w3]
            rw [hy (by simp)]; rfl
        · have w1 : decide (o.1 = t.1) = false := decide_eq_false q1
          rw [w1] at hn hy
          simp [dM, wipeE, e1, e2, dL, hc, parts_ev, gAll_map, w1, w2]
          rw [hy (by simp)]; rfl
      · have w2 : decide (0 < t.2.1) = false := decide_eq_false q2
        rw [w2] at hn hy
        by_cases q1 : o.1 = t.1
        · have w1 : decide (o.1 = t.1) = true := decide_eq_true q1
          rw [w1] at hn hy
          simp [dM, wipeE, e1, e2, dL, hc, parts_ev, gAll_map, w1, w2]
          exact hn (by simp)
        · have w1 : decide (o.1 = t.1) = false := decide_eq_false q1
          rw [w1] at hn hy
          simp [dM, wipeE, e1, e2, dL, hc, parts_ev, gAll_map, w1, w2]
          rw [hy (by simp)]; rfl
    · rintro ρ M1 ⟨hi, rfl, x2, x3, x4, x5, x6, x7, x8, rfl⟩
      simp [find_no hi, dO]
  · rw [if_neg hlen]
    have hlen' : ¬ (ls.length : Int) = ms.length := by omega
    simp [g__law_fault, dM, hlen']
end K11

namespace K11
open PySem PySem.Spec PyProof.Rows L2 DL
/-! ### flows -/
def f0 (a : Line) : D := match a.2.2.1 with
  | f :: _ => dF f
  | [] => .non
def fl (asks : Bool) (l a : Line) : D := if a.2.1 = 0 ∨ l.2.1 = 0 then .non else if asks = true then .tup [f0 a, .bl (gets a.2.2.2), .bl (sends a.2.2.2)] else .tup [f0 a, .bl (sends a.2.2.2), .bl (gets a.2.2.2)]
theorem f0_pure (a : Line) : (f0 a).pure = true := by
  unfold f0
  split <;> rfl
theorem fl_pure (b : Bool) (l a : Line) : (fl b l a).pure = true := by
  unfold fl
  split
  · rfl
  · split
    · show ((f0 a).pure && (true && (true && true))) = true
      rw [f0_pure]; rfl
    · show ((f0 a).pure && (true && (true && true))) = true
      rw [f0_pure]; rfl
def fls (asks : Bool) (ls as_ : List Line) : List D := (ls.zip as_).map fun z => fl asks z.1 z.2
theorem flows_ev {a b c d : Int} {ls ms : List Line} {asks : Bool} (hM : ∀ l ∈ ms, GL l) (h1 : ls.length ≤ 20) {M : Mem} : pureOp φ_flows [dM a b ls, dM c d ms, .bl asks] M = some (.ok (.lst (fls asks ls ms)), M) := by
  refine pure_eq (ev_def ?_) ?_ ?_
  · show Sv (g_flows [some (dM a b ls), some (dM c d ms), some (.bl asks), none, none, none, none] []) _
    simp [g_flows, dM]
    have hz : (List.map dL ls).zip (List.map dL ms) = (ls.zip ms).map fun z => (dL z.1, dL z.2) := by
      rw [List.zip_map]; rfl
    rw [hz, List.map_map]
    refine sv_forM (fun z : Line × Line => .tup [dL z.1, dL z.2]) (fun i ρ M1 => i ≤ (ls.zip ms).length ∧ ∃ x4 x5 x6, ρ = [some (dM a b ls), some (dM c d ms), some (.bl asks), some (.cell 0), x4, x5, x6] ∧ M1 = [some (.lst (((ls.zip ms).take i).map fun z => fl asks z.1 z.2))]) (ls.zip ms) ⟨by omega, none, none, none, rfl, rfl⟩ ?_ ?_
    · rintro i ⟨l, t⟩ ρ M1 hi ⟨hi0, x4, x5, x6, rfl, rfl⟩
      have hi1 := (List.getElem?_eq_some_iff.mp hi).1
      have hil : i < min ls.length ms.length := by rwa [List.length_zip] at hi1
      have hzl : (ls.zip ms).length ≤ 20 := by rw [List.length_zip]; omega
      have ht := hM t (List.of_mem_zip (List.mem_of_getElem? hi)).2
      refine ⟨[some (dM a b ls), some (dM c d ms), some (.bl asks), some (.cell 0), some (dL l), some (dL t), x6], rfl, ?_⟩
      rw [List.take_add_one, hi]
      simp only [List.map_append, Option.toList, List.map_cons, List.map_nil]
      generalize hacc : ((ls.zip ms).take i).map (fun z => fl asks z.1 z.2) = acc
      have hal : acc.length ≤ 20 := by rw [← hacc]; simp; omega
      obtain ⟨f, fs, hf⟩ : ∃ f fs, t.2.2.1 = f :: fs := by
        cases h : t.2.2.1 with
        | nil => exact absurd h ht.ne
        | cons f fs => exact ⟨f, fs, rfl⟩
      have v1 : ∀ v : Str, decide (v = "both" ∨ v = "send") = sends v := fun _ => rfl
      have v2 : ∀ v : Str, decide (v = "both" ∨ v = "get") = gets v := fun _ => rfl
      obtain ⟨u, h1, h2, h3⟩ := turn_ok _ ht.wy
      have hal2 : acc.length < 16777216 := by omega
      have e0 : f0 t = dF f := by unfold f0; rw [hf]
      by_cases q1 : t.2.1 = 0
      · simp [fl, dL, q1, hal2]; omega
      · by_cases q2 : l.2.1 = 0
        · simp [fl, dL, q1, q2, hal2]; omega
        · cases asks <;> simp [fl, dL, q1, q2, hal2, hf, h1, -Bool.decide_or, v1, v2, h2, h3, e0] <;> omega
    · rintro ρ M1 ⟨_, x4, x5, x6, rfl, rfl⟩
      rw [List.take_length]
      simp [fls]
  · show ((dM a b ls).pure && ((dM c d ms).pure && (true && true))) = true
    rw [pure_M, pure_M]; rfl
  · exact pureL_map (fun z : Line × Line => fl_pure asks z.1 z.2) _
end K11

namespace K11
open PySem PySem.Spec PyProof.Rows L2 DL
/-! ### the drawn inputs -/
theorem Up.push {i : Nat} {M : Mem} (h : Dr M i) (x : Option Cell) : Up i M (M ++ [x]) := by
  have hi := h.lt
  obtain ⟨ns, a, h1, h2, h3⟩ := h
  exact ⟨⟨ns, a, h1, h2, by rw [List.getElem?_append_left hi]; exact h3⟩, by simp, fun j hj _ => List.getElem?_append_left hj⟩
theorem Up.set {i c : Nat} {M0 M : Mem} (u : Up i M0 M) (hc : M0.length ≤ c) (hi : c ≠ i) (x : Option Cell) : Up i M0 (M.set c x) := by
  obtain ⟨ns, a, h1, h2, h3⟩ := u.dr
  exact ⟨⟨ns, a, h1, h2, by rw [List.getElem?_set_ne hi]; exact h3⟩, by rw [List.length_set]; exact u.len, fun j hj hn => by rw [List.getElem?_set_ne (by omega)]; exact u.kp j hj hn⟩
theorem mem_names {d : D} (h : d ∈ [D.str "pcm", D.str "ulaw", D.str "opus", D.str "h26"]) : ∃ s, d = .str s ∧ s ∈ names := by
  simp only [List.mem_cons, List.not_mem_nil, or_false] at h
  rcases h with rfl | rfl | rfl | rfl
  · exact ⟨_, rfl, by decide +kernel⟩
  · exact ⟨_, rfl, by decide +kernel⟩
  · exact ⟨_, rfl, by decide +kernel⟩
  · exact ⟨_, rfl, by decide +kernel⟩
theorem mem_ways {d : D} (h : d ∈ [D.str "both", D.str "send", D.str "get", D.str "none"]) : ∃ s, d = .str s ∧ s ∈ ways := by
  simp only [List.mem_cons, List.not_mem_nil, or_false] at h
  rcases h with rfl | rfl | rfl | rfl
  · exact ⟨_, rfl, by decide +kernel⟩
  · exact ⟨_, rfl, by decide +kernel⟩
  · exact ⟨_, rfl, by decide +kernel⟩
  · exact ⟨_, rfl, by decide +kernel⟩
theorem mem_ways5 {d : D} (h : d ∈ [D.str "both", D.str "both", D.str "send", D.str "get", D.str "none"]) : ∃ s, d = .str s ∧ s ∈ ways := by
  refine mem_ways ?_
  simp only [List.mem_cons, List.not_mem_nil, or_false] at h ⊢
  rcases h with h | h | h | h | h <;> simp [h]
theorem mem_kinds3 {d : D} (h : d ∈ [D.str "audio", D.str "audio", D.str "video"]) : ∃ s, d = .str s ∧ s ∈ kinds := by
  simp only [List.mem_cons, List.not_mem_nil, or_false] at h
  rcases h with rfl | rfl | rfl
  · exact ⟨_, rfl, by decide +kernel⟩
  · exact ⟨_, rfl, by decide +kernel⟩
  · exact ⟨_, rfl, by decide +kernel⟩
theorem mem_rates {d : D} (h : d ∈ [D.int 8000, D.int 48000]) : ∃ r, d = .int r ∧ 1 ≤ r ∧ r < 1000000 := by
  simp only [List.mem_cons, List.not_mem_nil, or_false] at h
  rcases h with rfl | rfl <;> exact ⟨_, rfl, by decide, by decide⟩
theorem mem_ports {d : D} (h : d ∈ [D.int 0, D.int 4000, D.int 65535, D.int 700]) : ∃ r, d = .int r ∧ 0 ≤ r ∧ r < 65536 := by
  simp only [List.mem_cons, List.not_mem_nil, or_false] at h
  rcases h with rfl | rfl | rfl | rfl <;> exact ⟨_, rfl, by decide, by decide⟩
/-- forms as drawn: the k-th bears a number that ends with k -/
def Fms (fs : List Form) : Prop := fs.length ≤ 3 ∧ ∀ (j : Nat) f, fs[j]? = some f → GF f ∧ ∃ z : Int, 0 ≤ z ∧ z < 3 ∧ f.1 = j + 10 * z
theorem Fms.inj {fs : List Form} (h : Fms fs) {j k : Nat} {f g : Form} (hj : fs[j]? = some f) (hk : fs[k]? = some g) (e : f.1 = g.1) : j = k := by
  obtain ⟨_, z, _, _, e1⟩ := h.2 j f hj
  obtain ⟨_, y, _, _, e2⟩ := h.2 k g hk
  have := (List.getElem?_eq_some_iff.mp hj).1
  have := (List.getElem?_eq_some_iff.mp hk).1
  have := h.1
  omega
theorem Fms.nodup {fs : List Form} (h : Fms fs) : (fs.map (·.1)).Nodup := by
  refine List.pairwise_iff_getElem.mpr fun j k hj hk hjk e => ?_
  rw [List.getElem_map, List.getElem_map] at e
  rw [List.length_map] at hj hk
  have := h.inj (List.getElem?_eq_getElem hj) (List.getElem?_eq_getElem hk) e
  omega
abbrev tForm : Fn (List D) := fCons (fTup (fCons (fBin gAdd (fVar 4) (fBin gMulI (fC (.int 10)) (fCall φ_next (fCons (fVar 0) (fCons (fC (.int 3)) fNil))))) (fCons (fCall φ_pick (fCons (fVar 0) (fCons (fLst (fCons (fC (.str "pcm")) (fCons (fC (.str "ulaw")) (fCons (fC (.str "opus")) (fCons (fC (.str "h26")) fNil))))) fNil))) (fCons (fCall φ_pick (fCons (fVar 0) (fCons (fLst (fCons (fC (.int 8000)) (fCons (fC (.int 48000)) fNil))) fNil))) fNil)))) fNil
theorem bMul10 (i : Int) : bMul 10 i = true := by unfold bMul; exact decide_eq_true (.inl (by decide))
/-- one form is drawn -/
theorem form_drawn {i m : Nat} {M : Mem} {x1 x2 x3 x5 x6 x7 : Option D} {Q : D → Mem → Prop} (h : Dr M i) (hm : m < 3) (Qf : List D → Mem → Prop)
    (q : ∀ (f : Form) M', GF f → (∃ z : Int, 0 ≤ z ∧ z < 3 ∧ f.1 = m + 10 * z) → Up i M M' → M'.length = M.length → Qf [dF f] M') : Ev (tForm [some (.cell i), x1, x2, x3, some (.int (m : Int)), x5, x6, x7] M) Qf Ex0 := by
  simp only [tForm, ev_fCons, ev_fTup, ev_fBin, ev_fVar, ev_fC, ev_fCall, ev_fNil, ev_fLst, List.getElem?_cons_zero, List.getElem?_cons_succ, Option.some.injEq, exists_eq_left']
  refine (next_ev (E := Ex0) h (b := 3) (by decide)).go ?_
  rintro d M1 ⟨z, rfl, z0, z1, u1, l1⟩
  simp only [intOpC_int, bMul10, if_true, ev_some, gAdd_int]
  refine ⟨by simp, (pick_ev (E := Ex0) u1.dr (by simp)).go ?_⟩
  rintro d M2 ⟨hd, u2, l2⟩
  obtain ⟨s, rfl, hs⟩ := mem_names hd
  refine ⟨by simp, (pick_ev (E := Ex0) u2.dr (by simp)).go ?_⟩
  rintro d M3 ⟨hd, u3, l3⟩
  obtain ⟨r, rfl, r1, r2⟩ := mem_rates hd
  refine ⟨by simp, q ((m : Int) + 10 * z, s, r) M3 ⟨by show 0 ≤ (m : Int) + 10 * z; omega, by show (m : Int) + 10 * z < 128; omega, hs, r1, r2⟩ ⟨z, z0, z1, rfl⟩ ((u1.trans u2).trans u3) (by omega)⟩
/-- all numbers differ: every form is kept -/
theorem kept_all {fs : List Form} (h : Fms fs) {ρ : DL.Env} {M : Mem} {c : Nat} (hM : M[c]? = some (some (.lst (fs.map dF)))) (hρ : ∃ x0 x1 x2 x4 x5 x7, ρ = [x0, x1, x2, some (.cell c), x4, x5, none, x7]) :
    compL (yName 6) (asB (fBin (gIn true) (fBin gIx (fBin gIx (fVar 3) (fVar 6)) (fC (.int 0))) (fComp (wList (fSl (fVar 3) fNone (fPart (fVar 6)))) (yName 7) fYes (fBin gIx (fVar 7) (fC (.int 0))) [7]))) (fBin gIx (fVar 3) (fVar 6)) ρ (rangeD 0 fs.length) M = some (fs.map dF, M) := by
  obtain ⟨x0, x1, x2, x4, x5, x7, rfl⟩ := hρ
  rw [rangeD_map]
  have := compL_all (g := yName 6) (tt := asB (fBin (gIn true) (fBin gIx (fBin gIx (fVar 3) (fVar 6)) (fC (.int 0))) (fComp (wList (fSl (fVar 3) fNone (fPart (fVar 6)))) (yName 7) fYes (fBin gIx (fVar 7) (fC (.int 0))) [7]))) (fe := fBin gIx (fVar 3) (fVar 6)) (ρ := [x0, x1, x2, some (.cell c), x4, x5, none, x7]) (M := M) (fun k : Nat => D.int (k : Int)) (fun k => (fs.map dF).getD k .non) (List.range fs.length) fun k hk => ?_
  · rw [this]
    congr 2
    refine List.ext_getElem? fun k => ?_
    by_cases hk : k < fs.length
    · simp [hk]
    · simp [hk]
  · have hk : k < fs.length := by simpa using hk
    have e1 : (fs.map dF)[k]? = some (dF fs[k]) := by rw [List.getElem?_map, List.getElem?_eq_getElem hk]; rfl
    have hc := compL_all (g := yName 7) (tt := fYes) (fe := fBin gIx (fVar 7) (fC (.int 0))) (ρ := [x0, x1, x2, some (.cell c), x4, x5, some (.int (k : Int)), none]) (M := M) dF (fun f => .int f.1) (fs.take k) fun f hf => ⟨_, rfl, ⟨rfl, rfl⟩, by simp [dF]⟩
    have hd : ((fs.take k).map fun f : Form => D.int f.1) = ((fs.take k).map (·.1)).map D.int := by rw [List.map_map]; rfl
    have hn : ¬ fs[k].1 ∈ (fs.take k).map (·.1) := by
      intro z
      obtain ⟨f, hf, e⟩ := List.mem_map.mp z
      obtain ⟨j, hj⟩ := List.mem_iff_getElem?.mp hf
      have hjk : j < k := by
        have := (List.getElem?_eq_some_iff.mp hj).1
        rw [List.length_take] at this
        omega
      rw [List.getElem?_take_of_lt hjk] at hj
      have := h.inj hj (List.getElem?_eq_getElem hk) e
      omega
    refine ⟨_, rfl, ?_, ?_⟩
    · simp only [ev_asB, ev_fBin, ev_fVar, ev_fC, List.set, List.getElem?_cons_zero, List.getElem?_cons_succ, Option.some.injEq, exists_eq_left', ix_cN hM, e1]
      simp only [dF, ix_t0, ev_fComp, ev_wList, ev_fSl, ev_fVar, ev_fNone, ev_fPart, List.getElem?_cons_zero, List.getElem?_cons_succ, Option.some.injEq, exists_eq_left', D.int.injEq, gSl_cell hM, ev_some, cut_to, D.lst.injEq, wipeE, List.set]
      rw [← List.map_take, hc, cv_some, hd, gIn_ints_l, decide_eq_false hn]
      simp
    · simp only [ev_fBin, ev_fVar, List.set, List.getElem?_cons_zero, List.getElem?_cons_succ, Option.some.injEq, exists_eq_left', ix_cN hM, e1]
      simp [hk]
/-- the state of the drawing: the draws at i, lines at c -/
structure Dl (i c : Nat) (M0 M : Mem) (ls : List Line) : Prop where
  up : Up i M0 M
  c0 : M0.length ≤ c
  c1 : c < M.length
  ci : c ≠ i
  at_ : M[c]? = some (some (.lst (ls.map dL)))
  gd : ∀ l ∈ ls, GL l
theorem Dl.go {i c : Nat} {M0 M M' : Mem} {ls : List Line} (d : Dl i c M0 M ls) (u : Up i M M') : Dl i c M0 M' ls :=
  ⟨d.up.trans u, d.c0, Nat.lt_of_lt_of_le d.c1 u.len, d.ci, by rw [u.kp _ d.c1 d.ci]; exact d.at_, d.gd⟩
theorem Dl.other {i c c' : Nat} {M0 M : Mem} {ls : List Line} (d : Dl i c M0 M ls) (h0 : M0.length ≤ c') (h1 : c' ≠ i) (h2 : c' ≠ c) (x : Option Cell) : Dl i c M0 (M.set c' x) ls :=
  ⟨Up.set d.up h0 h1 x, d.c0, by rw [List.length_set]; exact d.c1, d.ci, by rw [List.getElem?_set_ne h2]; exact d.at_, d.gd⟩
theorem Dl.add {i c : Nat} {M0 M : Mem} {ls : List Line} (d : Dl i c M0 M ls) {l : Line} (h : GL l) : Dl i c M0 (M.set c (some (.lst (ls.map dL ++ [dL l])))) (ls ++ [l]) :=
  ⟨Up.set d.up d.c0 d.ci _, d.c0, by rw [List.length_set]; exact d.c1, d.ci, by rw [List.getElem?_set_self d.c1]; simp, fun x hx => by
    rcases List.mem_append.mp hx with hx | hx
    · exact d.gd x hx
    · rw [List.mem_singleton.mp hx]; exact h⟩
theorem Fms.add {fs : List Form} {f : Form} (h : Fms fs) (hl : fs.length < 3) (hf : GF f) (hz : ∃ z : Int, 0 ≤ z ∧ z < 3 ∧ f.1 = (fs.length : Int) + 10 * z) : Fms (fs ++ [f]) := by
  refine ⟨by simp; omega, fun j g hg => ?_⟩
  by_cases q : j < fs.length
  · rw [List.getElem?_append_left q] at hg
    exact h.2 j g hg
  · have hj := (List.getElem?_eq_some_iff.mp hg).1
    simp at hj
    have e : j = fs.length := by omega
    subst e
    rw [List.getElem?_append_right (Nat.le_refl _)] at hg
    simp at hg
    subst hg
    exact ⟨hf, hz⟩
theorem media_ev {M : Mem} {i : Nat} (h : Dr M i) : Ev (φ__law_media [.cell i] M) (fun d M' => ∃ a b ls, d = dM a b ls ∧ (0 ≤ a ∧ a < 9) ∧ (0 ≤ b ∧ b < 9) ∧ (∀ l ∈ ls, GL l) ∧ ls.length ≤ 4 ∧ Up i M M') Ex0 := by
  have hi := h.lt
  refine ev_def ?_
  show Sv (g__law_media [some (.cell i), none, none, none, none, none, none, none] M) _
  unfold g__law_media
  rw [next_is, pick_is, sv_seq, sv_asgN]
  simp only [ev_fLstC, ev_fNil, List.length_nil, Nat.zero_le, true_and, List.set]
  rw [sv_seq, sv_for]
  simp only [ev_wRange1, ev_fCons, ev_fCall, ev_fVar, ev_fC, ev_fNil, List.getElem?_cons_zero, Option.some.injEq, exists_eq_left']
  have u0 := Up.push h (some (.lst []))
  refine (next_ev (E := Ex0) u0.dr (b := 4) (by decide)).go ?_
  rintro d M1 ⟨z, rfl, z0, z1, u1, l1⟩
  refine ⟨z, rfl, by omega, ?_⟩
  have d1 : Dl i M.length M M1 [] := ⟨u0.trans u1, Nat.le_refl _, by rw [l1]; simp, by omega, by rw [u1.kp _ (by simp) (by omega)]; simp, by simp⟩
  have hzn : z.toNat ≤ 4 := by omega
  refine sv_forR (fun n ρ Mc => ∃ ls x2 x3 x4 x5 x6 x7, ρ = [some (.cell i), some (.cell M.length), x2, x3, x4, x5, x6, x7] ∧ Dl i M.length M Mc ls ∧ ls.length = n) ⟨[], none, none, none, none, none, none, rfl, d1, rfl⟩ ?_ ?_
  · rintro n ρ Mc hn ⟨ls, x2, x3, x4, x5, x6, x7, rfl, dl, hls⟩
    rw [Int.zero_add]
    refine ⟨[some (.cell i), some (.cell M.length), some (.int (n : Int)), x3, x4, x5, x6, x7], rfl, ?_⟩
    have hc1 := dl.c1
    have hul := dl.up.len
    have e3i : Mc.length ≠ i := by omega
    have e3c : Mc.length ≠ M.length := by omega
    rw [sv_seq, sv_asgN]
    simp only [ev_fLstC, ev_fNil, List.length_nil, Nat.zero_le, true_and, List.set]
    rw [sv_seq, sv_for]
    simp only [ev_wRange1, ev_fCons, ev_fCall, ev_fBin, ev_fVar, ev_fC, ev_fNil, List.getElem?_cons_zero, Option.some.injEq, exists_eq_left']
    have u1 := Up.push dl.up.dr (some (.lst []))
    refine (next_ev (E := Ex0) u1.dr (b := 3) (by decide)).go ?_
    rintro d M2 ⟨y, rfl, y0, y1, u2, l2⟩
    simp only [gAdd_int, ev_some]
    refine ⟨1 + y, rfl, by omega, ?_⟩
    have dl2 := dl.go (u1.trans u2)
    have hc3 : Mc.length < M2.length := by rw [l2]; simp
    have at3 : M2[Mc.length]? = some (some (.lst (([] : List Form).map dF))) := by
      rw [u2.kp _ (by simp) e3i]; simp
    have hm3 : (1 + y).toNat ≤ 3 := by omega
    refine sv_forR (fun m ρ Mf => ∃ fs x4 x5 x6 x7, ρ = [some (.cell i), some (.cell M.length), some (.int (n : Int)), some (.cell Mc.length), x4, x5, x6, x7] ∧ Dl i M.length M Mf ls ∧ Mc.length < Mf.length ∧ Mf[Mc.length]? = some (some (.lst (fs.map dF))) ∧ Fms fs ∧ fs.length = m) ⟨[], x4, x5, x6, x7, rfl, dl2, hc3, at3, ⟨by simp, fun j f e => by simp at e⟩, rfl⟩ ?_ ?_
    · rintro m ρ Mf hm ⟨fs, x4, x5, x6, x7, rfl, df, hcf, atf, hfs, hfl⟩
      rw [Int.zero_add]
      refine ⟨[some (.cell i), some (.cell M.length), some (.int (n : Int)), some (.cell Mc.length), some (.int (m : Int)), x5, x6, x7], rfl, ?_⟩
      rw [sv_expr, ev_fBM]
      simp only [ev_fVar, List.getElem?_cons_zero, List.getElem?_cons_succ, Option.some.injEq, exists_eq_left']
      refine ⟨isTy_cellL atf, form_drawn (Q := fun _ _ => True) df.up.dr (by omega) _ ?_⟩
      intro f M' hf hz u hl
      have at' : M'[Mc.length]? = some (some (.lst (fs.map dF))) := by rw [u.kp _ hcf e3i]; exact atf
      rw [gAppend_cell at']
      refine ⟨by simp; omega, fs ++ [f], _, _, _, _, rfl, (df.go u).other (by omega) e3i e3c _, by rw [List.length_set]; omega, ?_, hfs.add (by omega) hf (by rw [hfl]; exact hz), by simp [hfl]⟩
      rw [List.getElem?_set_self (by omega)]
      simp
    · rintro ρ Mf ⟨fs, x4, x5, x6, x7, rfl, df, hcf, atf, hfs, hfl⟩
      have hk := kept_all hfs (M := Mf) (ρ := [some (.cell i), some (.cell M.length), some (.int (n : Int)), some (.cell Mc.length), x4, x5, none, x7]) atf ⟨_, _, _, _, _, _, rfl⟩
      show Sv (sSeq _ _ _ Mf) _
      rw [sv_seq, sv_asgN]
      simp only [ev_fComp, ev_wRange1, ev_fCons, ev_fCall, ev_fVar, ev_fNil, List.getElem?_cons_zero, List.getElem?_cons_succ, Option.some.injEq, exists_eq_left', gLen_cellL atf, ev_some, List.length_map, wipeE, List.set]
      refine ⟨_, rfl, by omega, ?_⟩
      rw [Int.toNat_natCast, hk, cv_some, sv_expr, ev_fBM]
      simp only [ev_fVar, ev_fCons, ev_fTup, ev_fCall, ev_fLst, ev_fC, ev_fNil, List.getElem?_cons_zero, List.getElem?_cons_succ, Option.some.injEq, exists_eq_left']
      refine ⟨isTy_cellL df.at_, by simp, (pick_ev (E := Ex0) df.up.dr (by simp)).go ?_⟩
      rintro d M3 ⟨hd, u3, l3⟩
      obtain ⟨kd, rfl, hkd⟩ := mem_kinds3 hd
      refine ⟨by simp, (pick_ev (E := Ex0) u3.dr (by simp)).go ?_⟩
      rintro d M4 ⟨hd, u4, l4⟩
      obtain ⟨pt, rfl, hp0, hp1⟩ := mem_ports hd
      refine ⟨by simp, (pick_ev (E := Ex0) u4.dr (by simp)).go ?_⟩
      rintro d M5 ⟨hd, u5, l5⟩
      obtain ⟨wy, rfl, hwy⟩ := mem_ways hd
      refine ⟨by simp, ?_⟩
      have df5 := df.go ((u3.trans u4).trans u5)
      rw [gAppend_cell df5.at_]
      have hfn : fs ≠ [] := fun z => by rw [z] at hfl; simp at hfl; omega
      have hgl : GL (kd, pt, fs, wy) := ⟨hkd, hp0, hp1, fun f hf => by
        obtain ⟨j, hj⟩ := List.mem_iff_getElem?.mp hf
        exact (hfs.2 j f hj).1, hfn, by show fs.length ≤ 40; have := hfs.1; omega, hfs.nodup, hwy⟩
      exact ⟨by simp; omega, ls ++ [(kd, pt, fs, wy)], _, _, _, _, _, _, rfl, df5.add hgl, by simp [hls]⟩
  · rintro ρ Mc ⟨ls, x2, x3, x4, x5, x6, x7, rfl, dl, hls⟩
    show Sv (sRet (fTup (fCons (fCall φ_next (fCons (fVar 0) (fCons (fC (.int 9)) fNil))) (fCons (fCall φ_next (fCons (fVar 0) (fCons (fC (.int 9)) fNil))) (fCons (fFrz (fVar 1)) fNil)))) _ Mc) _
    simp only [sv_ret, ev_fTup, ev_fCons, ev_fCall, ev_fVar, ev_fC, ev_fNil, List.getElem?_cons_zero, List.getElem?_cons_succ, Option.some.injEq, exists_eq_left', ev_fFrz]
    refine (next_ev (E := Ex0) dl.up.dr (b := 9) (by decide)).go ?_
    rintro d M2 ⟨a, rfl, a0, a1, u2, l2⟩
    refine (next_ev (E := Ex0) u2.dr (b := 9) (by decide)).go ?_
    rintro d M3 ⟨b, rfl, b0, b1, u3, l3⟩
    have e3 : M3[M.length]? = some (some (.lst (ls.map dL))) := by
      rw [u3.kp _ (by have := dl.c1; omega) dl.ci, u2.kp _ dl.c1 dl.ci]
      exact dl.at_
    refine ⟨M.length, rfl, .inl ⟨_, e3, by simp, a, b, ls, rfl, ⟨a0, a1⟩, ⟨b0, b1⟩, dl.gd, by omega, ?_⟩⟩
    exact Up.set ((dl.up.trans u2).trans u3) (Nat.le_refl _) dl.ci none
end K11

namespace K11
open PySem PySem.Spec PyProof.Rows L2 DL
structure Dk (i c : Nat) (M0 M : Mem) (sk : List Skill) : Prop where
  up : Up i M0 M
  c0 : M0.length ≤ c
  c1 : c < M.length
  ci : c ≠ i
  at_ : M[c]? = some (some (.lst (sk.map dS)))
  gd : ∀ s ∈ sk, GS s
theorem Dk.go {i c : Nat} {M0 M M' : Mem} {sk : List Skill} (d : Dk i c M0 M sk) (u : Up i M M') : Dk i c M0 M' sk :=
  ⟨d.up.trans u, d.c0, Nat.lt_of_lt_of_le d.c1 u.len, d.ci, by rw [u.kp _ d.c1 d.ci]; exact d.at_, d.gd⟩
theorem Dk.add {i c : Nat} {M0 M : Mem} {sk : List Skill} (d : Dk i c M0 M sk) {s : Skill} (h : GS s) : Dk i c M0 (M.set c (some (.lst (sk.map dS ++ [dS s])))) (sk ++ [s]) :=
  ⟨Up.set d.up d.c0 d.ci _, d.c0, by rw [List.length_set]; exact d.c1, d.ci, by rw [List.getElem?_set_self d.c1]; simp, fun x hx => by
    rcases List.mem_append.mp hx with hx | hx
    · exact d.gd x hx
    · rw [List.mem_singleton.mp hx]; exact h⟩
theorem skills_ev {M : Mem} {i : Nat} (h : Dr M i) : Ev (φ__law_skills [.cell i] M) (fun d M' => ∃ sk : List Skill, d = .lst (sk.map dS) ∧ (∀ s ∈ sk, GS s) ∧ sk.length ≤ 4 ∧ Up i M M') Ex0 := by
  have hi := h.lt
  refine ev_def ?_
  show Sv (g__law_skills [some (.cell i), none, none, none, none] M) _
  unfold g__law_skills
  rw [next_is, pick_is, sv_seq, sv_asgN]
  simp only [ev_fLstC, ev_fNil, List.length_nil, Nat.zero_le, true_and, List.set]
  rw [sv_seq, sv_for]
  simp only [ev_wRange1, ev_fCons, ev_fCall, ev_fVar, ev_fC, ev_fNil, List.getElem?_cons_zero, Option.some.injEq, exists_eq_left']
  have u0 := Up.push h (some (.lst []))
  refine (next_ev (E := Ex0) u0.dr (b := 4) (by decide)).go ?_
  rintro d M1 ⟨z, rfl, z0, z1, u1, l1⟩
  refine ⟨z, rfl, by omega, ?_⟩
  have d1 : Dk i M.length M M1 [] := ⟨u0.trans u1, Nat.le_refl _, by rw [l1]; simp, by omega, by rw [u1.kp _ (by simp) (by omega)]; simp, by simp⟩
  have hzn : z.toNat ≤ 4 := by omega
  refine sv_forR (fun n ρ Mc => ∃ sk x2 x3 x4, ρ = [some (.cell i), some (.cell M.length), x2, x3, x4] ∧ Dk i M.length M Mc sk ∧ sk.length = n) ⟨[], none, none, none, rfl, d1, rfl⟩ ?_ ?_
  · rintro n ρ Mc hn ⟨sk, x2, x3, x4, rfl, dk, hsk⟩
    rw [Int.zero_add]
    refine ⟨[some (.cell i), some (.cell M.length), some (.int (n : Int)), x3, x4], rfl, ?_⟩
    rw [sv_seq, sv_asgN]
    simp only [ev_fComp, ev_wRange1, ev_fCons, ev_fCall, ev_fBin, ev_fVar, ev_fC, ev_fNil, List.getElem?_cons_zero, Option.some.injEq, exists_eq_left']
    refine (next_ev (E := Ex0) dk.up.dr (b := 4) (by decide)).go ?_
    rintro d M2 ⟨y, rfl, y0, y1, u2, l2⟩
    simp only [gAdd_int, ev_some]
    refine ⟨1 + y, rfl, by omega, ?_⟩
    have dk2 := dk.go u2
    simp only [wipeE, List.set]
    refine cv_inv (fun m acc M' => ∃ ps : List Pair, acc = ps.map dP ∧ (∀ p ∈ ps, p.1 ∈ names) ∧ ps.length = m ∧ Up i M2 M') ⟨[], rfl, by simp, rfl, Up.refl dk2.up.dr⟩ ?_ ?_
    · rintro m x acc M' hx ⟨ps, rfl, hps, hpl, u⟩
      refine ⟨_, rfl, ?_⟩
      simp only [ev_fYes, true_implies, Bool.true_eq_false, false_implies, and_true]
      simp only [ev_fTup, ev_fCons, ev_fCall, ev_fVar, ev_fLst, ev_fC, ev_fNil, List.set, List.getElem?_cons_zero, Option.some.injEq, exists_eq_left']
      refine ⟨by simp, (pick_ev (E := Ex0) u.dr (by simp)).go ?_⟩
      rintro d M3 ⟨hd, u3, l3⟩
      obtain ⟨s, rfl, hs⟩ := mem_names hd
      refine ⟨by simp, (pick_ev (E := Ex0) u3.dr (by simp)).go ?_⟩
      rintro d M4 ⟨hd, u4, l4⟩
      obtain ⟨r, rfl, r1, r2⟩ := mem_rates hd
      refine ⟨by simp, ps ++ [(s, r)], by simp [dP], fun p hp => ?_, by simp [hpl], (u.trans u3).trans u4⟩
      rcases List.mem_append.mp hp with hp | hp
      · exact hps p hp
      · rw [List.mem_singleton.mp hp]; exact hs
    · rintro ys M3 ⟨ps, rfl, hps, hpl, u3⟩
      have dk3 := dk2.go u3
      have hpl2 : ps.length ≤ 4 := by
        rw [hpl]
        simp [rangeD]
        omega
      rw [sv_expr, ev_fBM]
      simp only [ev_fVar, ev_fCons, ev_fTup, ev_fCall, ev_fLst, ev_fC, ev_fNil, ev_fBin, List.getElem?_cons_zero, List.getElem?_cons_succ, Option.some.injEq, exists_eq_left']
      refine ⟨isTy_cellL dk3.at_, by simp, (pick_ev (E := Ex0) dk3.up.dr (by simp)).go ?_⟩
      rintro d M4 ⟨hd, u4, l4⟩
      obtain ⟨kd, rfl, hkd⟩ := mem_kinds3 hd
      simp only [gAdd_int, ev_some]
      refine ⟨by simp, (pick_ev (E := Ex0) u4.dr (by simp)).go ?_⟩
      rintro d M5 ⟨hd, u5, l5⟩
      obtain ⟨wy, rfl, hwy⟩ := mem_ways5 hd
      refine ⟨by simp, ?_⟩
      have dk5 := dk3.go (u4.trans u5)
      rw [gAppend_cell dk5.at_]
      have hgs : GS (kd, 5000 + (n : Int), ps, wy) := ⟨hkd, by show 0 < 5000 + (n : Int); omega, by show 5000 + (n : Int) < 65536; omega, hps, by show ps.length ≤ 40; omega, hwy⟩
      exact ⟨by simp; omega, sk ++ [(kd, 5000 + (n : Int), ps, wy)], _, _, _, rfl, dk5.add hgs, by simp [hsk]⟩
  · rintro ρ Mc ⟨sk, x2, x3, x4, rfl, dk, hsk⟩
    show Sv (sRet (fFrz (fVar 1)) _ Mc) _
    simp only [sv_ret, ev_fVar, List.getElem?_cons_zero, List.getElem?_cons_succ, Option.some.injEq, exists_eq_left', ev_fFrz]
    refine ⟨M.length, rfl, .inl ⟨_, dk.at_, sk, rfl, dk.gd, by omega, ?_⟩⟩
    exact Up.set dk.up (Nat.le_refl _) dk.ci none
end K11

namespace K11
open PySem PySem.Spec PyProof.Rows L2 DL
/-! ### the third paper -/
def g_bend : Sn := (sSeq (sAsg (fCall φ__law_next (fCons (fVar 1) (fCons (fCall gLen (fCons (fBin gIx (fVar 6) (fC (.int 2))) fNil)) fNil))) (yName 15))
  (sSeq (sAsg (fCall gListC (fCons (fBin gIx (fBin gIx (fVar 6) (fC (.int 2))) (fVar 15)) fNil)) (yName 10))
  (sSeq (sAsg (fCall φ__law_next (fCons (fVar 1) (fCons (fC (.int 4)) fNil))) (yName 16))
  (sSeq (sSet (fVar 10) (fVar 16) (fCall φ__law_pick (fCons (fVar 1) (fCons (fBin gIx (fLst (fCons (fLst (fCons (fC (.str "audio")) (fCons (fC (.str "video")) fNil))) (fCons (fLst (fCons (fC (.int 0)) (fCons (fC (.int 4000)) fNil))) (fCons (fLst (fCons (fBin gIx (fBin gIx (fBin gIx (fVar 3) (fC (.int 2))) (fVar 15)) (fC (.int 2))) (fCons (fLst (fCons (fTup (fCons (fC (.int 99)) (fCons (fC (.str "pcm")) (fCons (fC (.int 8000)) fNil)))) fNil)) (fCons (fSl (fBin gIx (fBin gIx (fBin gIx (fVar 3) (fC (.int 2))) (fVar 15)) (fC (.int 2))) fNone (fPart (fC (.int 1)))) fNil)))) (fCons (fLst (fCons (fC (.str "both")) (fCons (fC (.str "send")) (fCons (fC (.str "get")) (fCons (fC (.str "none")) fNil))))) fNil))))) (fVar 16)) fNil))))
  (sAsg (fTup (fCons (fC (.int 1)) (fCons (fC (.int 1)) (fCons (fBin gAdd (fBin gAdd (fSl (fBin gIx (fVar 6) (fC (.int 2))) fNone (fPart (fVar 15))) (fLst (fCons (fCall gTuple (fCons (fVar 10) fNil)) fNil))) (fSl (fBin gIx (fVar 6) (fC (.int 2))) (fPart (fBin gAdd (fVar 15) (fC (.int 1)))) fNone)) fNil)))) (yName 14))))))
theorem GL.fs1 {l : Line} (h : GL l) : GL (l.1, l.2.1, l.2.2.1.take 1, l.2.2.2) := by
  refine ⟨h.kd, h.p0, h.p1, fun f hf => h.fs f (List.mem_of_mem_take hf), ?_, ?_, ?_, h.wy⟩
  · have := h.ne
    cases e : l.2.2.1 with
    | nil => exact absurd e this
    | cons f fs => simp
  · simp; omega
  · simp only [List.map_take]
    exact h.nd.sublist (List.take_sublist _ _)
theorem dl_set0 (l : Line) (s : Str) : ([D.str l.1, .int l.2.1, .lst (l.2.2.1.map dF), .str l.2.2.2].set 0 (.str s)) = [.str s, .int l.2.1, .lst (l.2.2.1.map dF), .str l.2.2.2] := rfl
/-- one part of the line t exchanged -/
theorem bent_ok {t l : Line} (ht : GL t) (hl : GL l) {m : Nat} (hm : m < 4) {x d : D}
    (hx : [D.lst [.str "audio", .str "video"], .lst [.int 0, .int 4000], .lst [.lst (l.2.2.1.map dF), .lst [.tup [.int 99, .str "pcm", .int 8000]], .lst ((l.2.2.1.map dF).take 1)], .lst [.str "both", .str "send", .str "get", .str "none"]][m]? = some x)
    : ∃ xs, x = .lst xs ∧ xs ≠ [] ∧ ∀ d ∈ xs, ∃ t', GL t' ∧ ([D.str t.1, .int t.2.1, .lst (t.2.2.1.map dF), .str t.2.2.2].set m d) = [.str t'.1, .int t'.2.1, .lst (t'.2.2.1.map dF), .str t'.2.2.2] := by
  have gk : ∀ s ∈ kinds, GL (s, t.2.1, t.2.2.1, t.2.2.2) := fun s hs => ⟨hs, ht.p0, ht.p1, ht.fs, ht.ne, ht.sm, ht.nd, ht.wy⟩
  have gp : ∀ p : Int, 0 ≤ p → p < 65536 → GL (t.1, p, t.2.2.1, t.2.2.2) := fun p h1 h2 => ⟨ht.kd, h1, h2, ht.fs, ht.ne, ht.sm, ht.nd, ht.wy⟩
  have gf : ∀ l' : Line, GL l' → GL (t.1, t.2.1, l'.2.2.1, t.2.2.2) := fun l' h => ⟨ht.kd, ht.p0, ht.p1, h.fs, h.ne, h.sm, h.nd, ht.wy⟩
  have gw : ∀ s ∈ ways, GL (t.1, t.2.1, t.2.2.1, s) := fun s hs => ⟨ht.kd, ht.p0, ht.p1, ht.fs, ht.ne, ht.sm, ht.nd, hs⟩
  match m, hm with
  | 0, _ =>
    cases hx
    refine ⟨_, rfl, by simp, fun d hd => ?_⟩
    simp only [List.mem_cons, List.not_mem_nil, or_false] at hd
    rcases hd with rfl | rfl
    · exact ⟨_, gk "audio" (by decide +kernel), rfl⟩
    · exact ⟨_, gk "video" (by decide +kernel), rfl⟩
  | 1, _ =>
    cases hx
    refine ⟨_, rfl, by simp, fun d hd => ?_⟩
    simp only [List.mem_cons, List.not_mem_nil, or_false] at hd
    rcases hd with rfl | rfl
    · exact ⟨_, gp 0 (by decide) (by decide), rfl⟩
    · exact ⟨_, gp 4000 (by decide) (by decide), rfl⟩
  | 2, _ =>
    cases hx
    refine ⟨_, rfl, by simp, fun d hd => ?_⟩
    simp only [List.mem_cons, List.not_mem_nil, or_false] at hd
    rcases hd with rfl | rfl | rfl
    · exact ⟨_, gf l hl, rfl⟩
    · refine ⟨_, gf (l.1, l.2.1, [((99 : Int), ("pcm" : Str), (8000 : Int))], l.2.2.2) ⟨hl.kd, hl.p0, hl.p1, fun f hf => ?_, by simp, by simp, by simp, hl.wy⟩, rfl⟩
      rw [List.mem_singleton.mp hf]
      exact ⟨by decide, by decide, by show ("pcm" : Str) ∈ names; decide +kernel, by decide, by decide⟩
    · refine ⟨_, gf _ hl.fs1, ?_⟩
      show [D.str t.1, .int t.2.1, .lst ((l.2.2.1.map dF).take 1), .str t.2.2.2] = [D.str t.1, .int t.2.1, .lst ((l.2.2.1.take 1).map dF), .str t.2.2.2]
      rw [List.map_take]
  | 3, _ =>
    cases hx
    refine ⟨_, rfl, by simp, fun d hd => ?_⟩
    obtain ⟨s, rfl, hs⟩ := mem_ways hd
    exact ⟨_, gw s hs, rfl⟩
theorem bend_ev {a b : Int} {ls as_ : List Line} {M : Mem} {P : Po} {e0 e2 e4 e5 e7 e8 e9 e10 e11 e12 e13 e14 e15 e16 : Option D} (hD : Dr M 1) (hL : ∀ l ∈ ls, GL l) (hA : ∀ l ∈ as_, GL l) (hla : as_.length = ls.length) (h0 : 0 < as_.length) (h20 : as_.length ≤ 4)
    (hP : ∀ (ms : List Line) M' x10 x15 x16, (∀ l ∈ ms, GL l) → ms.length ≤ 20 → Dr M' 1 → P.nx [e0, some (.cell 1), e2, some (dM a b ls), e4, e5, some (dM 7 1 as_), e7, e8, e9, x10, e11, e12, e13, some (dM 1 1 ms), x15, x16] M')
    : Sv (g_bend [e0, some (.cell 1), e2, some (dM a b ls), e4, e5, some (dM 7 1 as_), e7, e8, e9, e10, e11, e12, e13, e14, e15, e16] M) P := by
  unfold g_bend
  rw [next_is, pick_is, sv_seq, sv_asgN]
  simp only [ev_fCall, ev_fCons, ev_fBin, ev_fVar, ev_fC, ev_fNil, List.getElem?_cons_zero, List.getElem?_cons_succ, Option.some.injEq, exists_eq_left', dM, ix_t2, gLen_lst, ev_some, List.length_map]
  refine (next_ev hD (b := (as_.length : Int)) (by omega)).mono ?_ (fun _ _ z => z)
  rintro d M1 ⟨z, rfl, z0, z1, u1, l1⟩
  obtain ⟨k, rfl⟩ : ∃ k : Nat, z = (k : Int) := ⟨z.toNat, by omega⟩
  have hk : k < as_.length := by omega
  have hkl : k < ls.length := by omega
  have ea : (as_.map dL)[k]? = some (dL as_[k]) := by rw [List.getElem?_map, List.getElem?_eq_getElem hk]; rfl
  have el : (ls.map dL)[k]? = some (dL ls[k]) := by rw [List.getElem?_map, List.getElem?_eq_getElem hkl]; rfl
  have ht := hA _ (List.getElem_mem hk)
  have hl := hL _ (List.getElem_mem hkl)
  simp only [List.set, sv_seq, sv_asgN, ev_fCall, ev_fCons, ev_fBin, ev_fVar, ev_fC, ev_fNil, List.getElem?_cons_zero, List.getElem?_cons_succ, Option.some.injEq, exists_eq_left', ix_t2, ix_lN, ea, ev_some, dL, gListC_tup]
  have i1 := u1.dr.lt
  have u2 := Up.push u1.dr (some (.lst [.str as_[k].1, .int as_[k].2.1, .lst (as_[k].2.2.1.map dF), .str as_[k].2.2.2]))
  refine (next_ev u2.dr (b := 4) (by decide)).mono ?_ (fun _ _ z => z)
  rintro d M3 ⟨y, rfl, y0, y1, u3, l3⟩
  obtain ⟨m, rfl⟩ : ∃ m : Nat, y = (m : Int) := ⟨y.toNat, by omega⟩
  have hm : m < 4 := by omega
  have at3 : M3[M1.length]? = some (some (.lst [.str as_[k].1, .int as_[k].2.1, .lst (as_[k].2.2.1.map dF), .str as_[k].2.2.2])) := by
    rw [u3.kp _ (by simp) (by omega)]; simp
  simp only [List.set, sv_set, ev_fCall, ev_fCons, ev_fBin, ev_fVar, ev_fC, ev_fNil, ev_fLst, ev_fTup, ev_fSl, ev_fNone, ev_fPart, List.getElem?_cons_zero, List.getElem?_cons_succ, Option.some.injEq, exists_eq_left', ix_t2, ix_lN, el, ev_some, dL, D.int.injEq, gSl_lst, cut_1]
  obtain ⟨x, hx⟩ : ∃ x, [D.lst [.str "audio", .str "video"], .lst [.int 0, .int 4000], .lst [.lst (ls[k].2.2.1.map dF), .lst [.tup [.int 99, .str "pcm", .int 8000]], .lst ((ls[k].2.2.1.map dF).take 1)], .lst [.str "both", .str "send", .str "get", .str "none"]][m]? = some x := by
    refine ⟨_, List.getElem?_eq_getElem ?_⟩
    exact hm
  obtain ⟨xs, rfl, hxs, hb⟩ := bent_ok ht hl (d := .non) hm hx
  simp only [hx, Option.some.injEq, exists_eq_left']
  refine ⟨by simp, by simp, by simp, by simp, by simp, by simp, by simp, (pick_ev u3.dr hxs).mono ?_ (fun _ _ z => z)⟩
  rintro d M4 ⟨hd, u4, l4⟩
  obtain ⟨t', ht', hset⟩ := hb d hd
  have at4 : M4[M1.length]? = some (some (.lst [.str as_[k].1, .int as_[k].2.1, .lst (as_[k].2.2.1.map dF), .str as_[k].2.2.2])) := by
    rw [u4.kp _ (by rw [l3]; simp) (by omega)]; exact at3
  refine ⟨_, setC_lst at4 (by simpa using hm), ?_⟩
  rw [hset]
  have at5 : (M4.set M1.length (some (.lst [.str t'.1, .int t'.2.1, .lst (t'.2.2.1.map dF), .str t'.2.2.2])))[M1.length]? = some (some (.lst [.str t'.1, .int t'.2.1, .lst (t'.2.2.1.map dF), .str t'.2.2.2])) := List.getElem?_set_self (by rw [l4, l3]; simp)
  have u5 : Up 1 M1 (M4.set M1.length (some (.lst [.str t'.1, .int t'.2.1, .lst (t'.2.2.1.map dF), .str t'.2.2.2]))) := Up.set ((u2.trans u3).trans u4) (Nat.le_refl _) (by omega) _
  simp only [ev_fTup, ev_fCall, ev_fCons, ev_fBin, ev_fVar, ev_fC, ev_fNil, ev_fLst, ev_fSl, ev_fNone, ev_fPart, List.getElem?_cons_zero, List.getElem?_cons_succ, Option.some.injEq, exists_eq_left', ix_t2, ev_some, D.int.injEq, gSl_lst, gTuple_cell at5, ev_gAdd_lst, gAdd_int, cut_to]
  rw [show ((k : Int) + 1) = ((k + 1 : Nat) : Int) by omega, cut_from]
  have hms := hP (as_.take k ++ [t'] ++ as_.drop (k + 1)) (M4.set M1.length (some (.lst [.str t'.1, .int t'.2.1, .lst (t'.2.2.1.map dF), .str t'.2.2.2]))) (some (.cell M1.length)) (some (.int (k : Int))) (some (.int (m : Int))) (fun x hx => ?_) (by simp; omega) u5.dr
  · simp only [dM, List.map_append, List.map_take, List.map_drop, List.map_cons, List.map_nil, dL] at hms
    exact ⟨by simp, by simp; omega, by simp; omega, by simp, hms⟩
  · rcases List.mem_append.mp hx with hx | hx
    · rcases List.mem_append.mp hx with hx | hx
      · exact hA x (List.mem_of_mem_take hx)
      · rw [List.mem_singleton.mp hx]; exact ht'
    · exact hA x (List.mem_of_mem_drop hx)
end K11

namespace K11
open PySem PySem.Spec PyProof.Rows L2 DL
theorem fls_at {b : Bool} {ls as_ : List Line} {k : Nat} {l t : Line} (hl : ls[k]? = some l) (ht : as_[k]? = some t) : (fls b ls as_)[k]? = some (fl b l t) := by
  unfold fls
  rw [List.getElem?_map, (List.getElem?_zip_eq_some (z := (l, t))).mpr ⟨hl, ht⟩]; rfl
def due (b : Bool) (t : Line) : D := if t.2.1 = 0 then .non else if b = true then .tup [f0 t, .bl (gets t.2.2.2), .bl (sends t.2.2.2)] else .tup [f0 t, .bl (sends t.2.2.2), .bl (gets t.2.2.2)]
theorem fl_due {b : Bool} {l t : Line} (h : Fit l t) : fl b l t = due b t := by
  unfold fl due
  rcases h.pt with h0 | ⟨h1, h2, _⟩
  · rw [if_pos (.inl h0), if_pos h0]
  · have n1 : ¬ (t.2.1 = 0 ∨ l.2.1 = 0) := by omega
    have n2 : ¬ t.2.1 = 0 := by omega
    rw [if_neg n1, if_neg n2]
theorem f0_ok {t : Line} (h : GL t) : okD 1 (f0 t) = true := by
  unfold f0
  cases e : t.2.2.1 with
  | nil => exact absurd e h.ne
  | cons f fs => exact ok_F (h.fs f (by rw [e]; exact List.mem_cons_self)).nm 0
theorem due_ok {b : Bool} {t : Line} (h : GL t) : okD 2 (due b t) = true := by
  unfold due
  split
  · rfl
  · split
    · simp only [okD_tup, okL_cons, okL_nil, okD_bl, f0_ok h]; simp
    · simp only [okD_tup, okL_cons, okL_nil, okD_bl, f0_ok h]; simp
theorem fa_ok (ls ms : List Line) : okD 0 (fa ls ms) = true := by
  unfold fa
  split
  · cases (List.range ls.length).find? (misfit ls ms) <;> rfl
  · rfl
theorem both_ok {a b : Int} {ls : List Line} {sk : List Skill} (hL : ∀ l ∈ ls, GL l) (hS : ∀ s ∈ sk, GS s) (h1 : ls.length ≤ 4) (h2 : sk.length ≤ 4) : okD 6 (.lst [dM a b ls, .lst (sk.map dS)]) = true := by
  have e1 : okL 4 (sk.map dS) = true := okL_of fun d m => by
    obtain ⟨f, hf, rfl⟩ := List.mem_map.mp m
    exact ok_S (hS f hf) 1
  have e2 : okD 5 (dM a b ls) = true := ok_M hL (by omega) 0
  simp only [okD_lst, okL_cons, okL_nil, e1, e2, List.length_map]
  simp; omega
theorem same_p {n : Nat} {d : D} {M : Mem} (h : okD n d = true) (hn : n < 8) : pureOp (φ__law_same 8) [d, d] M = some (.ok (.bl true), M) := by
  rw [same_is]; exact same_pure h hn
theorem copy_p {n : Nat} {d : D} {M : Mem} (h : okD n d = true) (hn : n < 8) : pureOp (φ__law_copy 8) [d] M = some (.ok d, M) := by
  rw [copy_is]; exact copy_pure h hn
def g_cond : Sn := (sIf (fAnd (asB (fBin gGt (fCall gLen (fCons (fBin gIx (fVar 6) (fC (.int 2))) fNil)) (fC (.int 0)))) (asB (fBin gEq (fCall φ__law_next (fCons (fVar 1) (fCons (fC (.int 2)) fNil))) (fC (.int 0))))) g_bend sNext)
def g_fin : Sn := (sIf (fOr (fNot (asB (fCall (pureOp (φ__law_same 8)) (fCons (fCall (pureOp φ_fault_of) (fCons (fVar 3) (fCons (fVar 14) fNil))) (fCons (fCall (pureOp φ__law_fault) (fCons (fVar 3) (fCons (fVar 14) fNil))) fNil))))) (fNot (asB (fCall (pureOp (φ__law_same 8)) (fCons (fLst (fCons (fVar 3) (fCons (fVar 4) fNil))) (fCons (fVar 5) fNil)))))) (sRet (fC (.bl false))) sNext)
def g_turn (a_is_form : Addr) : Sn := (sSeq (sAsg (fCall φ__law_media (fCons (fVar 1) fNil)) (yName 3))
  (sSeq (sAsg (fCall φ__law_skills (fCons (fVar 1) fNil)) (yName 4))
  (sSeq (sAsg (fCall (pureOp (φ__law_copy 8)) (fCons (fLst (fCons (fVar 3) (fCons (fVar 4) fNil))) fNil)) (yName 5))
  (sSeq (sAsg (fCall (pureOp φ_answer_to) (fCons (fVar 3) (fCons (fC (.int 7)) (fCons (fVar 4) fNil)))) (yName 6))
  (sSeq (sIf (fOr (fNot (asB (fCall (pureOp (φ__law_same 8)) (fCons (fVar 6) (fCons (fCall (pureOp φ__law_answer) (fCons (fVar 3) (fCons (fC (.int 7)) (fCons (fVar 4) fNil)))) fNil))))) (fOr (asB (fBin gNotN (fCall (pureOp (φ_check_media a_is_form)) (fCons (fVar 6) fNil)) (fC .non))) (asB (fBin gNotN (fCall (pureOp φ_fault_of) (fCons (fVar 3) (fCons (fVar 6) fNil))) (fC .non))))) (sRet (fC (.bl false))) sNext)
  (sSeq (sPar 7 8 (fCons (fCall (pureOp φ_flows) (fCons (fVar 3) (fCons (fVar 6) (fCons (fC (.bl true)) fNil)))) (fCons (fCall (pureOp φ_flows) (fCons (fVar 3) (fCons (fVar 6) (fCons (fC (.bl false)) fNil)))) fNil)))
  (sSeq (sFor (wRange1 (fCons (fCall gLen (fCons (fBin gIx (fVar 6) (fC (.int 2))) fNil)) fNil)) (yName 9) (sSeq (sAsg (fBin gIx (fBin gIx (fVar 6) (fC (.int 2))) (fVar 9)) (yName 10))
  (sSeq (sAsg (fCall (pureOp φ__law_parts) (fCons (fBin gIx (fVar 10) (fC (.int 3))) fNil)) (yName 11))
  (sSeq (sAsg (fIf (asB (fBin gEq (fBin gIx (fVar 10) (fC (.int 1))) (fC (.int 0)))) (fC .non) (fTup (fCons (fBin gIx (fBin gIx (fVar 10) (fC (.int 2))) (fC (.int 0))) (fCons (fBin gIx (fVar 11) (fC (.int 0))) (fCons (fBin gIx (fVar 11) (fC (.int 1))) fNil))))) (yName 12))
  (sSeq (sAsg (fIf (asB (fBin gEq (fBin gIx (fVar 10) (fC (.int 1))) (fC (.int 0)))) (fC .non) (fTup (fCons (fBin gIx (fBin gIx (fVar 10) (fC (.int 2))) (fC (.int 0))) (fCons (fBin gIx (fVar 11) (fC (.int 1))) (fCons (fBin gIx (fVar 11) (fC (.int 0))) fNil))))) (yName 13))
  (sIf (fNot (asB (fCall (pureOp (φ__law_same 8)) (fCons (fLst (fCons (fBin gIx (fVar 7) (fVar 9)) (fCons (fBin gIx (fVar 8) (fVar 9)) fNil))) (fCons (fLst (fCons (fVar 13) (fCons (fVar 12) fNil))) fNil))))) (sRet (fC (.bl false))) sNext))))))
  (sSeq (sAsg (fCall φ__law_media (fCons (fVar 1) fNil)) (yName 14))
  (sSeq g_cond
  g_fin)))))))))
theorem g_law_eq (a_is_form : Addr) : g_law a_is_form = (sSeq (sAsg (fCall φ__law_draws (fCons (fVar 0) fNil)) (yName 1))
  (sSeq (sFor (wRange1 (fCons (fC (.int 8)) fNil)) (yName 2) (g_turn a_is_form))
  (sRet (fC (.bl true))))) := rfl
theorem ix_dM2 {a b : Int} {ls : List Line} {M : Mem} {Q : D → Mem → Prop} {E : Exn → Mem → Prop} : Ev (gIx (dM a b ls) (.int 2) M) Q E ↔ Q (.lst (ls.map dL)) M := ix_t2 _ _ _ _
theorem ix_dL1 {t : Line} {M : Mem} {Q : D → Mem → Prop} {E : Exn → Mem → Prop} : Ev (gIx (dL t) (.int 1) M) Q E ↔ Q (.int t.2.1) M := ix_t1 _ _ _
theorem ix_dL2 {t : Line} {M : Mem} {Q : D → Mem → Prop} {E : Exn → Mem → Prop} : Ev (gIx (dL t) (.int 2) M) Q E ↔ Q (.lst (t.2.2.1.map dF)) M := ix_t2 _ _ _ _
theorem ix_dL3 {t : Line} {M : Mem} {Q : D → Mem → Prop} {E : Exn → Mem → Prop} : Ev (gIx (dL t) (.int 3) M) Q E ↔ Q (.str t.2.2.2) M := ix_t3 _ _ _ _ _
theorem ix_f0 {t : Line} (h : GL t) {M : Mem} {Q : D → Mem → Prop} {E : Exn → Mem → Prop} : Ev (gIx (.lst (t.2.2.1.map dF)) (.int 0) M) Q E ↔ Q (f0 t) M := by
  unfold f0
  cases e : t.2.2.1 with
  | nil => exact absurd e h.ne
  | cons f fs => rw [List.map_cons, ix_l0]
theorem fin_ev {a b c d' : Int} {ls ms : List Line} {sk : List Skill} {M' : Mem} {e0 e2 e6 e7 e8 e9 e10 e11 e12 e13 e15 e16 : Option D} {P : Po} (hL : ∀ l ∈ ls, GL l) (h20 : ls.length ≤ 20) (eb : okD 6 (.lst [dM a b ls, .lst (sk.map dS)]) = true) (hms : ∀ l ∈ ms, GL l)
    (hP : P.nx [e0, some (.cell 1), e2, some (dM a b ls), some (.lst (sk.map dS)), some (.lst [dM a b ls, .lst (sk.map dS)]), e6, e7, e8, e9, e10, e11, e12, e13, some (dM c d' ms), e15, e16] M') :
    Sv (g_fin [e0, some (.cell 1), e2, some (dM a b ls), some (.lst (sk.map dS)), some (.lst [dM a b ls, .lst (sk.map dS)]), e6, e7, e8, e9, e10, e11, e12, e13, some (dM c d' ms), e15, e16] M') P := by
  unfold g_fin
  rw [sv_if]
  simp only [ev_fOr, ev_fNot, ev_asB, ev_fCall, ev_fCons, ev_fLst, ev_fVar, ev_fC, ev_fNil, List.getElem?_cons_zero, List.getElem?_cons_succ, Option.some.injEq, exists_eq_left', fault_ev (a := a) (b := b) (c := c) (d := d') hL hms h20, fault2_ev (a := a) (b := b) (c := c) (d := d') hL hms h20, same_p (fa_ok ls ms) (by decide), same_p eb (by decide), ev_some, D.bl.injEq, Bool.not_true, Bool.false_eq_true, false_implies, true_implies, true_and, sv_next, List.length_cons, List.length_nil]
  exact ⟨by decide, hP⟩
theorem cond_ev {a b c d' : Int} {ls as_ ms : List Line} {M : Mem} {P : Po} {e0 e2 e4 e5 e7 e8 e9 e10 e11 e12 e13 e15 e16 : Option D} (hD : Dr M 1) (hL : ∀ l ∈ ls, GL l) (hA : ∀ l ∈ as_, GL l) (hla : as_.length = ls.length) (h20 : as_.length ≤ 4) (hms : ∀ l ∈ ms, GL l) (hml : ms.length ≤ 20)
    (hP : ∀ (c d' : Int) (ms : List Line) M' x10 x15 x16, (∀ l ∈ ms, GL l) → ms.length ≤ 20 → Dr M' 1 → P.nx [e0, some (.cell 1), e2, some (dM a b ls), e4, e5, some (dM 7 1 as_), e7, e8, e9, x10, e11, e12, e13, some (dM c d' ms), x15, x16] M')
    : Sv (g_cond [e0, some (.cell 1), e2, some (dM a b ls), e4, e5, some (dM 7 1 as_), e7, e8, e9, e10, e11, e12, e13, some (dM c d' ms), e15, e16] M) P := by
  unfold g_cond
  rw [sv_if, next_is]
  simp only [ev_fAnd, ev_asB, ev_fBin, ev_fVar, ev_fC, ev_fCall, ev_fCons, ev_fNil, List.getElem?_cons_zero, List.getElem?_cons_succ, Option.some.injEq, exists_eq_left', ix_dM2, gLen_lst, ev_some, List.length_map, intCmp_int, D.bl.injEq]
  have no := hP c d' ms M e10 e15 e16 hms hml hD
  by_cases h0 : 0 < as_.length
  · have h0' : decide ((0 : Int) < (as_.length : Int)) = true := decide_eq_true (by omega)
    simp only [h0', exists_eq_left', true_implies, Bool.true_eq_false, false_implies, and_true]
    refine (next_ev hD (b := 2) (by decide)).mono ?_ (fun _ _ z => z)
    rintro d M1 ⟨z, rfl, z0, z1, u1, l1⟩
    simp only [gEq_int, ev_some, D.bl.injEq, exists_eq_left']
    have no1 := hP c d' ms M1 e10 e15 e16 hms hml u1.dr
    cases hz : decide (z = 0) with
    | true =>
      refine ⟨fun _ => bend_ev u1.dr hL hA hla h0 h20 fun ms M' x10 x15 x16 g1 g2 g3 => hP _ _ ms M' x10 x15 x16 g1 g2 g3, fun z => nomatch z⟩
    | false => exact ⟨fun z => (nomatch z), fun _ => no1⟩
  · have h0' : decide ((0 : Int) < (as_.length : Int)) = false := decide_eq_false (by omega)
    simp only [h0', exists_eq_left', Bool.false_eq_true, false_implies, true_implies, true_and]
    exact no
theorem law_ev {ff : Addr} {ns : List Int} (hns : ns.length ≤ 63) : Ev (φ_law ff [.lst (ns.map D.int)] []) (fun d _ => d = .bl true) Ex0 := by
  refine ev_def ?_
  show Sv (g_law ff [some (.lst (ns.map .int)), none, none, none, none, none, none, none, none, none, none, none, none, none, none, none, none] []) _
  rw [g_law_eq, draws_is, sv_seq, sv_asgN]
  simp only [ev_fCall, ev_fCons, ev_fVar, ev_fNil, List.getElem?_cons_zero, Option.some.injEq, exists_eq_left']
  refine (draws_ev (ns := ns) (M := []) (by omega)).mono ?_ (fun _ _ z => z)
  rintro d M1 ⟨rfl, _, hD⟩
  simp only [List.set, sv_seq, sv_for, ev_wRange1, ev_fCons, ev_fC, ev_fNil]
  refine ⟨8, rfl, by decide, ?_⟩
  refine sv_forR (fun n ρ Mc => Dr Mc 1 ∧ ∃ x2 x3 x4 x5 x6 x7 x8 x9 x10 x11 x12 x13 x14 x15 x16, ρ = [some (.lst (ns.map .int)), some (.cell 1), x2, x3, x4, x5, x6, x7, x8, x9, x10, x11, x12, x13, x14, x15, x16]) ⟨hD, none, none, none, none, none, none, none, none, none, none, none, none, none, none, none, rfl⟩ ?_ ?_
  · rintro n ρ Mc hn ⟨hD, x2, x3, x4, x5, x6, x7, x8, x9, x10, x11, x12, x13, x14, x15, x16, rfl⟩
    refine ⟨_, rfl, ?_⟩
    unfold g_turn
    simp only [List.set, sv_seq, sv_asgN, ev_fCall, ev_fCons, ev_fVar, ev_fNil, List.getElem?_cons_zero, List.getElem?_cons_succ, Option.some.injEq, exists_eq_left']
    refine (media_ev hD).mono ?_ (fun _ _ z => z)
    rintro d M2 ⟨a, b, ls, rfl, ha, hb, hL, hl4, u2⟩
    refine (skills_ev u2.dr).mono ?_ (fun _ _ z => z)
    rintro d M3 ⟨sk, rfl, hS, hs4, u3⟩
    have eb := both_ok (a := a) (b := b) hL hS hl4 hs4
    obtain ⟨hal, haf⟩ := ans_all hL hS
    have hA : ∀ t ∈ (ans sk ls).2, GL t := fun t ht => by
      obtain ⟨k, hk⟩ := List.mem_iff_getElem?.mp ht
      have hkl : k < ls.length := by rw [← hal]; exact (List.getElem?_eq_some_iff.mp hk).1
      obtain ⟨t', e, hf⟩ := haf k _ (List.getElem?_eq_getElem hkl)
      rw [hk] at e
      cases e
      exact hf.good
    have hfa : fa ls (ans sk ls).2 = .non := by
      unfold fa
      rw [if_pos hal.symm, find_no fun i hi => ?_]
      · rfl
      · obtain ⟨t', e, hf⟩ := haf i _ (List.getElem?_eq_getElem hi)
        simp [misfit, List.getElem?_eq_getElem hi, e, fit_lf hf]
    have ean : okD 5 (dM 7 1 (ans sk ls).2) = true := ok_M hA (by omega) 0
    simp only [List.set, sv_seq, sv_asgN, sv_if, sv_par, ev_fOr, ev_fNot, ev_asB, ev_fCall, ev_fCons, ev_fBin, ev_fLst, ev_fVar, ev_fC, ev_fNil, List.getElem?_cons_zero, List.getElem?_cons_succ, Option.some.injEq, exists_eq_left', List.length_cons, List.length_nil, copy_p eb (by decide), ev_some,
      answer_ev hL hS (show ls.length ≤ 20 by omega) (show sk.length ≤ 20 by omega), answer2_ev hL hS (show ls.length ≤ 20 by omega) (show sk.length ≤ 20 by omega), same_p ean (by decide), check_ev (ff := ff) (a := 7) (b := 1) (ls := (ans sk ls).2) (by decide) (by decide) hA (by omega), fault_ev (a := a) (b := b) (c := 7) (d := 1) hL hA (by omega), hfa, gNotN_non, D.bl.injEq, Bool.not_true, Bool.false_eq_true, false_implies, true_implies, true_and, two_mk, sv_next,
      flows_ev (a := a) (b := b) (c := 7) (d := 1) (ls := ls) hA (show ls.length ≤ 20 by omega)]
    refine ⟨by decide, ?_⟩
    simp only [sv_for, ev_wRange1, ev_fCons, ev_fNil, ev_fCall, ev_fBin, ev_fVar, ev_fC, List.getElem?_cons_zero, List.getElem?_cons_succ, Option.some.injEq, exists_eq_left', ix_dM2, gLen_lst, ev_some, List.length_map]
    refine ⟨_, rfl, by omega, ?_⟩
    rw [Int.toNat_natCast]
    generalize has : (ans sk ls).2 = as_ at *
    refine sv_forR (fun k ρ Mk => Mk = M3 ∧ ∃ x9 x10 x11 x12 x13, ρ = [some (.lst (ns.map .int)), some (.cell 1), some (.int (0 + (n : Int))), some (dM a b ls), some (.lst (sk.map dS)), some (.lst [dM a b ls, .lst (sk.map dS)]), some (dM 7 1 as_), some (.lst (fls true ls as_)), some (.lst (fls false ls as_)), x9, x10, x11, x12, x13, x14, x15, x16]) ⟨rfl, x9, x10, x11, x12, x13, rfl⟩ ?_ ?_
    · rintro k ρ Mk hk ⟨rfl, x9, x10, x11, x12, x13, rfl⟩
      have hkl : k < ls.length := by omega
      obtain ⟨t, et, hf⟩ := haf k _ (List.getElem?_eq_getElem hkl)
      have ht := hf.good
      have ed : (as_.map dL)[k]? = some (dL t) := by rw [List.getElem?_map, et]; rfl
      have ef1 := (fls_at (b := true) (List.getElem?_eq_getElem hkl) et).trans (by rw [fl_due hf])
      have ef2 := (fls_at (b := false) (List.getElem?_eq_getElem hkl) et).trans (by rw [fl_due hf])
      have e3 : okD 3 (.lst [due true t, due false t]) = true := by
        simp only [okD_lst, okL_cons, okL_nil, due_ok ht]; simp
      rw [Int.zero_add]
      refine ⟨_, rfl, ?_⟩
      by_cases q : t.2.1 = 0
      · have q1 : ∀ b, due b t = .non := fun b => by unfold due; rw [if_pos q]
        rw [q1, q1] at e3
        simp only [q1] at ef1 ef2
        simp only [List.set, sv_seq, sv_asgN, sv_if, sv_next, ev_fBin, ev_fVar, ev_fC, ev_fCall, ev_fCons, ev_fNil, ev_fLst, ev_fIf, ev_fNot, ev_asB, ev_fTup, List.getElem?_cons_zero, List.getElem?_cons_succ, Option.some.injEq, exists_eq_left', ix_dM2, ix_lN, ed, ix_dL1, ix_dL2, ix_dL3, parts_ev, ev_some, gEq_int, q, decide_true, D.bl.injEq, Bool.true_eq_false, false_implies, true_implies, and_true, ef1, ef2, same_p e3 (by decide), Bool.not_true, Bool.false_eq_true, true_and]
        simp
      · have q1 : due true t = .tup [f0 t, .bl (gets t.2.2.2), .bl (sends t.2.2.2)] := by unfold due; rw [if_neg q]; rfl
        have q2 : due false t = .tup [f0 t, .bl (sends t.2.2.2), .bl (gets t.2.2.2)] := by unfold due; rw [if_neg q]; rfl
        rw [q1, q2] at e3
        rw [q1] at ef1
        rw [q2] at ef2
        simp only [List.set, sv_seq, sv_asgN, sv_if, sv_next, ev_fBin, ev_fVar, ev_fC, ev_fCall, ev_fCons, ev_fNil, ev_fLst, ev_fIf, ev_fNot, ev_asB, ev_fTup, List.getElem?_cons_zero, List.getElem?_cons_succ, Option.some.injEq, exists_eq_left', ix_dM2, ix_lN, ed, ix_dL1, ix_dL2, ix_dL3, ix_f0 ht, ix_l0, ix_l1, parts_ev, ev_some, gEq_int, q, decide_false, D.bl.injEq, Bool.false_eq_true, false_implies, true_implies, and_true, ef1, ef2, same_p e3 (by decide), Bool.not_true, true_and]
        simp
    · rintro ρ Mk ⟨rfl, x9, x10, x11, x12, x13, rfl⟩
      simp only [List.getElem?_cons_zero, List.getElem?_cons_succ, Option.some.injEq, exists_eq_left', List.set]
      refine (media_ev u3.dr).mono ?_ (fun _ _ z => z)
      rintro d M4 ⟨c, d', ms, rfl, hc, hd, hM, hm4, u4⟩
      refine cond_ev (a := a) (b := b) (ls := ls) (as_ := as_) u4.dr hL hA hal (by omega) hM (by omega) ?_
      intro c d' ms M' e10 e15 e16 hms hms20 hD'
      refine fin_ev hL (by omega) eb hms ?_
      exact ⟨hD', _, _, _, _, _, _, _, _, _, _, _, _, _, _, _, rfl⟩
  · rintro ρ Mc ⟨hD, x2, x3, x4, x5, x6, x7, x8, x9, x10, x11, x12, x13, x14, x15, x16, rfl⟩
    simp
end K11

namespace DL
open PySem PySem.Spec PyProof.Rows L2
def spLaw (K : PySem.W.Frag) : Sp := fun vs H Q _ => ∃ (a : Addr) (ns : List Int), vs = [.ref a] ∧ SqL K H a (ns.map V.int) ∧ ns.length ≤ 63 ∧ ∀ H', Q (.bl true) H'
theorem repInts {K : PySem.W.Frag} {G : Hp} {μ : List Addr} : ∀ ns : List Int, RepL K G μ (ns.map V.int) (ns.map D.int)
  | [] => .nil
  | n :: ns => .cons (.int n) (repInts ns)
theorem law_of {P : Program} {w : World} {K : PySem.W.Frag} {mg : Str → Option Value} {base : Heap} {k : Nat} {f : Addr} {fd : FuncData} {ps : List Str} {φ : OpN} (F : FnOk P w K mg base (L2.CX P w) k f fd ps (spD K φ))
    (hφ : ∀ ns : List Int, ns.length ≤ 63 → Ev (φ [.lst (ns.map D.int)] []) (fun d _ => d = .bl true) Ex0) : FnOk P w K mg base (L2.CX P w) k f fd ps (spLaw K) :=
  F.imp fun vs H Q E h => by
    obtain ⟨a, ns, rfl, hS, hl, q⟩ := h
    obtain ⟨d, M', e, rfl⟩ := (hφ ns hl).eq
    refine ⟨fun _ => none, H, [], [], [.lst (ns.map D.int)], _, M', ⟨fun _ _ h => h, rfl, fun i c h => by simp at h, fun i j c d a h => by simp at h, fun a o h => by cases h⟩, .cons (.lst hS (by simp; omega) (repInts ns)) .nil, e, fun G' μ' H' _ _ => ⟨fun d hd v rv => ?_, fun x hx => nomatch hx⟩⟩
    cases hd
    cases rv
    exact q H'
theorem no_exc {P : Program} {w : World} {outer : List PySem.Env} {H : Hp} {s : Shared} {e : Value} {s' : Shared} (h : L2.CX P w outer H s (fun _ _ _ => False) e s') : False := by
  obtain ⟨_, _, _, _, _, _, _, _, _, _, _, _, z⟩ := h
  exact z.elim
/-- a module's constant, a text or a number -/
theorem glob_int {K : PySem.W.Frag} {mg : Str → Option Value} {x : Str} {i : Int} {t : Tok} (h : mg x = some (.int i t)) : GlobC K mg x (.int i) (.int i) := ⟨⟨_, h, ⟨t, rfl⟩⟩, fun _ _ => .int i⟩
theorem glob_str {K : PySem.W.Frag} {mg : Str → Option Value} {x : Str} {i : Str} {t : Tok} (h : mg x = some (.str i t)) : GlobC K mg x (.str i) (.str i) := ⟨⟨_, h, ⟨t, rfl⟩⟩, fun _ _ => .str i⟩
theorem glob_fn {K : PySem.W.Frag} {mg : Str → Option Value} {x : Str} {a : Addr} (h : mg x = some (.ref a)) : GlobC K mg x (.ref a) (.any (.ref a)) := ⟨⟨_, h, rfl⟩, fun _ _ => .any _⟩
/-- a module's constant, a tuple -/
theorem glob_tup {K : PySem.W.Frag} {mg : Str → Option Value} {x : Str} {a : Addr} {o : Obj} {its : Array Value} {n : Nat} {vs : List V} {ds : List D} (h : mg x = some (.ref a)) (hl : K.lookup a = some o) (hc : o.cls = .type "tuple") (hd : o.data = .seq its n) (hz : its.size ≤ sizeLine)
    (hv : Vals vs its.toList) (hz2 : ds.length ≤ 16777216) (hr : ∀ G μ, RepL K G μ vs ds) : ∃ v, GlobC K mg x v (.tup ds) :=
  ⟨.ref a, ⟨_, h, rfl⟩, fun G μ => .tup (.inr ⟨o, its, n, hl, hc, hd, hz, hv⟩) hz2 (hr G μ)⟩
end DL

namespace K11
open PySem PySem.Spec PyProof.Rows L2 DL
theorem globT_of {K : PySem.W.Frag} {mg : Str → Option Value} {w : World} {x : Str} {q : Addr} {tbl : List (Str × D)} (h : mg x = some (.ref q)) (hall : ∀ e ∈ tbl, ∃ v, KDct K w q e.1 v ∧ ∀ G μ, Rep K G μ v e.2) : GlobT K mg w x tbl :=
  ⟨q, h, fun z d hz => hall (z, d) (PySem.mem_of_lookup hz)⟩
theorem all_mk {l : PySem.W.OpenLaw} {w : World} {K : PySem.W.Frag} {h : Heap} {mg : Str → Option Value} {fa : Addr} (X : K.In h) (G : h.Ns mainGlobals mg) (hfa : mg "law" = some (.ref fa))
    {f0 : Addr} {od0 an0 : Option Addr} {sl0 : Array (Option Value)} {oc0 kV0 dc0 pm0 cd0 ct0 : Value}
    {f1 : Addr} {od1 an1 : Option Addr} {sl1 : Array (Option Value)} {oc1 kV1 dc1 pm1 cd1 ct1 : Value}
    {f2 : Addr} {od2 an2 : Option Addr} {sl2 : Array (Option Value)} {oc2 kV2 dc2 pm2 cd2 ct2 : Value}
    {f3 : Addr} {od3 an3 : Option Addr} {sl3 : Array (Option Value)} {oc3 kV3 dc3 pm3 cd3 ct3 : Value}
    {f4 : Addr} {od4 an4 : Option Addr} {sl4 : Array (Option Value)} {oc4 kV4 dc4 pm4 cd4 ct4 : Value}
    {f5 : Addr} {od5 an5 : Option Addr} {sl5 : Array (Option Value)} {oc5 kV5 dc5 pm5 cd5 ct5 : Value}
    {f6 : Addr} {od6 an6 : Option Addr} {sl6 : Array (Option Value)} {oc6 kV6 dc6 pm6 cd6 ct6 : Value}
    {f7 : Addr} {od7 an7 : Option Addr} {sl7 : Array (Option Value)} {oc7 kV7 dc7 pm7 cd7 ct7 : Value}
    {f8 : Addr} {od8 an8 : Option Addr} {sl8 : Array (Option Value)} {oc8 kV8 dc8 pm8 cd8 ct8 : Value}
    {f9 : Addr} {od9 an9 : Option Addr} {sl9 : Array (Option Value)} {oc9 kV9 dc9 pm9 cd9 ct9 : Value}
    {f10 : Addr} {od10 an10 : Option Addr} {sl10 : Array (Option Value)} {oc10 kV10 dc10 pm10 cd10 ct10 : Value}
    {f11 : Addr} {od11 an11 : Option Addr} {sl11 : Array (Option Value)} {oc11 kV11 dc11 pm11 cd11 ct11 : Value}
    {f12 : Addr} {od12 an12 : Option Addr} {sl12 : Array (Option Value)} {oc12 kV12 dc12 pm12 cd12 ct12 : Value}
    {f13 : Addr} {od13 an13 : Option Addr} {sl13 : Array (Option Value)} {oc13 kV13 dc13 pm13 cd13 ct13 : Value}
    {f14 : Addr} {od14 an14 : Option Addr} {sl14 : Array (Option Value)} {oc14 kV14 dc14 pm14 cd14 ct14 : Value}
    {f15 : Addr} {od15 an15 : Option Addr} {sl15 : Array (Option Value)} {oc15 kV15 dc15 pm15 cd15 ct15 : Value}
    {f16 : Addr} {od16 an16 : Option Addr} {sl16 : Array (Option Value)} {oc16 kV16 dc16 pm16 cd16 ct16 : Value}
    {f17 : Addr} {od17 an17 : Option Addr} {sl17 : Array (Option Value)} {oc17 kV17 dc17 pm17 cd17 ct17 : Value}
    {f18 : Addr} {od18 an18 : Option Addr} {sl18 : Array (Option Value)} {oc18 kV18 dc18 pm18 cd18 ct18 : Value}
    {f19 : Addr} {od19 an19 : Option Addr} {sl19 : Array (Option Value)} {oc19 kV19 dc19 pm19 cd19 ct19 : Value}
    {f20 : Addr} {od20 an20 : Option Addr} {sl20 : Array (Option Value)} {oc20 kV20 dc20 pm20 cd20 ct20 : Value}
    {f21 : Addr} {od21 an21 : Option Addr} {sl21 : Array (Option Value)} {oc21 kV21 dc21 pm21 cd21 ct21 : Value}
    {f22 : Addr} {od22 an22 : Option Addr} {sl22 : Array (Option Value)} {oc22 kV22 dc22 pm22 cd22 ct22 : Value}
    {f23 : Addr} {od23 an23 : Option Addr} {sl23 : Array (Option Value)} {oc23 kV23 dc23 pm23 cd23 ct23 : Value}
    {t_MOST_ : Tok}
    {t_SIGNS_ : Tok}
    {p_WAYS : Addr} {d_WAYS_ : Option Addr} {n_WAYS : Nat} {s_WAYS_ : Array (Option Value)} {t_WAYS_0 t_WAYS_1 t_WAYS_2 t_WAYS_3 : Tok}
    {p_TURNED : Addr} {es_TURNED : Array DictEntry} {n_TURNED : Nat} {t_TURNED_0 t_TURNED_1 t_TURNED_2 t_TURNED_3 : Tok}
    (a0 : PySem.W.nsIn K mainGlobals "is_number" = some (some (.ref f0)))
    (l0 : K.lookup f0 = some ⟨oc0, od0, .func (PySem.W.fnOf "is_number" "is_number" (defArgs s_is_number) (defBody s_is_number) (defScope s_is_number) .none kV0 dc0 pm0 an0 cd0 ct0), sl0⟩)
    (c0 : PySem.W.codeIn K cd0 "is_number" = true)
    (k0 : PySem.W.keepIn K (.ref f0) = true)
    (a1 : PySem.W.nsIn K mainGlobals "is_name" = some (some (.ref f1)))
    (l1 : K.lookup f1 = some ⟨oc1, od1, .func (PySem.W.fnOf "is_name" "is_name" (defArgs s_is_name) (defBody s_is_name) (defScope s_is_name) .none kV1 dc1 pm1 an1 cd1 ct1), sl1⟩)
    (c1 : PySem.W.codeIn K cd1 "is_name" = true)
    (k1 : PySem.W.keepIn K (.ref f1) = true)
    (a2 : PySem.W.nsIn K mainGlobals "is_form" = some (some (.ref f2)))
    (l2 : K.lookup f2 = some ⟨oc2, od2, .func (PySem.W.fnOf "is_form" "is_form" (defArgs s_is_form) (defBody s_is_form) (defScope s_is_form) .none kV2 dc2 pm2 an2 cd2 ct2), sl2⟩)
    (c2 : PySem.W.codeIn K cd2 "is_form" = true)
    (k2 : PySem.W.keepIn K (.ref f2) = true)
    (a3 : PySem.W.nsIn K mainGlobals "is_list" = some (some (.ref f3)))
    (l3 : K.lookup f3 = some ⟨oc3, od3, .func (PySem.W.fnOf "is_list" "is_list" (defArgs s_is_list) (defBody s_is_list) (defScope s_is_list) .none kV3 dc3 pm3 an3 cd3 ct3), sl3⟩)
    (c3 : PySem.W.codeIn K cd3 "is_list" = true)
    (k3 : PySem.W.keepIn K (.ref f3) = true)
    (a4 : PySem.W.nsIn K mainGlobals "is_line" = some (some (.ref f4)))
    (l4 : K.lookup f4 = some ⟨oc4, od4, .func (PySem.W.fnOf "is_line" "is_line" (defArgs s_is_line) (defBody s_is_line) (defScope s_is_line) .none kV4 dc4 pm4 an4 cd4 ct4), sl4⟩)
    (c4 : PySem.W.codeIn K cd4 "is_line" = true)
    (k4 : PySem.W.keepIn K (.ref f4) = true)
    (a5 : PySem.W.nsIn K mainGlobals "check_media" = some (some (.ref f5)))
    (l5 : K.lookup f5 = some ⟨oc5, od5, .func (PySem.W.fnOf "check_media" "check_media" (defArgs s_check_media) (defBody s_check_media) (defScope s_check_media) .none kV5 dc5 pm5 an5 cd5 ct5), sl5⟩)
    (c5 : PySem.W.codeIn K cd5 "check_media" = true)
    (k5 : PySem.W.keepIn K (.ref f5) = true)
    (a6 : PySem.W.nsIn K mainGlobals "answered_way" = some (some (.ref f6)))
    (l6 : K.lookup f6 = some ⟨oc6, od6, .func (PySem.W.fnOf "answered_way" "answered_way" (defArgs s_answered_way) (defBody s_answered_way) (defScope s_answered_way) .none kV6 dc6 pm6 an6 cd6 ct6), sl6⟩)
    (c6 : PySem.W.codeIn K cd6 "answered_way" = true)
    (k6 : PySem.W.keepIn K (.ref f6) = true)
    (a7 : PySem.W.nsIn K mainGlobals "common" = some (some (.ref f7)))
    (l7 : K.lookup f7 = some ⟨oc7, od7, .func (PySem.W.fnOf "common" "common" (defArgs s_common) (defBody s_common) (defScope s_common) .none kV7 dc7 pm7 an7 cd7 ct7), sl7⟩)
    (c7 : PySem.W.codeIn K cd7 "common" = true)
    (k7 : PySem.W.keepIn K (.ref f7) = true)
    (a8 : PySem.W.nsIn K mainGlobals "answer_to" = some (some (.ref f8)))
    (l8 : K.lookup f8 = some ⟨oc8, od8, .func (PySem.W.fnOf "answer_to" "answer_to" (defArgs s_answer_to) (defBody s_answer_to) (defScope s_answer_to) .none kV8 dc8 pm8 an8 cd8 ct8), sl8⟩)
    (c8 : PySem.W.codeIn K cd8 "answer_to" = true)
    (k8 : PySem.W.keepIn K (.ref f8) = true)
    (a9 : PySem.W.nsIn K mainGlobals "line_fits" = some (some (.ref f9)))
    (l9 : K.lookup f9 = some ⟨oc9, od9, .func (PySem.W.fnOf "line_fits" "line_fits" (defArgs s_line_fits) (defBody s_line_fits) (defScope s_line_fits) .none kV9 dc9 pm9 an9 cd9 ct9), sl9⟩)
    (c9 : PySem.W.codeIn K cd9 "line_fits" = true)
    (k9 : PySem.W.keepIn K (.ref f9) = true)
    (a10 : PySem.W.nsIn K mainGlobals "fault_of" = some (some (.ref f10)))
    (l10 : K.lookup f10 = some ⟨oc10, od10, .func (PySem.W.fnOf "fault_of" "fault_of" (defArgs s_fault_of) (defBody s_fault_of) (defScope s_fault_of) .none kV10 dc10 pm10 an10 cd10 ct10), sl10⟩)
    (c10 : PySem.W.codeIn K cd10 "fault_of" = true)
    (k10 : PySem.W.keepIn K (.ref f10) = true)
    (a11 : PySem.W.nsIn K mainGlobals "flows" = some (some (.ref f11)))
    (l11 : K.lookup f11 = some ⟨oc11, od11, .func (PySem.W.fnOf "flows" "flows" (defArgs s_flows) (defBody s_flows) (defScope s_flows) .none kV11 dc11 pm11 an11 cd11 ct11), sl11⟩)
    (c11 : PySem.W.codeIn K cd11 "flows" = true)
    (k11 : PySem.W.keepIn K (.ref f11) = true)
    (a12 : PySem.W.nsIn K mainGlobals "_law_draws" = some (some (.ref f12)))
    (l12 : K.lookup f12 = some ⟨oc12, od12, .func (PySem.W.fnOf "_law_draws" "_law_draws" (defArgs s__law_draws) (defBody s__law_draws) (defScope s__law_draws) .none kV12 dc12 pm12 an12 cd12 ct12), sl12⟩)
    (c12 : PySem.W.codeIn K cd12 "_law_draws" = true)
    (k12 : PySem.W.keepIn K (.ref f12) = true)
    (a13 : PySem.W.nsIn K mainGlobals "_law_next" = some (some (.ref f13)))
    (l13 : K.lookup f13 = some ⟨oc13, od13, .func (PySem.W.fnOf "_law_next" "_law_next" (defArgs s__law_next) (defBody s__law_next) (defScope s__law_next) .none kV13 dc13 pm13 an13 cd13 ct13), sl13⟩)
    (c13 : PySem.W.codeIn K cd13 "_law_next" = true)
    (k13 : PySem.W.keepIn K (.ref f13) = true)
    (a14 : PySem.W.nsIn K mainGlobals "_law_pick" = some (some (.ref f14)))
    (l14 : K.lookup f14 = some ⟨oc14, od14, .func (PySem.W.fnOf "_law_pick" "_law_pick" (defArgs s__law_pick) (defBody s__law_pick) (defScope s__law_pick) .none kV14 dc14 pm14 an14 cd14 ct14), sl14⟩)
    (c14 : PySem.W.codeIn K cd14 "_law_pick" = true)
    (k14 : PySem.W.keepIn K (.ref f14) = true)
    (a15 : PySem.W.nsIn K mainGlobals "_law_same" = some (some (.ref f15)))
    (l15 : K.lookup f15 = some ⟨oc15, od15, .func (PySem.W.fnOf "_law_same" "_law_same" (defArgs s__law_same) (defBody s__law_same) (defScope s__law_same) .none kV15 dc15 pm15 an15 cd15 ct15), sl15⟩)
    (c15 : PySem.W.codeIn K cd15 "_law_same" = true)
    (k15 : PySem.W.keepIn K (.ref f15) = true)
    (a16 : PySem.W.nsIn K mainGlobals "_law_copy" = some (some (.ref f16)))
    (l16 : K.lookup f16 = some ⟨oc16, od16, .func (PySem.W.fnOf "_law_copy" "_law_copy" (defArgs s__law_copy) (defBody s__law_copy) (defScope s__law_copy) .none kV16 dc16 pm16 an16 cd16 ct16), sl16⟩)
    (c16 : PySem.W.codeIn K cd16 "_law_copy" = true)
    (k16 : PySem.W.keepIn K (.ref f16) = true)
    (a17 : PySem.W.nsIn K mainGlobals "_law_media" = some (some (.ref f17)))
    (l17 : K.lookup f17 = some ⟨oc17, od17, .func (PySem.W.fnOf "_law_media" "_law_media" (defArgs s__law_media) (defBody s__law_media) (defScope s__law_media) .none kV17 dc17 pm17 an17 cd17 ct17), sl17⟩)
    (c17 : PySem.W.codeIn K cd17 "_law_media" = true)
    (k17 : PySem.W.keepIn K (.ref f17) = true)
    (a18 : PySem.W.nsIn K mainGlobals "_law_skills" = some (some (.ref f18)))
    (l18 : K.lookup f18 = some ⟨oc18, od18, .func (PySem.W.fnOf "_law_skills" "_law_skills" (defArgs s__law_skills) (defBody s__law_skills) (defScope s__law_skills) .none kV18 dc18 pm18 an18 cd18 ct18), sl18⟩)
    (c18 : PySem.W.codeIn K cd18 "_law_skills" = true)
    (k18 : PySem.W.keepIn K (.ref f18) = true)
    (a19 : PySem.W.nsIn K mainGlobals "_law_parts" = some (some (.ref f19)))
    (l19 : K.lookup f19 = some ⟨oc19, od19, .func (PySem.W.fnOf "_law_parts" "_law_parts" (defArgs s__law_parts) (defBody s__law_parts) (defScope s__law_parts) .none kV19 dc19 pm19 an19 cd19 ct19), sl19⟩)
    (c19 : PySem.W.codeIn K cd19 "_law_parts" = true)
    (k19 : PySem.W.keepIn K (.ref f19) = true)
    (a20 : PySem.W.nsIn K mainGlobals "_law_way" = some (some (.ref f20)))
    (l20 : K.lookup f20 = some ⟨oc20, od20, .func (PySem.W.fnOf "_law_way" "_law_way" (defArgs s__law_way) (defBody s__law_way) (defScope s__law_way) .none kV20 dc20 pm20 an20 cd20 ct20), sl20⟩)
    (c20 : PySem.W.codeIn K cd20 "_law_way" = true)
    (k20 : PySem.W.keepIn K (.ref f20) = true)
    (a21 : PySem.W.nsIn K mainGlobals "_law_answer" = some (some (.ref f21)))
    (l21 : K.lookup f21 = some ⟨oc21, od21, .func (PySem.W.fnOf "_law_answer" "_law_answer" (defArgs s__law_answer) (defBody s__law_answer) (defScope s__law_answer) .none kV21 dc21 pm21 an21 cd21 ct21), sl21⟩)
    (c21 : PySem.W.codeIn K cd21 "_law_answer" = true)
    (k21 : PySem.W.keepIn K (.ref f21) = true)
    (a22 : PySem.W.nsIn K mainGlobals "_law_fault" = some (some (.ref f22)))
    (l22 : K.lookup f22 = some ⟨oc22, od22, .func (PySem.W.fnOf "_law_fault" "_law_fault" (defArgs s__law_fault) (defBody s__law_fault) (defScope s__law_fault) .none kV22 dc22 pm22 an22 cd22 ct22), sl22⟩)
    (c22 : PySem.W.codeIn K cd22 "_law_fault" = true)
    (k22 : PySem.W.keepIn K (.ref f22) = true)
    (a23 : PySem.W.nsIn K mainGlobals "law" = some (some (.ref f23)))
    (l23 : K.lookup f23 = some ⟨oc23, od23, .func (PySem.W.fnOf "law" "law" (defArgs s_law) (defBody s_law) (defScope s_law) .none kV23 dc23 pm23 an23 cd23 ct23), sl23⟩)
    (c23 : PySem.W.codeIn K cd23 "law" = true)
    (k23 : PySem.W.keepIn K (.ref f23) = true)
    (z_abs : PySem.W.nsIn K mainGlobals "abs" = some none)
    (z_all : PySem.W.nsIn K mainGlobals "all" = some none)
    (z_bool : PySem.W.nsIn K mainGlobals "bool" = some none)
    (z_dict : PySem.W.nsIn K mainGlobals "dict" = some none)
    (z_int : PySem.W.nsIn K mainGlobals "int" = some none)
    (z_isinstance : PySem.W.nsIn K mainGlobals "isinstance" = some none)
    (z_len : PySem.W.nsIn K mainGlobals "len" = some none)
    (z_list : PySem.W.nsIn K mainGlobals "list" = some none)
    (z_range : PySem.W.nsIn K mainGlobals "range" = some none)
    (z_str : PySem.W.nsIn K mainGlobals "str" = some none)
    (z_tuple : PySem.W.nsIn K mainGlobals "tuple" = some none)
    (z_zip : PySem.W.nsIn K mainGlobals "zip" = some none)
    (g_MOST : PySem.W.nsIn K mainGlobals "MOST" = some (some (.int 40 t_MOST_)))
    (g_SIGNS : PySem.W.nsIn K mainGlobals "SIGNS" = some (some (.str "abcdefghijklmnopqrstuvwxyz0123456789" t_SIGNS_)))
    (g_WAYS : PySem.W.nsIn K mainGlobals "WAYS" = some (some (.ref p_WAYS)))
    (w_WAYS : K.lookup p_WAYS = some ⟨.type "tuple", d_WAYS_, .seq #[.str "both" t_WAYS_0, .str "get" t_WAYS_1, .str "none" t_WAYS_2, .str "send" t_WAYS_3] n_WAYS, s_WAYS_⟩)
    (g_TURNED : PySem.W.nsIn K mainGlobals "TURNED" = some (some (.ref p_TURNED)))
    (w_TURNED : K.lookup p_TURNED = some ⟨.type "dict", none, .dict es_TURNED n_TURNED, #[]⟩)
    (y_TURNED : PySem.W.KeysLit w.params es_TURNED.toList)
    (e_TURNED_0 : PySem.W.nsIn K p_TURNED "both" = some (some (.str "both" t_TURNED_0)))
    (e_TURNED_1 : PySem.W.nsIn K p_TURNED "get" = some (some (.str "send" t_TURNED_1)))
    (e_TURNED_2 : PySem.W.nsIn K p_TURNED "none" = some (some (.str "none" t_TURNED_2)))
    (e_TURNED_3 : PySem.W.nsIn K p_TURNED "send" = some (some (.str "get" t_TURNED_3))) :
    ∃ fd : FuncData, (∀ (s : Shared) (v : Value), BindsTo s fd ⟨[v], []⟩ [("script", v)]) ∧ ∀ base : Heap, K.In base → base.Ns mainGlobals mg → FnOk l.prog w K mg base (L2.CX l.prog w) 10 fa fd ["script"] (spLaw K) := by
  have e := hfa.symm.trans (PySem.W.mg_of X G a23)
  cases e
  have T : Txt w K mg f2 := {
    n_abs := PySem.W.mg_none_of X G z_abs
    n_all := PySem.W.mg_none_of X G z_all
    n_bool := PySem.W.mg_none_of X G z_bool
    n_dict := PySem.W.mg_none_of X G z_dict
    n_int := PySem.W.mg_none_of X G z_int
    n_isinstance := PySem.W.mg_none_of X G z_isinstance
    n_len := PySem.W.mg_none_of X G z_len
    n_list := PySem.W.mg_none_of X G z_list
    n_range := PySem.W.mg_none_of X G z_range
    n_str := PySem.W.mg_none_of X G z_str
    n_tuple := PySem.W.mg_none_of X G z_tuple
    n_zip := PySem.W.mg_none_of X G z_zip
    c_MOST := glob_int (PySem.W.mg_of X G g_MOST)
    c_SIGNS := glob_str (PySem.W.mg_of X G g_SIGNS)
    c_WAYS := glob_tup (vs := [.str "both", .str "get", .str "none", .str "send"]) (PySem.W.mg_of X G g_WAYS) w_WAYS rfl rfl (by show 4 ≤ sizeLine; decide) (.cons ⟨_, rfl⟩ (.cons ⟨_, rfl⟩ (.cons ⟨_, rfl⟩ (.cons ⟨_, rfl⟩ (.nil))))) (by decide) fun _ _ => .cons (.str _) (.cons (.str _) (.cons (.str _) (.cons (.str _) (.nil))))
    t_TURNED := globT_of (PySem.W.mg_of X G g_TURNED) (by
      intro e he
      simp only [t_TURNED, List.mem_cons, List.not_mem_nil, or_false] at he
      rcases he with rfl | rfl | rfl | rfl
      · exact ⟨.str "both", ⟨_, _, _, w_TURNED, y_TURNED, e_TURNED_0, ⟨_, rfl⟩⟩, fun _ _ => .str _⟩
      · exact ⟨.str "send", ⟨_, _, _, w_TURNED, y_TURNED, e_TURNED_1, ⟨_, rfl⟩⟩, fun _ _ => .str _⟩
      · exact ⟨.str "none", ⟨_, _, _, w_TURNED, y_TURNED, e_TURNED_2, ⟨_, rfl⟩⟩, fun _ _ => .str _⟩
      · exact ⟨.str "get", ⟨_, _, _, w_TURNED, y_TURNED, e_TURNED_3, ⟨_, rfl⟩⟩, fun _ _ => .str _⟩)
    v_is_form := glob_fn (PySem.W.mg_of X G a2)
    f_is_number := ⟨_, _, fun_mk (st := s_is_number) l0 c0 k0, PySem.W.mg_of X G a0⟩
    f_is_name := ⟨_, _, fun_mk (st := s_is_name) l1 c1 k1, PySem.W.mg_of X G a1⟩
    f_is_form := ⟨_, _, fun_mk (st := s_is_form) l2 c2 k2, PySem.W.mg_of X G a2⟩
    f_is_list := ⟨_, _, fun_mk (st := s_is_list) l3 c3 k3, PySem.W.mg_of X G a3⟩
    f_is_line := ⟨_, _, fun_mk (st := s_is_line) l4 c4 k4, PySem.W.mg_of X G a4⟩
    f_check_media := ⟨_, _, fun_mk (st := s_check_media) l5 c5 k5, PySem.W.mg_of X G a5⟩
    f_answered_way := ⟨_, _, fun_mk (st := s_answered_way) l6 c6 k6, PySem.W.mg_of X G a6⟩
    f_common := ⟨_, _, fun_mk (st := s_common) l7 c7 k7, PySem.W.mg_of X G a7⟩
    f_answer_to := ⟨_, _, fun_mk (st := s_answer_to) l8 c8 k8, PySem.W.mg_of X G a8⟩
    f_line_fits := ⟨_, _, fun_mk (st := s_line_fits) l9 c9 k9, PySem.W.mg_of X G a9⟩
    f_fault_of := ⟨_, _, fun_mk (st := s_fault_of) l10 c10 k10, PySem.W.mg_of X G a10⟩
    f_flows := ⟨_, _, fun_mk (st := s_flows) l11 c11 k11, PySem.W.mg_of X G a11⟩
    f__law_draws := ⟨_, _, fun_mk (st := s__law_draws) l12 c12 k12, PySem.W.mg_of X G a12⟩
    f__law_next := ⟨_, _, fun_mk (st := s__law_next) l13 c13 k13, PySem.W.mg_of X G a13⟩
    f__law_pick := ⟨_, _, fun_mk (st := s__law_pick) l14 c14 k14, PySem.W.mg_of X G a14⟩
    f__law_same := ⟨_, _, fun_mk (st := s__law_same) l15 c15 k15, PySem.W.mg_of X G a15⟩
    f__law_copy := ⟨_, _, fun_mk (st := s__law_copy) l16 c16 k16, PySem.W.mg_of X G a16⟩
    f__law_media := ⟨_, _, fun_mk (st := s__law_media) l17 c17 k17, PySem.W.mg_of X G a17⟩
    f__law_skills := ⟨_, _, fun_mk (st := s__law_skills) l18 c18 k18, PySem.W.mg_of X G a18⟩
    f__law_parts := ⟨_, _, fun_mk (st := s__law_parts) l19 c19 k19, PySem.W.mg_of X G a19⟩
    f__law_way := ⟨_, _, fun_mk (st := s__law_way) l20 c20 k20, PySem.W.mg_of X G a20⟩
    f__law_answer := ⟨_, _, fun_mk (st := s__law_answer) l21 c21 k21, PySem.W.mg_of X G a21⟩
    f__law_fault := ⟨_, _, fun_mk (st := s__law_fault) l22 c22 k22, PySem.W.mg_of X G a22⟩
    f_law := ⟨_, _, fun_mk (st := s_law) l23 c23 k23, PySem.W.mg_of X G a23⟩
  }
  refine ⟨PySem.W.fnOf "law" "law" (defArgs s_law) (defBody s_law) (defScope s_law) .none kV23 dc23 pm23 an23 cd23 ct23, fun s v => .of_eq rfl, fun base _ _ => law_of (φ := (φ_law f2)) ?_ fun ns hn => law_ev hn⟩
  have C_is_number : Cal l.prog w K mg base 1 "is_number" φ_is_number := cal_is_number T
  have C_is_name : Cal l.prog w K mg base 1 "is_name" φ_is_name := cal_is_name T
  have C_is_form : Cal l.prog w K mg base 2 "is_form" φ_is_form := cal_is_form T C_is_name C_is_number
  have C_is_list : Cal l.prog w K mg base 3 "is_list" (φ_is_list f2) := cal_is_list T C_is_form
  have C_is_line : Cal l.prog w K mg base 4 "is_line" (φ_is_line f2) := cal_is_line T C_is_list C_is_name C_is_number
  have C_check_media : Cal l.prog w K mg base 5 "check_media" (φ_check_media f2) := cal_check_media T C_is_line C_is_number
  have C_answered_way : Cal l.prog w K mg base 1 "answered_way" φ_answered_way := cal_answered_way T
  have C_common : Cal l.prog w K mg base 1 "common" φ_common := cal_common T
  have C_answer_to : Cal l.prog w K mg base 2 "answer_to" φ_answer_to := cal_answer_to T C_answered_way C_common
  have C_line_fits : Cal l.prog w K mg base 1 "line_fits" φ_line_fits := cal_line_fits T
  have C_fault_of : Cal l.prog w K mg base 2 "fault_of" φ_fault_of := cal_fault_of T C_line_fits
  have C_flows : Cal l.prog w K mg base 1 "flows" φ_flows := cal_flows T
  have C__law_draws : Cal l.prog w K mg base 1 "_law_draws" φ__law_draws := cal__law_draws T
  have C__law_next : Cal l.prog w K mg base 1 "_law_next" φ__law_next := cal__law_next T
  have C__law_pick : Cal l.prog w K mg base 2 "_law_pick" φ__law_pick := cal__law_pick T C__law_next
  have C__law_same : Cal l.prog w K mg base 9 "_law_same" (φ__law_same 8) := (cal__law_same T 8).mono (by decide)
  have C__law_copy : Cal l.prog w K mg base 9 "_law_copy" (φ__law_copy 8) := (cal__law_copy T 8).mono (by decide)
  have C__law_media : Cal l.prog w K mg base 3 "_law_media" φ__law_media := cal__law_media T C__law_next C__law_pick
  have C__law_skills : Cal l.prog w K mg base 3 "_law_skills" φ__law_skills := cal__law_skills T C__law_next C__law_pick
  have C__law_parts : Cal l.prog w K mg base 1 "_law_parts" φ__law_parts := cal__law_parts T
  have C__law_way : Cal l.prog w K mg base 1 "_law_way" φ__law_way := cal__law_way T
  have C__law_answer : Cal l.prog w K mg base 2 "_law_answer" φ__law_answer := cal__law_answer T C__law_parts C__law_way
  have C__law_fault : Cal l.prog w K mg base 2 "_law_fault" φ__law_fault := cal__law_fault T C__law_parts
  exact fn_ok (fun_mk (st := s_law) l23 c23 k23) sc_law fun cdv A outer s H E hr => body_law T C__law_answer C__law_copy C__law_draws C__law_fault C__law_media C__law_next C__law_parts C__law_pick C__law_same C__law_skills C_answer_to C_check_media C_fault_of C_flows fa cdv A outer s H E hr
theorem walk {l : PySem.W.OpenLaw} {q : Program} {loose : List Str} {XP : (Str → Option Value) → Heap → Prop} {YP : World → Heap → Prop} {d : DefRec} {K : Params → PySem.W.Frag} (hn : l.most = some 63) (hdf : d.params.defaults = [])
    (hY : ∀ (w : World) (h : Heap), YP w h → (K w.params).In h)
    (F : ∀ (w : World) (mg : Str → Option Value) (fa : Addr) (h : Heap), (K w.params).In h → h.Ns mainGlobals mg → mg d.name = some (.ref fa) →
      ∃ fd : FuncData, (∀ (s : Shared) (u : Value), BindsTo s fd ⟨[u], []⟩ [("script", u)]) ∧ ∀ base : Heap, (K w.params).In base → base.Ns mainGlobals mg → FnOk l.prog w (K w.params) mg base (L2.CX l.prog w) 10 fa fd ["script"] (spLaw (K w.params))) :
    PySem.W.WalkO q loose XP YP l.row.toRowW d [] (fun f vs => PySem.call f vs) :=
  L2.walk_of (n := 63) (k := 10) (x := "script") (CX := fun w => L2.CX l.prog w) (sp := fun w => spLaw (K w.params)) hn (by decide) hdf ⟨rfl, by decide, by decide⟩ hY F (fun _ _ a ns hl _ hS => ⟨a, ns, rfl, hS, hl, fun _ => rfl⟩) fun _ _ _ _ _ z => no_exc z
end K11

open PySem PySem.W PyProof.Rows in
theorem PySem.Challenge.cw_callwright_k11_whole_answers_to_offers_holds : PySem.Challenge.rw_callwright_k11_whole_answers_to_offers.Holds := by
  w_on; o_law; k_head; (case hw => w_witness2)
  k_fill
  refine K11.walk (l := PySem.Challenge.rw_callwright_k11_whole_answers_to_offers) rfl rfl (fun w h Y => PySem.W.kIn_of Y) ?F
  case F =>
    intro w mg fa h KX G hmg
    refine' K11.all_mk KX G hmg ?a0 ?l0 ?c0 ?k0 ?a1 ?l1 ?c1 ?k1 ?a2 ?l2 ?c2 ?k2 ?a3 ?l3 ?c3 ?k3 ?a4 ?l4 ?c4 ?k4 ?a5 ?l5 ?c5 ?k5 ?a6 ?l6 ?c6 ?k6 ?a7 ?l7 ?c7 ?k7 ?a8 ?l8 ?c8 ?k8 ?a9 ?l9 ?c9 ?k9 ?a10 ?l10 ?c10 ?k10 ?a11 ?l11 ?c11 ?k11 ?a12 ?l12 ?c12 ?k12 ?a13 ?l13 ?c13 ?k13 ?a14 ?l14 ?c14 ?k14 ?a15 ?l15 ?c15 ?k15 ?a16 ?l16 ?c16 ?k16 ?a17 ?l17 ?c17 ?k17 ?a18 ?l18 ?c18 ?k18 ?a19 ?l19 ?c19 ?k19 ?a20 ?l20 ?c20 ?k20 ?a21 ?l21 ?c21 ?k21 ?a22 ?l22 ?c22 ?k22 ?a23 ?l23 ?c23 ?k23 ?z_abs ?z_all ?z_bool ?z_dict ?z_int ?z_isinstance ?z_len ?z_list ?z_range ?z_str ?z_tuple ?z_zip ?g_MOST ?g_SIGNS ?g_WAYS ?w_WAYS ?g_TURNED ?w_TURNED ?y_TURNED ?e_TURNED_0 ?e_TURNED_1 ?e_TURNED_2 ?e_TURNED_3
    (case a0 => k_is)
    (case l0 => k_is)
    (case c0 => k_is)
    (case k0 => k_is)
    (case a1 => k_is)
    (case l1 => k_is)
    (case c1 => k_is)
    (case k1 => k_is)
    (case a2 => k_is)
    (case l2 => k_is)
    (case c2 => k_is)
    (case k2 => k_is)
    (case a3 => k_is)
    (case l3 => k_is)
    (case c3 => k_is)
    (case k3 => k_is)
    (case a4 => k_is)
    (case l4 => k_is)
    (case c4 => k_is)
    (case k4 => k_is)
    (case a5 => k_is)
    (case l5 => k_is)
    (case c5 => k_is)
    (case k5 => k_is)
    (case a6 => k_is)
    (case l6 => k_is)
    (case c6 => k_is)
    (case k6 => k_is)
    (case a7 => k_is)
    (case l7 => k_is)
    (case c7 => k_is)
    (case k7 => k_is)
    (case a8 => k_is)
    (case l8 => k_is)
    (case c8 => k_is)
    (case k8 => k_is)
    (case a9 => k_is)
    (case l9 => k_is)
    (case c9 => k_is)
    (case k9 => k_is)
    (case a10 => k_is)
    (case l10 => k_is)
    (case c10 => k_is)
    (case k10 => k_is)
    (case a11 => k_is)
    (case l11 => k_is)
    (case c11 => k_is)
    (case k11 => k_is)
    (case a12 => k_is)
    (case l12 => k_is)
    (case c12 => k_is)
    (case k12 => k_is)
    (case a13 => k_is)
    (case l13 => k_is)
    (case c13 => k_is)
    (case k13 => k_is)
    (case a14 => k_is)
    (case l14 => k_is)
    (case c14 => k_is)
    (case k14 => k_is)
    (case a15 => k_is)
    (case l15 => k_is)
    (case c15 => k_is)
    (case k15 => k_is)
    (case a16 => k_is)
    (case l16 => k_is)
    (case c16 => k_is)
    (case k16 => k_is)
    (case a17 => k_is)
    (case l17 => k_is)
    (case c17 => k_is)
    (case k17 => k_is)
    (case a18 => k_is)
    (case l18 => k_is)
    (case c18 => k_is)
    (case k18 => k_is)
    (case a19 => k_is)
    (case l19 => k_is)
    (case c19 => k_is)
    (case k19 => k_is)
    (case a20 => k_is)
    (case l20 => k_is)
    (case c20 => k_is)
    (case k20 => k_is)
    (case a21 => k_is)
    (case l21 => k_is)
    (case c21 => k_is)
    (case k21 => k_is)
    (case a22 => k_is)
    (case l22 => k_is)
    (case c22 => k_is)
    (case k22 => k_is)
    (case a23 => k_is)
    (case l23 => k_is)
    (case c23 => k_is)
    (case k23 => k_is)
    (case z_abs => k_is)
    (case z_all => k_is)
    (case z_bool => k_is)
    (case z_dict => k_is)
    (case z_int => k_is)
    (case z_isinstance => k_is)
    (case z_len => k_is)
    (case z_list => k_is)
    (case z_range => k_is)
    (case z_str => k_is)
    (case z_tuple => k_is)
    (case z_zip => k_is)
    (case g_MOST => k_is)
    (case g_SIGNS => k_is)
    (case g_WAYS => k_is)
    (case w_WAYS => k_is)
    (case g_TURNED => k_is)
    (case w_TURNED => k_is)
    (case y_TURNED => k_keys)
    (case e_TURNED_0 => k_is)
    (case e_TURNED_1 => k_is)
    (case e_TURNED_2 => k_is)
    (case e_TURNED_3 => k_is)
#print axioms PySem.Challenge.cw_callwright_k11_whole_answers_to_offers_holds

